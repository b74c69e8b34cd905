import PyProof.Rows.All
import Wide.All
import OpenK.AllK
import Wide.FinOn
import Lean
import PySem.Challenge.RW_sj0117_01
open PySem PySem.W PySem.Calls PyProof.Rows
set_option Elab.async false
set_option compiler.extract_closed false
set_option maxRecDepth 100000
namespace Mine
/- printed by gen_pw.py -/
theorem tx0 : Str.ofString "_law_refused" = ⟨#[95, 108, 97, 119, 95, 114, 101, 102, 117, 115, 101, 100]⟩ := by kernel_rfl
theorem tx1 : Str.ofString "rules" = ⟨#[114, 117, 108, 101, 115]⟩ := by kernel_rfl
theorem tx2 : Str.ofString "frame" = ⟨#[102, 114, 97, 109, 101]⟩ := by kernel_rfl
theorem tx3 : Str.ofString "take" = ⟨#[116, 97, 107, 101]⟩ := by kernel_rfl
theorem tx4 : Str.ofString "H3Error" = ⟨#[72, 51, 69, 114, 114, 111, 114]⟩ := by kernel_rfl
theorem tx5 : Str.ofString "wrong" = ⟨#[119, 114, 111, 110, 103]⟩ := by kernel_rfl
theorem tx6 : Str.ofString "code" = ⟨#[99, 111, 100, 101]⟩ := by kernel_rfl
theorem tx7 : Str.ofString "_law_counted" = ⟨#[95, 108, 97, 119, 95, 99, 111, 117, 110, 116, 101, 100]⟩ := by kernel_rfl
theorem tx8 : Str.ofString "peer" = ⟨#[112, 101, 101, 114]⟩ := by kernel_rfl
theorem tx9 : Str.ofString "came" = ⟨#[99, 97, 109, 101]⟩ := by kernel_rfl
theorem tx10 : Str.ofString "kind" = ⟨#[107, 105, 110, 100]⟩ := by kernel_rfl
theorem tx11 : Str.ofString "some" = ⟨#[115, 111, 109, 101]⟩ := by kernel_rfl
theorem tx12 : Str.ofString ".0" = ⟨#[46, 48]⟩ := by kernel_rfl
theorem tx13 : Str.ofString "goaway" = ⟨#[103, 111, 97, 119, 97, 121]⟩ := by kernel_rfl
theorem tx14 : Str.ofString "number" = ⟨#[110, 117, 109, 98, 101, 114]⟩ := by kernel_rfl
theorem tx15 : Str.ofString "client" = ⟨#[99, 108, 105, 101, 110, 116]⟩ := by kernel_rfl
theorem tx16 : Str.ofString "fast" = ⟨#[102, 97, 115, 116]⟩ := by kernel_rfl
theorem tx17 : Str.ofString "_law_bounds" = ⟨#[95, 108, 97, 119, 95, 98, 111, 117, 110, 100, 115]⟩ := by kernel_rfl
theorem tx18 : Str.ofString "most" = ⟨#[109, 111, 115, 116]⟩ := by kernel_rfl
theorem tx19 : Str.ofString "max_push" = ⟨#[109, 97, 120, 95, 112, 117, 115, 104]⟩ := by kernel_rfl
theorem tx20 : Str.ofString "server" = ⟨#[115, 101, 114, 118, 101, 114]⟩ := by kernel_rfl
theorem tx21 : Str.ofString "_law_due" = ⟨#[95, 108, 97, 119, 95, 100, 117, 101]⟩ := by kernel_rfl
theorem tx22 : Str.ofString "headers" = ⟨#[104, 101, 97, 100, 101, 114, 115]⟩ := by kernel_rfl
theorem tx23 : Str.ofString "data" = ⟨#[100, 97, 116, 97]⟩ := by kernel_rfl
theorem tx24 : Str.ofString "settings" = ⟨#[115, 101, 116, 116, 105, 110, 103, 115]⟩ := by kernel_rfl
theorem tx25 : Str.ofString "unknown" = ⟨#[117, 110, 107, 110, 111, 119, 110]⟩ := by kernel_rfl
theorem tx26 : Str.ofString "is_none" = ⟨#[105, 115, 95, 110, 111, 110, 101]⟩ := by kernel_rfl
theorem tx27 : Str.ofString "_law_state" = ⟨#[95, 108, 97, 119, 95, 115, 116, 97, 116, 101]⟩ := by kernel_rfl
theorem tx28 : Str.ofString "told_most" = ⟨#[116, 111, 108, 100, 95, 109, 111, 115, 116]⟩ := by kernel_rfl
theorem tx29 : Str.ofString "range" = ⟨#[114, 97, 110, 103, 101]⟩ := by kernel_rfl
theorem tx30 : Str.ofString "is_let" = ⟨#[105, 115, 95, 108, 101, 116]⟩ := by kernel_rfl
theorem tx31 : Str.ofString "_law_due_state" = ⟨#[95, 108, 97, 119, 95, 100, 117, 101, 95, 115, 116, 97, 116, 101]⟩ := by kernel_rfl
theorem tx32 : Str.ofString "ends" = ⟨#[101, 110, 100, 115]⟩ := by kernel_rfl
theorem tx33 : Str.ofString "tops" = ⟨#[116, 111, 112, 115]⟩ := by kernel_rfl
theorem tx34 : Str.ofString "least" = ⟨#[108, 101, 97, 115, 116]⟩ := by kernel_rfl
theorem tx35 : Str.ofString "greatest" = ⟨#[103, 114, 101, 97, 116, 101, 115, 116]⟩ := by kernel_rfl
theorem tx36 : Str.ofString "min" = ⟨#[109, 105, 110]⟩ := by kernel_rfl
theorem tx37 : Str.ofString "max" = ⟨#[109, 97, 120]⟩ := by kernel_rfl
theorem tx38 : Str.ofString "list" = ⟨#[108, 105, 115, 116]⟩ := by kernel_rfl
theorem tx39 : Str.ofString "law" = ⟨#[108, 97, 119]⟩ := by kernel_rfl
theorem tx40 : Str.ofString "script" = ⟨#[115, 99, 114, 105, 112, 116]⟩ := by kernel_rfl
theorem tx41 : Str.ofString "box" = ⟨#[98, 111, 120]⟩ := by kernel_rfl
theorem tx42 : Str.ofString "_law_drawn" = ⟨#[95, 108, 97, 119, 95, 100, 114, 97, 119, 110]⟩ := by kernel_rfl
theorem tx43 : Str.ofString "size" = ⟨#[115, 105, 122, 101]⟩ := by kernel_rfl
theorem tx44 : Str.ofString "rows" = ⟨#[114, 111, 119, 115]⟩ := by kernel_rfl
theorem tx45 : Str.ofString "turn" = ⟨#[116, 117, 114, 110]⟩ := by kernel_rfl
theorem tx46 : Str.ofString "form" = ⟨#[102, 111, 114, 109]⟩ := by kernel_rfl
theorem tx47 : Str.ofString "append" = ⟨#[97, 112, 112, 101, 110, 100]⟩ := by kernel_rfl
theorem tx48 : Str.ofString "_law_frame" = ⟨#[95, 108, 97, 119, 95, 102, 114, 97, 109, 101]⟩ := by kernel_rfl
theorem tx49 : Str.ofString "octets" = ⟨#[111, 99, 116, 101, 116, 115]⟩ := by kernel_rfl
theorem tx50 : Str.ofString "join" = ⟨#[106, 111, 105, 110]⟩ := by kernel_rfl
theorem tx51 : Str.ofString "put_h3" = ⟨#[112, 117, 116, 95, 104, 51]⟩ := by kernel_rfl
theorem tx52 : Str.ofString "stream" = ⟨#[115, 116, 114, 101, 97, 109]⟩ := by kernel_rfl
theorem tx53 : Str.ofString "taken" = ⟨#[116, 97, 107, 101, 110]⟩ := by kernel_rfl
theorem tx54 : Str.ofString "ControlRules" = ⟨#[67, 111, 110, 116, 114, 111, 108, 82, 117, 108, 101, 115]⟩ := by kernel_rfl
theorem tx55 : Str.ofString "FrameStream" = ⟨#[70, 114, 97, 109, 101, 83, 116, 114, 101, 97, 109]⟩ := by kernel_rfl
theorem tx56 : Str.ofString "at" = ⟨#[97, 116]⟩ := by kernel_rfl
theorem tx57 : Str.ofString "len" = ⟨#[108, 101, 110]⟩ := by kernel_rfl
theorem tx58 : Str.ofString "other" = ⟨#[111, 116, 104, 101, 114]⟩ := by kernel_rfl
theorem tx59 : Str.ofString "third" = ⟨#[116, 104, 105, 114, 100]⟩ := by kernel_rfl
theorem tx60 : Str.ofString "let" = ⟨#[108, 101, 116]⟩ := by kernel_rfl
theorem tx61 : Str.ofString "cancel_push" = ⟨#[99, 97, 110, 99, 101, 108, 95, 112, 117, 115, 104]⟩ := by kernel_rfl
theorem tx62 : Str.ofString "ON_CONTROL" = ⟨#[79, 78, 95, 67, 79, 78, 84, 82, 79, 76]⟩ := by kernel_rfl
theorem tx63 : Str.ofString "__init__" = ⟨#[95, 95, 105, 110, 105, 116, 95, 95]⟩ := by kernel_rfl
theorem tx64 : Str.ofString "self" = ⟨#[115, 101, 108, 102]⟩ := by kernel_rfl
theorem tx65 : Str.ofString "most_push" = ⟨#[109, 111, 115, 116, 95, 112, 117, 115, 104]⟩ := by kernel_rfl
theorem tx66 : Str.ofString "H3_MISSING_SETTINGS" = ⟨#[72, 51, 95, 77, 73, 83, 83, 73, 78, 71, 95, 83, 69, 84, 84, 73, 78, 71, 83]⟩ := by kernel_rfl
theorem tx67 : Str.ofString "a control stream does not begin with settings" = ⟨#[97, 32, 99, 111, 110, 116, 114, 111, 108, 32, 115, 116, 114, 101, 97, 109, 32, 100, 111, 101, 115, 32, 110, 111, 116, 32, 98, 101, 103, 105, 110, 32, 119, 105, 116, 104, 32, 115, 101, 116, 116, 105, 110, 103, 115]⟩ := by kernel_rfl
theorem tx68 : Str.ofString "H3_FRAME_UNEXPECTED" = ⟨#[72, 51, 95, 70, 82, 65, 77, 69, 95, 85, 78, 69, 88, 80, 69, 67, 84, 69, 68]⟩ := by kernel_rfl
theorem tx69 : Str.ofString "a " = ⟨#[97, 32]⟩ := by kernel_rfl
theorem tx70 : Str.ofString " frame on a control stream" = ⟨#[32, 102, 114, 97, 109, 101, 32, 111, 110, 32, 97, 32, 99, 111, 110, 116, 114, 111, 108, 32, 115, 116, 114, 101, 97, 109]⟩ := by kernel_rfl
theorem tx71 : Str.ofString "take_goaway" = ⟨#[116, 97, 107, 101, 95, 103, 111, 97, 119, 97, 121]⟩ := by kernel_rfl
theorem tx72 : Str.ofString "take_most" = ⟨#[116, 97, 107, 101, 95, 109, 111, 115, 116]⟩ := by kernel_rfl
theorem tx73 : Str.ofString "check_push" = ⟨#[99, 104, 101, 99, 107, 95, 112, 117, 115, 104]⟩ := by kernel_rfl
theorem tx74 : Str.ofString "H3_ID_ERROR" = ⟨#[72, 51, 95, 73, 68, 95, 69, 82, 82, 79, 82]⟩ := by kernel_rfl
theorem tx75 : Str.ofString "no id of a request" = ⟨#[110, 111, 32, 105, 100, 32, 111, 102, 32, 97, 32, 114, 101, 113, 117, 101, 115, 116]⟩ := by kernel_rfl
theorem tx76 : Str.ofString "an id that goes up" = ⟨#[97, 110, 32, 105, 100, 32, 116, 104, 97, 116, 32, 103, 111, 101, 115, 32, 117, 112]⟩ := by kernel_rfl
theorem tx77 : Str.ofString "a server lets pushes" = ⟨#[97, 32, 115, 101, 114, 118, 101, 114, 32, 108, 101, 116, 115, 32, 112, 117, 115, 104, 101, 115]⟩ := by kernel_rfl
theorem tx78 : Str.ofString "a greatest id that goes down" = ⟨#[97, 32, 103, 114, 101, 97, 116, 101, 115, 116, 32, 105, 100, 32, 116, 104, 97, 116, 32, 103, 111, 101, 115, 32, 100, 111, 119, 110]⟩ := by kernel_rfl
theorem tx79 : Str.ofString "setting" = ⟨#[115, 101, 116, 116, 105, 110, 103]⟩ := by kernel_rfl
theorem tx80 : Str.ofString "default" = ⟨#[100, 101, 102, 97, 117, 108, 116]⟩ := by kernel_rfl
theorem tx81 : Str.ofString "value" = ⟨#[118, 97, 108, 117, 101]⟩ := by kernel_rfl
theorem tx82 : Str.ofString "stream_id" = ⟨#[115, 116, 114, 101, 97, 109, 95, 105, 100]⟩ := by kernel_rfl
theorem tx83 : Str.ofString "an id of no push" = ⟨#[97, 110, 32, 105, 100, 32, 111, 102, 32, 110, 111, 32, 112, 117, 115, 104]⟩ := by kernel_rfl
theorem tx84 : Str.ofString "__name__" = ⟨#[95, 95, 110, 97, 109, 101, 95, 95]⟩ := by kernel_rfl
theorem tx85 : Str.ofString "law_sj0117_01" = ⟨#[108, 97, 119, 95, 115, 106, 48, 49, 49, 55, 95, 48, 49]⟩ := by kernel_rfl
theorem tx86 : Str.ofString "many" = ⟨#[109, 97, 110, 121]⟩ := by kernel_rfl
theorem tx87 : Str.ofString "abs" = ⟨#[97, 98, 115]⟩ := by kernel_rfl
theorem tx88 : Str.ofString "whole_varint" = ⟨#[119, 104, 111, 108, 101, 95, 118, 97, 114, 105, 110, 116]⟩ := by kernel_rfl
theorem tx89 : Str.ofString "payload" = ⟨#[112, 97, 121, 108, 111, 97, 100]⟩ := by kernel_rfl
theorem tx90 : Str.ofString "get_varint" = ⟨#[103, 101, 116, 95, 118, 97, 114, 105, 110, 116]⟩ := by kernel_rfl
theorem tx91 : Str.ofString "Short" = ⟨#[83, 104, 111, 114, 116]⟩ := by kernel_rfl
theorem tx92 : Str.ofString "H3_FRAME_ERROR" = ⟨#[72, 51, 95, 70, 82, 65, 77, 69, 95, 69, 82, 82, 79, 82]⟩ := by kernel_rfl
theorem tx93 : Str.ofString "a frame ends within a number" = ⟨#[97, 32, 102, 114, 97, 109, 101, 32, 101, 110, 100, 115, 32, 119, 105, 116, 104, 105, 110, 32, 97, 32, 110, 117, 109, 98, 101, 114]⟩ := by kernel_rfl
theorem tx94 : Str.ofString "read_settings" = ⟨#[114, 101, 97, 100, 95, 115, 101, 116, 116, 105, 110, 103, 115]⟩ := by kernel_rfl
theorem tx95 : Str.ofString "found" = ⟨#[102, 111, 117, 110, 100]⟩ := by kernel_rfl
theorem tx96 : Str.ofString "OLD_SETTINGS" = ⟨#[79, 76, 68, 95, 83, 69, 84, 84, 73, 78, 71, 83]⟩ := by kernel_rfl
theorem tx97 : Str.ofString "told" = ⟨#[116, 111, 108, 100]⟩ := by kernel_rfl
theorem tx98 : Str.ofString "H3_SETTINGS_ERROR" = ⟨#[72, 51, 95, 83, 69, 84, 84, 73, 78, 71, 83, 95, 69, 82, 82, 79, 82]⟩ := by kernel_rfl
theorem tx99 : Str.ofString "a setting is told twice, or is none" = ⟨#[97, 32, 115, 101, 116, 116, 105, 110, 103, 32, 105, 115, 32, 116, 111, 108, 100, 32, 116, 119, 105, 99, 101, 44, 32, 111, 114, 32, 105, 115, 32, 110, 111, 110, 101]⟩ := by kernel_rfl
theorem tx100 : Str.ofString "read_only_id" = ⟨#[114, 101, 97, 100, 95, 111, 110, 108, 121, 95, 105, 100]⟩ := by kernel_rfl
theorem tx101 : Str.ofString "name" = ⟨#[110, 97, 109, 101]⟩ := by kernel_rfl
theorem tx102 : Str.ofString "octets stand behind an id" = ⟨#[111, 99, 116, 101, 116, 115, 32, 115, 116, 97, 110, 100, 32, 98, 101, 104, 105, 110, 100, 32, 97, 110, 32, 105, 100]⟩ := by kernel_rfl
theorem tx103 : Str.ofString "read_payload" = ⟨#[114, 101, 97, 100, 95, 112, 97, 121, 108, 111, 97, 100]⟩ := by kernel_rfl
theorem tx104 : Str.ofString "OLD_TYPES" = ⟨#[79, 76, 68, 95, 84, 89, 80, 69, 83]⟩ := by kernel_rfl
theorem tx105 : Str.ofString "a frame of an elder version" = ⟨#[97, 32, 102, 114, 97, 109, 101, 32, 111, 102, 32, 97, 110, 32, 101, 108, 100, 101, 114, 32, 118, 101, 114, 115, 105, 111, 110]⟩ := by kernel_rfl
theorem tx106 : Str.ofString "TYPE_DATA" = ⟨#[84, 89, 80, 69, 95, 68, 65, 84, 65]⟩ := by kernel_rfl
theorem tx107 : Str.ofString "TYPE_HEADERS" = ⟨#[84, 89, 80, 69, 95, 72, 69, 65, 68, 69, 82, 83]⟩ := by kernel_rfl
theorem tx108 : Str.ofString "TYPE_SETTINGS" = ⟨#[84, 89, 80, 69, 95, 83, 69, 84, 84, 73, 78, 71, 83]⟩ := by kernel_rfl
theorem tx109 : Str.ofString "TYPE_PUSH_PROMISE" = ⟨#[84, 89, 80, 69, 95, 80, 85, 83, 72, 95, 80, 82, 79, 77, 73, 83, 69]⟩ := by kernel_rfl
theorem tx110 : Str.ofString "push_promise" = ⟨#[112, 117, 115, 104, 95, 112, 114, 111, 109, 105, 115, 101]⟩ := by kernel_rfl
theorem tx111 : Str.ofString "ID_TYPES" = ⟨#[73, 68, 95, 84, 89, 80, 69, 83]⟩ := by kernel_rfl
theorem tx112 : Str.ofString "rest" = ⟨#[114, 101, 115, 116]⟩ := by kernel_rfl
theorem tx113 : Str.ofString "next_frame" = ⟨#[110, 101, 120, 116, 95, 102, 114, 97, 109, 101]⟩ := by kernel_rfl
theorem tx114 : Str.ofString "H3_EXCESSIVE_LOAD" = ⟨#[72, 51, 95, 69, 88, 67, 69, 83, 83, 73, 86, 69, 95, 76, 79, 65, 68]⟩ := by kernel_rfl
theorem tx115 : Str.ofString "a frame is too long" = ⟨#[97, 32, 102, 114, 97, 109, 101, 32, 105, 115, 32, 116, 111, 111, 32, 108, 111, 110, 103]⟩ := by kernel_rfl
theorem tx116 : Str.ofString "end" = ⟨#[101, 110, 100]⟩ := by kernel_rfl
theorem tx117 : Str.ofString "a stream ends within a frame" = ⟨#[97, 32, 115, 116, 114, 101, 97, 109, 32, 101, 110, 100, 115, 32, 119, 105, 116, 104, 105, 110, 32, 97, 32, 102, 114, 97, 109, 101]⟩ := by kernel_rfl
theorem tx118 : Str.ofString "quic.h3rules" = ⟨#[113, 117, 105, 99, 46, 104, 51, 114, 117, 108, 101, 115]⟩ := by kernel_rfl
theorem tx119 : Str.ofString "put_plain" = ⟨#[112, 117, 116, 95, 112, 108, 97, 105, 110]⟩ := by kernel_rfl
theorem tx120 : Str.ofString "put_varint" = ⟨#[112, 117, 116, 95, 118, 97, 114, 105, 110, 116]⟩ := by kernel_rfl
theorem tx121 : Str.ofString "put_settings" = ⟨#[112, 117, 116, 95, 115, 101, 116, 116, 105, 110, 103, 115]⟩ := by kernel_rfl
theorem tx122 : Str.ofString "pairs" = ⟨#[112, 97, 105, 114, 115]⟩ := by kernel_rfl
theorem tx123 : Str.ofString "H3_INTERNAL_ERROR" = ⟨#[72, 51, 95, 73, 78, 84, 69, 82, 78, 65, 76, 95, 69, 82, 82, 79, 82]⟩ := by kernel_rfl
theorem tx124 : Str.ofString "no frame has this kind" = ⟨#[110, 111, 32, 102, 114, 97, 109, 101, 32, 104, 97, 115, 32, 116, 104, 105, 115, 32, 107, 105, 110, 100]⟩ := by kernel_rfl
theorem tx125 : Str.ofString "quic.h3frames" = ⟨#[113, 117, 105, 99, 46, 104, 51, 102, 114, 97, 109, 101, 115]⟩ := by kernel_rfl
theorem tx126 : Str.ofString "VARINT_SIZES" = ⟨#[86, 65, 82, 73, 78, 84, 95, 83, 73, 90, 69, 83]⟩ := by kernel_rfl
theorem tx127 : Str.ofString "put_whole" = ⟨#[112, 117, 116, 95, 119, 104, 111, 108, 101]⟩ := by kernel_rfl
theorem tx128 : Str.ofString "n" = ⟨#[110]⟩ := by kernel_rfl
theorem tx129 : Str.ofString "QuicError" = ⟨#[81, 117, 105, 99, 69, 114, 114, 111, 114]⟩ := by kernel_rfl
theorem tx130 : Str.ofString "INTERNAL_ERROR" = ⟨#[73, 78, 84, 69, 82, 78, 65, 76, 95, 69, 82, 82, 79, 82]⟩ := by kernel_rfl
theorem tx131 : Str.ofString "a number that has no such octets" = ⟨#[97, 32, 110, 117, 109, 98, 101, 114, 32, 116, 104, 97, 116, 32, 104, 97, 115, 32, 110, 111, 32, 115, 117, 99, 104, 32, 111, 99, 116, 101, 116, 115]⟩ := by kernel_rfl
theorem tx132 : Str.ofString "bytearray" = ⟨#[98, 121, 116, 101, 97, 114, 114, 97, 121]⟩ := by kernel_rfl
theorem tx133 : Str.ofString "place" = ⟨#[112, 108, 97, 99, 101]⟩ := by kernel_rfl
theorem tx134 : Str.ofString "bytes" = ⟨#[98, 121, 116, 101, 115]⟩ := by kernel_rfl
theorem tx135 : Str.ofString "get_whole" = ⟨#[103, 101, 116, 95, 119, 104, 111, 108, 101]⟩ := by kernel_rfl
theorem tx136 : Str.ofString "a number ends too early" = ⟨#[97, 32, 110, 117, 109, 98, 101, 114, 32, 101, 110, 100, 115, 32, 116, 111, 111, 32, 101, 97, 114, 108, 121]⟩ := by kernel_rfl
theorem tx137 : Str.ofString "octet" = ⟨#[111, 99, 116, 101, 116]⟩ := by kernel_rfl
theorem tx138 : Str.ofString "varint_size" = ⟨#[118, 97, 114, 105, 110, 116, 95, 115, 105, 122, 101]⟩ := by kernel_rfl
theorem tx139 : Str.ofString "a number that is too great" = ⟨#[97, 32, 110, 117, 109, 98, 101, 114, 32, 116, 104, 97, 116, 32, 105, 115, 32, 116, 111, 111, 32, 103, 114, 101, 97, 116]⟩ := by kernel_rfl
theorem tx140 : Str.ofString "a size in which a number has no room" = ⟨#[97, 32, 115, 105, 122, 101, 32, 105, 110, 32, 119, 104, 105, 99, 104, 32, 97, 32, 110, 117, 109, 98, 101, 114, 32, 104, 97, 115, 32, 110, 111, 32, 114, 111, 111, 109]⟩ := by kernel_rfl
theorem tx141 : Str.ofString "index" = ⟨#[105, 110, 100, 101, 120]⟩ := by kernel_rfl
theorem tx142 : Str.ofString "quic.errors" = ⟨#[113, 117, 105, 99, 46, 101, 114, 114, 111, 114, 115]⟩ := by kernel_rfl
theorem tx143 : Str.ofString "Exception" = ⟨#[69, 120, 99, 101, 112, 116, 105, 111, 110]⟩ := by kernel_rfl
theorem tx144 : Str.ofString "frame_type" = ⟨#[102, 114, 97, 109, 101, 95, 116, 121, 112, 101]⟩ := by kernel_rfl
theorem tx145 : Str.ofString "text" = ⟨#[116, 101, 120, 116]⟩ := by kernel_rfl
theorem tx146 : Str.ofString "str" = ⟨#[115, 116, 114]⟩ := by kernel_rfl
theorem tx147 : Str.ofString ": " = ⟨#[58, 32]⟩ := by kernel_rfl
theorem tx148 : Str.ofString "quic.varint" = ⟨#[113, 117, 105, 99, 46, 118, 97, 114, 105, 110, 116]⟩ := by kernel_rfl
theorem tx149 : Str.ofString "/claim/cut.py" = ⟨#[47, 99, 108, 97, 105, 109, 47, 99, 117, 116, 46, 112, 121]⟩ := by kernel_rfl
set_option maxHeartbeats 4000000 in
/-- the program over its texts -/
noncomputable def pwSub : { G : Str → Str → Str → Str → Str → Str → Str → Str → Str → Str → Str → Str → Str → Str → Str → Str → Str → Str → Str → Str → Str → Str → Str → Str → Str → Str → Str → Str → Str → Str → Str → Str → Str → Str → Str → Str → Str → Str → Str → Str → Str → Str → Str → Str → Str → Str → Str → Str → Str → Str → Str → Str → Str → Str → Str → Str → Str → Str → Str → Str → Str → Str → Str → Str → Str → Str → Str → Str → Str → Str → Str → Str → Str → Str → Str → Str → Str → Str → Str → Str → Str → Str → Str → Str → Str → Str → Str → Str → Str → Str → Str → Str → Str → Str → Str → Str → Str → Str → Str → Str → Str → Str → Str → Str → Str → Str → Str → Str → Str → Str → Str → Str → Str → Str → Str → Str → Str → Str → Str → Str → Str → Str → Str → Str → Str → Str → Str → Str → Str → Str → Str → Str → Str → Str → Str → Str → Str → Str → Str → Str → Str → Str → Str → Str → Str → Str → Str → Str → Str → Str → Program // PySem.Challenge.pw_sj0117_01 = G (Str.ofString "_law_refused") (Str.ofString "rules") (Str.ofString "frame") (Str.ofString "take") (Str.ofString "H3Error") (Str.ofString "wrong") (Str.ofString "code") (Str.ofString "_law_counted") (Str.ofString "peer") (Str.ofString "came") (Str.ofString "kind") (Str.ofString "some") (Str.ofString ".0") (Str.ofString "goaway") (Str.ofString "number") (Str.ofString "client") (Str.ofString "fast") (Str.ofString "_law_bounds") (Str.ofString "most") (Str.ofString "max_push") (Str.ofString "server") (Str.ofString "_law_due") (Str.ofString "headers") (Str.ofString "data") (Str.ofString "settings") (Str.ofString "unknown") (Str.ofString "is_none") (Str.ofString "_law_state") (Str.ofString "told_most") (Str.ofString "range") (Str.ofString "is_let") (Str.ofString "_law_due_state") (Str.ofString "ends") (Str.ofString "tops") (Str.ofString "least") (Str.ofString "greatest") (Str.ofString "min") (Str.ofString "max") (Str.ofString "list") (Str.ofString "law") (Str.ofString "script") (Str.ofString "box") (Str.ofString "_law_drawn") (Str.ofString "size") (Str.ofString "rows") (Str.ofString "turn") (Str.ofString "form") (Str.ofString "append") (Str.ofString "_law_frame") (Str.ofString "octets") (Str.ofString "join") (Str.ofString "put_h3") (Str.ofString "stream") (Str.ofString "taken") (Str.ofString "ControlRules") (Str.ofString "FrameStream") (Str.ofString "at") (Str.ofString "len") (Str.ofString "other") (Str.ofString "third") (Str.ofString "let") (Str.ofString "cancel_push") (Str.ofString "ON_CONTROL") (Str.ofString "__init__") (Str.ofString "self") (Str.ofString "most_push") (Str.ofString "H3_MISSING_SETTINGS") (Str.ofString "a control stream does not begin with settings") (Str.ofString "H3_FRAME_UNEXPECTED") (Str.ofString "a ") (Str.ofString " frame on a control stream") (Str.ofString "take_goaway") (Str.ofString "take_most") (Str.ofString "check_push") (Str.ofString "H3_ID_ERROR") (Str.ofString "no id of a request") (Str.ofString "an id that goes up") (Str.ofString "a server lets pushes") (Str.ofString "a greatest id that goes down") (Str.ofString "setting") (Str.ofString "default") (Str.ofString "value") (Str.ofString "stream_id") (Str.ofString "an id of no push") (Str.ofString "__name__") (Str.ofString "law_sj0117_01") (Str.ofString "many") (Str.ofString "abs") (Str.ofString "whole_varint") (Str.ofString "payload") (Str.ofString "get_varint") (Str.ofString "Short") (Str.ofString "H3_FRAME_ERROR") (Str.ofString "a frame ends within a number") (Str.ofString "read_settings") (Str.ofString "found") (Str.ofString "OLD_SETTINGS") (Str.ofString "told") (Str.ofString "H3_SETTINGS_ERROR") (Str.ofString "a setting is told twice, or is none") (Str.ofString "read_only_id") (Str.ofString "name") (Str.ofString "octets stand behind an id") (Str.ofString "read_payload") (Str.ofString "OLD_TYPES") (Str.ofString "a frame of an elder version") (Str.ofString "TYPE_DATA") (Str.ofString "TYPE_HEADERS") (Str.ofString "TYPE_SETTINGS") (Str.ofString "TYPE_PUSH_PROMISE") (Str.ofString "push_promise") (Str.ofString "ID_TYPES") (Str.ofString "rest") (Str.ofString "next_frame") (Str.ofString "H3_EXCESSIVE_LOAD") (Str.ofString "a frame is too long") (Str.ofString "end") (Str.ofString "a stream ends within a frame") (Str.ofString "quic.h3rules") (Str.ofString "put_plain") (Str.ofString "put_varint") (Str.ofString "put_settings") (Str.ofString "pairs") (Str.ofString "H3_INTERNAL_ERROR") (Str.ofString "no frame has this kind") (Str.ofString "quic.h3frames") (Str.ofString "VARINT_SIZES") (Str.ofString "put_whole") (Str.ofString "n") (Str.ofString "QuicError") (Str.ofString "INTERNAL_ERROR") (Str.ofString "a number that has no such octets") (Str.ofString "bytearray") (Str.ofString "place") (Str.ofString "bytes") (Str.ofString "get_whole") (Str.ofString "a number ends too early") (Str.ofString "octet") (Str.ofString "varint_size") (Str.ofString "a number that is too great") (Str.ofString "a size in which a number has no room") (Str.ofString "index") (Str.ofString "quic.errors") (Str.ofString "Exception") (Str.ofString "frame_type") (Str.ofString "text") (Str.ofString "str") (Str.ofString ": ") (Str.ofString "quic.varint") (Str.ofString "/claim/cut.py") } := by
  refine' ⟨_, _⟩
  rotate_left
  unfold PySem.Challenge.pw_sj0117_01
  generalize Str.ofString "_law_refused" = x0, Str.ofString "rules" = x1, Str.ofString "frame" = x2, Str.ofString "take" = x3, Str.ofString "H3Error" = x4, Str.ofString "wrong" = x5, Str.ofString "code" = x6, Str.ofString "_law_counted" = x7, Str.ofString "peer" = x8, Str.ofString "came" = x9, Str.ofString "kind" = x10, Str.ofString "some" = x11, Str.ofString ".0" = x12, Str.ofString "goaway" = x13, Str.ofString "number" = x14, Str.ofString "client" = x15, Str.ofString "fast" = x16, Str.ofString "_law_bounds" = x17, Str.ofString "most" = x18, Str.ofString "max_push" = x19, Str.ofString "server" = x20, Str.ofString "_law_due" = x21, Str.ofString "headers" = x22, Str.ofString "data" = x23, Str.ofString "settings" = x24, Str.ofString "unknown" = x25, Str.ofString "is_none" = x26, Str.ofString "_law_state" = x27, Str.ofString "told_most" = x28, Str.ofString "range" = x29, Str.ofString "is_let" = x30, Str.ofString "_law_due_state" = x31, Str.ofString "ends" = x32, Str.ofString "tops" = x33, Str.ofString "least" = x34, Str.ofString "greatest" = x35, Str.ofString "min" = x36, Str.ofString "max" = x37, Str.ofString "list" = x38, Str.ofString "law" = x39, Str.ofString "script" = x40, Str.ofString "box" = x41, Str.ofString "_law_drawn" = x42, Str.ofString "size" = x43, Str.ofString "rows" = x44, Str.ofString "turn" = x45, Str.ofString "form" = x46, Str.ofString "append" = x47, Str.ofString "_law_frame" = x48, Str.ofString "octets" = x49, Str.ofString "join" = x50, Str.ofString "put_h3" = x51, Str.ofString "stream" = x52, Str.ofString "taken" = x53, Str.ofString "ControlRules" = x54, Str.ofString "FrameStream" = x55, Str.ofString "at" = x56, Str.ofString "len" = x57, Str.ofString "other" = x58, Str.ofString "third" = x59, Str.ofString "let" = x60, Str.ofString "cancel_push" = x61, Str.ofString "ON_CONTROL" = x62, Str.ofString "__init__" = x63, Str.ofString "self" = x64, Str.ofString "most_push" = x65, Str.ofString "H3_MISSING_SETTINGS" = x66, Str.ofString "a control stream does not begin with settings" = x67, Str.ofString "H3_FRAME_UNEXPECTED" = x68, Str.ofString "a " = x69, Str.ofString " frame on a control stream" = x70, Str.ofString "take_goaway" = x71, Str.ofString "take_most" = x72, Str.ofString "check_push" = x73, Str.ofString "H3_ID_ERROR" = x74, Str.ofString "no id of a request" = x75, Str.ofString "an id that goes up" = x76, Str.ofString "a server lets pushes" = x77, Str.ofString "a greatest id that goes down" = x78, Str.ofString "setting" = x79, Str.ofString "default" = x80, Str.ofString "value" = x81, Str.ofString "stream_id" = x82, Str.ofString "an id of no push" = x83, Str.ofString "__name__" = x84, Str.ofString "law_sj0117_01" = x85, Str.ofString "many" = x86, Str.ofString "abs" = x87, Str.ofString "whole_varint" = x88, Str.ofString "payload" = x89, Str.ofString "get_varint" = x90, Str.ofString "Short" = x91, Str.ofString "H3_FRAME_ERROR" = x92, Str.ofString "a frame ends within a number" = x93, Str.ofString "read_settings" = x94, Str.ofString "found" = x95, Str.ofString "OLD_SETTINGS" = x96, Str.ofString "told" = x97, Str.ofString "H3_SETTINGS_ERROR" = x98, Str.ofString "a setting is told twice, or is none" = x99, Str.ofString "read_only_id" = x100, Str.ofString "name" = x101, Str.ofString "octets stand behind an id" = x102, Str.ofString "read_payload" = x103, Str.ofString "OLD_TYPES" = x104, Str.ofString "a frame of an elder version" = x105, Str.ofString "TYPE_DATA" = x106, Str.ofString "TYPE_HEADERS" = x107, Str.ofString "TYPE_SETTINGS" = x108, Str.ofString "TYPE_PUSH_PROMISE" = x109, Str.ofString "push_promise" = x110, Str.ofString "ID_TYPES" = x111, Str.ofString "rest" = x112, Str.ofString "next_frame" = x113, Str.ofString "H3_EXCESSIVE_LOAD" = x114, Str.ofString "a frame is too long" = x115, Str.ofString "end" = x116, Str.ofString "a stream ends within a frame" = x117, Str.ofString "quic.h3rules" = x118, Str.ofString "put_plain" = x119, Str.ofString "put_varint" = x120, Str.ofString "put_settings" = x121, Str.ofString "pairs" = x122, Str.ofString "H3_INTERNAL_ERROR" = x123, Str.ofString "no frame has this kind" = x124, Str.ofString "quic.h3frames" = x125, Str.ofString "VARINT_SIZES" = x126, Str.ofString "put_whole" = x127, Str.ofString "n" = x128, Str.ofString "QuicError" = x129, Str.ofString "INTERNAL_ERROR" = x130, Str.ofString "a number that has no such octets" = x131, Str.ofString "bytearray" = x132, Str.ofString "place" = x133, Str.ofString "bytes" = x134, Str.ofString "get_whole" = x135, Str.ofString "a number ends too early" = x136, Str.ofString "octet" = x137, Str.ofString "varint_size" = x138, Str.ofString "a number that is too great" = x139, Str.ofString "a size in which a number has no room" = x140, Str.ofString "index" = x141, Str.ofString "quic.errors" = x142, Str.ofString "Exception" = x143, Str.ofString "frame_type" = x144, Str.ofString "text" = x145, Str.ofString "str" = x146, Str.ofString ": " = x147, Str.ofString "quic.varint" = x148, Str.ofString "/claim/cut.py" = x149
  exact rfl
noncomputable def pwQ : Program := pwSub.1 ⟨#[95, 108, 97, 119, 95, 114, 101, 102, 117, 115, 101, 100]⟩ ⟨#[114, 117, 108, 101, 115]⟩ ⟨#[102, 114, 97, 109, 101]⟩ ⟨#[116, 97, 107, 101]⟩ ⟨#[72, 51, 69, 114, 114, 111, 114]⟩ ⟨#[119, 114, 111, 110, 103]⟩ ⟨#[99, 111, 100, 101]⟩ ⟨#[95, 108, 97, 119, 95, 99, 111, 117, 110, 116, 101, 100]⟩ ⟨#[112, 101, 101, 114]⟩ ⟨#[99, 97, 109, 101]⟩ ⟨#[107, 105, 110, 100]⟩ ⟨#[115, 111, 109, 101]⟩ ⟨#[46, 48]⟩ ⟨#[103, 111, 97, 119, 97, 121]⟩ ⟨#[110, 117, 109, 98, 101, 114]⟩ ⟨#[99, 108, 105, 101, 110, 116]⟩ ⟨#[102, 97, 115, 116]⟩ ⟨#[95, 108, 97, 119, 95, 98, 111, 117, 110, 100, 115]⟩ ⟨#[109, 111, 115, 116]⟩ ⟨#[109, 97, 120, 95, 112, 117, 115, 104]⟩ ⟨#[115, 101, 114, 118, 101, 114]⟩ ⟨#[95, 108, 97, 119, 95, 100, 117, 101]⟩ ⟨#[104, 101, 97, 100, 101, 114, 115]⟩ ⟨#[100, 97, 116, 97]⟩ ⟨#[115, 101, 116, 116, 105, 110, 103, 115]⟩ ⟨#[117, 110, 107, 110, 111, 119, 110]⟩ ⟨#[105, 115, 95, 110, 111, 110, 101]⟩ ⟨#[95, 108, 97, 119, 95, 115, 116, 97, 116, 101]⟩ ⟨#[116, 111, 108, 100, 95, 109, 111, 115, 116]⟩ ⟨#[114, 97, 110, 103, 101]⟩ ⟨#[105, 115, 95, 108, 101, 116]⟩ ⟨#[95, 108, 97, 119, 95, 100, 117, 101, 95, 115, 116, 97, 116, 101]⟩ ⟨#[101, 110, 100, 115]⟩ ⟨#[116, 111, 112, 115]⟩ ⟨#[108, 101, 97, 115, 116]⟩ ⟨#[103, 114, 101, 97, 116, 101, 115, 116]⟩ ⟨#[109, 105, 110]⟩ ⟨#[109, 97, 120]⟩ ⟨#[108, 105, 115, 116]⟩ ⟨#[108, 97, 119]⟩ ⟨#[115, 99, 114, 105, 112, 116]⟩ ⟨#[98, 111, 120]⟩ ⟨#[95, 108, 97, 119, 95, 100, 114, 97, 119, 110]⟩ ⟨#[115, 105, 122, 101]⟩ ⟨#[114, 111, 119, 115]⟩ ⟨#[116, 117, 114, 110]⟩ ⟨#[102, 111, 114, 109]⟩ ⟨#[97, 112, 112, 101, 110, 100]⟩ ⟨#[95, 108, 97, 119, 95, 102, 114, 97, 109, 101]⟩ ⟨#[111, 99, 116, 101, 116, 115]⟩ ⟨#[106, 111, 105, 110]⟩ ⟨#[112, 117, 116, 95, 104, 51]⟩ ⟨#[115, 116, 114, 101, 97, 109]⟩ ⟨#[116, 97, 107, 101, 110]⟩ ⟨#[67, 111, 110, 116, 114, 111, 108, 82, 117, 108, 101, 115]⟩ ⟨#[70, 114, 97, 109, 101, 83, 116, 114, 101, 97, 109]⟩ ⟨#[97, 116]⟩ ⟨#[108, 101, 110]⟩ ⟨#[111, 116, 104, 101, 114]⟩ ⟨#[116, 104, 105, 114, 100]⟩ ⟨#[108, 101, 116]⟩ ⟨#[99, 97, 110, 99, 101, 108, 95, 112, 117, 115, 104]⟩ ⟨#[79, 78, 95, 67, 79, 78, 84, 82, 79, 76]⟩ ⟨#[95, 95, 105, 110, 105, 116, 95, 95]⟩ ⟨#[115, 101, 108, 102]⟩ ⟨#[109, 111, 115, 116, 95, 112, 117, 115, 104]⟩ ⟨#[72, 51, 95, 77, 73, 83, 83, 73, 78, 71, 95, 83, 69, 84, 84, 73, 78, 71, 83]⟩ ⟨#[97, 32, 99, 111, 110, 116, 114, 111, 108, 32, 115, 116, 114, 101, 97, 109, 32, 100, 111, 101, 115, 32, 110, 111, 116, 32, 98, 101, 103, 105, 110, 32, 119, 105, 116, 104, 32, 115, 101, 116, 116, 105, 110, 103, 115]⟩ ⟨#[72, 51, 95, 70, 82, 65, 77, 69, 95, 85, 78, 69, 88, 80, 69, 67, 84, 69, 68]⟩ ⟨#[97, 32]⟩ ⟨#[32, 102, 114, 97, 109, 101, 32, 111, 110, 32, 97, 32, 99, 111, 110, 116, 114, 111, 108, 32, 115, 116, 114, 101, 97, 109]⟩ ⟨#[116, 97, 107, 101, 95, 103, 111, 97, 119, 97, 121]⟩ ⟨#[116, 97, 107, 101, 95, 109, 111, 115, 116]⟩ ⟨#[99, 104, 101, 99, 107, 95, 112, 117, 115, 104]⟩ ⟨#[72, 51, 95, 73, 68, 95, 69, 82, 82, 79, 82]⟩ ⟨#[110, 111, 32, 105, 100, 32, 111, 102, 32, 97, 32, 114, 101, 113, 117, 101, 115, 116]⟩ ⟨#[97, 110, 32, 105, 100, 32, 116, 104, 97, 116, 32, 103, 111, 101, 115, 32, 117, 112]⟩ ⟨#[97, 32, 115, 101, 114, 118, 101, 114, 32, 108, 101, 116, 115, 32, 112, 117, 115, 104, 101, 115]⟩ ⟨#[97, 32, 103, 114, 101, 97, 116, 101, 115, 116, 32, 105, 100, 32, 116, 104, 97, 116, 32, 103, 111, 101, 115, 32, 100, 111, 119, 110]⟩ ⟨#[115, 101, 116, 116, 105, 110, 103]⟩ ⟨#[100, 101, 102, 97, 117, 108, 116]⟩ ⟨#[118, 97, 108, 117, 101]⟩ ⟨#[115, 116, 114, 101, 97, 109, 95, 105, 100]⟩ ⟨#[97, 110, 32, 105, 100, 32, 111, 102, 32, 110, 111, 32, 112, 117, 115, 104]⟩ ⟨#[95, 95, 110, 97, 109, 101, 95, 95]⟩ ⟨#[108, 97, 119, 95, 115, 106, 48, 49, 49, 55, 95, 48, 49]⟩ ⟨#[109, 97, 110, 121]⟩ ⟨#[97, 98, 115]⟩ ⟨#[119, 104, 111, 108, 101, 95, 118, 97, 114, 105, 110, 116]⟩ ⟨#[112, 97, 121, 108, 111, 97, 100]⟩ ⟨#[103, 101, 116, 95, 118, 97, 114, 105, 110, 116]⟩ ⟨#[83, 104, 111, 114, 116]⟩ ⟨#[72, 51, 95, 70, 82, 65, 77, 69, 95, 69, 82, 82, 79, 82]⟩ ⟨#[97, 32, 102, 114, 97, 109, 101, 32, 101, 110, 100, 115, 32, 119, 105, 116, 104, 105, 110, 32, 97, 32, 110, 117, 109, 98, 101, 114]⟩ ⟨#[114, 101, 97, 100, 95, 115, 101, 116, 116, 105, 110, 103, 115]⟩ ⟨#[102, 111, 117, 110, 100]⟩ ⟨#[79, 76, 68, 95, 83, 69, 84, 84, 73, 78, 71, 83]⟩ ⟨#[116, 111, 108, 100]⟩ ⟨#[72, 51, 95, 83, 69, 84, 84, 73, 78, 71, 83, 95, 69, 82, 82, 79, 82]⟩ ⟨#[97, 32, 115, 101, 116, 116, 105, 110, 103, 32, 105, 115, 32, 116, 111, 108, 100, 32, 116, 119, 105, 99, 101, 44, 32, 111, 114, 32, 105, 115, 32, 110, 111, 110, 101]⟩ ⟨#[114, 101, 97, 100, 95, 111, 110, 108, 121, 95, 105, 100]⟩ ⟨#[110, 97, 109, 101]⟩ ⟨#[111, 99, 116, 101, 116, 115, 32, 115, 116, 97, 110, 100, 32, 98, 101, 104, 105, 110, 100, 32, 97, 110, 32, 105, 100]⟩ ⟨#[114, 101, 97, 100, 95, 112, 97, 121, 108, 111, 97, 100]⟩ ⟨#[79, 76, 68, 95, 84, 89, 80, 69, 83]⟩ ⟨#[97, 32, 102, 114, 97, 109, 101, 32, 111, 102, 32, 97, 110, 32, 101, 108, 100, 101, 114, 32, 118, 101, 114, 115, 105, 111, 110]⟩ ⟨#[84, 89, 80, 69, 95, 68, 65, 84, 65]⟩ ⟨#[84, 89, 80, 69, 95, 72, 69, 65, 68, 69, 82, 83]⟩ ⟨#[84, 89, 80, 69, 95, 83, 69, 84, 84, 73, 78, 71, 83]⟩ ⟨#[84, 89, 80, 69, 95, 80, 85, 83, 72, 95, 80, 82, 79, 77, 73, 83, 69]⟩ ⟨#[112, 117, 115, 104, 95, 112, 114, 111, 109, 105, 115, 101]⟩ ⟨#[73, 68, 95, 84, 89, 80, 69, 83]⟩ ⟨#[114, 101, 115, 116]⟩ ⟨#[110, 101, 120, 116, 95, 102, 114, 97, 109, 101]⟩ ⟨#[72, 51, 95, 69, 88, 67, 69, 83, 83, 73, 86, 69, 95, 76, 79, 65, 68]⟩ ⟨#[97, 32, 102, 114, 97, 109, 101, 32, 105, 115, 32, 116, 111, 111, 32, 108, 111, 110, 103]⟩ ⟨#[101, 110, 100]⟩ ⟨#[97, 32, 115, 116, 114, 101, 97, 109, 32, 101, 110, 100, 115, 32, 119, 105, 116, 104, 105, 110, 32, 97, 32, 102, 114, 97, 109, 101]⟩ ⟨#[113, 117, 105, 99, 46, 104, 51, 114, 117, 108, 101, 115]⟩ ⟨#[112, 117, 116, 95, 112, 108, 97, 105, 110]⟩ ⟨#[112, 117, 116, 95, 118, 97, 114, 105, 110, 116]⟩ ⟨#[112, 117, 116, 95, 115, 101, 116, 116, 105, 110, 103, 115]⟩ ⟨#[112, 97, 105, 114, 115]⟩ ⟨#[72, 51, 95, 73, 78, 84, 69, 82, 78, 65, 76, 95, 69, 82, 82, 79, 82]⟩ ⟨#[110, 111, 32, 102, 114, 97, 109, 101, 32, 104, 97, 115, 32, 116, 104, 105, 115, 32, 107, 105, 110, 100]⟩ ⟨#[113, 117, 105, 99, 46, 104, 51, 102, 114, 97, 109, 101, 115]⟩ ⟨#[86, 65, 82, 73, 78, 84, 95, 83, 73, 90, 69, 83]⟩ ⟨#[112, 117, 116, 95, 119, 104, 111, 108, 101]⟩ ⟨#[110]⟩ ⟨#[81, 117, 105, 99, 69, 114, 114, 111, 114]⟩ ⟨#[73, 78, 84, 69, 82, 78, 65, 76, 95, 69, 82, 82, 79, 82]⟩ ⟨#[97, 32, 110, 117, 109, 98, 101, 114, 32, 116, 104, 97, 116, 32, 104, 97, 115, 32, 110, 111, 32, 115, 117, 99, 104, 32, 111, 99, 116, 101, 116, 115]⟩ ⟨#[98, 121, 116, 101, 97, 114, 114, 97, 121]⟩ ⟨#[112, 108, 97, 99, 101]⟩ ⟨#[98, 121, 116, 101, 115]⟩ ⟨#[103, 101, 116, 95, 119, 104, 111, 108, 101]⟩ ⟨#[97, 32, 110, 117, 109, 98, 101, 114, 32, 101, 110, 100, 115, 32, 116, 111, 111, 32, 101, 97, 114, 108, 121]⟩ ⟨#[111, 99, 116, 101, 116]⟩ ⟨#[118, 97, 114, 105, 110, 116, 95, 115, 105, 122, 101]⟩ ⟨#[97, 32, 110, 117, 109, 98, 101, 114, 32, 116, 104, 97, 116, 32, 105, 115, 32, 116, 111, 111, 32, 103, 114, 101, 97, 116]⟩ ⟨#[97, 32, 115, 105, 122, 101, 32, 105, 110, 32, 119, 104, 105, 99, 104, 32, 97, 32, 110, 117, 109, 98, 101, 114, 32, 104, 97, 115, 32, 110, 111, 32, 114, 111, 111, 109]⟩ ⟨#[105, 110, 100, 101, 120]⟩ ⟨#[113, 117, 105, 99, 46, 101, 114, 114, 111, 114, 115]⟩ ⟨#[69, 120, 99, 101, 112, 116, 105, 111, 110]⟩ ⟨#[102, 114, 97, 109, 101, 95, 116, 121, 112, 101]⟩ ⟨#[116, 101, 120, 116]⟩ ⟨#[115, 116, 114]⟩ ⟨#[58, 32]⟩ ⟨#[113, 117, 105, 99, 46, 118, 97, 114, 105, 110, 116]⟩ ⟨#[47, 99, 108, 97, 105, 109, 47, 99, 117, 116, 46, 112, 121]⟩
theorem pw_eq : PySem.Challenge.pw_sj0117_01 = pwQ := pwSub.2.trans (congr (congr (congr (congr (congr (congr (congr (congr (congr (congr (congr (congr (congr (congr (congr (congr (congr (congr (congr (congr (congr (congr (congr (congr (congr (congr (congr (congr (congr (congr (congr (congr (congr (congr (congr (congr (congr (congr (congr (congr (congr (congr (congr (congr (congr (congr (congr (congr (congr (congr (congr (congr (congr (congr (congr (congr (congr (congr (congr (congr (congr (congr (congr (congr (congr (congr (congr (congr (congr (congr (congr (congr (congr (congr (congr (congr (congr (congr (congr (congr (congr (congr (congr (congr (congr (congr (congr (congr (congr (congr (congr (congr (congr (congr (congr (congr (congr (congr (congr (congr (congr (congr (congr (congr (congr (congr (congr (congr (congr (congr (congr (congr (congr (congr (congr (congr (congr (congr (congr (congr (congr (congr (congr (congr (congr (congr (congr (congr (congr (congr (congr (congr (congr (congr (congr (congr (congr (congr (congr (congr (congr (congr (congr (congr (congr (congr (congr (congr (congr (congr (Eq.refl pwSub.1) tx0) tx1) tx2) tx3) tx4) tx5) tx6) tx7) tx8) tx9) tx10) tx11) tx12) tx13) tx14) tx15) tx16) tx17) tx18) tx19) tx20) tx21) tx22) tx23) tx24) tx25) tx26) tx27) tx28) tx29) tx30) tx31) tx32) tx33) tx34) tx35) tx36) tx37) tx38) tx39) tx40) tx41) tx42) tx43) tx44) tx45) tx46) tx47) tx48) tx49) tx50) tx51) tx52) tx53) tx54) tx55) tx56) tx57) tx58) tx59) tx60) tx61) tx62) tx63) tx64) tx65) tx66) tx67) tx68) tx69) tx70) tx71) tx72) tx73) tx74) tx75) tx76) tx77) tx78) tx79) tx80) tx81) tx82) tx83) tx84) tx85) tx86) tx87) tx88) tx89) tx90) tx91) tx92) tx93) tx94) tx95) tx96) tx97) tx98) tx99) tx100) tx101) tx102) tx103) tx104) tx105) tx106) tx107) tx108) tx109) tx110) tx111) tx112) tx113) tx114) tx115) tx116) tx117) tx118) tx119) tx120) tx121) tx122) tx123) tx124) tx125) tx126) tx127) tx128) tx129) tx130) tx131) tx132) tx133) tx134) tx135) tx136) tx137) tx138) tx139) tx140) tx141) tx142) tx143) tx144) tx145) tx146) tx147) tx148) tx149)

theorem rw_eq : PySem.Challenge.rw_sj0117_01 = { prog := pwQ, name := ⟨#[108, 97, 119]⟩, about := [⟨#[67, 111, 110, 116, 114, 111, 108, 82, 117, 108, 101, 115]⟩, ⟨#[116, 97, 107, 101]⟩], foot := 9, most := some 63, bound := none, writes := false } := by
  unfold PySem.Challenge.rw_sj0117_01
  rw [pw_eq, show Str.ofString "law" = ⟨#[108, 97, 119]⟩ from by kernel_rfl, show Str.ofString "ControlRules" = ⟨#[67, 111, 110, 116, 114, 111, 108, 82, 117, 108, 101, 115]⟩ from by kernel_rfl, show Str.ofString "take" = ⟨#[116, 97, 107, 101]⟩ from by kernel_rfl]
theorem said : PySem.Challenge.rw_sj0117_01.wellSaid = true := by
  rw [rw_eq, PySem.W.Fast.te9446332074065402090]
  kernel_rfl

/-- the codes that may hold a bytearray -/
def decId (id : String) : Bool := Builtin.Bytes.decodersThatHold.contains id || ["bytearray.__contains__", "bytearray.__mod__", "bytearray.__rmod__", "_struct.pack_into.held", "bytearray.find.held"].contains id
def NoDec : Code → Prop
  | .builtin id _ => decId id = false
  | _ => True
def CleanB (Γ : Ctx) : Prop := ∀ x ∈ Γ.below, NoDec x.1
/-- as wpAny, of the contexts below which no code holds a bytearray -/
def wpN {α : Type} (M : Model) (A : Around) (t : Sem α) (Q : α → Shared → Prop) (E : Value → Shared → Prop) (s : Shared) : Prop :=
  ∀ Γ p, Γ.In A → NoDec Γ.code → CleanB Γ → Sem.wp M Γ t (fun a _ s' => Q a s') (fun e _ s' => E e s') p s
def codeN (M : Model) (A : Around) (c : Code) (R : Result → Shared → Prop) (s : Shared) : Prop :=
  ∀ Γ p, Γ.code = c → Γ.Below A → CleanB Γ → wpCode M Γ R p s
theorem decId_ne {id : String} (h : decId id = false) : Builtin.Bytes.decodersThatHold.contains id = false ∧ id ≠ "bytearray.__contains__" ∧ id ≠ "bytearray.__mod__" ∧ id ≠ "bytearray.__rmod__" ∧ id ≠ "_struct.pack_into.held" ∧ id ≠ "bytearray.find.held" := by
  obtain ⟨h1, h2⟩ := Bool.or_eq_false_iff.mp h
  have key : ∀ x ∈ ["bytearray.__contains__", "bytearray.__mod__", "bytearray.__rmod__", "_struct.pack_into.held", "bytearray.find.held"], id ≠ x := fun x hx e => by
    have z := List.contains_iff_mem.mpr (e ▸ hx)
    rw [h2] at z
    cases z
  exact ⟨h1, key _ (.head _), key _ (.tail _ (.head _)), key _ (.tail _ (.tail _ (.head _))), key _ (.tail _ (.tail _ (.tail _ (.head _)))), key _ (.tail _ (.tail _ (.tail _ (.tail _ (.head _)))))⟩
section
variable {α β : Type} {M : Model} {A : Around} {E : Value → Shared → Prop} {s : Shared}
theorem wpN_any {t : Sem α} {Q : α → Shared → Prop} (h : wpAny M A t Q E s) : wpN M A t Q E s := fun Γ p h1 _ _ => h Γ p h1
theorem wpN_pure {a : α} {Q : α → Shared → Prop} (h : Q a s) : wpN M A (pure a) Q E s := fun _ _ _ _ _ => h
theorem wpN_mono {t : Sem α} {Q Q' : α → Shared → Prop} {E' : Value → Shared → Prop} (h : wpN M A t Q E s) (hQ : ∀ a s, Q a s → Q' a s) (hE : ∀ e s, E e s → E' e s) : wpN M A t Q' E' s :=
  fun Γ p h1 h2 h3 => Sem.wp_mono M Γ t (fun a _ s => hQ a s) (fun e _ s => hE e s) p s (h Γ p h1 h2 h3)
theorem wpN_bind {m : Sem α} {f : α → Sem β} {Q : β → Shared → Prop} (h : wpN M A m (fun a s' => wpN M A (f a) Q E s') E s) : wpN M A (m >>= f) Q E s := fun Γ p h1 h2 h3 => by
  rw [Sem.wp_bind']
  exact Sem.wp_mono M Γ m (fun a p' s' h' => h' Γ p' h1 h2 h3) (fun _ _ _ h' => h') p s (h Γ p h1 h2 h3)
theorem wpN_holding {vs : List Value} {m : Sem α} {Q : α → Shared → Prop} (h : wpN M A m Q E s) : wpN M A (holding vs m) Q E s :=
  fun Γ p h1 h2 h3 => by rw [Sem.wp_holding]; exact h Γ p h1 h2 h3
/-- what raises nothing -/
theorem wpN_onRaise {m : Sem α} {k : Value → Sem Unit} {Q : α → Shared → Prop} (h : wpN M A m Q (fun _ _ => False) s) : wpN M A (m.onRaise k) Q E s := fun Γ p h1 h2 h3 => by
  rw [Sem.wp_onRaise]
  exact Sem.wp_mono M Γ m (fun _ _ _ h' => h') (fun _ _ _ h' => h'.elim) p s (h Γ p h1 h2 h3)
theorem wpN_runValue {c : Code} {Q : Value → Shared → Prop} (hc : codeN M A c (fun r s' => match r with | .ok (.ret v) => Q v s' | .ok _ => False | .error e => E e s') s) : wpN M A (runValue c) Q E s := fun Γ p h1 h2 h3 => by
  rw [Sem.wp_runValue]
  exact hc _ p rfl (h1.enter c none p (by intro x; cases x)) (fun x hx => (List.mem_cons.mp hx).elim (fun e => by rw [e]; exact h2) (h3 x))
theorem wpN_call {f : Value} {pos : List Value} {kw : List (Str × Value)} {Q : Value → Shared → Prop} (hc : codeN M A (.call f ⟨pos, kw⟩) (fun r s' => match r with | .ok (.ret v) => Q v s' | .ok _ => False | .error e => E e s') s) :
    wpN M A (call f pos kw) Q E s := wpN_runValue hc
theorem codeN_any {c : Code} {R : Result → Shared → Prop} (h : codeAny M A c R s) : codeN M A c R s := fun Γ p h1 h2 _ => h Γ p h1 h2
theorem codeN_mono {c : Code} {R R' : Result → Shared → Prop} (h : codeN M A c R s) (hR : ∀ r s, R r s → R' r s) : codeN M A c R' s := fun Γ p h1 h2 h3 => by
  obtain ⟨r, s', h4, h5⟩ := h Γ p h1 h2 h3
  exact ⟨r, s', h4, hR _ _ h5⟩
theorem codeN_tree {c : Code} {R : Result → Shared → Prop} (hc : NoDec c)
    (h : wpN M (A.under c) (M.den c) (fun fin s' => match fin with | .done f => R (.ok f) s' | .again c' => c'.quiet = true ∧ codeN M A c' R s') (fun e s' => R (.error e) s') s) : codeN M A c R s := fun Γ p h1 h2 h3 => by
  rw [wpCode_iff_wp, h1]
  refine Sem.wp_mono M Γ _ (fun fin p' s' h' => ?_) (fun _ _ _ h' => h') p s (h Γ p (h1 ▸ h2.in) (h1 ▸ hc) h3)
  cases fin with
  | done f => exact h'
  | again c' => exact ⟨h'.1, h'.2 (Γ.goto c') p' rfl (h2.goto c') h3⟩
theorem wpN_run {c : Code} {env : Env} {Q : Flow → Shared → Prop} (hc : codeN M A c (fun r s' => match r with | .ok f => Q f s' | .error _ => False) s) : wpN M A (runOwn c env) Q E s := by
  unfold runOwn
  refine wpN_onRaise fun Γ p h1 h2 h3 => ?_
  rw [Sem.wp_run]
  have z := hc (Γ.enter c none p) p rfl (h1.enter c none p (by intro x; cases x)) (fun x hx => (List.mem_cons.mp hx).elim (fun e => by rw [e]; exact h2) (h3 x))
  obtain ⟨r, s', h4, h5⟩ := z
  refine ⟨r, s', h4, ?_⟩
  cases r with
  | ok f => exact h5
  | error e => exact h5.elim
theorem wpN_exported {v : Value} {Q : Bool → Shared → Prop} (h : Q false s) : wpN M A (Builtin.Bytes.exported v) Q E s := fun Γ p h1 h2 h3 => by
  unfold Builtin.Bytes.exported
  show Q (List.any ((Γ.code, p) :: Γ.below) _) s
  rw [List.any_eq_false.mpr ?_]
  · exact h
  · intro x hx
    have hn : NoDec x.1 := (List.mem_cons.mp hx).elim (fun e => by rw [e]; exact h2) (h3 x)
    obtain ⟨c, q⟩ := x
    cases c with
    | builtin id a =>
      obtain ⟨k0, k1, k2, k3, k4, k5⟩ := decId_ne hn
      delta Builtin.Bytes.exported.match_1
      refine ne_true_of_eq_false ((dif_neg k1).trans ((dif_neg k2).trans ((dif_neg k3).trans ((dif_neg k4).trans ((dif_neg k5).trans ?_)))))
      obtain ⟨vs, kw⟩ := a
      cases vs with
      | nil => rfl
      | cons x r =>
        show (_ && Builtin.Bytes.decodersThatHold.contains id) = false
        rw [k0, Bool.and_false]
    | _ => exact Bool.false_ne_true
end

/-- no code of the stack holds a bytearray -/
def cleanSt (st : List (Code × Pos)) : Bool := st.all fun x => match x.1 with | .builtin id _ => !decId id | _ => true
/-- a run where the stack is clean, a ready answer where it is not -/
def onClean {α : Type} (t : Sem α) (d : α) : Sem α := .stack fun st => if cleanSt st = true then t else .pure d
theorem cleanSt_of {Γ : Ctx} {p : Pos} (h1 : NoDec Γ.code) (h2 : CleanB Γ) : cleanSt ((Γ.code, p) :: Γ.below) = true := by
  refine List.all_eq_true.mpr fun x hx => ?_
  have hn : NoDec x.1 := (List.mem_cons.mp hx).elim (fun e => by rw [e]; exact h1) (h2 x)
  obtain ⟨c, q⟩ := x
  cases c <;> first | rfl | (simp only [NoDec] at hn; simp [hn])
theorem of_cleanSt {Γ : Ctx} {p : Pos} (h : cleanSt ((Γ.code, p) :: Γ.below) = true) : NoDec Γ.code ∧ CleanB Γ := by
  have key : ∀ x ∈ (Γ.code, p) :: Γ.below, NoDec x.1 := fun x hx => by
    have := List.all_eq_true.mp h x hx
    obtain ⟨c, q⟩ := x
    cases c <;> first | trivial | (simp only [NoDec]; simpa using this)
  exact ⟨key _ (.head _), fun x hx => key x (.tail _ hx)⟩
section
variable {α : Type} {M : Model} {A : Around} {E : Value → Shared → Prop} {s : Shared}
theorem onClean_wp {Γ : Ctx} {t : Sem α} {d : α} {Q : α → Pos → Shared → Prop} {E : Value → Pos → Shared → Prop} {p : Pos} : Sem.wp M Γ (onClean t d) Q E p s ↔ (if cleanSt ((Γ.code, p) :: Γ.below) = true then Sem.wp M Γ t Q E p s else Q d p s) := by
  show Sem.wp M Γ (if cleanSt ((Γ.code, p) :: Γ.below) = true then t else .pure d) Q E p s ↔ _
  split
  · exact Iff.rfl
  · exact Iff.rfl
theorem onClean_any {t : Sem α} {d : α} {Q : α → Shared → Prop} (h : wpN M A t Q E s) (hd : Q d s) : wpAny M A (onClean t d) Q E s := fun Γ p h1 => by
  refine onClean_wp.mpr ?_
  by_cases hc : cleanSt ((Γ.code, p) :: Γ.below) = true
  · rw [if_pos hc]; exact h Γ p h1 (of_cleanSt hc).1 (of_cleanSt hc).2
  · rw [if_neg hc]; exact hd
theorem onClean_n {t : Sem α} {d : α} {Q : α → Shared → Prop} (h : wpAny M A (onClean t d) Q E s) : wpN M A t Q E s := fun Γ p h1 h2 h3 => by
  have z := onClean_wp.mp (h Γ p h1)
  rw [if_pos (cleanSt_of h2 h3)] at z
  exact z
end
/-- the caller's tree behind a look at the stack: one step more -/
theorem onClean_sched {prog : Program} {w : World} {s s' : Shared} {t : Sem PySem.Fin} {d : PySem.Fin} {n : Nat} {o : Outcome} (hz : s.asleep)
    (h : schedN (denote table) prog w n (.single s ⟨onClean t d, .builtin "claim.caller" {}, default, []⟩) = .halted o s') :
    ∃ m, schedN (denote table) prog w m (.single s ⟨t, .builtin "claim.caller" {}, default, []⟩) = .halted o s' := by
  cases n with
  | zero => cases h
  | succ n =>
    refine ⟨n, ?_⟩
    have st : step (denote table) prog w s ⟨onClean t d, .builtin "claim.caller" {}, default, []⟩ = .go s ⟨t, .builtin "claim.caller" {}, default, []⟩ := by
      obtain ⟨hp, g, dr, tk, os⟩ := s
      have z : cleanSt ((Code.builtin "claim.caller" {}, (default : Pos)) :: List.map Frame.where_ []) = true := by decide +kernel
      show Step.go _ { cur := if cleanSt ((Code.builtin "claim.caller" {}, (default : Pos)) :: List.map Frame.where_ []) = true then t else Sem.pure d, code := _, pos := _, stack := _ } = _
      rw [if_pos z]
    have e : sstep (denote table) prog w (.single s ⟨onClean t d, .builtin "claim.caller" {}, default, []⟩) = .go (.single s ⟨t, .builtin "claim.caller" {}, default, []⟩) := by
      rcases sstep_single (den := denote table) (prog := prog) (w := w) s ⟨onClean t d, .builtin "claim.caller" {}, default, []⟩ (by rfl) hz with e | e
      · rw [e, st]; rfl
      · rw [st] at e; cases e
    simp only [schedN, e] at h
    exact h

/-- the caller's tree -/
abbrev callTree (name : Str) (vs : List Value) : Sem PySem.Fin := do
  match ← nsGet mainNs name with
  | some f => do ret (← call f vs)
  | none => unsupported "claim.caller:no-such-global"

theorem ex2 {α β : Type} {A B : α → Prop} {C D E F G G' : α → β → Prop} (h : ∃ a, A a ∧ B a ∧ ∃ b, C a b ∧ D a b ∧ E a b ∧ F a b ∧ G a b) (k : ∀ a b, A a → C a b → G a b → G' a b) : ∃ a, A a ∧ B a ∧ ∃ b, C a b ∧ D a b ∧ E a b ∧ F a b ∧ G' a b :=
  let ⟨a, x, y, b, c, d, e, f, g⟩ := h
  ⟨a, x, y, b, c, d, e, f, k a b x c g⟩
/-- the head, where the walk is asked of clean contexts alone (the library's head asks it of all), and the top's own look is left to be shown -/
theorem holdsClean {r : OpenRow} {q : Program} {loose : List Str} {Xt : Shared → Bool} {XP : (Str → Option Value) → Heap → Prop} {α : Type} {Yf : Shared → α} {Ya : World → α} {YP : World → Heap → Prop} {d : DefRec} {kwd : List (Str × Expr)} {N : Nat}
    (hY : ∀ w s, Yf s = Ya w → YP w s.heap) (hYk : ∀ w h h', YP w h → (∀ b o, h.get? b = some o → h'.get? b = some o) → YP w h')
    (hX : ∀ s, Xt s = true → XP (s.heap.nsMap mainGlobals) s.heap) (hXk : ∀ mg h h', XP mg h → (∀ b o, h.get? b = some o → h'.get? b = some o) → XP mg h')
    (hdef : defOf q r.name = some (d, kwd)) (hp : r.prog.theDef r.name = some (d.params, d.body, d.scope)) (hk : kwWritten? d.params.kwonlyargs d.params.kw_defaults = some kwd) (hRf : ∀ s, Xt s = true → RecFacts r.records s.heap) (hwr : (!r.writes || r.records.isEmpty) = true)
    (k1 : r.wellSaid = true) (ok : (chainsOk q && opensWell r.prog && (frees r.toRowW && r.within.isEmpty)) = true) (hb : r.prog.bare) (hw : r.toRowW.promised)
    (hc : LeftO r.prog q loose Xt Yf Ya N ∧ WalkO q loose XP YP r.toRowW d kwd fun f vs => onClean (call f vs) (.bool true)) : r.Holds := by
  obtain ⟨left, walk⟩ := hc
  have H : r.toRowW.claim.HoldsOpenBy (fun vs => ⟨onClean (callTree r.name vs) (.done (.ret (.bool true))), .builtin "claim.caller" {}, default, []⟩) (if r.pinned then [r.name] else []) r.keeps r.writes := by
    refine open_anyG (r := r.toRowW) (run := fun f vs => onClean (call f vs) (.bool true)) (tree := fun vs => onClean (callTree r.name vs) (.done (.ret (.bool true)))) left hY hYk hX hXk hRf hwr ok hb hw ?_ ?_ ?_
    · intro vs w s mg f Q E hg hf h
      intro Γ p hΓ
      have z := onClean_wp.mp (h Γ p hΓ)
      refine onClean_wp.mpr ?_
      by_cases hc : cleanSt ((Γ.code, p) :: Γ.below) = true
      · rw [if_pos hc]
        have key : wpN (model r.prog w) callerA (callTree r.name vs) Q E s := by
          refine wpN_bind (wpN_any (wpAny_nsGet hg ?_))
          rw [hf]
          exact wpN_bind (wpN_mono (onClean_n h) (fun v s' g => wpN_pure g) fun _ _ g => g)
        exact key Γ p hΓ (of_cleanSt hc).1 (of_cleanSt hc).2
      · rw [if_neg hc] at z ⊢
        exact z
    · intro w s hg G n hn
      have e : n = r.name := by
        by_cases hpn : r.pinned = true
        · rw [if_pos hpn] at hn; exact List.mem_singleton.mp hn
        · rw [if_neg hpn] at hn; exact absurd hn List.not_mem_nil
      rw [e]
      exact pinned_of_view hg G hdef hp hk
    · intro w s₀ s₁ mg mb G Y args vs as hpre hlay L low
      obtain ⟨a, o, pm, cd, doc, dV, kV, g1, g2, g3, g4, g5⟩ := G.fn hdef
      have hn := defOf_name hdef
      exact ⟨.ref a, g1, walk w s₀ s₁ mg mb G Y a o pm cd doc dV kV g2 g3 g4 g5 (hn ▸ g1) L.gens args vs as hpre hlay L.reads L.well (L.low low)⟩
  refine ⟨k1, hw, H.1, H.2.1, fun w => ⟨(H.2.2 w).1, fun s hs => ?_⟩⟩
  have hs' : AfterImport (opening r.prog) w s := hs
  refine ex2 ((H.2.2 w).2 s hs) fun s₀ s₁ hf hT hcall args h1 h2 ord h3 => ?_
  obtain ⟨vs, s₂, hl, n, o, s', hr, more⟩ := hcall args h1 h2 ord h3
  have z0 : s₀.asleep := Shared.asleep_of_life (fence_lifeW hf) hs'.life
  have z1 : s₁.asleep := Shared.asleep_of_life hT.2.1 z0
  have z2 : s₂.asleep := Shared.asleep_of_life (layAllW_rest _ _ _ hl).2.2.2 z1
  obtain ⟨m, hm⟩ := onClean_sched z2 hr
  exact ⟨vs, s₂, hl, m, o, s', hm, more⟩

section
/- the head's own lines: the look at the law is `said`; the library's head gives place to holdsClean -/
local macro_rules | `(tactic| o_law) => `(tactic| refine holds_law said fun q => ?_)
local macro_rules | `(tactic| refine $_:ident (q := $q) $as*) => do
  unless as.size == 22 do Lean.Macro.throwUnsupported
  `(tactic| refine holdsClean (q := $q) $(as.eraseIdx! 7)*)
set_option maxHeartbeats 8000000 in
open_top hd for PySem.Challenge.rw_sj0117_01
end

example : PySem.Challenge.rw_sj0117_01.foot = PySem.Challenge.rw_sj0117_01.foot ∧ hd.heap_1 = hd.heap_1 := by k_fill; exact ⟨rfl, rfl⟩
section
section
variable {prog : Program} {w : World} {A : Around} {s : Shared} {H : Heap} {L : Addr} {m : Str → Option Value} {news : List (Addr × Obj)} {K : Frag} {p : Program} {loose : List Str} {mean : ExcName → Option Value} {mg mb : Str → Option Value}
  {R : Result → Shared → Prop} {name qual : Str} {params : Arguments} {body : List Stmt} {scope : Scope} {dV kV doc pm cdv ct oc : Value} {an od : Option Addr} {osl : Array (Option Value)} {f : Addr} {args : Args} {binds : List (Str × Value)}

/-- the caller's frame, laid by: it names the same map whatever its slots -/
structure Caller (H : Heap) (L : Addr) (m : Str → Option Value) (oL : Obj) : Prop where
  ns : ∀ (h : Heap) sl, h.get? L = some { oL with slots := sl } → h.Ns L m
  dict : ∀ vs, oL.data ≠ .fields vs
  above : H.objs.size ≤ L

theorem enter (X : K.In H) (T : Top p loose mean mg mb H) (F : Fr H L s.heap m) (N : News H L s.heap news)
    (ho : K.lookup f = some ⟨oc, od, .func (fnOf name qual params body scope dV kV doc pm an cdv ct), osl⟩) (hcd : codeIn K cdv qual = true) (hroom : A.depth < recursionLimit)
    (hbind : BindsTo s (fnOf name qual params body scope dV kV doc pm an cdv ct) args binds) (hloc : ∀ y ∈ binds, scope.names.lookup y.1 = some .local)
    (h : ∀ oL L' h₁, Caller H L m oL → Fr H L' h₁ (fun y => binds.reverse.lookup y) → News H L' h₁ ((L, oL) :: news) → L < L' → (∀ q ∈ news, q.1 < L') → (∀ q ∈ news, q.1 ≠ L) →
      wpAny (model prog w) (A.deeper (envOf qual scope L' f cdv)) (execs body (envOf qual scope L' f cdv))
        (fun fl s' => R (.ok (.ret (match fl with | .ret v => v | _ => .none))) s')
        (fun e s' => wpAny (model prog w) (A.deeper (envOf qual scope L' f cdv)) (leaving (envOf qual scope L' f cdv) e) (fun _ s'' => R (.error e) s'') (fun e' s'' => R (.error e') s'') s')
        { s with heap := h₁, toks := s.toks + binds.length })
    (hco : scope.isCoroutine = false) (hgen : scope.isGenerator = false) (hk : scope.kind = .function)
    (hcell : ∀ x ∈ scope.names, x.2 ≠ .cell) : codeAny (model prog w) A (.call (.ref f) args) R s := by
  have X' := X.keeps F.keep
  refine codeAny_call_def (fd := fnOf name qual params body scope dV kV doc pm an cdv ct) (body := body) (binds := binds) hroom (X' _ _ ho) rfl (T.nolimit.keeps F.keep) (codeRec_of X' hcd) rfl hbind hcell hloc (fun h₁ hns hk₁ => ?_) hco hgen hk
  obtain ⟨oL, es, ep, hL, hLd, hLk, hLf⟩ := F.ns
  have hLt := Heap.lt_size hL
  refine h oL s.heap.objs.size h₁ ⟨fun h' sl e => ⟨_, es, ep, e, hLd, hLk, hLf⟩, fun vs q => (by rw [hLd] at q; exact (nomatch q)), F.above⟩
    ⟨hns, fun b o e => hk₁ b o (F.keep b o e), Nat.le_trans F.above (Nat.le_of_lt hLt)⟩ (fun q hq => ?_) hLt (fun q hq => Heap.lt_size (N q hq).1) (fun q hq => (N q hq).2.1)
  rcases List.mem_cons.mp hq with rfl | hq
  · exact ⟨hk₁ _ _ hL, Nat.ne_of_lt hLt, Heap.get?_none_of_le F.above⟩
  · exact ⟨hk₁ _ _ (N q hq).1, Nat.ne_of_lt (Heap.lt_size (N q hq).1), (N q hq).2.2⟩

/-- back in the caller's frame -/
theorem Caller.back {oL : Obj} {h : Heap} {L' : Addr} {m' : Str → Option Value} {news' : List (Addr × Obj)} (C : Caller H L m oL) (F' : Fr H L' h m') (N' : News H L' h ((L, oL) :: news')) (hne : ∀ q ∈ news', q.1 ≠ L) :
    Fr H L h m ∧ News H L h news' :=
  ⟨⟨C.ns h oL.slots (N' _ List.mem_cons_self).1, F'.keep, C.above⟩, fun q hq => ⟨(N' q (.tail _ hq)).1, hne q hq, (N' q (.tail _ hq)).2.2⟩⟩
end

section
variable {prog : Program} {w : World} {A : Around} {s : Shared} {H : Heap} {L : Addr} {m : Str → Option Value} {tgt rest : List (Addr × Obj)} {K : Frag} {p : Program} {loose : List Str} {mean : ExcName → Option Value} {mg mb : Str → Option Value}
  {R : Result → Shared → Prop} {name qual : Str} {params : Arguments} {body : List Stmt} {scope : Scope} {dV kV doc pm cdv ct oc : Value} {an od : Option Addr} {osl : Array (Option Value)} {f : Addr} {args : Args} {binds : List (Str × Value)}

theorem newsSub {H : Heap} {L : Addr} {h : Heap} {a b : List (Addr × Obj)} (N : News H L h a) (hs : ∀ q ∈ b, q ∈ a) : News H L h b := fun q hq => N q (hs q hq)
theorem sub_all {α : Type} {a : List α} : ∀ q ∈ a, q ∈ a := fun _ h => h
theorem sub_nil {α : Type} {a : List α} : ∀ q ∈ ([] : List α), q ∈ a := fun _ h => nomatch h
theorem sub_keep {α : Type} {x : α} {a b : List α} (h : ∀ q ∈ a, q ∈ b) : ∀ q ∈ x :: a, q ∈ x :: b := fun q hq => (List.mem_cons.mp hq).elim (fun e => e ▸ List.mem_cons_self) fun hq => .tail _ (h q hq)
theorem sub_skip {α : Type} {x : α} {a b : List α} (h : ∀ q ∈ a, q ∈ b) : ∀ q ∈ a, q ∈ x :: b := fun q hq => .tail _ (h q hq)
theorem sub_mem {α : Type} {x : α} {a b : List α} (h1 : x ∈ b) (h : ∀ q ∈ a, q ∈ b) : ∀ q ∈ x :: a, q ∈ b := fun q hq => (List.mem_cons.mp hq).elim (fun e => e ▸ h1) fun hq => h q hq

/-- what the callee's base is to the caller's ground -/
structure Ground' (H H' : Heap) (L : Addr) (m : Str → Option Value) (rest : List (Addr × Obj)) : Prop where
  stays : H.StaysIn H'
  frame : ∃ oL, H'.get? L = some oL ∧ ∀ h : Heap, h.get? L = some oL → h.Ns L m
  above : H.objs.size ≤ L
  rest : ∀ q ∈ rest, H'.get? q.1 = some q.2 ∧ q.1 ≠ L ∧ H.get? q.1 = none

theorem Ground'.back {H' h' : Heap} {L' : Addr} {m' : Str → Option Value} {led : List (Addr × Obj)} (C : Ground' H H' L m rest) (F' : Fr H' L' h' m') (N' : News H' L' h' led) :
    Fr H L h' m ∧ News H L h' (led ++ rest) ∧ ∀ q ∈ led, ∀ r ∈ rest, r.1 ≠ q.1 := by
  obtain ⟨oL, hL, hns⟩ := C.frame
  refine ⟨⟨hns h' (F'.keep _ _ hL), fun b o e => F'.keep _ _ (C.stays b o e), C.above⟩, fun q hq => ?_, fun q hq r hr e => by
    have z := (N' q hq).2.2; rw [← e, (C.rest r hr).1] at z; cases z⟩
  rcases List.mem_append.mp hq with hq | hq
  · refine ⟨(N' q hq).1, fun e => ?_, ?_⟩
    · have := (N' q hq).2.2; rw [e, hL] at this; cases this
    · cases z : H.get? q.1 with
      | none => rfl
      | some o => have := (N' q hq).2.2; rw [C.stays _ _ z] at this; cases this
  · exact ⟨F'.keep _ _ (C.rest q hq).1, (C.rest q hq).2.1, (C.rest q hq).2.2⟩

theorem Ground'.use {H' h' : Heap} {L' : Addr} {m' : Str → Option Value} {led : List (Addr × Obj)} {P : Prop} (C : Ground' H H' L m rest) (F' : Fr H' L' h' m') (N' : News H' L' h' led) (k : Fr H L h' m → News H L h' (led ++ rest) → (∀ q ∈ led, ∀ r ∈ rest, r.1 ≠ q.1) → P) : P := k (C.back F' N').1 (C.back F' N').2.1 (C.back F' N').2.2
/-- into a def that catches nothing: all but the few objects that it may turn is its base -/
theorem enterQ (X : K.In H) (T : Top p loose mean mg mb H) (F : Fr H L s.heap m) (N : News H L s.heap (tgt ++ rest)) (hsep : ∀ q ∈ tgt, ∀ r ∈ rest, r.1 ≠ q.1)
    (ho : K.lookup f = some ⟨oc, od, .func (fnOf name qual params body scope dV kV doc pm an cdv ct), osl⟩) (hcd : codeIn K cdv qual = true) (hroom : A.depth < recursionLimit)
    (hbind : BindsTo s (fnOf name qual params body scope dV kV doc pm an cdv ct) args binds) (hloc : ∀ y ∈ binds, scope.names.lookup y.1 = some .local)
    (h : ∀ H' L' h₁, K.In H' → Top p loose mean mg mb H' → Ground' H H' L m rest → (∀ b o, s.heap.get? b = some o → (∀ q ∈ tgt, b ≠ q.1) → H'.get? b = some o) → Fr H' L' h₁ (fun y => binds.reverse.lookup y) → News H' L' h₁ tgt → L < L' → (∀ q ∈ tgt, q.1 < L') → (∀ q ∈ rest, q.1 < L') →
      wpAny (model prog w) (A.deeper (envOf qual scope L' f cdv)) (execs body (envOf qual scope L' f cdv))
        (fun fl s' => R (.ok (.ret (match fl with | .ret v => v | _ => .none))) s')
        (fun e s' => wpAny (model prog w) (A.deeper (envOf qual scope L' f cdv)) (leaving (envOf qual scope L' f cdv) e) (fun _ s'' => R (.error e) s'') (fun e' s'' => R (.error e') s'') s')
        { s with heap := h₁, toks := s.toks + binds.length })
    (hco : scope.isCoroutine = false) (hgen : scope.isGenerator = false) (hk : scope.kind = .function)
    (hcell : ∀ x ∈ scope.names, x.2 ≠ .cell) : codeAny (model prog w) A (.call (.ref f) args) R s := by
  have X' := X.keeps F.keep
  refine codeAny_call_def (fd := fnOf name qual params body scope dV kV doc pm an cdv ct) (body := body) (binds := binds) hroom (X' _ _ ho) rfl (T.nolimit.keeps F.keep) (codeRec_of X' hcd) rfl hbind hcell hloc (fun h₁ hns hk₁ => ?_) hco hgen hk
  obtain ⟨oL, es, ep, hL, hLd, hLk, hLf⟩ := F.ns
  have hLt := Heap.lt_size hL
  have hnm : ∀ b, (∀ q ∈ tgt, b ≠ q.1) → b ∉ tgt.map Prod.fst := fun b hb q => by
    obtain ⟨x, hx, e⟩ := List.mem_map.mp q
    exact hb x hx e.symm
  have st : H.StaysIn (hideAll s.heap (tgt.map Prod.fst)) := fun b o e => hideAll_get _ (F.keep b o e) (hnm b fun q hq z => by
    have := (N q (List.mem_append_left _ hq)).2.2; rw [← z, e] at this; cases this)
  have hLg := hideAll_get (tgt.map Prod.fst) hL (hnm L fun q hq z => (N q (List.mem_append_left _ hq)).2.1 z.symm)
  refine h (hideAll s.heap (tgt.map Prod.fst)) s.heap.objs.size h₁ (X.keeps st) (T.keeps st)
    ⟨st, ⟨oL, hLg, fun h' e => ⟨_, es, ep, e, hLd, hLk, hLf⟩⟩, F.above, fun q hq => ⟨hideAll_get _ (N q (List.mem_append_right _ hq)).1 (hnm _ fun x hx => hsep x hx q hq), (N q (List.mem_append_right _ hq)).2.1, (N q (List.mem_append_right _ hq)).2.2⟩⟩
    (fun b o e hb => hideAll_get _ e (hnm b hb)) ⟨hns, fun b o e => hk₁ b o (of_hideAll _ e), Nat.le_of_eq (hideAll_size _ _)⟩
    (fun q hq => ⟨hk₁ _ _ (N q (List.mem_append_left _ hq)).1, Nat.ne_of_lt (Heap.lt_size (N q (List.mem_append_left _ hq)).1), hideAll_none _ (List.mem_map_of_mem hq)⟩)
    hLt (fun q hq => Heap.lt_size (N q (List.mem_append_left _ hq)).1) (fun q hq => Heap.lt_size (N q (List.mem_append_right _ hq)).1)
end

/-- an around that asks for more room than another -/
theorem wp_in {α : Type} {M : Model} {A A' : Around} {t : Sem α} {Q : α → Shared → Prop} {E : Value → Shared → Prop} {s : Shared} (h : wpAny M A t Q E s)
    (hh : A'.handled = A.handled) (hd : A'.depth ≤ A.depth) (hf : ∀ l, A.frames = some l → A'.frames = some l) (hg : ∀ g, A.guards = some g → A'.guards = some g) (hu : A'.units ≤ A.units) : wpAny M A' t Q E s :=
  fun Γ p hΓ => h Γ p ⟨hΓ.1.trans hh, Nat.le_trans hΓ.2.1 hd, fun l q => hΓ.2.2.1 l (hf l q), fun g q => hΓ.2.2.2.1 g (hg g q), Nat.le_trans hΓ.2.2.2.2 hu⟩

/-- an around that says nothing of the frames -/
abbrev AA (k : Nat) : Around := { handled := none, depth := k + 300, frames := none, guards := none, units := 4 * k }

/-- addresses apart, as a word over a written ledger -/
def AllNe (d : Addr) : List (Addr × Obj) → Prop
  | [] => True
  | q :: r => @Ne Nat q.1 d ∧ AllNe d r
theorem allNe_of {d : Addr} : ∀ {l : List (Addr × Obj)}, (∀ q ∈ l, q.1 ≠ d) → AllNe d l
  | [], _ => trivial
  | q :: _, h => ⟨h q (.head _), allNe_of fun y hy => h y (.tail _ hy)⟩
theorem of_allNe {d : Addr} {l : List (Addr × Obj)} (h : AllNe d l) : ∀ q ∈ l, q.1 ≠ d := by
  induction l with
  | nil => intro q hq; cases hq
  | cons a r ih =>
    intro q hq
    rcases List.mem_cons.mp hq with e | hq
    · rw [e]; exact h.1
    · exact ih h.2 q hq
/-- a contract, used where the room is less -/
def Fits (A' : Around) (k : Nat) : Prop := A'.handled = none ∧ A'.depth ≤ k + 300 ∧ A'.units ≤ 4 * k
theorem wp_at {α : Type} {M : Model} {A' : Around} {k : Nat} {t : Sem α} {Q : α → Shared → Prop} {E : Value → Shared → Prop} {s : Shared} (h : wpAny M (AA k) t Q E s) (f : Fits A' k) : wpAny M A' t Q E s :=
  wp_in h f.1 f.2.1 (fun _ q => nomatch q) (fun _ q => nomatch q) f.2.2
/-- what follows a statement, as one name -/
def Cut (M : Model) (A : Around) (E : Value → Shared → Prop) (env : Env) (Q : Flow → Shared → Prop) (rest : List Stmt) (J : Flow → Shared → Prop) : Prop := ∀ f s, (match f with | .next => wpAny M A (execs rest env) Q E s | f => Q f s) → J f s
section
variable {M : Model} {A : Around} {E : Value → Shared → Prop} {env : Env} {Q J : Flow → Shared → Prop} {s : Shared} {st : Stmt} {rest : List Stmt}
theorem Cut.next (h : Cut M A E env Q rest J) (q : wpAny M A (execs rest env) Q E s) : J .next s := h .next s q
theorem Cut.ret {v : Value} (h : Cut M A E env Q rest J) (q : Q (.ret v) s) : J (.ret v) s := h (.ret v) s q
theorem execs_cut (h : ∀ J, Cut M A E env Q rest J → wpAny M A (exec st env) J E s) : wpAny M A (execs (st :: rest) env) Q E s :=
  wpAny_execs_cons (h _ fun _ _ q => q)
theorem execs_cutT {hp gn dr tk os} (h : ∀ tk' J, Cut M A E env Q rest J → wpAny M A (exec st env) J E ⟨hp, gn, dr, tk', os⟩) : wpAny M A (execs (st :: rest) env) Q E ⟨hp, gn, dr, tk, os⟩ :=
  wpAny_execs_cons (h tk _ fun _ _ q => q)
end
/-- here the walk stops -/
def Stop (p : Prop) : Prop := p
theorem stopT {α : Type} {M : Model} {A : Around} {t : Sem α} {P : α → Shared → Prop} {E : Value → Shared → Prop} {s : Shared} (h : wpAny M A t (fun v s' => Stop (P v s')) E s) : wpAny M A t P E s := h
theorem unstop {p : Prop} (h : p) : Stop p := h
theorem ofStop {p : Prop} (h : Stop p) : p := h
theorem sub_appL {α : Type} {a b : List α} : ∀ q ∈ a, q ∈ a ++ b := fun _ h => List.mem_append_left _ h
theorem sub_appR {α : Type} {a b c : List α} (h : ∀ q ∈ a, q ∈ c) : ∀ q ∈ a, q ∈ b ++ c := fun q hq => List.mem_append_right _ (h q hq)
theorem sub_app {α : Type} {a b c : List α} (h1 : ∀ q ∈ a, q ∈ c) (h2 : ∀ q ∈ b, q ∈ c) : ∀ q ∈ a ++ b, q ∈ c := fun q hq => (List.mem_append.mp hq).elim (h1 q) (h2 q)
/-- what follows a value, as one name -/
theorem int6 {f : Int} (h0 : 0 ≤ f) (h1 : f < 6) : f = 0 ∨ f = 1 ∨ f = 2 ∨ f = 3 ∨ f = 4 ∨ f = 5 := by
  obtain ⟨n, rfl⟩ := Int.eq_ofNat_of_zero_le h0
  have z : ∀ k : Fin 6, ((k.val : Int) = 0 ∨ (k.val : Int) = 1 ∨ (k.val : Int) = 2 ∨ (k.val : Int) = 3 ∨ (k.val : Int) = 4 ∨ (k.val : Int) = 5) := by decide
  exact z ⟨n, Int.ofNat_lt.mp h1⟩
section
variable {prog : Program} {w : World} {M : Model} {A : Around} {s s1 s2 : Shared} {h₀ : Heap} {L a : Addr} {m : Str → Option Value} {cn : Str} {cs : Scope} {ccd : Value} {cl : List (Str × Addr)} {x : Str} {pos p2 : Pos} {v u : Value} {k : Nat} {env : Env} {e e1 e2 : Expr} {op : CmpOp} {z : Bool}
/-- an expression's value, by one step -/
def Ev (M : Model) (A : Around) (env : Env) (e : Expr) (s : Shared) (v : Value) (s' : Shared) : Prop := ∀ (Q E : Value → Shared → Prop), Q v s' → wpAny M A (eval e env) Q E s
theorem Ev.loc (F : Fr h₀ L s.heap m) (hv : m x = some v) (hk : cs.kind = .function) (hx : (envX cn cs L a ccd cl).kindOf x = some .local) (hd : (x == ("__debug__" : Str)) = false) : Ev M A (envX cn cs L a ccd cl) (.Name x pos) s v s := fun _ _ h => nameX_L F hv h hk hx hd
theorem Ev.str {i : Str} {h : Heap} {g d o} {t : Nat} : Ev M A env (.Constant (.str i) k pos) (Shared.mk h g d t o) (.str i t) (Shared.mk h g d (t + 1) o) := fun _ _ h => Calls.Constant_str h
theorem cmpEv {whole} {Q : Bool → Shared → Prop} {E : Value → Shared → Prop} (l : Ev (model prog w) A env e1 s v s1) (r : Ev (model prog w) A env e2 s1 u s2) (c : ∀ Q E : Value → Shared → Prop, Q (.bool z) s2 → wpAny (model prog w) A (compareOp op v u) Q E s2) (h : Q z s2) (hm : behindInMarks op e2 = false) :
    wpAny (model prog w) A (isTrue (.Compare e1 [op] [e2] pos) env whole) Q E s :=
  wpAny_isTrue_Compare1 (l _ _ (r _ _ (c _ _ (wpAny_truthy_bool h)))) hm
end
/-! what follows a step, said by name: no binder stands between it and what it holds -/
section
variable (M : Model) (A : Around) (E : Value → Shared → Prop) (env : Env)
abbrev PBin2 (op : Operator) (a : Value) (Q : Value → Shared → Prop) (b : Value) (s : Shared) : Prop := wpAny M A (binaryOp op a b) Q E s
abbrev PBin (r : Expr) (op : Operator) (Q : Value → Shared → Prop) (a : Value) (s : Shared) : Prop := wpAny M A (eval r env) (PBin2 M A E op a Q) E s
abbrev PTru (Q : Bool → Shared → Prop) (c : Value) (s : Shared) : Prop := wpAny M A (truthy c) Q E s
abbrev PCmp2 (op : CmpOp) (a : Value) (Q : Bool → Shared → Prop) (b : Value) (s : Shared) : Prop := wpAny M A (compareOp op a b) (PTru M A E Q) E s
abbrev PCmp (r : Expr) (op : CmpOp) (Q : Bool → Shared → Prop) (a : Value) (s : Shared) : Prop := wpAny M A (eval r env) (PCmp2 M A E op a Q) E s
abbrev PSub2 (e i : Expr) (o : Value) (Q : Value → Shared → Prop) (v : Value) (s : Shared) : Prop := wpAny M A (subscriptTail e i o v) Q E s
abbrev PSub (e i : Expr) (Q : Value → Shared → Prop) (o : Value) (s : Shared) : Prop := wpAny M A (eval i env) (PSub2 M A E e i o Q) E s
abbrev PCall (pos : Pos) (args : List Expr) (Q : Value → Shared → Prop) (f : Value) (s : Shared) : Prop := wpAny M A (callWith pos f [] (backTo pos (starEach args env)) []) Q E s
abbrev PArg2 (v : Value) (Q : List Value → Shared → Prop) (vs : List Value) (s : Shared) : Prop := Q (v :: vs) s
abbrev PArg (pos : Pos) (rest : List Expr) (Q : List Value → Shared → Prop) (v : Value) (s : Shared) : Prop := wpAny M A (spliced (backTo pos (starEach rest env))) (PArg2 v Q) E s
abbrev PAtt (attr : Str) (Q : Value → Shared → Prop) (o : Value) (s : Shared) : Prop := wpAny M A (getAttr o attr true) Q E s
abbrev PTup (Q : Value → Shared → Prop) (vs : List Value) (s : Shared) : Prop := wpAny M A (newTuple vs) Q E s
abbrev PLst (Q : Value → Shared → Prop) (vs : List Value) (s : Shared) : Prop := wpAny M A (newList vs) Q E s
abbrev PCb (id : String) (Q : Value → Shared → Prop) (vs : List Value) (s : Shared) : Prop := wpAny M A (call (.builtin id) vs) Q E s
abbrev PExs (body : List Stmt) (Q : Flow → Shared → Prop) (s : Shared) : Prop := wpAny M A (execs body env) Q E s
abbrev PEv (e : Expr) (Q : Value → Shared → Prop) (s : Shared) : Prop := wpAny M A (eval e env) Q E s
abbrev PBoo (op : BoolOp) (rest : List Expr) (pos : Pos) (whole : Sem Value) (Q : Bool → Shared → Prop) (s : Shared) : Prop := wpAny M A (isTrue (.BoolOp op rest pos) env whole) Q E s
abbrev PAio (ts : List (Value → Sem Unit)) (xs : List Value) (Q : Unit → Shared → Prop) (_ : Unit) (s : Shared) : Prop := wpAny M A (assignInOrder ts xs) Q E s
abbrev PNext (Q : Flow → Shared → Prop) (_ : Unit) (s : Shared) : Prop := Q .next s
abbrev PSto (x : Str) (Q : Flow → Shared → Prop) (v : Value) (s : Shared) : Prop := wpAny M A (storeName env x v) (PNext Q) E s
abbrev PSetA2 (attr : Str) (v : Value) (Q : Flow → Shared → Prop) (o : Value) (s : Shared) : Prop := wpAny M A (setAttr o attr v) (PNext Q) E s
abbrev PSetA (o : Expr) (attr : Str) (Q : Flow → Shared → Prop) (v : Value) (s : Shared) : Prop := wpAny M A (eval o env) (PSetA2 M A E attr v Q) E s
end
def PIte (T F : Shared → Prop) (b : Bool) (s : Shared) : Prop := if b = true then T s else F s
section
variable {M : Model} {A : Around} {E : Value → Shared → Prop} {env : Env} {s : Shared}
theorem PIte.go {T F : Shared → Prop} {b : Bool} (h : if b = true then T s else F s) : PIte T F b s := h
theorem BinOpC {l op r pos} {Q : Value → Shared → Prop} (h : wpAny M A (eval l env) (PBin M A E env r op Q) E s) : wpAny M A (eval (.BinOp l op r pos) env) Q E s := wpAny_BinOp h
theorem CompareC {l op r pos whole} {Q : Bool → Shared → Prop} (h : wpAny M A (eval l env) (PCmp M A E env r op Q) E s) (hm : behindInMarks op r = false := by with_unfolding_all rfl) : wpAny M A (isTrue (.Compare l [op] [r] pos) env whole) Q E s := wpAny_isTrue_Compare1 h hm
theorem SubscriptC {e i pos} {Q : Value → Shared → Prop} (h : wpAny M A (eval e env) (PSub M A E env e i Q) E s) : wpAny M A (eval (.Subscript e i pos) env) Q E s := Subscript_ h
theorem CallC {func : Expr} {args : List Expr} {pos : Pos} {Q : Value → Shared → Prop} (h : wpAny M A (eval func env) (PCall M A E env pos args Q) E s)
    (he : eval (.Call func args [] pos) env = (do callWith pos (← eval func env) [] (backTo pos (starEach args env)) (backToKw pos (keywordEach [] env))) := by rfl) : wpAny M A (eval (.Call func args [] pos) env) Q E s := Call_ h he
theorem args_consC {e : Expr} {rest : List Expr} {pos : Pos} {Q : List Value → Shared → Prop} (h : wpAny M A (eval e env) (PArg M A E env pos rest Q) E s)
    (he : starEach (e :: rest) env = (false, eval e env) :: starEach rest env := by rfl) : wpAny M A (spliced (backTo pos (starEach (e :: rest) env))) Q E s := args_cons h he
theorem AttributeC {x attr : Str} {xp pos : Pos} {Q : Value → Shared → Prop} (h : wpAny M A (eval (.Name x xp) env) (PAtt M A E attr Q) E s) : wpAny M A (eval (.Attribute (.Name x xp) attr pos) env) Q E s := Attribute_Name_ h
theorem TupleC {elts : List Expr} {k : Nat} {pos : Pos} {Q : Value → Shared → Prop} (h : wpAny M A (spliced (backTo pos (starEach elts env))) (PTup M A E Q) E s) : wpAny M A (eval (.Tuple elts k pos) env) Q E s := Tuple_ h
theorem ListC {elts : List Expr} {pos : Pos} {Q : Value → Shared → Prop} (h : wpAny M A (spliced (backTo pos (starEach elts env))) (PLst M A E Q) E s) : wpAny M A (eval (.List elts pos) env) Q E s := List_ h
theorem IfC {test body orelse pos} {Q : Flow → Shared → Prop} (h : wpAny M A (isTrue test env (eval test env)) (PIte (PExs M A E env body Q) (PExs M A E env orelse Q)) E s) : wpAny M A (exec (.If test body orelse pos) env) Q E s := wpAny_If h
theorem IfExpC {test body orelse pos} {Q : Value → Shared → Prop} (h : wpAny M A (isTrue test env (eval test env)) (PIte (PEv M A E env body Q) (PEv M A E env orelse Q)) E s) : wpAny M A (eval (.IfExp test body orelse pos) env) Q E s := IfExp_ h
theorem andC {x rest pos whole} {Q : Bool → Shared → Prop} (h : wpAny M A (isTrue x env (eval x env)) (PIte (PBoo M A E env .And rest pos whole Q) (Q false)) E s) : wpAny M A (isTrue (.BoolOp .And (x :: rest) pos) env whole) Q E s := isTrue_and h
theorem orC {x rest pos whole} {Q : Bool → Shared → Prop} (h : wpAny M A (isTrue x env (eval x env)) (PIte (Q true) (PBoo M A E env .Or rest pos whole Q)) E s) : wpAny M A (isTrue (.BoolOp .Or (x :: rest) pos) env whole) Q E s := isTrue_or h
theorem aioC {t : Value → Sem Unit} {ts : List (Value → Sem Unit)} {x : Value} {xs : List Value} {Q : Unit → Shared → Prop} (h : wpAny M A (t x) (PAio M A E ts xs Q) E s) : wpAny M A (assignInOrder (t :: ts) (x :: xs)) Q E s := assignInOrder_cons h
theorem AssignC {x pos' value pos} {Q : Flow → Shared → Prop} (h : wpAny M A (eval value env) (PSto M A E env x Q) E s) (hs : swapsWith value (some (.Name x pos')) pos.line env = pure false := by rfl) : wpAny M A (exec (.Assign [.Name x pos'] value pos) env) Q E s := wpAny_Assign_Name h hs
theorem AssignAttrC {o attr pos' value pos} {Q : Flow → Shared → Prop} (h : wpAny M A (eval value env) (PSetA M A E env o attr Q) E s) (hs : swapsWith value (some (.Attribute o attr pos')) pos.line env = pure false := by rfl) : wpAny M A (exec (.Assign [.Attribute o attr pos'] value pos) env) Q E s := plainObj_wpAny_Assign_Attribute h hs
end
/-- the law's body and its environment, as the top holds them -/
inductive LawBody (w : World) (body : List Stmt) (env : Addr → Env) : Prop
  | mk (name qual : Str) (params : Arguments) (scope : Scope) (dV kV doc pm : Value) (an : Option Addr) (cdv ct oc : Value) (od : Option Addr) (osl : Array (Option Value))
    (hk : (hd.heap_1 w.params).lookup 324 = some ⟨oc, od, .func (fnOf name qual params body scope dV kV doc pm an cdv ct), osl⟩) (he : env = fun L => envOfC qual scope L 324 cdv)
/-- the law ends with True -/
def RetT (H : Heap) (L : Addr) (s : Shared) (f : Flow) (s' : Shared) : Prop := f = .ret (.bool true) ∧ s'.gens = s.gens ∧ s'.os = s.os ∧ ∃ m' : Str → Option Value, Fr H L s'.heap m'
/-- what the law's body is asked, at one choice of what stays the same all along -/
abbrev Same : Type := World × (ExcName → Option Value) × (Str → Option Value) × (Str → Option Value) × Shared
def Law0 (c : Same) : Prop := ∀ {H : Heap}, (hd.heap_1 c.1.params).In H → Top hd.view_1 (looseW hd.view_1 []) c.2.1 c.2.2.1 c.2.2.2.1 H → ∀ {L : Addr} {hp : Heap} {tk : Tok} {body : List Stmt} {env : Addr → Env}, LawBody c.1 body env →
  ∀ {l : Addr} {vs : List Value} {ns : List Int}, H.IsList l vs.toArray → IntsAre vs ns → ns.length ≤ 63 → ∀ {o2 o1 : Obj}, o1.data = .cell none → o2.data = .cell none → Fr H L hp (fun y => if y = Str.ofString "script" then some (.ref l) else none) → News H L hp [(L + 1 + 1, o1), (L + 1, o2)] →
  wpN (model PySem.Challenge.rw_sj0117_01.row.prog c.1) (callerA.deeper (env L)) (execs body (env L)) (RetT H L c.2.2.2.2) (fun _ _ => False) { c.2.2.2.2 with heap := hp, toks := tk }
theorem someC : Nonempty Same := ⟨aWorld 1, fun _ => none, fun _ => none, fun _ => none, {}⟩
/-- a choice at which the law's body fails, where there is one: what holds here holds at all -/
noncomputable def cst : Same := @Classical.epsilon _ someC fun c => ¬ Law0 c
theorem law0 (h : Law0 cst) (c : Same) : Law0 c := Classical.byContradiction (p := Law0 c) fun n => @Classical.epsilon_spec _ (fun c => ¬ Law0 c) (Exists.intro (p := fun c => ¬ Law0 c) c n) @h
noncomputable def w : World := cst.1
noncomputable def mean : ExcName → Option Value := cst.2.1
noncomputable def mg : Str → Option Value := cst.2.2.1
noncomputable def mb : Str → Option Value := cst.2.2.2.1
noncomputable def s : Shared := cst.2.2.2.2

end
local macro_rules | `(tactic| k_all) => `(tactic| first | assumption | exact of_allNe (by assumption))
local macro_rules | `(tactic| walk_at "exec For Name Subscript cons nil") => `(tactic| (k_here; (rename Fr _ _ _ _ => lF'); (with_unfolding_all refine' For_invVF lF' ?k1 ?k2 ?_; (case k1 => exact rfl); (case k2 => exact rfl); k_whole)))
local macro_rules | `(tactic| walk_at "getMethod type:Exception") => `(tactic| (k_here; refine' method_type ?F ?X ?m (by decide +kernel) ?e ?h ?_; (case F => k_asm); (case X => k_asm); (case m => kernel_rfl); (case e => k_dflt k_is); (case h => k_handed)))
/- a statement -/
local macro_rules | `(tactic| walk_at "execs cons") => `(tactic| (k_here; (first | (k_gentoks; refine' execs_cutT ?_; intro tk J hJ) | (refine' execs_cut ?_; intro J hJ)); (try dsimp only)))
local macro_rules | `(tactic| k_steps) => `(tactic| repeat' (first | (with_reducible refine PIte.go ?_) | (k_unfold; (try dsimp only)) | (k_end; wrow_close) | (refine' Cut.next ?hcut ?_; (case hcut => with_reducible assumption); (try dsimp only)) | (refine' Cut.ret ?hcut ?_; (case hcut => with_reducible assumption); (try dsimp only)) | walk1 | ((with_reducible show wpAny _ _ _ _ _ _); walk1) | (dsimp only; walk1) | (leave1; walk_say "STEP leave1"; try dsimp only) | fail "no step"))
/- what follows, by name -/
local macro_rules | `(tactic| walk_at $k:str) => do
  let n ← match k.getString with
    | "eval BinOp" => pure `BinOpC
    | "eval Subscript" => pure `SubscriptC
    | "eval Call" => pure `CallC
    | "eval Attribute Name" => pure `AttributeC
    | "eval Tuple" => pure `TupleC
    | "eval List" => pure `ListC
    | "exec If" => pure `IfC
    | "eval IfExp" => pure `IfExpC
    | "assignInOrder" => pure `aioC
    | "isTrue Compare" => pure `CompareC
    | "call ref" => pure `ofStop
    | _ => Lean.Macro.throwUnsupported
  `(tactic| (k_here; refine $(Lean.mkIdent n) ?_))
local macro_rules | `(tactic| walk_at "spliced") => `(tactic| (k_here; first | refine args_consC ?_ | (refine args_nil ?_; (try dsimp only [PArg2, PTup, PLst, List.cons_append, List.nil_append]))))
local macro_rules | `(tactic| walk_at "isTrue BoolOp") => `(tactic| (k_here; first | refine andC ?_ | refine orC ?_))
local macro_rules | `(tactic| walk_at "exec Assign") => `(tactic| (k_here; first | refine AssignC ?_ | (refine AssignAttrC ?_ ?_; rotate_left; with_unfolding_all rfl)))
/- names -/
local macro_rules | `(tactic| walk_at "eval Name") => `(tactic| (k_here; k_dflt (first
  | (refine' nameX_L ?F ?v ?_ ?a ?b; (case F => k_asm); (case a => rfl); (case b => rfl); (case v => rfl); k_whole)
  | (refine' nameX_K ?F ?X ?T ?e ?_ ?a ?b; (case F => k_asm); (case X => k_asm); (case T => k_asm); (case a => rfl); (case b => rfl); (case e => k_is); k_whole)
  | (refine' nameX_C ?N ?c ?m ?d ?_ ?a ?b; (case a => rfl); (case b => rfl); (case N => k_asm); (case c => rfl); (case m => k_mem); (case d => k_asm); k_whole)
  | (refine' nameX_B ?F ?X ?T ?e ?v ?n ?_ ?a ?b; (case F => k_asm); (case X => k_asm); (case T => k_asm); (case a => rfl); (case b => rfl); (case e => k_is); (case v => boot_fast); (case n => decide); k_whole))))
/- a tuple's item -/
local macro_rules | `(tactic| walk_at "subscriptTail Name Constant ref int") => `(tactic| (k_here; k_dflt (refine' item_tupleL ?t ?a ?b ?c ?d ?_ ?e ?f; (case t => first | with_reducible assumption | exact Fr.tup (by k_asm) (by with_reducible assumption) | exact News.isTup (by k_asm) (by k_mem)); (case a => decide); (case b => decide); (case c => rfl); (case d => rfl); (case e => with_unfolding_all rfl); (case f => intro _; with_unfolding_all rfl); k_whole)))
/- a comparison of names and constants in one step -/
local macro_rules | `(tactic| walk_at "ev") => `(tactic| first | exact Ev.str | (refine' Ev.loc ?F ?v ?a ?b ?d; (case F => k_asm); (case a => rfl); (case b => rfl); (case v => rfl); (case d => decide)))
local macro_rules | `(tactic| walk_at "isTrue Compare") => `(tactic| (k_here; (with_reducible show wpAny _ _ (isTrue (PySem.Expr.Compare (PySem.Expr.Name _ _) [PySem.CmpOp.Eq] [PySem.Expr.Constant (PySem.Const.str _) _ _] _) _ _) _ _ _); k_dflt (refine' cmpEv ?l ?r ?c ?_ ?m; (case l => walk_at "ev"); (case r => walk_at "ev"); (case c => exact fun _ _ h => eq_str h); (case m => with_unfolding_all rfl); k_whole)))
section
example : True := by w_top off; exact trivial
/-- what a draw gives: the k-th item, or its stand-in -/
def drawnV (ns : List Int) (k many : Int) : Int := if k ≤ ns.length then Int.fmod ((ns.getD (k - 1).toNat 0).natAbs : Int) many else Int.fmod (5 * k + Int.fdiv k 3) many
theorem drawn_abs {ns : List Int} {i : Nat} {d : Int} : (if ns.getD i d < 0 then -(ns.getD i d) else ns.getD i d) = ((ns.getD i d).natAbs : Int) := by split <;> omega
set_option maxHeartbeats 8000000 in
theorem drawn {H : Heap} (X : (hd.heap_1 w.params).In H) (T : Top hd.view_1 (looseW hd.view_1 []) mean mg mb H) {L : Addr} {m : Str → Option Value} {hp : Heap} {tk0 : Tok} {Q E : Value → Shared → Prop} 
  {b l : Addr} {vs : List Value} {ns : List Int} {k many : Int} {tk tm : Tok} {n nl : Nat} {rest : List (Addr × Obj)} 
  (F : Fr H L hp m) (N : News H L hp ((b, listOf #[.ref l, .int k tk] n) :: (l, listOf vs.toArray nl) :: rest))
  (hb : ∀ q ∈ rest, q.1 ≠ b) (hbl : l ≠ b)
  (hi : IntsAre vs ns) (hlen : ns.length ≤ 24) (h0 : 0 ≤ k) (hk : k < 100) (hm : 1 ≤ many) (hm2 : many ≤ 20)
  (ret : ∀ v t h' tk' t2, v = drawnV ns (k + 1) many → Fr H L h' m → News H L h' ((b, listOf #[.ref l, .int (k+1) t2] n) :: (l, listOf vs.toArray nl) :: rest) → Q (.int v t) {s with heap := h', toks := tk'}) :
  wpAny (model PySem.Challenge.rw_sj0117_01.row.prog w) (AA 60) (call (.ref 276) [.ref b, .int many tm]) Q E {s with heap := hp, toks := tk0} := by
  refine wpAny_call ?_
  refine' enter (binds := [(Str.ofString "box", .ref b), (Str.ofString "many", .int many tm)]) (by assumption) (by assumption) (by assumption) (by assumption) ?k6 ?k7 (by first | decide | k_room | exact Nat.le_of_ble_eq_true rfl) ?k9 ?kB ?_ ?c2 ?c3 ?c4 ?c5
  ((case k6 => k_is); (case k7 => k_is); (case k9 => exact BindsTo.of_eq (by first | rfl | kernel_rfl | with_unfolding_all rfl)); (case kB => exact locs rfl); (case c2 => exact rfl); (case c3 => exact rfl); (case c4 => exact rfl); (case c5 => decide); (intro xL xL' xh xC xF xN xl1 xl2 xl3); (replace xl1 := ltN xl1); (replace xl2 := allLt_of xl2); (replace xl3 := allNe_of xl3); (try dsimp only [AllLt, AllNe] at xl2 xl3); (try dsimp only); (try k_fold))
  replace hbl := neN hbl
  w_strict k_steps
  all_goals (try dsimp only)
  all_goals (obtain ⟨Fb, Nb⟩ := Caller.back (by assumption) (by assumption) (by assumption) (of_allNe (by assumption)))
  all_goals (refine ret _ _ _ _ _ ?_ Fb Nb)
  all_goals (unfold drawnV)
  · have q : k + 1 ≤ (ns.length : Int) := by assumption
    rw [if_pos q, drawn_abs]
  · have q : ¬ (k + 1 ≤ (ns.length : Int)) := by assumption
    rw [if_neg q]

end
section
/-- the frames that the law builds and the stream reads -/
inductive Fm where
  | sett | sett2 | goaway (n : Int) | maxp (n : Int) | canc (n : Int) | unk | hdr | dat
  deriving DecidableEq

abbrev tupO (vs : List Value) : Obj := { cls := .type "tuple", data := .seq vs.toArray }
abbrev sv (x : String) (t : Tok) : Value := .str (Str.ofString x) t

/-- a value that bears a frame, by the ledger -/
def IsFm (news : List (Addr × Obj)) (v : Value) : Fm → Prop
  | .goaway n => ∃ a t1 t2, v = .ref a ∧ (a, tupO [sv "goaway" t1, .int n t2]) ∈ news
  | .maxp n => ∃ a t1 t2, v = .ref a ∧ (a, tupO [sv "max_push" t1, .int n t2]) ∈ news
  | .canc n => ∃ a t1 t2, v = .ref a ∧ (a, tupO [sv "cancel_push" t1, .int n t2]) ∈ news
  | .unk => ∃ a t1 t2 t3, v = .ref a ∧ (a, tupO [sv "unknown" t1, .int 33 t2, .bytes #[117] t3]) ∈ news
  | .hdr => ∃ a t1 t2, v = .ref a ∧ (a, tupO [sv "headers" t1, .bytes #[104] t2]) ∈ news
  | .dat => ∃ a t1 t2, v = .ref a ∧ (a, tupO [sv "data" t1, .bytes #[] t2]) ∈ news
  | .sett => ∃ a t1 l nl p t2 t3, v = .ref a ∧ (a, tupO [sv "settings" t1, .ref l]) ∈ news ∧ (l, listOf #[.ref p] nl) ∈ news ∧ (p, tupO [.int 6 t2, .int 70 t3]) ∈ news
  | .sett2 => ∃ a t1 l nl p t2 t3, v = .ref a ∧ (a, tupO [sv "settings" t1, .ref l]) ∈ news ∧ (l, listOf #[.ref p] nl) ∈ news ∧ (p, tupO [.int 33 t2, .int 9 t3]) ∈ news

/-- what a form and a number build -/
def formFrame (form number : Int) : Fm :=
  if form < 2 then .goaway (number - Int.fmod number 4)
  else if form = 2 then .goaway number else if form = 3 then .maxp number else if form = 4 then .canc number
  else if Int.fmod number 4 = 0 then .unk else if Int.fmod number 4 = 1 then .hdr else if Int.fmod number 4 = 2 then .dat else .sett2

end
section
example : True := by w_top off; exact trivial
set_option maxHeartbeats 1000000 in
theorem lawframe {H : Heap} (X : (hd.heap_1 w.params).In H) (T : Top hd.view_1 (looseW hd.view_1 []) mean mg mb H) {L : Addr} {m : Str → Option Value} {hp : Heap} {tk0 : Tok} {Q E : Value → Shared → Prop} 
  {form number : Int} {t1 t2 : Tok} {news : List (Addr × Obj)} 
  (F : Fr H L hp m) (N : News H L hp news) (hf0 : 0 ≤ form) (hf6 : form < 6) (hn0 : 0 ≤ number) (hn20 : number < 20)
  (ret : ∀ v tl h' tk', IsFm tl v (formFrame form number) → (∀ q ∈ tl, ∀ r ∈ news, r.1 ≠ q.1) → Fr H L h' m → News H L h' (tl ++ news) → Q v {s with heap := h', toks := tk'}) :
  wpAny (model PySem.Challenge.rw_sj0117_01.row.prog w) (AA 60) (call (.ref 283) [.int form t1, .int number t2]) Q E {s with heap := hp, toks := tk0} := by
  refine wpAny_call ?_
  have N0 : News H L hp ([] ++ news) := N
  refine' enterQ (binds := [(Str.ofString "form", .int form t1), (Str.ofString "number", .int number t2)]) (by assumption) (by assumption) (by assumption) (by assumption) (fun _ h => absurd h List.not_mem_nil) ?k6 ?k7 (by first | decide | k_room | exact Nat.le_of_ble_eq_true rfl) ?k9 ?kB ?_ ?c2 ?c3 ?c4 ?c5
  ((case k6 => k_is); (case k7 => k_is); (case k9 => exact BindsTo.of_eq (by first | rfl | kernel_rfl | with_unfolding_all rfl)); (case kB => exact locs rfl); (case c2 => exact rfl); (case c3 => exact rfl); (case c4 => exact rfl); (case c5 => decide); (intro xH xL xh xX xT xG xlk xF xN xl1 xl2 xl4); (replace xl1 := ltN xl1); (replace xl2 := PySem.W.allLt_of xl2); (try dsimp only [PySem.W.AllLt] at xl2); (try dsimp only); (try k_fold))
  clear F N0 N X T
  have hc : form = 0 ∨ form = 1 ∨ form = 2 ∨ form = 3 ∨ form = 4 ∨ form = 5 := int6 (by assumption) (by assumption)
  rcases hc with rfl | rfl | rfl | rfl | rfl | hc
  · w_strict k_steps
    refine Ground'.use (by assumption) (by assumption) (newsSub (by assumption) (b := [_]) (sub_keep sub_nil)) fun Fb Nb Sb => ?_
    refine ret _ _ _ _ ?_ Sb Fb Nb
    have e : formFrame 0 number = .goaway (number - number.fmod 4) := by simp [formFrame]
    rw [e]
    exact ⟨_, _, _, rfl, .head _⟩
  · w_strict k_steps
    refine Ground'.use (by assumption) (by assumption) (newsSub (by assumption) (b := [_]) (sub_keep sub_nil)) fun Fb Nb Sb => ?_
    refine ret _ _ _ _ ?_ Sb Fb Nb
    have e : formFrame 1 number = .goaway (number - number.fmod 4) := by simp [formFrame]
    rw [e]
    exact ⟨_, _, _, rfl, .head _⟩
  · w_strict k_steps
    refine Ground'.use (by assumption) (by assumption) (newsSub (by assumption) (b := [_]) (sub_keep sub_nil)) fun Fb Nb Sb => ?_
    refine ret _ _ _ _ ?_ Sb Fb Nb
    have e : formFrame 2 number = .goaway number := by simp [formFrame]
    rw [e]
    exact ⟨_, _, _, rfl, .head _⟩
  · w_strict k_steps
    refine Ground'.use (by assumption) (by assumption) (newsSub (by assumption) (b := [_]) (sub_keep sub_nil)) fun Fb Nb Sb => ?_
    refine ret _ _ _ _ ?_ Sb Fb Nb
    have e : formFrame 3 number = .maxp number := by simp [formFrame]
    rw [e]
    exact ⟨_, _, _, rfl, .head _⟩
  · w_strict k_steps
    refine Ground'.use (by assumption) (by assumption) (newsSub (by assumption) (b := [_]) (sub_keep sub_nil)) fun Fb Nb Sb => ?_
    refine ret _ _ _ _ ?_ Sb Fb Nb
    have e : formFrame 4 number = .canc number := by simp [formFrame]
    rw [e]
    exact ⟨_, _, _, rfl, .head _⟩
  · have hnn := Int.fmod_nonneg_of_pos number (show (0 : Int) < 4 by decide)
    have hnl := Int.fmod_lt_of_pos number (show (0 : Int) < 4 by decide)
    w_strict k_steps
    all_goals (refine Ground'.use (by assumption) (by assumption) (by assumption) fun Fb Nb Sb => ?_)
    all_goals (refine ret _ _ _ _ ?_ Sb Fb Nb)
    · rw [show formFrame form number = .unk by simp [formFrame, *]]
      exact ⟨_, _, _, _, rfl, by k_mem⟩
    · rw [show formFrame form number = .hdr by simp [formFrame, *]]
      exact ⟨_, _, _, rfl, by k_mem⟩
    · rw [show formFrame form number = .dat by simp [formFrame, *]]
      exact ⟨_, _, _, rfl, by k_mem⟩
    · rw [show formFrame form number = .sett2 by simp [formFrame, *]]
      exact ⟨_, _, _, _, _, _, _, rfl, by k_mem, by k_mem, by k_mem⟩

end
section
example : True := by w_top off; exact trivial
set_option maxHeartbeats 1000000 in
theorem varsize {H : Heap} (X : (hd.heap_1 w.params).In H) (T : Top hd.view_1 (looseW hd.view_1 []) mean mg mb H) {L : Addr} {m : Str → Option Value} {hp : Heap} {tk0 : Tok} {Q E : Value → Shared → Prop} {n : Int} {t1 : Tok} {news : List (Addr × Obj)}
  (F : Fr H L hp m) (N : News H L hp news) (h0 : 0 ≤ n) (h1 : n < 16384)
  (ret : ∀ v t h' tk', v = (if n < 64 then 1 else 2) → Fr H L h' m → News H L h' news → Q (.int v t) {s with heap := h', toks := tk'}) :
  wpAny (model PySem.Challenge.rw_sj0117_01.row.prog w) (AA 140) (call (.ref 96) [.int n t1]) Q E {s with heap := hp, toks := tk0} := by
  refine wpAny_call ?_
  have N0 : News H L hp ([] ++ news) := N
  refine' enterQ (binds := [(Str.ofString "n", .int n t1)]) (by assumption) (by assumption) (by assumption) (by assumption) (fun _ h => absurd h List.not_mem_nil) ?k6 ?k7 (by first | decide | k_room | exact Nat.le_of_ble_eq_true rfl) ?k9 ?kB ?_ ?c2 ?c3 ?c4 ?c5
  ((case k6 => k_is); (case k7 => k_is); (case k9 => exact BindsTo.of_eq (by first | rfl | kernel_rfl | with_unfolding_all rfl)); (case kB => exact locs rfl); (case c2 => exact rfl); (case c3 => exact rfl); (case c4 => exact rfl); (case c5 => decide); (intro xH xL xh xX xT xG xlk xF xN xl1 xl2 xl4); (replace xl1 := ltN xl1); (replace xl2 := PySem.W.allLt_of xl2); (try dsimp only [PySem.W.AllLt] at xl2); (try dsimp only); (try k_fold))
  clear F N0 N X T
  have t75 := tupK (by assumption) (show (hd.heap_1 w.params).lookup 75 = some _ from by k_is)
  w_strict k_steps
  all_goals have p1 : (2 : Int) ^ (8 * 1 - 2 : Int).toNat = 64 := by decide
  all_goals have p2 : (2 : Int) ^ (8 * 2 - 2 : Int).toNat = 16384 := by decide
  all_goals (try (exfalso; omega))
  · refine Ground'.use (by assumption) (by assumption) (newsSub (by assumption) (b := []) sub_nil) fun Fb Nb Sb => ?_
    exact ret _ _ _ _ (by rw [if_pos (by omega)]) Fb Nb
  · refine Ground'.use (by assumption) (by assumption) (newsSub (by assumption) (b := []) sub_nil) fun Fb Nb Sb => ?_
    exact ret _ _ _ _ (by rw [if_neg (by omega)]) Fb Nb

end
section
example : True := by w_top off; exact trivial
/-- the number that some octets write -/
def getW (ks : List Int) (i sz : Int) : Int := List.foldl (fun a k => a * 256 + k) 0 ((ks.drop i.toNat).take sz.toNat)
theorem clip_le {n : Nat} {i : Int} (h0 : 0 ≤ i) (h1 : i ≤ n) : clipAt n i = i.toNat := by
  unfold clipAt
  rw [if_neg (Int.not_lt.mpr h0), Int.min_eq_left h1, Int.max_eq_right h0]
theorem clip_ge {n : Nat} {i : Int} (h1 : (n : Int) ≤ i) : clipAt n i = n := by
  have h0 : 0 ≤ i := Int.le_trans (Int.natCast_nonneg n) h1
  unfold clipAt
  rw [if_neg (Int.not_lt.mpr h0), Int.min_eq_right h1, Int.max_eq_right (Int.natCast_nonneg n)]
  rfl
set_option maxHeartbeats 1000000 in
theorem getwhole {H : Heap} (X : (hd.heap_1 w.params).In H) (T : Top hd.view_1 (looseW hd.view_1 []) mean mg mb H) {L : Addr} {m : Str → Option Value} {hp : Heap} {tk0 : Tok} {Q E : Value → Shared → Prop} {b : Array UInt8} {ks : List Int} {i sz : Int} {t1 t2 t3 : Tok} {news : List (Addr × Obj)}
  (F : Fr H L hp m) (N : News H L hp news) (hk : KBw.bInts b = ks) (h0 : 0 ≤ i) (hz0 : 0 ≤ sz) (h1 : i + sz ≤ ks.length) (hb : ks.length < 1000)
  (ret : ∀ v t h' tk', v = getW ks i sz → Fr H L h' m → News H L h' news → Q (.int v t) {s with heap := h', toks := tk'}) :
  wpAny (model PySem.Challenge.rw_sj0117_01.row.prog w) (AA 140) (call (.ref 89) [.bytes b t1, .int i t2, .int sz t3]) Q E {s with heap := hp, toks := tk0} := by
  refine wpAny_call ?_
  have N0 : News H L hp ([] ++ news) := N
  refine' enterQ (binds := [(Str.ofString "data", .bytes b t1), (Str.ofString "at", .int i t2), (Str.ofString "size", .int sz t3)]) (by assumption) (by assumption) (by assumption) (by assumption) (fun _ h => absurd h List.not_mem_nil) ?k6 ?k7 (by first | decide | k_room | exact Nat.le_of_ble_eq_true rfl) ?k9 ?kB ?_ ?c2 ?c3 ?c4 ?c5
  ((case k6 => k_is); (case k7 => k_is); (case k9 => exact BindsTo.of_eq (by first | rfl | kernel_rfl | with_unfolding_all rfl)); (case kB => exact locs rfl); (case c2 => exact rfl); (case c3 => exact rfl); (case c4 => exact rfl); (case c5 => decide); (intro xH xL xh xX xT xG xlk xF xN xl1 xl2 xl4); (replace xl1 := ltN xl1); (replace xl2 := PySem.W.allLt_of xl2); (try dsimp only [PySem.W.AllLt] at xl2); (try dsimp only); (try k_fold))
  clear F N0 N X T
  w_strict k_steps
  all_goals (try dsimp only)
  all_goals (try (exfalso; omega))
  refine Ground'.use (by assumption) (by assumption) (newsSub (by assumption) (b := []) sub_nil) fun Fb Nb Sb => ?_
  refine ret _ _ _ _ ?_ Fb Nb
  unfold getW
  obtain ⟨a, rfl⟩ := Int.eq_ofNat_of_zero_le h0
  obtain ⟨c, rfl⟩ := Int.eq_ofNat_of_zero_le hz0
  have e1 : clipAt ks.length (a : Int) = a := clip_le h0 (Int.le_trans (Int.le_add_of_nonneg_right hz0) h1)
  have e2 : clipAt ks.length ((a : Int) + (c : Int)) = a + c := clip_le (Int.add_nonneg h0 hz0) h1
  rw [e1, e2, Nat.add_sub_cancel_left]
  rfl

end
section
example : True := by w_top off; exact trivial
theorem getW_one {ks : List Int} {i : Int} (h0 : 0 ≤ i) (h1 : i < ks.length) : getW ks i 1 = ks.getD i.toNat 0 := by
  unfold getW
  have h : i.toNat < ks.length := by omega
  rw [List.drop_eq_getElem_cons h]
  rw [List.getD_eq_getElem?_getD, List.getElem?_eq_getElem h]
  show List.foldl _ 0 [ks[i.toNat]] = ks[i.toNat]
  show 0 * 256 + ks[i.toNat] = ks[i.toNat]
  omega
theorem and63 {v : Int} (h0 : 0 ≤ v) (h1 : v < 64) : Builtin.bitAnd v (1 * 2 ^ (8 * 1 - 2 : Int).toNat - 1) = v := by
  obtain ⟨n, rfl⟩ := Int.eq_ofNat_of_zero_le h0
  have h : n < 64 := by omega
  clear h0 h1
  revert n
  decide +kernel
set_option maxHeartbeats 1000000 in
theorem getvar {H : Heap} (X : (hd.heap_1 w.params).In H) (T : Top hd.view_1 (looseW hd.view_1 []) mean mg mb H) {L : Addr} {m : Str → Option Value} {hp : Heap} {tk0 : Tok} {Q E : Value → Shared → Prop} {b : Array UInt8} {ks : List Int} {i : Int} {t1 t2 : Tok} {news : List (Addr × Obj)}
  (F : Fr H L hp m) (N : News H L hp news) (hk : KBw.bInts b = ks) (h0 : 0 ≤ i) (h1 : i < ks.length) (hb : ks.length < 1000) (h64 : ks.getD i.toNat 0 < 64) (hg0 : 0 ≤ ks.getD i.toNat 0)
  (ret : ∀ a t3 t4 h' tk', (∀ r ∈ news, r.1 ≠ a) → Fr H L h' m → News H L h' ((a, tupO [.int (ks.getD i.toNat 0) t3, .int (i + 1) t4]) :: news) → Q (.ref a) {s with heap := h', toks := tk'}) :
  wpAny (model PySem.Challenge.rw_sj0117_01.row.prog w) (AA 130) (call (.ref 110) [.bytes b t1, .int i t2]) Q E {s with heap := hp, toks := tk0} := by
  refine wpAny_call ?_
  have N0 : News H L hp ([] ++ news) := N
  refine' enterQ (binds := [(Str.ofString "data", .bytes b t1), (Str.ofString "at", .int i t2)]) (by assumption) (by assumption) (by assumption) (by assumption) (fun _ h => absurd h List.not_mem_nil) ?k6 ?k7 (by first | decide | k_room | exact Nat.le_of_ble_eq_true rfl) ?k9 ?kB ?_ ?c2 ?c3 ?c4 ?c5
  ((case k6 => k_is); (case k7 => k_is); (case k9 => exact BindsTo.of_eq (by first | rfl | kernel_rfl | with_unfolding_all rfl)); (case kB => exact locs rfl); (case c2 => exact rfl); (case c3 => exact rfl); (case c4 => exact rfl); (case c5 => decide); (intro xH xL xh xX xT xG xlk xF xN xl1 xl2 xl4); (replace xl1 := ltN xl1); (replace xl2 := PySem.W.allLt_of xl2); (try dsimp only [PySem.W.AllLt] at xl2); (try dsimp only); (try k_fold))
  clear F N0 N X T
  have t75 := tupK (by assumption) (show (hd.heap_1 w.params).lookup 75 = some _ from by k_is)
  w_strict k_steps
  rw [show (ks.getD i.toNat 0).fdiv (2 ^ Int.toNat 6) = 0 by rw [Int.fdiv_eq_ediv_of_nonneg _ (by decide)]; show ks.getD i.toNat 0 / 64 = 0; omega]
  w_strict k_steps
  refine wp_at (f := by exact ⟨rfl, Nat.le_of_ble_eq_true rfl, Nat.le_of_ble_eq_true rfl⟩) (getwhole (by assumption) (by assumption) (by assumption) (by assumption) hk h0 (by decide) (by omega) hb ?_)
  intro v t h' tk' hv F N
  w_strict k_steps
  refine Ground'.use (by assumption) (by assumption) (by assumption) fun Fb Nb Sb => ?_
  rw [hv, getW_one h0 h1, and63 hg0 h64] at Nb Sb
  exact ret _ _ _ _ _ (Sb _ (.head _)) Fb Nb

end
section
example : True := by w_top off; exact trivial
abbrev ent (P : Params) (x : String) (t : Tok) (v : Value) : DictEntry := ⟨PyData.keyHash P (Str.ofString x), .str (Str.ofString x) t, v⟩
/-- the dict of a ControlRules -/
abbrev crDict (P : Params) (t : Nat → Tok) (peer most sett goaway told : Value) : Obj :=
  dictOf [ent P "peer" (t 0) peer, ent P "most_push" (t 1) most, ent P "settings" (t 2) sett, ent P "goaway" (t 3) goaway, ent P "told_most" (t 4) told] 5
def toks5 (a b c d e : Tok) : Nat → Tok
  | 0 => a | 1 => b | 2 => c | 3 => d | _ => e
set_option maxHeartbeats 1000000 in
theorem crinit {H : Heap} (X : (hd.heap_1 w.params).In H) (T : Top hd.view_1 (looseW hd.view_1 []) mean mg mb H) {L : Addr} {m : Str → Option Value} {hp : Heap} {tk0 : Tok} {Q E : Value → Shared → Prop} {peer : Str} {most : Value} {tp : Tok} {news : List (Addr × Obj)}
  (F : Fr H L hp m) (N : News H L hp news) 
  (ret : ∀ x d t h' tk', @Ne Nat x d → (∀ r ∈ news, @Ne Nat r.1 x ∧ @Ne Nat r.1 d) → Fr H L h' m → News H L h' ((x, instObj 258 d) :: (d, crDict w.params t (.str peer tp) most .none .none .none) :: news) → Q (.ref x) {s with heap := h', toks := tk'}) :
  wpAny (model PySem.Challenge.rw_sj0117_01.row.prog w) (AA 70) (call (.ref 258) [.str peer tp, most]) Q E {s with heap := hp, toks := tk0} := by
  refine' call_cls F X N ?k4 ?k5 ?k6 ?_
  case k4 => k_is
  case k5 => k_is
  case k6 => k_is
  intro x dx h' F1 N1 l1 l2
  replace l2 := ltN l2
  refine' enterQ (binds := [(Str.ofString "self", .ref x), (Str.ofString "peer", .str peer tp), (Str.ofString "most_push", most)]) (tgt := [(x, instObj 258 dx), (dx, dictOf [] 0)]) (by assumption) (by assumption) (by assumption) (by assumption) (fun q hq r hr => by have z := ltN (l1 r hr); rcases List.mem_cons.mp hq with rfl | hq; exact Nat.ne_of_lt (Nat.lt_trans z l2); cases List.mem_singleton.mp hq; exact Nat.ne_of_lt z) ?k6 ?k7 (by first | decide | k_room | exact Nat.le_of_ble_eq_true rfl) ?k9 ?kB ?_ ?c2 ?c3 ?c4 ?c5
  ((case k6 => k_is); (case k7 => k_is); (case k9 => exact BindsTo.of_eq (by first | rfl | kernel_rfl | with_unfolding_all rfl)); (case kB => exact locs rfl); (case c2 => exact rfl); (case c3 => exact rfl); (case c4 => exact rfl); (case c5 => decide); (intro xH xL xh xX xT xG xlk xF xN xl1 xl2 xl4); (replace xl1 := ltN xl1); (replace xl2 := PySem.W.allLt_of xl2); (try dsimp only [PySem.W.AllLt] at xl2); (try dsimp only); (try k_fold))
  clear F N X T F1 N1
  w_strict k_steps
  refine Ground'.use (by assumption) (by assumption) (by assumption) fun Fb Nb Sb => ?_
  refine ⟨rfl, ret x dx (toks5 _ _ _ _ _) _ _ (Nat.ne_of_gt l2) (fun r hr => ⟨Sb _ (.head _) r hr, Sb _ (.tail _ (.head _)) r hr⟩) Fb Nb⟩

end
section
open PySem.Spec in
/-- from one heap to a later one: all but X stands; the frames fs stand but for their slots -/
def Away (fs X : List Addr) (h h' : Heap) : Prop := ∀ b o, h.get? b = some o → b ∉ X → (b ∉ fs → h'.get? b = some o) ∧ ∃ sl, h'.get? b = some { o with slots := sl }
theorem Away.refl (fs X : List Addr) (h : Heap) : Away fs X h h := fun _ o e _ => ⟨fun _ => e, o.slots, e⟩
theorem Away.of_keeps {fs X : List Addr} {h h' : Heap} (k : ∀ b o, h.get? b = some o → b ∉ X → h'.get? b = some o) : Away fs X h h' := fun b o e q => ⟨fun _ => k b o e q, o.slots, k b o e q⟩
theorem Away.trans {fs X : List Addr} {h₁ h₂ h₃ : Heap} (x : Away fs X h₁ h₂) (y : Away fs X h₂ h₃) : Away fs X h₁ h₃ := fun b o e q => by
  obtain ⟨x1, sl, x2⟩ := x b o e q
  obtain ⟨_, sl', y2⟩ := y b _ x2 q
  exact ⟨fun n => (y b o (x1 n) q).1 n, sl', y2⟩
theorem Away.mono {fs fs' X X' : List Addr} {h h' : Heap} (x : Away fs X h h') (hf : ∀ b ∈ fs, b ∈ fs') (hX : ∀ b ∈ X, b ∈ X') : Away fs' X' h h' := fun b o e q =>
  ⟨fun n => (x b o e fun z => q (hX b z)).1 fun z => n (hf b z), (x b o e fun z => q (hX b z)).2⟩
/-- what is new to the first heap may be left out -/
theorem Away.drop {fs X : List Addr} {a : Addr} {h h' : Heap} (x : Away fs (a :: X) h h') (n : h.get? a = none) : Away fs X h h' := fun b o e q =>
  x b o e fun z => (List.mem_cons.mp z).elim (fun z => by rw [z, n] at e; cases e) q
theorem Away.of_slots {S X : List Addr} {h h' : Heap} (x : Heap.SlotsOnly S h h') : Away S X h h' := fun b o e _ => ⟨fun n => (x.2.1 b n).trans e, x.2.2 b o e⟩
theorem Away.ns {fs X : List Addr} {h h' : Heap} {L : Addr} {m : Str → Option Value} (x : Away fs X h h') (hn : h.Ns L m) (hL : L ∉ X) : h'.Ns L m := by
  obtain ⟨o, es, ep, ho, hd, r⟩ := hn
  obtain ⟨_, sl, hs⟩ := x L o ho hL
  exact ⟨_, es, ep, hs, hd, r⟩
def E0 : Heap := { objs := #[] }
theorem E0_none (a : Addr) : E0.get? a = none := Heap.get?_none_of_le (Nat.zero_le _)
theorem Away.frames {fs X : List Addr} {h h' : Heap} (x : Away fs X h h') : ∀ {l : List Env}, h.FunFrames E0 l → (∀ b ∈ l.filterMap (·.frame), b ∉ X) → h'.FunFrames E0 l
  | [], _, _ => trivial
  | env :: l, ⟨hk, ⟨L, o, hf, hn, ho, hd⟩, hr⟩, hX => by
    have hm : (env :: l).filterMap (·.frame) = L :: l.filterMap (·.frame) := by rw [List.filterMap_cons, hf]
    rw [hm] at hX
    obtain ⟨_, sl, hs⟩ := x L o ho (hX L (.head _))
    exact ⟨hk, ⟨L, _, hf, hn, hs, hd⟩, x.frames hr fun b hb => hX b (.tail _ hb)⟩

abbrev excO (C d : Addr) (vs : Array Value) : Obj := { cls := .ref C, dict := some d, data := .fields vs }
/-- an exception without a traceback -/
def Exc0 (h : Heap) (e C d : Addr) : Prop := ∃ vs, h.get? e = some (excO C d vs) ∧ vs[1]? = some .none
/-- an exception whose traceback's head is T -/
def ExcT (h : Heap) (e C d T : Addr) (fl : Value) : Prop := ∃ vs oT ts, h.get? e = some (excO C d vs) ∧ vs[1]? = some (.ref T) ∧ T ≠ e ∧ h.get? T = some oT ∧ oT.data = .fields ts ∧ ts[3]? = some fl

section
variable {M : Model} {A : Around} {E : Value → Shared → Prop} {s : Shared} {env : Env} {outer : List Env} {L e C d T : Addr}

theorem entryX {vs : Array Value} {head : Value} {hadNext : Bool} {Q : Unit → Shared → Prop}
    (hfr : A.frames = some (env :: outer)) (hl : s.heap.FunFrames E0 (env :: outer)) (hf : env.frame = some L)
    (he : s.heap.get? e = some (excO C d vs)) (hsz : 1 < vs.size)
    (k : ∀ h' T, Away ((env :: outer).filterMap (·.frame)) [e] s.heap h' → s.heap.get? T = none → ExcT h' e C d T (rawInt L) → Q () { s with heap := h' }) :
    wpAny M A (do let a ← frameOf env; let pl ← entryPlaceOf L hadNext; let b ← EntryCells.newEntry head a .none (rawInt L) .none pl; setField (.ref e) 1 b) Q E s := by
  have hene : e ∉ (env :: outer).filterMap (·.frame) := fun hm => by
    obtain ⟨_, o, ho, hnf⟩ := hl.mem hm
    rw [he] at ho; injection ho with ho; subst ho; exact hnf vs rfl
  refine wpAny_bind (wpAny_frameOf_fun hfr hl hf fun h₁ hs₁ => ?_)
  refine wpAny_bind (wpAny_entryPlaceOf fun pl hpl => ?_)
  unfold EntryCells.newEntry newFields
  refine wpAny_bind (wpAny_newObj_type ?_ (hpl.sizeOk5 _ _ _ _ _))
  have he₁ : h₁.get? e = some (excO C d vs) := (hs₁.2.1 e hene).trans he
  generalize hoT : ({ cls := .type "traceback", dict := none, data := .fields ([head, .ref L, .none, rawInt L, .none] ++ (if pl.isEmpty then List.replicate 6 Value.none else pl)).toArray } : Obj) = oT
  have hTf : oT.isFreed = false := by rw [← hoT]; rfl
  have he₂ := Heap.get?_push_of_some (h := h₁) oT he₁
  refine wpAny_setField he₂ rfl hsz (k _ h₁.objs.size ?_ ?_ ?_)
  · intro b o hb hbe
    have hbe' : b ≠ e := fun z => hbe (List.mem_singleton.mpr z)
    have keep : ∀ o', h₁.get? b = some o' → ((h₁.push oT).update e (Obj.mapFields (·.setIfInBounds 1 (Value.ref h₁.objs.size)))).get? b = some o' := fun o' q => by
      rw [Heap.get?_update_other _ _ (Ne.symm hbe')]
      exact Heap.get?_push_of_some _ q
    refine ⟨fun n => keep o ((hs₁.2.1 b n).trans hb), ?_⟩
    obtain ⟨sl, hs⟩ := hs₁.2.2 b o hb
    exact ⟨sl, keep _ hs⟩
  · exact Heap.get?_none_of_le (Nat.le_of_eq hs₁.1.symm)
  · have hTe : h₁.objs.size ≠ e := Nat.ne_of_gt (Heap.lt_size he₁)
    refine ⟨vs.setIfInBounds 1 (.ref h₁.objs.size), oT, _, Heap.get?_update_self _ he₂ rfl, by simp [hsz], hTe, ?_, by rw [← hoT], ?_⟩
    · rw [Heap.get?_update_other _ _ (Ne.symm hTe)]; exact Heap.get?_push_size _ hTf
    · rcases hpl with rfl | ⟨_, _, _, _, _, _, _, rfl⟩ <;> simp

/-- the first note of a frame on an exception that bears none -/
theorem note0 {Q : Unit → Shared → Prop} (hfr : A.frames = some (env :: outer)) (hl : s.heap.FunFrames E0 (env :: outer)) (hf : env.frame = some L) (hx : Exc0 s.heap e C d)
    (k : ∀ h' T, Away ((env :: outer).filterMap (·.frame)) [e] s.heap h' → s.heap.get? T = none → ExcT h' e C d T (rawInt L) → Q () { s with heap := h' }) : wpAny M A (noteFrame (.ref e) env) Q E s := by
  obtain ⟨vs, he, h1⟩ := hx
  unfold noteFrame
  simp only [hf]
  refine wpAny_bind (wpAny_field he rfl h1 ?_)
  rw [if_neg (by decide)]
  exact entryX hfr hl hf he (Array.getElem?_eq_some_iff.mp h1).1 k

/-- a later note -/
theorem noteT {Q : Unit → Shared → Prop} (hfr : A.frames = some (env :: outer)) (hl : s.heap.FunFrames E0 (env :: outer)) (hf : env.frame = some L) (hx : ExcT s.heap e C d T .none)
    (k : ∀ h' T', Away ((env :: outer).filterMap (·.frame)) [e, T] s.heap h' → s.heap.get? T' = none → ExcT h' e C d T' (rawInt L) → Q () { s with heap := h' }) : wpAny M A (noteFrame (.ref e) env) Q E s := by
  obtain ⟨vs, oT, ts, he, h1, hTe, hT, hdT, h3⟩ := hx
  unfold noteFrame
  simp only [hf]
  refine wpAny_bind (wpAny_field he rfl h1 ?_)
  rw [if_pos (show (Value.ref T != Value.none) = true from by simp)]
  refine wpAny_bind (wpAny_field hT hdT h3 ?_)
  rw [if_neg (show ¬ ((Value.none == rawInt L) = true) from by simp [rawInt])]
  refine wpAny_bind (wpAny_setField hT hdT (Array.getElem?_eq_some_iff.mp h3).1 ?_)
  have other : ∀ b, b ≠ T → (s.heap.update T (Obj.mapFields (·.setIfInBounds 3 Value.none))).get? b = s.heap.get? b := fun b hb => Heap.get?_update_other _ _ (Ne.symm hb)
  have aw : Away ((env :: outer).filterMap (·.frame)) [e, T] s.heap (s.heap.update T (Obj.mapFields (·.setIfInBounds 3 Value.none))) :=
    Away.of_keeps fun b o e' q => (other b fun z => q (by rw [z]; exact .tail _ (.head _))).trans e'
  have noT : T ∉ (env :: outer).filterMap (·.frame) := fun hm => by
    obtain ⟨_, o, ho, hnf⟩ := hl.mem hm
    rw [hT] at ho; injection ho with ho; subst ho; exact hnf ts hdT
  have noe : e ∉ (env :: outer).filterMap (·.frame) := fun hm => by
    obtain ⟨_, o, ho, hnf⟩ := hl.mem hm
    rw [he] at ho; injection ho with ho; subst ho; exact hnf vs rfl
  refine entryX (s := { s with heap := s.heap.update T (Obj.mapFields (·.setIfInBounds 3 Value.none)) }) hfr
    (aw.frames hl fun b hb hm => by
      rcases List.mem_cons.mp hm with rfl | hm
      · exact noe hb
      · rw [List.mem_singleton.mp hm] at hb; exact noT hb) hf ((other e (Ne.symm hTe)).trans he) (Array.getElem?_eq_some_iff.mp h1).1
    fun h' T' a n x => k h' T' (aw.trans (a.mono (fun _ z => z) fun b hb => by rw [List.mem_singleton.mp hb]; exact .head _)) ?_ x
  have n' : (s.heap.update T (Obj.mapFields (·.setIfInBounds 3 Value.none))).get? T' = none := n
  by_cases z : T' = T
  · subst z
    rw [Heap.get?_update_self _ hT (Obj.isFreed_of_fields (Obj.data_mapFields hdT _))] at n'
    cases n'
  · rw [other T' z] at n'; exact n'

theorem noteAgainT {Q : Unit → Shared → Prop} (hf : env.frame = some L) (hx : ExcT s.heap e C d T (rawInt L)) (k : Q () s) : wpAny M A (noteFrame (.ref e) env) Q E s := by
  obtain ⟨vs, oT, ts, he, h1, hTe, hT, hdT, h3⟩ := hx
  unfold noteFrame
  simp only [hf]
  refine wpAny_bind (wpAny_field he rfl h1 ?_)
  rw [if_pos (show (Value.ref T != Value.none) = true from by simp)]
  refine wpAny_bind (wpAny_field hT hdT h3 ?_)
  rw [if_pos (show (rawInt L == rawInt L) = true from by simp)]
  exact wpAny_pure k

/-- out of a frame's flight -/
theorem flightT {fl : Value} {Q : Unit → Shared → Prop} (hx : ExcT s.heap e C d T fl) (k : ∀ h', Away [] [T] s.heap h' → ExcT h' e C d T .none → Q () { s with heap := h' }) : wpAny M A (setFlight (.ref e) none) Q E s := by
  obtain ⟨vs, oT, ts, he, h1, hTe, hT, hdT, h3⟩ := hx
  unfold setFlight
  refine wpAny_bind (wpAny_field he rfl h1 ?_)
  rw [if_pos (show (Value.ref T != Value.none) = true from by simp)]
  have hsz : 3 < ts.size := (Array.getElem?_eq_some_iff.mp h3).1
  refine wpAny_setField hT hdT hsz (k _ (Away.of_keeps fun b o e' q => (Heap.get?_update_other _ _ fun z => q (List.mem_singleton.mpr z.symm)).trans e') ?_)
  exact ⟨vs, _, _, (Heap.get?_update_other _ _ hTe).trans he, h1, hTe, Heap.get?_update_self _ hT (Obj.isFreed_of_fields (Obj.data_mapFields hdT _)), Obj.data_mapFields hdT _, by simp [hsz]⟩

/-- an exception leaves the frame in which it was raised -/
theorem leave0 {Q : Unit → Shared → Prop} (hfr : A.frames = some (env :: outer)) (hl : s.heap.FunFrames E0 (env :: outer)) (hf : env.frame = some L) (hx : Exc0 s.heap e C d)
    (k : ∀ h' T, Away ((env :: outer).filterMap (·.frame)) [e] s.heap h' → s.heap.get? T = none → ExcT h' e C d T .none → Q () { s with heap := h' }) : wpAny M A (leaving env (.ref e)) Q E s := by
  unfold leaving
  refine wpAny_bind (note0 hfr hl hf hx fun h₁ T a n x => ?_)
  refine flightT (s := { s with heap := h₁ }) x fun h₂ a₂ x₂ => k h₂ T ?_ n x₂
  refine Away.drop (a := T) (X := [e]) ?_ n
  exact (a.mono (fun _ z => z) fun b hb => .tail _ hb).trans (a₂.mono (fun _ z => nomatch z) fun b hb => by rw [List.mem_singleton.mp hb]; exact .head _)
/-- an exception leaves a further frame -/
theorem leaveT {Q : Unit → Shared → Prop} (hfr : A.frames = some (env :: outer)) (hl : s.heap.FunFrames E0 (env :: outer)) (hf : env.frame = some L) (hx : ExcT s.heap e C d T .none)
    (k : ∀ h' T', Away ((env :: outer).filterMap (·.frame)) [e, T] s.heap h' → s.heap.get? T' = none → ExcT h' e C d T' .none → Q () { s with heap := h' }) : wpAny M A (leaving env (.ref e)) Q E s := by
  unfold leaving
  refine wpAny_bind (noteT hfr hl hf hx fun h₁ T' a n x => ?_)
  refine flightT (s := { s with heap := h₁ }) x fun h₂ a₂ x₂ => k h₂ T' ?_ n x₂
  refine Away.drop (a := T') (X := [e, T]) ?_ n
  exact (a.mono (fun _ z => z) fun b hb => .tail _ hb).trans (a₂.mono (fun _ z => nomatch z) fun b hb => by rw [List.mem_singleton.mp hb]; exact .head _)
end

end
section
example : True := by w_top off; exact trivial
theorem ns_in {K : Frag} {h : Heap} {N : Addr} {mN : Str → Option Value} {n : Str} {r : Option Value} (X : K.In h) (G : h.Ns N mN) (e : nsIn K N n = some r) : mN n = r := by
  obtain ⟨o, es, ep, ho, hd, _, hf⟩ := G
  unfold nsIn at e
  split at e
  · rename_i c d es' n' sl q
    have q' := X _ _ q
    rw [ho] at q'
    cases q'
    cases hd
    rw [← hf]
    unfold nsFind findBy
    rw [← Array.find?_toList]
    split at e
    · rename_i en he
      cases e
      rw [he]; rfl
    · rename_i he
      split at e
      · cases e
      · cases e
        rw [he]; rfl
  · cases e
abbrev bmE : List Value := [.type "Exception", .type "BaseException", .type "object"]
theorem lkE_code : typeLookup (.type "Exception") "code" = pure none := by rw [typeLookup_type, builtinLookup_eq_fast]; kernel_rfl
theorem lkE_text : typeLookup (.type "Exception") "text" = pure none := by rw [typeLookup_type, builtinLookup_eq_fast]; kernel_rfl
theorem lkE_ga : typeLookup (.type "Exception") "__getattribute__" = pure (some (.builtin "BaseException.__getattribute__")) := by rw [typeLookup_type, builtinLookup_eq_fast]; kernel_rfl
theorem canE_ga : (Manifest.canonical "BaseException.__getattribute__" != "object.__getattribute__") = false := by decide +kernel

section
variable {prog : Program} {w : World} {A : Around} {E : Value → Shared → Prop} {s : Shared} {h : Heap} {g : Array GenState} {d : Drawn} {t : Nat} {os : OsState}
variable {nm q : Str} {C N x : Addr} {bs : List Value} {sn : List Str} {sub : List Value} {ab : Bool} {col : Option Bool} {dd : Option Addr} {k0 k1 k2 k3 k5 : Option Value} {newId : String} {mN mA : Str → Option Value} {name : Str} {v : Value}

abbrev rawExc (C t : Addr) : Obj := { cls := .ref C, data := .fields #[.ref t, .none, .none, .none, .bool false, .none] }
theorem initExc {e t0 : Addr} {Q : Value → Shared → Prop} (hC : s.heap.get? C = some (excClassObj nm q C N bs bmE true sn sub ab col dd k0 k1 k2 k3 k5 "Exception.__new__")) (he : s.heap.get? e = some (rawExc C t0))
    (k : ∀ h' t', (∀ b o, b ≠ e → s.heap.get? b = some o → h'.get? b = some o) → h'.get? e = some (rawExc C t') → Q .none { s with heap := h' }) :
    wpAny (model prog w) A (call (.builtin "Exception.__init__") [.ref e, v]) Q E s := by
  obtain ⟨hh, g, d, tk, os⟩ := s
  have F := PySem.F.excBase_Exception
  refine wpAny_call (codeAny_call_builtin F.init.plain F.initEntry (wpAny_check_init_sub F hC he rfl ?_))
  wp_walk
  refine k _ hh.objs.size (fun b o hb ho => ?_) ?_
  · rw [Heap.get?_update_other _ _ (Ne.symm hb)]
    exact Heap.get?_push_of_some _ ho
  · rw [Heap.get?_update_self _ (Heap.get?_push_of_some _ he) rfl]
    rfl

theorem check_gaE {M : Model} {nameV : Value} {o : Obj} {Q : Unit → Shared → Prop} (hC : h.get? C = some (excClassObj nm q C N bs bmE true sn sub ab col dd k0 k1 k2 k3 k5 newId))
    (hx : h.get? x = some o) (hc : o.cls = .ref C) (hq : Q () ⟨h, g, d, t, os⟩) : wpAny M A (checkBuiltinCall "BaseException.__getattribute__" ⟨[.ref x, nameV], []⟩) Q E ⟨h, g, d, t, os⟩ := by
  have hk : builtinKind "BaseException.__getattribute__" = some .slot := by decide +kernel
  have hsplit : splitId "BaseException.__getattribute__" = some ("BaseException", "__getattribute__") := by decide +kernel
  have hcB : (Value.ref C :: bmE).contains (.type "BaseException") = true := by rw [List.contains_cons]; simp
  have ha := PySem.F.args_bexc_ga (.ref x) nameV
  simp only [checkBuiltinCall, hk, hsplit]
  refine wpAny_bind ?_
  · unfold isInstance
    repeat (first | (with_reducible refine wpAny_loadPart_at hx ?_; rw [hc]) | (with_reducible refine wpAny_isSubtype_exc hC ?_; rw [hcB]) | wp_step)
    exact hq

theorem get_entryE {tk : Tok} {Q : PySem.Fin → Shared → Prop}
    (hC : h.get? C = some (excClassObj nm q C N bs bmE true sn sub ab col dd k0 k1 k2 k3 k5 newId)) (hn : h.Ns N mN) (hna : mN name = none)
    (hB : typeLookup (.type "Exception") name = pure none) (I : h.Inst x C mA) (hv : mA name = some v) (hq : Q (.done (.ret v)) ⟨h, g, d, t, os⟩) :
    wpAny (model prog w) A (Builtin.«object.__getattribute__» ⟨[.ref x, .str name tk], []⟩) Q E ⟨h, g, d, t, os⟩ := by
  obtain ⟨o, hx, hc, hnc, hd⟩ := I
  rcases hd with ⟨_, hmA⟩ | ⟨dx, hdx, hne, hns⟩
  · rw [hmA name] at hv; cases hv
  unfold Builtin.«object.__getattribute__»
  repeat (first | (with_reducible refine wpAny_loadPart_at hx ?_; rw [hc]) | (with_reducible refine wpAny_typeLookup_exc hC hn PySem.F.excBase_Exception.mroIs hB ?_; rw [hna]) | wp_step)
  split
  · rename_i c hcd
    exact absurd hcd (hnc c)
  unfold instanceDict
  repeat (first | (with_reducible refine wpAny_loadPart_at hx ?_; rw [hc]) | with_reducible refine wpAny_loadPart_at hC ?_ | wp_step)
  rw [hdx]
  repeat (first | (with_reducible refine wpAny_nsGet hns.ns ?_; rw [hv]) | wp_step)
  exact hq

theorem load_attrE {expr : Bool} {Q : Value → Shared → Prop}
    (hC : h.get? C = some (excClassObj nm q C N bs bmE true sn sub ab col dd k0 k1 k2 k3 k5 newId)) (hn : h.Ns N mN) (hng : mN "__getattribute__" = none) (hnh : mN "__getattr__" = none) (hna : mN name = none)
    (hB : typeLookup (.type "Exception") name = pure none) (I : h.Inst x C mA) (hv : mA name = some v) (hh : handedOut v = pure v) (hq : Q v ⟨h, g, d, t + 1, os⟩) :
    wpAny (model prog w) A (getAttr (.ref x) name expr) Q E ⟨h, g, d, t, os⟩ := by
  obtain ⟨o, hx, hc, _⟩ := id I
  have FB := PySem.F.attrBase_Exception
  have f3 := FB.ga.bind (.ref x)
  have hx0 : (expr && onTheHeap (Value.builtin "BaseException.__getattribute__")) = false := by cases expr <;> rfl
  have hx2 : (Value.builtin "BaseException.__getattribute__" == Value.builtin "object.__getattribute__") = false := by decide +kernel
  have hx1 : (onTheHeap (Value.ref C) && Value.builtin "BaseException.__getattribute__" == Value.builtin "object.__getattribute__") = false := by rw [hx2]; rfl
  unfold getAttr
  repeat (any_goals (first | assumption | (with_reducible refine wpAny_loadPart_at hx ?_; rw [hc]) | (with_reducible refine wpAny_typeLookup_exc hC hn PySem.F.excBase_Exception.mroIs FB.ga.lookup ?_; rw [hng]) | (with_reducible refine wpAny_typeLookup_exc hC hn PySem.F.excBase_Exception.mroIs FB.noGetattr ?_; rw [hnh]) | wp_step))
  refine codeAny_call_builtin FB.ga.plain PySem.F.entry_bexc_ga (check_gaE hC hx hc (get_entryE hC hn hna hB I hv ?_))
  show wpAny _ _ (handedOut v) _ _ _
  rw [hh]
  exact wpAny_pure hq

variable {B sa owner : String} {bm : List Value}
theorem store_newE {tk : Tok} {o : Obj} {vs : Array Value} {Q : PySem.Fin → Shared → Prop} (SF : StoreFacts B bm sa owner)
    (hC : h.get? C = some (excClassObj nm q C N bs bm true sn sub ab col dd k0 k1 k2 k3 k5 newId)) (hn : h.Ns N mN) (hna : mN name = none)
    (hB : typeLookup (.type B) name = pure none) (hx : h.get? x = some o) (hc : o.cls = .ref C) (hdn : o.dict = none) (hdt : o.data = .fields vs) (hsl : o.slots = #[])
    (k : ∀ h' D tk', h.get? D = none → D ≠ x → (∀ b o, b ≠ x → h.get? b = some o → h'.get? b = some o) → h'.get? x = some (excO C D vs) → h'.Ns1 D (fun y => if y = name then some v else none) → Q (.done (.ret .none)) ⟨h', g, d, tk', os⟩) :
    wpAny (model prog w) A (Builtin.«object.__setattr__» ⟨[.ref x, .str name tk, v], []⟩) Q E ⟨h, g, d, t, os⟩ := by
  have hpass := SF.passes (.ref x)
  unfold Builtin.«object.__setattr__»
  repeat (first | rw [refuse_eq] | (rw [refuseLoop_ref, hpass]) | (with_reducible refine wpAny_loadPart_at hx ?_; rw [hc]) | with_reducible refine wpAny_mroOf_exc hC ?_ | (with_reducible refine wpAny_typeLookup_exc hC hn SF.mro hB ?_; rw [hna]) | wp_step)
  rw [hdn, if_neg (by simp [typeHasDict])]
  rw [hdt]
  dsimp only
  have hx₁ : (h.push { cls := .type "dict", data := .dict #[] }).get? x = some o := Heap.get?_push_of_some _ hx
  have hxs : x ≠ h.objs.size := Nat.ne_of_lt (Heap.lt_size hx)
  refine wpAny_bind (wpAny_alloc' ?_)
  refine wpAny_bind (wpAny_update' hx₁ ?_)
  refine wpAny_pure ?_
  have hgd : ((h.push { cls := .type "dict", data := .dict #[] }).update x fun o => { cls := o.cls, dict := some h.objs.size, data := o.data, slots := o.slots }).get? h.objs.size
      = some { cls := .type "dict", data := .dict #[] } := (Heap.get?_update_ne _ _ _ _ hxs.symm).trans (Heap.get?_push_at rfl rfl)
  have hnd : ((h.push { cls := .type "dict", data := .dict #[] }).update x fun o => { cls := o.cls, dict := some h.objs.size, data := o.data, slots := o.slots }).Ns h.objs.size (fun _ => none) :=
    ⟨_, #[], _, hgd, rfl, fun e he => absurd he (by simp), fun _ => rfl⟩
  show wpAny _ _ (Builtin.ObjectAttr.storeInDict h.objs.size (.str name tk) name v) _ _ _
  unfold Builtin.ObjectAttr.storeInDict Builtin.ObjectAttr.newKeyGuard
  refine wpAny_bind (wpAny_pure (wpAny_bind (wpAny_nsSet1 (Heap.Ns1.of_empty hnd) fun h' hn' hs => ?_)))
  obtain ⟨oD, esD, epD, hoD, hdD, hcD⟩ := hn'.count (Within.cons name v Within.nil)
  refine wpAny_bind (wpAny_lookBehind hoD (by rw [hdD]; exact pastItsLine_dict (Nat.le_trans hcD (by rw [List.length_cons, List.length_nil, sizeLine_eq]; omega))) ?_)
  wp_walk
  refine k h' h.objs.size _ (Heap.get?_none_of_le (Nat.le_refl _)) hxs.symm (fun b ob hbx hb => ?_) ?_ hn'
  · exact (hs.2 b (Nat.ne_of_lt (Heap.lt_size hb))).trans ((Heap.get?_update_ne _ _ _ _ hbx).trans (Heap.get?_push_of_some _ hb))
  · refine (hs.2 x hxs).trans ((Heap.get?_update_self _ hx₁ ?_).trans ?_)
    · show ({ cls := o.cls, dict := some h.objs.size, data := o.data, slots := o.slots } : Obj).isFreed = false
      rw [hdt]; rfl
    · rw [hc, hdt, hsl]

theorem store_oldE {tk : Tok} {o : Obj} {D : Addr} {ns : List Str} {Q : PySem.Fin → Shared → Prop} (SF : StoreFacts B bm sa owner)
    (hC : h.get? C = some (excClassObj nm q C N bs bm true sn sub ab col dd k0 k1 k2 k3 k5 newId)) (hn : h.Ns N mN) (hna : mN name = none)
    (hB : typeLookup (.type B) name = pure none) (hx : h.get? x = some o) (hc : o.cls = .ref C) (hdn : o.dict = some D) (hns : h.Ns1 D mA)
    (k : ∀ h' tk', (∀ b o, b ≠ D → h.get? b = some o → h'.get? b = some o) → h'.Ns1 D (fun y => if y = name then some v else mA y) → Q (.done (.ret .none)) ⟨h', g, d, tk', os⟩)
    (hw : Within mA ns) (hsz : ns.length ≤ 100) :
    wpAny (model prog w) A (Builtin.«object.__setattr__» ⟨[.ref x, .str name tk, v], []⟩) Q E ⟨h, g, d, t, os⟩ := by
  have hpass := SF.passes (.ref x)
  unfold Builtin.«object.__setattr__»
  repeat (first | rw [refuse_eq] | (rw [refuseLoop_ref, hpass]) | (with_reducible refine wpAny_loadPart_at hx ?_; rw [hc]) | with_reducible refine wpAny_mroOf_exc hC ?_ | (with_reducible refine wpAny_typeLookup_exc hC hn SF.mro hB ?_; rw [hna]) | wp_step)
  rw [hdn]
  refine wpAny_pure ?_
  show wpAny _ _ (Builtin.ObjectAttr.storeInDict D (.str name tk) name v) _ _ _
  unfold Builtin.ObjectAttr.storeInDict Builtin.ObjectAttr.newKeyGuard
  refine wpAny_bind (wpAny_pure (wpAny_bind (wpAny_nsSet1 hns fun h' hn' hs => ?_)))
  obtain ⟨oD, esD, epD, hoD, hdD, hcD⟩ := hn'.count (Within.cons name v hw)
  refine wpAny_bind (wpAny_lookBehind hoD (by rw [hdD]; exact pastItsLine_dict (Nat.le_trans hcD (by rw [List.length_cons, sizeLine_eq]; omega))) ?_)
  wp_walk
  exact k h' _ (fun b ob hbx hb => (hs.2 b hbx).trans hb) hn'

/-- the store as the language's statement calls it -/
theorem store_viaE {o : Obj} {Q : Unit → Shared → Prop} (SF : StoreFacts B bm sa owner)
    (hC : h.get? C = some (excClassObj nm q C N bs bm true sn sub ab col dd k0 k1 k2 k3 k5 newId)) (hn : h.Ns N mN) (hns : mN "__setattr__" = none) (hx : h.get? x = some o) (hc : o.cls = .ref C)
    (k : wpAny (model prog w) A.in1 (Builtin.«object.__setattr__» ⟨[.ref x, .str name t, v], []⟩) (fun fin s' => match fin with | .done (.ret _) => Q () s' | _ => False) E ⟨h, g, d, t + 1, os⟩) :
    wpAny (model prog w) A (setAttr (.ref x) name v) Q E ⟨h, g, d, t, os⟩ := by
  have f3 := SF.slot.bind (.ref x)
  unfold setAttr callSpecial? specialOf
  repeat (any_goals (first | assumption | (with_reducible refine wpAny_loadPart_at hx ?_; rw [hc]) | (with_reducible refine wpAny_typeLookup_exc hC hn SF.mro SF.slot.lookup ?_; rw [hns]) | wp_step))
  refine codeAny_call_builtin SF.slot.plain SF.entry (wpAny_check_sa SF hC hx hc (wpAny_mono k (fun fin s' z => ?_) fun _ _ z => z))
  cases fin with
  | again c => exact z.elim
  | done f =>
    cases f <;> first | exact z.elim | skip
    repeat (any_goals (first | assumption | wp_step))
end

end
section
example : True := by w_top off; exact trivial
theorem news_of_keep {H h h' : Heap} {L : Addr} {news : List (Addr × Obj)} (N : News H L h news) (k : h.StaysIn h') : News H L h' news := fun q hq => ⟨k _ _ (N q hq).1, (N q hq).2⟩
theorem fr_of_keep {H h h' : Heap} {L : Addr} {m : Str → Option Value} (F : Fr H L h m) (k : h.StaysIn h') : Fr H L h' m :=
  ⟨let ⟨o, es, ep, e, r⟩ := F.ns; ⟨o, es, ep, k _ _ e, r⟩, fun b o e => k _ _ (F.keep b o e), F.above⟩
theorem fr_but {H h h' : Heap} {L e : Addr} {m : Str → Option Value} (F : Fr H L h m) (k : ∀ b o, b ≠ e → h.get? b = some o → h'.get? b = some o) (hL : L ≠ e) (hH : H.get? e = none) : Fr H L h' m :=
  ⟨let ⟨o, es, ep, e, r⟩ := F.ns; ⟨o, es, ep, k _ _ hL e, r⟩, fun b o q => k _ _ (fun z => by rw [z, hH] at q; cases q) (F.keep b o q), F.above⟩
set_option maxHeartbeats 2000000 in
theorem mkH3 {H : Heap} (X : (hd.heap_1 w.params).In H) (T : Top hd.view_1 (looseW hd.view_1 []) mean mg mb H) {L : Addr} {m : Str → Option Value} {hp : Heap} {tk0 : Tok} {Q E : Value → Shared → Prop} {c : Int} {x : Str} {t1 t2 : Tok} (F : Fr H L hp m) (hx : x.length < 1000) (hc : 0 < c) (hc2 : c < 1000)
  (ret : ∀ e d h' tk', hp.StaysIn h' → hp.get? e = none → hp.get? d = none → d ≠ e → Exc0 h' e 51 d → (∃ tc, h'.Ns1 d (fun y => if y = Str.ofString "text" then some (.str x t2) else if y = Str.ofString "code" then some (.int c tc) else none)) → Q (.ref e) {s with heap := h', toks := tk'}) :
  wpAny (model PySem.Challenge.rw_sj0117_01.row.prog w) (AA 150) (call (.ref 51) [.int c t1, .str x t2]) Q E {s with heap := hp, toks := tk0} := by
  have hC : hp.get? 51 = some _ := F.keep _ _ (X 51 _ (by k_is))
  have h48 : hp.get? 48 = some _ := F.keep _ _ (X 48 _ (by k_is))
  have nk : nsOkIn (hd.heap_1 w.params) 50 = true := by
    have l50 := (show (hd.heap_1 w.params).lookup 50 = some _ from by k_is)
    unfold nsOkIn; rw [l50]; simp
  have ni : nsIn (hd.heap_1 w.params) 50 "__init__" = some (some (.ref 48)) := by k_is
  have ns1 : nsIn (hd.heap_1 w.params) 50 "__setattr__" = some none := by k_is
  have ns2 : nsIn (hd.heap_1 w.params) 50 "code" = some none := by k_is
  have ns3 : nsIn (hd.heap_1 w.params) 50 "text" = some none := by k_is
  have Xs := X.keeps F.keep
  have G : hp.Ns 50 _ := .of_isNs (isNs_of_in Xs nk)
  have hi := ns_in Xs G ni
  refine wpAny_call_exc_init PySem.F.excBase_Exception hC G hi h48 rfl (fun h₁ e hm => ?_)
  obtain ⟨kp, hnew, t0, he, _⟩ := hm
  have F1 := fr_of_keep F kp
  have hLe : L ≠ e := fun z => by obtain ⟨o, es, ep, q, _⟩ := F.ns; have q' : hp.get? L = some o := q; rw [z, hnew] at q'; cases q'
  have hHe : H.get? e = none := by
    cases z : H.get? e with
    | none => rfl
    | some o => have := F.keep _ _ z; have q' : hp.get? e = some o := this; rw [hnew] at q'; cases q'
  have N1 : News H L h₁ ([(e, rawExc 51 t0)] ++ []) := fun q hq => by
    rw [List.append_nil] at hq; cases List.mem_singleton.mp hq; exact ⟨he, hLe.symm, hHe⟩
  refine wpAny_call ?_
  have F1' : Fr H L ({ heap := h₁, gens := s.gens, drawn := s.drawn, toks := tk0, os := s.os } : Shared).heap m := F1
  have N1' : News H L ({ heap := h₁, gens := s.gens, drawn := s.drawn, toks := tk0, os := s.os } : Shared).heap ([(e, rawExc 51 t0)] ++ []) := N1
  clear F1 N1 Xs F hC h48 hi G
  refine' enterQ (binds := [(Str.ofString "self", .ref e), (Str.ofString "code", .int c t1), (Str.ofString "text", .str x t2)]) (tgt := [(e, rawExc 51 t0)]) (by assumption) (by assumption) (by assumption) (by assumption) (fun q hq r hr => absurd hr List.not_mem_nil) ?k6 ?k7 (by first | decide | k_room | exact Nat.le_of_ble_eq_true rfl) ?k9 ?kB ?_ ?c2 ?c3 ?c4 ?c5
  ((case k6 => k_is); (case k7 => k_is); (case k9 => exact BindsTo.of_eq (by first | rfl | kernel_rfl | with_unfolding_all rfl)); (case kB => exact locs rfl); (case c2 => exact rfl); (case c3 => exact rfl); (case c4 => exact rfl); (case c5 => decide); (intro xH xL xh xX xT xG xlk xF xN xl1 xl2 xl4); (replace xl1 := ltN xl1); (replace xl2 := PySem.W.allLt_of xl2); (try dsimp only [PySem.W.AllLt] at xl2); (try dsimp only); (try k_fold))
  clear F1' N1' X T
  w_strict k_steps
  rename Fr _ _ _ _ => F2
  rename News _ _ _ _ => N2
  rename Frag.In _ _ => X2
  rename Top _ _ _ _ _ _ => T2
  rename Ground' _ _ _ _ _ => G2
  rename (∀ (b : Addr) (o : Obj), _ → (∀ q : Addr × Obj, q ∈ _ → b ≠ q.1) → _) => lk
  refine initExc (F2.keep _ _ (X2 51 _ (by k_is))) (N2 _ (.head _)).1 (fun h2 t2' kp2 he2 => ?_)
  have F3 := fr_but F2 kp2 (Ne.symm (N2 _ (.head _)).2.1) (N2 _ (.head _)).2.2
  have N3 : News _ _ h2 [(e, rawExc 51 t2')] := fun q hq => by cases List.mem_singleton.mp hq; exact ⟨he2, (N2 _ (.head _)).2⟩
  clear F2 N2
  w_strict k_steps
  have G3 : h2.Ns 50 _ := .of_isNs (isNs_of_in (X2.keeps F3.keep) nk)
  have hC3 : h2.get? 51 = some _ := F3.keep _ _ (X2 51 _ (by k_is))
  refine store_viaE PySem.F.store_Exception hC3 G3 (ns_in (X2.keeps F3.keep) G3 ns1) he2 rfl ?_
  refine store_newE PySem.F.store_Exception hC3 G3 (ns_in (X2.keeps F3.keep) G3 ns2) lkE_code he2 rfl rfl rfl rfl (fun h4 D tk4 hD hDe kp4 he4 nD => ?_)
  dsimp only
  have F4 := fr_but F3 kp4 (Ne.symm (N3 _ (.head _)).2.1) (N3 _ (.head _)).2.2
  have N4 : News _ _ h4 [(e, excO 51 D #[.ref t2', .none, .none, .none, .bool false, .none])] := fun q hq => by cases List.mem_singleton.mp hq; exact ⟨he4, (N3 _ (.head _)).2⟩
  clear N3 G3 hC3
  w_strict k_steps
  have G4 : h4.Ns 50 _ := .of_isNs (isNs_of_in (X2.keeps F4.keep) nk)
  have hC4 : h4.get? 51 = some _ := F4.keep _ _ (X2 51 _ (by k_is))
  refine store_viaE PySem.F.store_Exception hC4 G4 (ns_in (X2.keeps F4.keep) G4 ns1) he4 rfl ?_
  refine store_oldE (ns := ["code"]) PySem.F.store_Exception hC4 G4 (ns_in (X2.keeps F4.keep) G4 ns3) lkE_text he4 rfl rfl nD (fun h5 tk5 kp5 nD5 => ?_) ?_ (by decide)
  · dsimp only
    w_strict k_steps
    have st2 : ∀ b o, hp.get? b = some o → h2.get? b = some o := fun b o q => F3.keep _ _ (lk b o (kp b o q) fun z hz ez => by
      cases List.mem_singleton.mp hz; rw [ez, hnew] at q; cases q)
    have hDh : hp.get? D = none := by
      cases z : hp.get? D with
      | none => rfl
      | some o => rw [st2 _ _ z] at hD; cases hD
    refine ret e D h5 _ (fun b o q => ?_) hnew hDh hDe ?_ ⟨_, nD5⟩
    · have q' : hp.get? b = some o := q
      have hbe : b ≠ e := fun z => by rw [z, hnew] at q'; cases q'
      have hbD : b ≠ D := fun z => by rw [z, hDh] at q'; cases q'
      exact kp5 _ _ hbD (kp4 _ _ hbe (st2 _ _ q'))
    · exact ⟨_, kp5 _ _ (Ne.symm hDe) he4, rfl⟩
  · exact Within.cons _ _ Within.nil

end
section
example : True := by w_top off; exact trivial
set_option maxHeartbeats 2000000 in
theorem mkShort {H : Heap} (X : (hd.heap_1 w.params).In H) (T : Top hd.view_1 (looseW hd.view_1 []) mean mg mb H) {L : Addr} {m : Str → Option Value} {hp : Heap} {tk0 : Tok} {Q E : Value → Shared → Prop} {x : Str} {t2 : Tok} (F : Fr H L hp m) (hx : x.length < 1000)
  (ret : ∀ e d h' tk', hp.StaysIn h' → hp.get? e = none → hp.get? d = none → d ≠ e → Exc0 h' e 71 d → h'.Ns1 d (fun y => if y = Str.ofString "text" then some (.str x t2) else none) → Q (.ref e) {s with heap := h', toks := tk'}) :
  wpAny (model PySem.Challenge.rw_sj0117_01.row.prog w) (AA 150) (call (.ref 71) [.str x t2]) Q E {s with heap := hp, toks := tk0} := by
  have hC : hp.get? 71 = some _ := F.keep _ _ (X 71 _ (by k_is))
  have h48 : hp.get? 68 = some _ := F.keep _ _ (X 68 _ (by k_is))
  have nk : nsOkIn (hd.heap_1 w.params) 70 = true := by
    have l50 := (show (hd.heap_1 w.params).lookup 70 = some _ from by k_is)
    unfold nsOkIn; rw [l50]; simp
  have ni : nsIn (hd.heap_1 w.params) 70 "__init__" = some (some (.ref 68)) := by k_is
  have ns1 : nsIn (hd.heap_1 w.params) 70 "__setattr__" = some none := by k_is
  have ns3 : nsIn (hd.heap_1 w.params) 70 "text" = some none := by k_is
  have Xs := X.keeps F.keep
  have G : hp.Ns 70 _ := .of_isNs (isNs_of_in Xs nk)
  have hi := ns_in Xs G ni
  refine wpAny_call_exc_init PySem.F.excBase_Exception hC G hi h48 rfl (fun h₁ e hm => ?_)
  obtain ⟨kp, hnew, t0, he, _⟩ := hm
  have F1 := fr_of_keep F kp
  have hLe : L ≠ e := fun z => by obtain ⟨o, es, ep, q, _⟩ := F.ns; have q' : hp.get? L = some o := q; rw [z, hnew] at q'; cases q'
  have hHe : H.get? e = none := by
    cases z : H.get? e with
    | none => rfl
    | some o => have := F.keep _ _ z; have q' : hp.get? e = some o := this; rw [hnew] at q'; cases q'
  have N1 : News H L h₁ ([(e, rawExc 71 t0)] ++ []) := fun q hq => by
    rw [List.append_nil] at hq; cases List.mem_singleton.mp hq; exact ⟨he, hLe.symm, hHe⟩
  refine wpAny_call ?_
  have F1' : Fr H L ({ heap := h₁, gens := s.gens, drawn := s.drawn, toks := tk0, os := s.os } : Shared).heap m := F1
  have N1' : News H L ({ heap := h₁, gens := s.gens, drawn := s.drawn, toks := tk0, os := s.os } : Shared).heap ([(e, rawExc 71 t0)] ++ []) := N1
  clear F1 N1 Xs F hC h48 hi G
  refine' enterQ (binds := [(Str.ofString "self", .ref e), (Str.ofString "text", .str x t2)]) (tgt := [(e, rawExc 71 t0)]) (by assumption) (by assumption) (by assumption) (by assumption) (fun q hq r hr => absurd hr List.not_mem_nil) ?k6 ?k7 (by first | decide | k_room | exact Nat.le_of_ble_eq_true rfl) ?k9 ?kB ?_ ?c2 ?c3 ?c4 ?c5
  ((case k6 => k_is); (case k7 => k_is); (case k9 => exact BindsTo.of_eq (by first | rfl | kernel_rfl | with_unfolding_all rfl)); (case kB => exact locs rfl); (case c2 => exact rfl); (case c3 => exact rfl); (case c4 => exact rfl); (case c5 => decide); (intro xH xL xh xX xT xG xlk xF xN xl1 xl2 xl4); (replace xl1 := ltN xl1); (replace xl2 := PySem.W.allLt_of xl2); (try dsimp only [PySem.W.AllLt] at xl2); (try dsimp only); (try k_fold))
  clear F1' N1' X T
  w_strict k_steps
  rename Fr _ _ _ _ => F2
  rename News _ _ _ _ => N2
  rename Frag.In _ _ => X2
  rename Top _ _ _ _ _ _ => T2
  rename Ground' _ _ _ _ _ => G2
  rename (∀ (b : Addr) (o : Obj), _ → (∀ q : Addr × Obj, q ∈ _ → b ≠ q.1) → _) => lk
  refine initExc (F2.keep _ _ (X2 71 _ (by k_is))) (N2 _ (.head _)).1 (fun h2 t2' kp2 he2 => ?_)
  have F3 := fr_but F2 kp2 (Ne.symm (N2 _ (.head _)).2.1) (N2 _ (.head _)).2.2
  have N3 : News _ _ h2 [(e, rawExc 71 t2')] := fun q hq => by cases List.mem_singleton.mp hq; exact ⟨he2, (N2 _ (.head _)).2⟩
  clear F2 N2
  w_strict k_steps
  have G3 : h2.Ns 70 _ := .of_isNs (isNs_of_in (X2.keeps F3.keep) nk)
  have hC3 : h2.get? 71 = some _ := F3.keep _ _ (X2 71 _ (by k_is))
  refine store_viaE PySem.F.store_Exception hC3 G3 (ns_in (X2.keeps F3.keep) G3 ns1) he2 rfl ?_
  refine store_newE PySem.F.store_Exception hC3 G3 (ns_in (X2.keeps F3.keep) G3 ns3) lkE_text he2 rfl rfl rfl rfl (fun h4 D tk4 hD hDe kp4 he4 nD => ?_)
  dsimp only
  have F4 := fr_but F3 kp4 (Ne.symm (N3 _ (.head _)).2.1) (N3 _ (.head _)).2.2
  have N4 : News _ _ h4 [(e, excO 71 D #[.ref t2', .none, .none, .none, .bool false, .none])] := fun q hq => by cases List.mem_singleton.mp hq; exact ⟨he4, (N3 _ (.head _)).2⟩
  clear N3 G3 hC3
  w_strict k_steps
  have st2 : ∀ b o, hp.get? b = some o → h2.get? b = some o := fun b o q => F3.keep _ _ (lk b o (kp b o q) fun z hz ez => by
      cases List.mem_singleton.mp hz; rw [ez, hnew] at q; cases q)
  have hDh : hp.get? D = none := by
      cases z : hp.get? D with
      | none => rfl
      | some o => rw [st2 _ _ z] at hD; cases hD
  refine ret e D h4 _ (fun b o q => ?_) hnew hDh hDe ⟨_, he4, rfl⟩ nD
  have q' : hp.get? b = some o := q
  have hbe : b ≠ e := fun z => by rw [z, hnew] at q'; cases q'
  exact kp4 _ _ hbe (st2 _ _ q')

end
section
abbrev AF (l : List Env) (k : Nat) : Around := { handled := none, depth := k + 300, frames := some l, guards := none, units := 4 * k }
theorem wp_atF {α : Type} {M : Model} {A' : Around} {k : Nat} {l : List Env} {t : Sem α} {Q : α → Shared → Prop} {E : Value → Shared → Prop} {s : Shared} (h : wpAny M (AF l k) t Q E s)
    (hf : A'.frames = some l) (f : Fits A' k) : wpAny M A' t Q E s :=
  wp_in h f.1 f.2.1 (fun _ q => by cases q; exact hf) (fun _ q => nomatch q) f.2.2
abbrev adr (l : List (Addr × Obj)) : List Addr := l.map Prod.fst
theorem mem_adr {l : List (Addr × Obj)} {a : Addr} (h : a ∈ adr l) : ∃ o, (a, o) ∈ l := by
  obtain ⟨q, hq, rfl⟩ := List.mem_map.mp h
  exact ⟨q.2, hq⟩
theorem frAway {H h h' : Heap} {L : Addr} {m : Str → Option Value} {fs X : List Addr} (F : Fr H L h m) (x : Away fs X h h') (hH : ∀ b o, H.get? b = some o → b ∉ fs ∧ b ∉ X) (hL : L ∉ X) : Fr H L h' m :=
  ⟨x.ns F.ns hL, fun b o e => (x b o (F.keep b o e) (hH b o e).2).1 (hH b o e).1, F.above⟩
theorem newsAway {H h h' : Heap} {L : Addr} {fs X : List Addr} {news : List (Addr × Obj)} (N : News H L h news) (x : Away fs X h h') (hN : ∀ q ∈ news, q.1 ∉ fs ∧ q.1 ∉ X) : News H L h' news := fun q hq =>
  ⟨(x _ _ (N q hq).1 (hN q hq).2).1 (hN q hq).1, (N q hq).2⟩
/-- the frames after: the same up to the slots -/
theorem frsAway {H h h' : Heap} {L : Addr} {fs X : List Addr} {fr : List (Addr × Obj)} (N : News H L h fr) (x : Away fs X h h') (hX : ∀ q ∈ fr, q.1 ∉ X) : ∃ fr', TI.SameUp fr fr' ∧ News H L h' fr' := by
  obtain ⟨fr', h1, h2⟩ := TI.sameUp_of (h' := h') fun p hp => (x _ _ (N p hp).1 (hX p hp)).2
  refine ⟨fr', h1, fun q hq => ?_⟩
  obtain ⟨p, hp, e⟩ := h1.fwd q hq
  exact ⟨h2 q hq, by rw [e]; exact (N p hp).2.1, by rw [e]; exact (N p hp).2.2⟩
theorem sameUp_adr : ∀ {a b : List (Addr × Obj)}, TI.SameUp a b → adr b = adr a
  | [], [], _ => rfl
  | [], _ :: _, h => h.elim
  | _ :: _, [], h => h.elim
  | _ :: _, _ :: _, ⟨h1, _, h3⟩ => by rw [adr, List.map_cons, h1]; show _ :: adr _ = _; rw [sameUp_adr h3]; rfl
theorem sameUp_at : ∀ {a b : List (Addr × Obj)}, TI.SameUp a b → ∀ p ∈ a, ∃ sl, (p.1, { p.2 with slots := sl }) ∈ b
  | [], [], _, _, hp => absurd hp List.not_mem_nil
  | [], _ :: _, h, _, _ => h.elim
  | _ :: _, [], h, _, _ => h.elim
  | x :: _, y :: _, ⟨h1, ⟨sl, h2⟩, h3⟩, p, hp => by
    rcases List.mem_cons.mp hp with rfl | hp
    · refine ⟨sl, ?_⟩
      have e : (p.1, { p.2 with slots := sl }) = y := by rw [← h1, ← h2]
      rw [e]; exact .head _
    · obtain ⟨sl, z⟩ := sameUp_at h3 p hp
      exact ⟨sl, .tail _ z⟩

section
variable {prog : Program} {w : World} {A : Around} {s : Shared} {H : Heap} {L : Addr} {m : Str → Option Value} {tgt fr : List (Addr × Obj)} {K : Frag} {p : Program} {loose : List Str} {mean : ExcName → Option Value} {mg mb : Str → Option Value}
  {R : Result → Shared → Prop} {name qual : Str} {params : Arguments} {body : List Stmt} {scope : Scope} {dV kV doc pm cdv ct oc : Value} {an od : Option Addr} {osl : Array (Option Value)} {f : Addr} {args : Args} {binds : List (Str × Value)}
  {env : Env} {outer : List Env}

/-- what the base of a callee that may fail is -/
structure GroundX (h H' : Heap) (hid : List Addr) : Prop where
  keep : ∀ b o, h.get? b = some o → b ∉ hid → H'.get? b = some o
  hidden : ∀ b ∈ hid, H'.get? b = none
  old : H'.objs.size ≤ h.objs.size

theorem hideAll_old {h : Heap} {l : List Addr} {b : Addr} {o : Obj} (e : (hideAll h l).get? b = some o) : h.get? b = some o := of_hideAll _ e

/-- into a def through which an exception may come: the frames and the few objects that it may turn are in its ledger, all else is its base -/
theorem enterX (X : K.In H) (T : Top p loose mean mg mb H) (F : Fr H L s.heap m) (N : News H L s.heap (tgt ++ fr)) (Fs : TI.Frs outer fr) (hf : env.frame = some L) (hke : env.scope.kind ≠ .module) (hne : ∀ q ∈ tgt, q.1 ∉ adr fr)
    (ho : K.lookup f = some ⟨oc, od, .func (fnOf name qual params body scope dV kV doc pm an cdv ct), osl⟩) (hcd : codeIn K cdv qual = true) (hroom : A.depth < recursionLimit)
    (hbind : BindsTo s (fnOf name qual params body scope dV kV doc pm an cdv ct) args binds) (hloc : ∀ y ∈ binds, scope.names.lookup y.1 = some .local)
    (h : ∀ H' L' h₁ fr', K.In H' → Top p loose mean mg mb H' → GroundX s.heap H' (adr tgt ++ L :: adr fr) → TI.Frs (env :: outer) fr' → adr fr' = L :: adr fr → (∀ q ∈ tgt, q.1 ∉ adr fr') → s.heap.get? L' = none → (∀ q ∈ fr', s.heap.get? q.1 = some q.2) → Fr H' L' h₁ (fun y => binds.reverse.lookup y) → News H' L' h₁ (tgt ++ fr') → (∀ q ∈ tgt, q.1 < L') →
      wpAny (model prog w) (A.deeper (envOf qual scope L' f cdv)) (execs body (envOf qual scope L' f cdv))
        (fun fl s' => R (.ok (.ret (match fl with | .ret v => v | _ => .none))) s')
        (fun e s' => wpAny (model prog w) (A.deeper (envOf qual scope L' f cdv)) (leaving (envOf qual scope L' f cdv) e) (fun _ s'' => R (.error e) s'') (fun e' s'' => R (.error e') s'') s')
        { s with heap := h₁, toks := s.toks + binds.length })
    (hco : scope.isCoroutine = false) (hgen : scope.isGenerator = false) (hk : scope.kind = .function)
    (hcell : ∀ x ∈ scope.names, x.2 ≠ .cell) : codeAny (model prog w) A (.call (.ref f) args) R s := by
  have X' := X.keeps F.keep
  refine codeAny_call_def (fd := fnOf name qual params body scope dV kV doc pm an cdv ct) (body := body) (binds := binds) hroom (X' _ _ ho) rfl (T.nolimit.keeps F.keep) (codeRec_of X' hcd) rfl hbind hcell hloc (fun h₁ hns hk₁ => ?_) hco hgen hk
  obtain ⟨oL, es, ep, hL, hLd, hLk, hLf⟩ := F.ns
  have hLt := Heap.lt_size hL
  have hH : ∀ b o, H.get? b = some o → b ∉ adr tgt ++ L :: adr fr := fun b o e hm => by
    rcases List.mem_append.mp hm with hm | hm
    · obtain ⟨o', z⟩ := mem_adr hm
      have := (N _ (List.mem_append_left _ z)).2.2; rw [e] at this; cases this
    · rcases List.mem_cons.mp hm with rfl | hm
      · exact absurd (Nat.lt_of_lt_of_le (Heap.lt_size e) F.above) (Nat.lt_irrefl _)
      · obtain ⟨o', z⟩ := mem_adr hm
        have := (N _ (List.mem_append_right _ z)).2.2; rw [e] at this; cases this
  have st : H.StaysIn (hideAll s.heap (adr tgt ++ L :: adr fr)) := fun b o e => hideAll_get _ (F.keep b o e) (hH b o e)
  have tL : ∀ q ∈ tgt, q.1 ∉ L :: adr fr := fun q hq hm => (List.mem_cons.mp hm).elim (fun e => (N q (List.mem_append_left _ hq)).2.1 e) fun e => hne q hq e
  refine h (hideAll s.heap (adr tgt ++ L :: adr fr)) s.heap.objs.size h₁ ((L, oL) :: fr) (X.keeps st) (T.keeps st)
    ⟨fun b o e hb => hideAll_get _ e hb, fun b hb => hideAll_none _ hb, Nat.le_of_eq (hideAll_size _ _)⟩ ⟨hke, hf, ⟨es, ep, hLd⟩, Fs⟩ rfl tL (Heap.get?_none_of_le (Nat.le_refl _)) (fun q hq => ?_)
    ⟨hns, fun b o e => hk₁ b o (of_hideAll _ e), Nat.le_of_eq (hideAll_size _ _)⟩
    (fun q hq => ?_) (fun q hq => Heap.lt_size (N q (List.mem_append_left _ hq)).1)
  · rcases List.mem_cons.mp hq with rfl | hq
    · exact hL
    · exact (N q (List.mem_append_right _ hq)).1
  · have z : s.heap.get? q.1 = some q.2 := by
      rcases List.mem_append.mp hq with hq | hq
      · exact (N q (List.mem_append_left _ hq)).1
      · rcases List.mem_cons.mp hq with rfl | hq
        · exact hL
        · exact (N q (List.mem_append_right _ hq)).1
    refine ⟨hk₁ _ _ z, Nat.ne_of_lt (Heap.lt_size z), hideAll_none _ ?_⟩
    rcases List.mem_append.mp hq with hq | hq
    · exact List.mem_append_left _ (List.mem_map_of_mem hq)
    · rcases List.mem_cons.mp hq with rfl | hq
      · exact List.mem_append_right _ (.head _)
      · exact List.mem_append_right _ (.tail _ (List.mem_map_of_mem hq))
end

/-- what came of a callee, said over its caller's heap -/
theorem away_of {h H' h' : Heap} {tgt : List Addr} {fr' fr'' : List (Addr × Obj)} (G : GroundX h H' (tgt ++ adr fr')) (k : H'.StaysIn h') (hb : ∀ q ∈ fr', h.get? q.1 = some q.2) (S : TI.SameUp fr' fr'') (hN : ∀ q ∈ fr'', h'.get? q.1 = some q.2) : Away (adr fr') tgt h h' := fun b o e q => by
  by_cases hm : b ∈ adr fr'
  · obtain ⟨o', z⟩ := mem_adr hm
    have ho := hb _ z
    rw [e] at ho; cases ho
    obtain ⟨sl, hs⟩ := sameUp_at S _ z
    exact ⟨fun n => absurd hm n, sl, hN _ hs⟩
  · have z := k _ _ (G.keep _ _ e fun z => (List.mem_append.mp z).elim q hm)
    exact ⟨fun _ => z, o.slots, z⟩
theorem away_back {fs X Y : List Addr} {h h' : Heap} (x : Away fs X h h') (k : ∀ b ∈ X, b ∉ Y → ∀ o, h.get? b = some o → h'.get? b = some o) : Away fs Y h h' := fun b o e q => by
  by_cases hm : b ∈ X
  · have z := k b hm q o e
    exact ⟨fun _ => z, o.slots, z⟩
  · exact x b o e hm
/-- an exception class that inherits all but its own names -/
inductive IsExcCls (h : Heap) (C : Addr) : Prop
  | mk (nm q : Str) (N : Addr) (bs bm : List Value) (hdct : Bool) (sn : List Str) (sub : List Value) (ab : Bool) (col : Option Bool) (dd : Option Addr) (k0 k1 k2 k3 k5 : Option Value) (newId : String)
    (e : h.get? C = some (excClassObj nm q C N bs bm hdct sn sub ab col dd k0 k1 k2 k3 k5 newId)) (r : bm.contains (.type "BaseException") = true)
theorem IsExcCls.keep {h h' : Heap} {C : Addr} (x : IsExcCls h C) (k : h.StaysIn h') : IsExcCls h' C := by
  obtain ⟨nm, q, N, bs, bm, hdct, sn, sub, ab, col, dd, k0, k1, k2, k3, k5, newId, e, r⟩ := x
  exact ⟨nm, q, N, bs, bm, hdct, sn, sub, ab, col, dd, k0, k1, k2, k3, k5, newId, k _ _ e, r⟩
inductive RaisedX (E : Value → Shared → Prop) (v : Value) (s : Shared) : Prop
  | mk (e D C : Addr) (h1 : v = .ref e) (h2 : IsExcCls s.heap C) (h3 : Exc0 s.heap e C D) (h4 : E (.ref e) s)
/-- raising what an expression makes -/
theorem raiseX {M : Model} {A : Around} {E : Value → Shared → Prop} {s : Shared} {env : Env} {x : Expr} {pos : Pos} {Q : Flow → Shared → Prop} (hh : A.handled = none)
    (h : wpAny M A (eval x env) (RaisedX E) E s) : wpAny M A (exec (.Raise (some x) none pos) env) Q E s := by
  rw [arm_exec_Raise]
  simp only [arm_evalOpt_some, (rfl : evalOpt none env = none), Option.map]
  refine wpAny_bind (wpAny_standAt ?_)
  unfold raiseStmt
  refine wpAny_bind (wpAny_bind (wpAny_mono h (fun v s₁ h₁ => ?_) fun _ _ x => x))
  obtain ⟨e, D, C, rfl, ⟨nm, q, N, bs, bm, hdct, sn, sub, ab, col, dd, k0, k1, k2, k3, k5, newId, hC, hbase⟩, ⟨vs, he, hv1⟩, hE⟩ := h₁
  have hcB : (Value.ref C :: bm).contains (.type "BaseException") = true := by rw [List.contains_cons, hbase, Bool.or_true]
  refine wpAny_bind (wpAny_standAt (wpAny_pure ?_))
  obtain ⟨hp, g, d, tk, os⟩ := s₁
  repeat (first | with_reducible refine wpAny_loadPart_at he ?_ | with_reducible refine wpAny_loadPart_at hC ?_ | (with_reducible refine wpAny_isSubtype_exc hC ?_; rw [hcB]) | wp_step)
  rw [hv1]
  repeat (first | with_reducible refine wpAny_loadPart_at he ?_ | wp_step)
  exact wpAny_raiseNew_none hh hE

end
section
/-- an exception in flight, said over an earlier heap -/
structure Flying (h h' : Heap) (fs : List Addr) (e C d T : Addr) (mA : Str → Option Value) : Prop where
  away : Away fs [] h h'
  ne : h.get? e = none
  nd : h.get? d = none
  nT : h.get? T = none
  de : d ≠ e
  exc : ExcT h' e C d T .none
  ns : h'.Ns1 d mA
theorem Away.there {fs : List Addr} {h h' : Heap} (x : Away fs [] h h') {b : Addr} {o : Obj} (e : h.get? b = some o) : ∃ o', h'.get? b = some o' := let ⟨_, _, z⟩ := x b o e List.not_mem_nil; ⟨_, z⟩
theorem Away.gone {fs : List Addr} {h h' : Heap} (x : Away fs [] h h') {b : Addr} (e : h'.get? b = none) : h.get? b = none := by
  cases z : h.get? b with
  | none => rfl
  | some o => obtain ⟨_, q⟩ := x.there z; rw [e] at q; cases q
/-- a frame that is new to the first heap may be left out -/
theorem Away.dropF {fs X : List Addr} {a : Addr} {h h' : Heap} (x : Away (a :: fs) X h h') (n : h.get? a = none) : Away fs X h h' := fun b o e q =>
  ⟨fun z => (x b o e q).1 fun hm => (List.mem_cons.mp hm).elim (fun hm => by rw [hm, n] at e; cases e) z, (x b o e q).2⟩
theorem frs_adr {l : List Env} {fr : List (Addr × Obj)} (Fs : TI.Frs l fr) : l.filterMap (·.frame) = adr fr := Fs.addrs
theorem ns1_at {h h' : Heap} {a : Addr} {m : Str → Option Value} (x : h.Ns1 a m) (k : ∀ o, h.get? a = some o → h'.get? a = some o) : h'.Ns1 a m := x.at k

section
variable {M : Model} {A : Around} {E : Value → Shared → Prop} {s : Shared} {env : Env} {outer : List Env} {L e C d T : Addr} {H h1 s0 : Heap} {m mA : Str → Option Value} {fr : List (Addr × Obj)} {Q : Unit → Shared → Prop}
theorem funFrames_at (hf : env.frame = some L) (hke : env.scope.kind ≠ .module) (F : Fr H L h1 m) (N : News H L h1 fr) (Fs : TI.Frs outer fr) : h1.FunFrames E0 (env :: outer) :=
  Heap.FunFrames.cons hke hf F.ns (E0_none L) (Fs.fun fun q hq => ⟨(N q hq).1, E0_none _⟩)
theorem excT_frame {fl : Value} {l : List Env} (x : ExcT s.heap e C d T fl) (l0 : s.heap.FunFrames E0 l) : e ∉ l.filterMap (·.frame) ∧ T ∉ l.filterMap (·.frame) := by
  obtain ⟨vs, oT, ts, he, h1, hTe, hT, hdT, h3⟩ := x
  refine ⟨fun hm => ?_, fun hm => ?_⟩
  · obtain ⟨_, o, ho, hnf⟩ := l0.mem hm
    rw [he] at ho; injection ho with ho; subst ho; exact hnf vs rfl
  · obtain ⟨_, o, ho, hnf⟩ := l0.mem hm
    rw [hT] at ho; injection ho with ho; subst ho; exact hnf ts hdT

theorem fly0 (hfr : A.frames = some (env :: outer)) (hf : env.frame = some L) (hke : env.scope.kind ≠ .module) (F : Fr H L h1 m) (N : News H L h1 fr) (Fs : TI.Frs outer fr)
    (a : Away (adr fr) [] s0 h1) (n1 : s0.get? L = none) (st : h1.StaysIn s.heap) (he : h1.get? e = none) (hd : h1.get? d = none) (de : d ≠ e) (x : Exc0 s.heap e C d) (ns : s.heap.Ns1 d mA)
    (k : ∀ h' T, Flying s0 h' (adr fr) e C d T mA → Q () { s with heap := h' }) : wpAny M A (leaving env (.ref e)) Q E s := by
  have ff := funFrames_at hf hke (fr_of_keep F st) (news_of_keep N st) Fs
  have efs : (env :: outer).filterMap (·.frame) = L :: adr fr := by rw [List.filterMap_cons, hf]; show L :: outer.filterMap (·.frame) = _; rw [frs_adr Fs]
  refine leave0 hfr ff hf x fun h' T b nT xT => k h' T ?_
  rw [efs] at b
  have z : Away (L :: adr fr) [e] s0 h' := ((a.mono (fun _ q => .tail _ q) (fun _ q => absurd q List.not_mem_nil)).trans (Away.of_keeps fun b o q _ => st b o q)).trans b
  have dL : d ≠ L := fun q => by obtain ⟨o, es, ep, ho, _⟩ := F.ns; rw [← q, hd] at ho; cases ho
  have dfr : d ∉ adr fr := fun q => by obtain ⟨o, z⟩ := mem_adr q; have := (N _ z).1; rw [hd] at this; cases this
  have hTs : h1.get? T = none := by
    cases z : h1.get? T with
    | none => rfl
    | some o => rw [st _ _ z] at nT; cases nT
  exact ⟨(z.drop (a.gone he)).dropF n1, a.gone he, a.gone hd, a.gone hTs, de, xT, ns.at fun o q => (b d o q (by simp [de])).1 fun hm => (List.mem_cons.mp hm).elim dL dfr⟩

theorem flyT (hfr : A.frames = some (env :: outer)) (hf : env.frame = some L) (hke : env.scope.kind ≠ .module) (F : Fr H L h1 m) (N : News H L h1 fr) (Fs : TI.Frs outer fr)
    (a : Away (adr fr) [] s0 h1) (n1 : s0.get? L = none) (y : Flying h1 s.heap (L :: adr fr) e C d T mA)
    (k : ∀ h' T', Flying s0 h' (adr fr) e C d T' mA → Q () { s with heap := h' }) : wpAny M A (leaving env (.ref e)) Q E s := by
  have efs : (env :: outer).filterMap (·.frame) = L :: adr fr := by rw [List.filterMap_cons, hf]; show L :: outer.filterMap (·.frame) = _; rw [frs_adr Fs]
  have ff := y.away.frames (funFrames_at hf hke F N Fs) fun _ _ => List.not_mem_nil
  refine leaveT hfr ff hf y.exc fun h' T' b nT xT => k h' T' ?_
  rw [efs] at b
  have nt := excT_frame y.exc ff
  rw [efs] at nt
  have dL : d ≠ L := fun q => by obtain ⟨o, es, ep, ho, _⟩ := F.ns; rw [← q, y.nd] at ho; cases ho
  have dfr : d ∉ adr fr := fun q => by obtain ⟨o, z⟩ := mem_adr q; have := (N _ z).1; rw [y.nd] at this; cases this
  have dT : d ≠ T := fun q => by
    obtain ⟨o, es, ep, ho, hd, _⟩ := y.ns.ns
    obtain ⟨vs, oT, ts, _, _, _, hT, hdT, _⟩ := y.exc
    rw [q, hT] at ho; cases ho; rw [hdT] at hd; cases hd
  have z : Away (L :: adr fr) [e, T] s0 h' := ((a.mono (fun _ q => .tail _ q) (fun _ q => absurd q List.not_mem_nil)).trans (y.away.mono (fun _ q => q) fun _ q => absurd q List.not_mem_nil)).trans b
  have z' : Away (L :: adr fr) [T] s0 h' := z.drop (a.gone y.ne)
  exact ⟨(z'.drop (a.gone y.nT)).dropF n1, a.gone y.ne, a.gone y.nd, a.gone (y.away.gone nT), y.de, xT, y.ns.at fun o q => (b d o q (by simp [y.de, dT])).1 fun hm => (List.mem_cons.mp hm).elim dL dfr⟩

/-- caught in a frame: the note, and out of the flight -/
theorem flyCaught (hfr : A.frames = some (env :: outer)) (hf : env.frame = some L) (hke : env.scope.kind ≠ .module) (F : Fr H L h1 m) (N : News H L h1 fr) (Fs : TI.Frs outer fr)
    (y : Flying h1 s.heap (L :: adr fr) e C d T mA)
    (k : ∀ h' T', Flying h1 h' (L :: adr fr) e C d T' mA → Q () { s with heap := h' }) : wpAny M A (noteFrame (.ref e) env) (fun _ s₂ => wpAny M A (setFlight (.ref e) none) Q E s₂) E s := by
  have efs : (env :: outer).filterMap (·.frame) = L :: adr fr := by rw [List.filterMap_cons, hf]; show L :: outer.filterMap (·.frame) = _; rw [frs_adr Fs]
  have ff := y.away.frames (funFrames_at hf hke F N Fs) fun _ _ => List.not_mem_nil
  refine noteT hfr ff hf y.exc fun h2 T' b nT xT => flightT (s := { s with heap := h2 }) xT fun h' c xT' => k h' T' ?_
  rw [efs] at b
  have dL : d ≠ L := fun q => by obtain ⟨o, es, ep, ho, _⟩ := F.ns; rw [← q, y.nd] at ho; cases ho
  have dfr : d ∉ adr fr := fun q => by obtain ⟨o, z⟩ := mem_adr q; have := (N _ z).1; rw [y.nd] at this; cases this
  have dT : d ≠ T := fun q => by
    obtain ⟨o, es, ep, ho, hd, _⟩ := y.ns.ns
    obtain ⟨vs, oT, ts, _, _, _, hT, hdT, _⟩ := y.exc
    rw [q, hT] at ho; cases ho; rw [hdT] at hd; cases hd
  have dT' : d ≠ T' := fun q => by
    obtain ⟨o, es, ep, ho, hd, _⟩ := y.ns.ns
    rw [q, nT] at ho; cases ho
  have c' : Away (L :: adr fr) [T'] h2 h' := c.mono (fun _ q => absurd q List.not_mem_nil) fun _ q => q
  have z : Away (L :: adr fr) [e, T, T'] h1 h' := ((y.away.mono (fun _ q => q) fun _ q => absurd q List.not_mem_nil).trans (b.mono (fun _ q => q) (by simp))).trans (c'.mono (fun _ q => q) (by simp))
  have z' : Away (L :: adr fr) [T, T'] h1 h' := z.drop y.ne
  have z'' : Away (L :: adr fr) [T'] h1 h' := z'.drop y.nT
  have nT1 := y.away.gone nT
  refine ⟨z''.drop nT1, y.ne, y.nd, nT1, y.de, xT', y.ns.at fun o q => ?_⟩
  have q2 := (b d o q (by simp [y.de, dT])).1 fun hm => (List.mem_cons.mp hm).elim dL dfr
  exact (c d o q2 (by simp [dT'])).1 List.not_mem_nil
end

end
/- raising what a class of the top makes -/
local macro_rules | `(tactic| walk_at "exec Raise some none") => `(tactic| (k_here; (refine' raiseX ?k1 ?_); (case k1 => k_dflt (first | exact rfl | assumption)); k_whole))
local macro_rules | `(tactic| walk_at "exec Assign cons ListComp") => `(tactic| (k_here; lct_look; k_dflt (refine LCt.Assign_ListComp_T (F₀ := by k_asm) (by rfl) (by with_unfolding_all rfl) (by with_unfolding_all rfl) (by decide) (by rfl) (by decide) (by rfl) (by rfl) (by rfl) (stopT ?_))))
local macro_rules | `(tactic| walk_at "eval ListComp") => `(tactic| (k_here; lct_look; k_dflt (refine LCt.ListComp_T (F₀ := by k_asm) (by with_unfolding_all rfl) (by decide) (by rfl) (by decide) (by rfl) (stopT ?_))))
local macro_rules | `(tactic| walk_at "exec Assign cons ListComp") => `(tactic| (k_here; lcg_look; k_dflt (refine LCg.Assign_ListComp_U (F₀ := by k_asm) (by rfl) (by with_unfolding_all rfl) (by with_unfolding_all rfl) (by decide) (by rfl) (by decide) (by rfl) (by rfl) (by rfl) (stopT ?_))))
local macro_rules | `(tactic| walk_at "eval ListComp") => `(tactic| (k_here; lcg_look; k_dflt (refine LCg.ListComp_U (F₀ := by k_asm) (by with_unfolding_all rfl) (by decide) (by rfl) (by decide) (by rfl) (stopT ?_))))
section
example : True := by w_top off; exact trivial
/-- what an exception of the rules bears -/
abbrev codeNs (tx : Str) (t2 : Tok) (c : Int) (tc : Tok) : Str → Option Value := fun y => if y = Str.ofString "text" then some (.str tx t2) else if y = Str.ofString "code" then some (.int c tc) else none
theorem funK {env : Env} (h : env.scope.kind = .function) : env.scope.kind ≠ .module := by rw [h]; decide
theorem isExc51 {w : World} {h : Heap} (X : (hd.heap_1 w.params).In h) : IsExcCls h 51 := by
  have hC : h.get? 51 = some _ := X 51 _ (by k_is)
  exact ⟨_, _, _, _, bmE, _, _, _, _, _, _, _, _, _, _, _, _, hC, rfl⟩
theorem isExc71 {w : World} {h : Heap} (X : (hd.heap_1 w.params).In h) : IsExcCls h 71 := by
  have hC : h.get? 71 = some _ := X 71 _ (by k_is)
  exact ⟨_, _, _, _, bmE, _, _, _, _, _, _, _, _, _, _, _, _, hC, rfl⟩
/-- the rules' exception is made and leaves its frame -/
theorem raiseH3 {H : Heap} (X : (hd.heap_1 w.params).In H) (T : Top hd.view_1 (looseW hd.view_1 []) mean mg mb H) {L : Addr} {m : Str → Option Value} {hp : Heap} {tk0 : Tok} {Q E : Value → Shared → Prop} {A : Around} {env : Env} {outer : List Env} {fr : List (Addr × Obj)} {s0 : Heap} {c : Int} {tx : Str} {t1 t4 : Tok} (F : Fr H L hp m) (N : News H L hp fr) (Fs : TI.Frs outer fr)
  (a : Away (adr fr) [] s0 hp) (n1 : s0.get? L = none) (hx : tx.length < 1000) (hc : 0 < c) (hc2 : c < 1000)
  (bad : ∀ e d T t3 h' tk', Flying s0 h' (adr fr) e 51 d T (codeNs tx t4 c t3) → E (.ref e) {s with heap := h', toks := tk'})
  (hf : env.frame = some L) (hke : env.scope.kind ≠ .module) (hh : A.handled = none) (hfr : A.frames = some (env :: outer)) (hd : A.depth ≤ 150 + 300) (hu : A.units ≤ 600) :
  wpAny (model PySem.Challenge.rw_sj0117_01.row.prog w) A (call (.ref 51) [.int c t1, .str tx t4]) (RaisedX fun e s' => wpAny (model PySem.Challenge.rw_sj0117_01.row.prog w) A (leaving env e) (fun _ s'' => E e s'') (fun e' s'' => E e' s'') s') Q {s with heap := hp, toks := tk0} := by
  refine wp_at (f := ⟨hh, hd, hu⟩) (mkH3 X T F hx hc hc2 ?_)
  intro e d h' tk' st he hdn de x ⟨tc, ns⟩
  refine ⟨e, d, 51, rfl, isExc51 ((X.keeps F.keep).keeps st), x, ?_⟩
  exact fly0 hfr hf hke F N Fs a n1 st he hdn de x ns fun h2 T' fl => bad e d T' tc h2 _ fl
set_option maxHeartbeats 2000000 in
theorem checkpush_ok {H : Heap} (X : (hd.heap_1 w.params).In H) (T : Top hd.view_1 (looseW hd.view_1 []) mean mg mb H) {L : Addr} {m : Str → Option Value} {hp : Heap} {tk0 : Tok} {Q E : Value → Shared → Prop} {n k : Int} {t1 t2 : Tok} {news : List (Addr × Obj)} (F : Fr H L hp m) (N : News H L hp news) (hk : n ≤ k)
  (ret : ∀ h' tk', hp.StaysIn h' → Fr H L h' m → News H L h' news → Q .none {s with heap := h', toks := tk'}) :
  wpAny (model PySem.Challenge.rw_sj0117_01.row.prog w) (AA 110) (call (.ref 269) [.int n t1, .int k t2]) Q E {s with heap := hp, toks := tk0} := by
  refine wpAny_call ?_
  have N0 : News H L hp ([] ++ news) := N
  refine' enterQ (binds := [(Str.ofString "number", .int n t1), (Str.ofString "most", .int k t2)]) (by assumption) (by assumption) (by assumption) (by assumption) (fun _ h => absurd h List.not_mem_nil) ?k6 ?k7 (by first | decide | k_room | exact Nat.le_of_ble_eq_true rfl) ?k9 ?kB ?_ ?c2 ?c3 ?c4 ?c5
  ((case k6 => k_is); (case k7 => k_is); (case k9 => exact BindsTo.of_eq (by first | rfl | kernel_rfl | with_unfolding_all rfl)); (case kB => exact locs rfl); (case c2 => exact rfl); (case c3 => exact rfl); (case c4 => exact rfl); (case c5 => decide); (intro xH xL xh xX xT xG xlk xF xN xl1 xl2 xl4); (replace xl1 := ltN xl1); (replace xl2 := PySem.W.allLt_of xl2); (try dsimp only [PySem.W.AllLt] at xl2); (try dsimp only); (try k_fold))
  clear F N0 N X T
  w_strict k_steps
  rename (∀ (b : Addr) (o : Obj), _ → (∀ q : Addr × Obj, q ∈ _ → b ≠ q.1) → _) => lk
  rename Fr _ _ _ _ => F2
  refine Ground'.use (by assumption) F2 (newsSub (by assumption) (b := []) sub_nil) fun Fb Nb Sb => ?_
  exact ret _ _ (fun b o q => F2.keep _ _ (lk b o q fun q hq => absurd hq List.not_mem_nil)) Fb Nb
set_option maxHeartbeats 2000000 in
theorem checkpush_bad {H : Heap} (X : (hd.heap_1 w.params).In H) (T : Top hd.view_1 (looseW hd.view_1 []) mean mg mb H) {L : Addr} {m : Str → Option Value} {hp : Heap} {tk0 : Tok} {Q E : Value → Shared → Prop} {env : Env} {outer : List Env} {fr : List (Addr × Obj)} {n : Int} {most : Value} {t1 : Tok} (F : Fr H L hp m) (N : News H L hp ([] ++ fr)) (Fs : TI.Frs outer fr) (hf : env.frame = some L) (hke : env.scope.kind ≠ .module)
  (hk : most = .none ∨ ∃ k t2, most = .int k t2 ∧ k < n)
  (bad : ∀ e d T t3 tx t4 h' tk', Flying hp h' (L :: adr fr) e 51 d T (codeNs tx t4 264 t3) → E (.ref e) {s with heap := h', toks := tk'}) :
  wpAny (model PySem.Challenge.rw_sj0117_01.row.prog w) (AF (env :: outer) 110) (call (.ref 269) [.int n t1, most]) Q E {s with heap := hp, toks := tk0} := by
  refine wpAny_call ?_
  refine' enterX (binds := [(Str.ofString "number", .int n t1), (Str.ofString "most", most)]) (tgt := []) (by assumption) (by assumption) (by assumption) (by assumption) (by assumption) (by assumption) (by assumption) ?k5 ?k6 ?k7 (by first | decide | k_room | exact Nat.le_of_ble_eq_true rfl) ?k9 ?kB ?_ ?c2 ?c3 ?c4 ?c5
  ((case k5 => first | assumption | exact (fun q hq => absurd hq List.not_mem_nil)); (case k6 => k_is); (case k7 => k_is); (case k9 => exact BindsTo.of_eq (by first | rfl | kernel_rfl | with_unfolding_all rfl)); (case kB => exact locs rfl); (case c2 => exact rfl); (case c3 => exact rfl); (case c4 => exact rfl); (case c5 => decide))
  intro H1 L1 h₁ fr1 X1 T1 G1 Fs1 ea1 tf1 nL1 old1 F1 N1 l2
  replace l2 := PySem.W.allLt_of l2
  (try dsimp only [PySem.W.AllLt] at l2); (try dsimp only); (try k_fold); (try rw [← ea1] at G1)
  clear X T F N
  rcases hk with rfl | ⟨k, t2, rfl, hk⟩
  all_goals
    w_strict k_steps
    rename Fr _ _ _ _ => F2
    rename News _ _ _ _ => N2
    refine raiseH3 (hf := by rfl) (hke := by exact funK rfl) (hh := by rfl) (hfr := by rfl) (hd := by exact Nat.le_of_ble_eq_true rfl) (hu := by exact Nat.le_of_ble_eq_true rfl) (fr := fr1) X1 T1 F2 N2 Fs1 (away_of (tgt := []) G1 F2.keep old1 (TI.SameUp.refl _) fun q hq => (N2 q hq).1) nL1 (by decide) (by decide) (by decide) fun e d T' t3 h' tk' fl => ?_
    rw [ea1] at fl
    exact bad _ _ _ _ _ _ _ _ fl

end
section
example : True := by w_top off; exact trivial
def pS : Bool → Str
  | true => Str.ofString "client"
  | false => Str.ofString "server"
abbrev crLed (P : Params) (x d : Addr) (t : Nat → Tok) (cl : Bool) (tp : Tok) (most sett go told : Value) : List (Addr × Obj) := [(x, instObj 258 d), (d, crDict P t (.str (pS cl) tp) most sett go told)]
set_option maxHeartbeats 2000000 in
theorem tgoaway_ok {H : Heap} (X : (hd.heap_1 w.params).In H) (T : Top hd.view_1 (looseW hd.view_1 []) mean mg mb H) {L : Addr} {m : Str → Option Value} {hp : Heap} {tk0 : Tok} {Q E : Value → Shared → Prop} {x d : Addr} {news : List (Addr × Obj)} {t : Nat → Tok} {cl : Bool} {tp : Tok} {most sett go told : Value} {n : Int} {tn : Tok} (F : Fr H L hp m) (N : News H L hp (crLed w.params x d t cl tp most sett go told ++ news))
  (hsep : ∀ q ∈ crLed w.params x d t cl tp most sett go told, ∀ r ∈ news, r.1 ≠ q.1) (hxd : @Ne Nat x d)
  (h1 : cl = false → Int.fmod n 4 = 0) (h2 : go = .none ∨ ∃ g tg, go = .int g tg ∧ n ≤ g)
  (ret : ∀ h' tk', Fr H L h' m → News H L h' (crLed w.params x d t cl tp most sett (.int n tn) told ++ news) → Q .none {s with heap := h', toks := tk'}) :
  wpAny (model PySem.Challenge.rw_sj0117_01.row.prog w) (AA 110) (call (.ref 234) [.ref x, .int n tn]) Q E {s with heap := hp, toks := tk0} := by
  refine wpAny_call ?_
  refine' enterQ (binds := [(Str.ofString "self", .ref x), (Str.ofString "number", .int n tn)]) (tgt := crLed w.params x d t cl tp most sett go told) (by assumption) (by assumption) (by assumption) (by assumption) (hsep) ?k6 ?k7 (by first | decide | k_room | exact Nat.le_of_ble_eq_true rfl) ?k9 ?kB ?_ ?c2 ?c3 ?c4 ?c5
  ((case k6 => k_is); (case k7 => k_is); (case k9 => exact BindsTo.of_eq (by first | rfl | kernel_rfl | with_unfolding_all rfl)); (case kB => exact locs rfl); (case c2 => exact rfl); (case c3 => exact rfl); (case c4 => exact rfl); (case c5 => decide); (intro xH xL xh xX xT xG xlk xF xN xl1 xl2 xl4); (replace xl1 := ltN xl1); (replace xl2 := PySem.W.allLt_of xl2); (try dsimp only [PySem.W.AllLt] at xl2); (try dsimp only); (try k_fold))
  clear F N X T
  cases cl <;> rcases h2 with rfl | ⟨g, tg, rfl, hg⟩
  all_goals
    try replace h1 := h1 rfl
    dsimp only [crLed, pS] at *
    w_strict k_steps
    all_goals try (exfalso; omega)
    refine Ground'.use (by assumption) (by assumption) (by assumption) fun Fb Nb Sb => ?_
    exact ret _ _ Fb Nb
set_option maxHeartbeats 2000000 in
theorem tgoaway_bad {H : Heap} (X : (hd.heap_1 w.params).In H) (T : Top hd.view_1 (looseW hd.view_1 []) mean mg mb H) {L : Addr} {m : Str → Option Value} {hp : Heap} {tk0 : Tok} {Q E : Value → Shared → Prop} {env : Env} {outer : List Env} {fr : List (Addr × Obj)} {x d : Addr} {t : Nat → Tok} {cl : Bool} {tp : Tok} {most sett go told : Value} {n : Int} {tn : Tok} (F : Fr H L hp m) (N : News H L hp (crLed w.params x d t cl tp most sett go told ++ fr)) (Fs : TI.Frs outer fr) (hf : env.frame = some L) (hke : env.scope.kind ≠ .module)
  (hsep : ∀ q ∈ crLed w.params x d t cl tp most sett go told, q.1 ∉ adr fr) (hxd : @Ne Nat x d)
  (hb : (cl = false ∧ Int.fmod n 4 ≠ 0) ∨ (cl = false → Int.fmod n 4 = 0) ∧ ∃ g tg, go = .int g tg ∧ g < n)
  (bad : ∀ e d T t3 tx t4 h' tk', Flying hp h' (L :: adr fr) e 51 d T (codeNs tx t4 264 t3) → E (.ref e) {s with heap := h', toks := tk'}) :
  wpAny (model PySem.Challenge.rw_sj0117_01.row.prog w) (AF (env :: outer) 110) (call (.ref 234) [.ref x, .int n tn]) Q E {s with heap := hp, toks := tk0} := by
  refine wpAny_call ?_
  refine' enterX (binds := [(Str.ofString "self", .ref x), (Str.ofString "number", .int n tn)]) (tgt := crLed w.params x d t cl tp most sett go told) (by assumption) (by assumption) (by assumption) (by assumption) (by assumption) (by assumption) (by assumption) ?k5 ?k6 ?k7 (by first | decide | k_room | exact Nat.le_of_ble_eq_true rfl) ?k9 ?kB ?_ ?c2 ?c3 ?c4 ?c5
  ((case k5 => first | assumption | exact (fun q hq => absurd hq List.not_mem_nil)); (case k6 => k_is); (case k7 => k_is); (case k9 => exact BindsTo.of_eq (by first | rfl | kernel_rfl | with_unfolding_all rfl)); (case kB => exact locs rfl); (case c2 => exact rfl); (case c3 => exact rfl); (case c4 => exact rfl); (case c5 => decide))
  intro H1 L1 h₁ fr1 X1 T1 G1 Fs1 ea1 tf1 nL1 old1 F1 N1 l2
  replace l2 := PySem.W.allLt_of l2
  (try dsimp only [PySem.W.AllLt] at l2); (try dsimp only); (try k_fold); (try rw [← ea1] at G1)
  have hx0 := (N _ (.head _)).1
  have hd0 := (N _ (.tail _ (.head _))).1
  clear F N X T
  have fin : ∀ (s2 : Heap) (m2 : Str → Option Value), Fr H1 L1 s2 m2 → News H1 L1 s2 (crLed w.params x d t cl tp most sett go told ++ fr1) → Away (adr fr1) [] hp s2 := fun s2 m2 F2 N2 =>
    away_back (away_of G1 F2.keep old1 (TI.SameUp.refl _) fun q hq => (N2 q (List.mem_append_right _ hq)).1) fun b hb _ o e => by
      rcases List.mem_cons.mp hb with rfl | hb
      · rw [hx0] at e; cases e; exact (N2 _ (.head _)).1
      · rw [List.mem_singleton.mp hb] at e ⊢; rw [hd0] at e; cases e; exact (N2 _ (.tail _ (.head _))).1
  clear hx0 hd0
  rcases hb with ⟨rfl, hb⟩ | ⟨h1, g, tg, rfl, hb⟩
  · dsimp only [crLed, pS] at *
    w_strict k_steps
    all_goals try (exfalso; omega)
    rename Fr _ _ _ _ => F2
    rename News _ _ _ _ => N2
    refine raiseH3 (hf := by rfl) (hke := by exact funK rfl) (hh := by rfl) (hfr := by rfl) (hd := by exact Nat.le_of_ble_eq_true rfl) (hu := by exact Nat.le_of_ble_eq_true rfl) (fr := fr1) X1 T1 F2 (newsSub N2 fun q hq => .tail _ (.tail _ hq)) Fs1 (fin _ _ F2 N2) nL1 (by decide) (by decide) (by decide) fun e d T' t3 h' tk' fl => ?_
    rw [ea1] at fl
    exact bad _ _ _ _ _ _ _ _ fl
  · cases cl
    all_goals
      try replace h1 := h1 rfl
      dsimp only [crLed, pS] at *
      w_strict k_steps
      all_goals try (exfalso; omega)
      rename Fr _ _ _ _ => F2
      rename News _ _ _ _ => N2
      refine raiseH3 (hf := by rfl) (hke := by exact funK rfl) (hh := by rfl) (hfr := by rfl) (hd := by exact Nat.le_of_ble_eq_true rfl) (hu := by exact Nat.le_of_ble_eq_true rfl) (fr := fr1) X1 T1 F2 (newsSub N2 fun q hq => .tail _ (.tail _ hq)) Fs1 (fin _ _ F2 N2) nL1 (by decide) (by decide) (by decide) fun e d T' t3 h' tk' fl => ?_
      rw [ea1] at fl
      exact bad _ _ _ _ _ _ _ _ fl

end
section
example : True := by w_top off; exact trivial
set_option maxHeartbeats 2000000 in
theorem tmost_ok {H : Heap} (X : (hd.heap_1 w.params).In H) (T : Top hd.view_1 (looseW hd.view_1 []) mean mg mb H) {L : Addr} {m : Str → Option Value} {hp : Heap} {tk0 : Tok} {Q E : Value → Shared → Prop} {x d : Addr} {news : List (Addr × Obj)} {t : Nat → Tok} {cl : Bool} {tp : Tok} {most sett go told : Value} {n : Int} {tn : Tok} (F : Fr H L hp m) (N : News H L hp (crLed w.params x d t cl tp most sett go told ++ news))
  (hsep : ∀ q ∈ crLed w.params x d t cl tp most sett go told, ∀ r ∈ news, r.1 ≠ q.1) (hxd : @Ne Nat x d)
  (h1 : cl = true) (h2 : told = .none ∨ ∃ g tg, told = .int g tg ∧ g ≤ n)
  (ret : ∀ h' tk', Fr H L h' m → News H L h' (crLed w.params x d t cl tp most sett go (.int n tn) ++ news) → Q .none {s with heap := h', toks := tk'}) :
  wpAny (model PySem.Challenge.rw_sj0117_01.row.prog w) (AA 110) (call (.ref 241) [.ref x, .int n tn]) Q E {s with heap := hp, toks := tk0} := by
  refine wpAny_call ?_
  refine' enterQ (binds := [(Str.ofString "self", .ref x), (Str.ofString "number", .int n tn)]) (tgt := crLed w.params x d t cl tp most sett go told) (by assumption) (by assumption) (by assumption) (by assumption) (hsep) ?k6 ?k7 (by first | decide | k_room | exact Nat.le_of_ble_eq_true rfl) ?k9 ?kB ?_ ?c2 ?c3 ?c4 ?c5
  ((case k6 => k_is); (case k7 => k_is); (case k9 => exact BindsTo.of_eq (by first | rfl | kernel_rfl | with_unfolding_all rfl)); (case kB => exact locs rfl); (case c2 => exact rfl); (case c3 => exact rfl); (case c4 => exact rfl); (case c5 => decide); (intro xH xL xh xX xT xG xlk xF xN xl1 xl2 xl4); (replace xl1 := ltN xl1); (replace xl2 := PySem.W.allLt_of xl2); (try dsimp only [PySem.W.AllLt] at xl2); (try dsimp only); (try k_fold))
  clear F N X T
  subst h1; rcases h2 with rfl | ⟨g, tg, rfl, hg⟩
  all_goals
    dsimp only [crLed, pS] at *
    w_strict k_steps
    all_goals try (exfalso; omega)
    refine Ground'.use (by assumption) (by assumption) (by assumption) fun Fb Nb Sb => ?_
    exact ret _ _ Fb Nb
set_option maxHeartbeats 2000000 in
theorem tmost_bad {H : Heap} (X : (hd.heap_1 w.params).In H) (T : Top hd.view_1 (looseW hd.view_1 []) mean mg mb H) {L : Addr} {m : Str → Option Value} {hp : Heap} {tk0 : Tok} {Q E : Value → Shared → Prop} {env : Env} {outer : List Env} {fr : List (Addr × Obj)} {x d : Addr} {t : Nat → Tok} {cl : Bool} {tp : Tok} {most sett go told : Value} {n : Int} {tn : Tok} (F : Fr H L hp m) (N : News H L hp (crLed w.params x d t cl tp most sett go told ++ fr)) (Fs : TI.Frs outer fr) (hf : env.frame = some L) (hke : env.scope.kind ≠ .module)
  (hsep : ∀ q ∈ crLed w.params x d t cl tp most sett go told, q.1 ∉ adr fr) (hxd : @Ne Nat x d)
  {c : Int} (hb : (cl = false ∧ c = 261) ∨ cl = true ∧ c = 264 ∧ ∃ g tg, told = .int g tg ∧ n < g)
  (bad : ∀ e d T t3 tx t4 h' tk', Flying hp h' (L :: adr fr) e 51 d T (codeNs tx t4 c t3) → E (.ref e) {s with heap := h', toks := tk'}) :
  wpAny (model PySem.Challenge.rw_sj0117_01.row.prog w) (AF (env :: outer) 110) (call (.ref 241) [.ref x, .int n tn]) Q E {s with heap := hp, toks := tk0} := by
  refine wpAny_call ?_
  refine' enterX (binds := [(Str.ofString "self", .ref x), (Str.ofString "number", .int n tn)]) (tgt := crLed w.params x d t cl tp most sett go told) (by assumption) (by assumption) (by assumption) (by assumption) (by assumption) (by assumption) (by assumption) ?k5 ?k6 ?k7 (by first | decide | k_room | exact Nat.le_of_ble_eq_true rfl) ?k9 ?kB ?_ ?c2 ?c3 ?c4 ?c5
  ((case k5 => first | assumption | exact (fun q hq => absurd hq List.not_mem_nil)); (case k6 => k_is); (case k7 => k_is); (case k9 => exact BindsTo.of_eq (by first | rfl | kernel_rfl | with_unfolding_all rfl)); (case kB => exact locs rfl); (case c2 => exact rfl); (case c3 => exact rfl); (case c4 => exact rfl); (case c5 => decide))
  intro H1 L1 h₁ fr1 X1 T1 G1 Fs1 ea1 tf1 nL1 old1 F1 N1 l2
  replace l2 := PySem.W.allLt_of l2
  (try dsimp only [PySem.W.AllLt] at l2); (try dsimp only); (try k_fold); (try rw [← ea1] at G1)
  have hx0 := (N _ (.head _)).1
  have hd0 := (N _ (.tail _ (.head _))).1
  clear F N X T
  have fin : ∀ (s2 : Heap) (m2 : Str → Option Value), Fr H1 L1 s2 m2 → News H1 L1 s2 (crLed w.params x d t cl tp most sett go told ++ fr1) → Away (adr fr1) [] hp s2 := fun s2 m2 F2 N2 =>
    away_back (away_of G1 F2.keep old1 (TI.SameUp.refl _) fun q hq => (N2 q (List.mem_append_right _ hq)).1) fun b hb _ o e => by
      rcases List.mem_cons.mp hb with rfl | hb
      · rw [hx0] at e; cases e; exact (N2 _ (.head _)).1
      · rw [List.mem_singleton.mp hb] at e ⊢; rw [hd0] at e; cases e; exact (N2 _ (.tail _ (.head _))).1
  clear hx0 hd0
  rcases hb with ⟨rfl, rfl⟩ | ⟨rfl, rfl, g, tg, rfl, hb⟩
  all_goals
    dsimp only [crLed, pS] at *
    w_strict k_steps
    all_goals try (exfalso; omega)
    rename Fr _ _ _ _ => F2
    rename News _ _ _ _ => N2
    refine raiseH3 (hf := by rfl) (hke := by exact funK rfl) (hh := by rfl) (hfr := by rfl) (hd := by exact Nat.le_of_ble_eq_true rfl) (hu := by exact Nat.le_of_ble_eq_true rfl) (fr := fr1) X1 T1 F2 (newsSub N2 fun q hq => .tail _ (.tail _ hq)) Fs1 (fin _ _ F2 N2) nL1 (by decide) (by decide) (by decide) fun e d T' t3 h' tk' fl => ?_
    rw [ea1] at fl
    exact bad _ _ _ _ _ _ _ _ fl

end
section
example : True := by w_top off; exact trivial
/-- a value that bears a frame, by the heap -/
def FmAt (h : Heap) (v : Value) : Fm → Prop
  | .goaway n => ∃ a t1 t2, v = .ref a ∧ h.get? a = some (tupO [sv "goaway" t1, .int n t2])
  | .maxp n => ∃ a t1 t2, v = .ref a ∧ h.get? a = some (tupO [sv "max_push" t1, .int n t2])
  | .canc n => ∃ a t1 t2, v = .ref a ∧ h.get? a = some (tupO [sv "cancel_push" t1, .int n t2])
  | .unk => ∃ a t1 t2 t3, v = .ref a ∧ h.get? a = some (tupO [sv "unknown" t1, .int 33 t2, .bytes #[117] t3])
  | .hdr => ∃ a t1 t2, v = .ref a ∧ h.get? a = some (tupO [sv "headers" t1, .bytes #[104] t2])
  | .dat => ∃ a t1 t2, v = .ref a ∧ h.get? a = some (tupO [sv "data" t1, .bytes #[] t2])
  | .sett => ∃ a t1 l nl p t2 t3, v = .ref a ∧ h.get? a = some (tupO [sv "settings" t1, .ref l]) ∧ h.get? l = some (listOf #[.ref p] nl) ∧ h.get? p = some (tupO [.int 6 t2, .int 70 t3])
  | .sett2 => ∃ a t1 l nl p t2 t3, v = .ref a ∧ h.get? a = some (tupO [sv "settings" t1, .ref l]) ∧ h.get? l = some (listOf #[.ref p] nl) ∧ h.get? p = some (tupO [.int 33 t2, .int 9 t3])
theorem IsFm.at {H h : Heap} {L : Addr} {news : List (Addr × Obj)} {v : Value} {f : Fm} (N : News H L h news) (x : IsFm news v f) : FmAt h v f := by
  cases f with
  | goaway n => obtain ⟨a, t1, t2, e, h1⟩ := x; exact ⟨a, t1, t2, e, (N _ h1).1⟩
  | maxp n => obtain ⟨a, t1, t2, e, h1⟩ := x; exact ⟨a, t1, t2, e, (N _ h1).1⟩
  | canc n => obtain ⟨a, t1, t2, e, h1⟩ := x; exact ⟨a, t1, t2, e, (N _ h1).1⟩
  | unk => obtain ⟨a, t1, t2, t3, e, h1⟩ := x; exact ⟨a, t1, t2, t3, e, (N _ h1).1⟩
  | hdr => obtain ⟨a, t1, t2, e, h1⟩ := x; exact ⟨a, t1, t2, e, (N _ h1).1⟩
  | dat => obtain ⟨a, t1, t2, e, h1⟩ := x; exact ⟨a, t1, t2, e, (N _ h1).1⟩
  | sett => obtain ⟨a, t1, l, nl, p, t2, t3, e, h1, h2, h3⟩ := x; exact ⟨a, t1, l, nl, p, t2, t3, e, (N _ h1).1, (N _ h2).1, (N _ h3).1⟩
  | sett2 => obtain ⟨a, t1, l, nl, p, t2, t3, e, h1, h2, h3⟩ := x; exact ⟨a, t1, l, nl, p, t2, t3, e, (N _ h1).1, (N _ h2).1, (N _ h3).1⟩
/-- sequences stay -/
def SeqKeep (h h' : Heap) : Prop := ∀ b o, h.get? b = some o → (∃ xs n, o.data = .seq xs n) → h'.get? b = some o
theorem FmAt.keep {h h' : Heap} {v : Value} {f : Fm} (x : FmAt h v f) (k : SeqKeep h h') : FmAt h' v f := by
  cases f with
  | goaway n => obtain ⟨a, t1, t2, e, h1⟩ := x; exact ⟨a, t1, t2, e, k _ _ h1 ⟨_, _, rfl⟩⟩
  | maxp n => obtain ⟨a, t1, t2, e, h1⟩ := x; exact ⟨a, t1, t2, e, k _ _ h1 ⟨_, _, rfl⟩⟩
  | canc n => obtain ⟨a, t1, t2, e, h1⟩ := x; exact ⟨a, t1, t2, e, k _ _ h1 ⟨_, _, rfl⟩⟩
  | unk => obtain ⟨a, t1, t2, t3, e, h1⟩ := x; exact ⟨a, t1, t2, t3, e, k _ _ h1 ⟨_, _, rfl⟩⟩
  | hdr => obtain ⟨a, t1, t2, e, h1⟩ := x; exact ⟨a, t1, t2, e, k _ _ h1 ⟨_, _, rfl⟩⟩
  | dat => obtain ⟨a, t1, t2, e, h1⟩ := x; exact ⟨a, t1, t2, e, k _ _ h1 ⟨_, _, rfl⟩⟩
  | sett => obtain ⟨a, t1, l, nl, p, t2, t3, e, h1, h2, h3⟩ := x; exact ⟨a, t1, l, nl, p, t2, t3, e, k _ _ h1 ⟨_, _, rfl⟩, k _ _ h2 ⟨_, _, rfl⟩, k _ _ h3 ⟨_, _, rfl⟩⟩
  | sett2 => obtain ⟨a, t1, l, nl, p, t2, t3, e, h1, h2, h3⟩ := x; exact ⟨a, t1, l, nl, p, t2, t3, e, k _ _ h1 ⟨_, _, rfl⟩, k _ _ h2 ⟨_, _, rfl⟩, k _ _ h3 ⟨_, _, rfl⟩⟩
def isSeq (o : Obj) : Bool := match o.data with | .seq _ _ => true | _ => false
theorem isSeq_of {o : Obj} (h : ∃ xs n, o.data = .seq xs n) : isSeq o = true := by obtain ⟨xs, n, e⟩ := h; unfold isSeq; rw [e]
theorem seqKeep_lk {h H' : Heap} {tgt : List (Addr × Obj)} (lk : ∀ b o, h.get? b = some o → (∀ q ∈ tgt, b ≠ q.1) → H'.get? b = some o) (ht : ∀ q ∈ tgt, h.get? q.1 = some q.2) (hs : tgt.all (fun q => !isSeq q.2) = true) : SeqKeep h H' := fun b o e z =>
  lk b o e fun q hq w => by
    have h1 := ht q hq
    rw [← w, e] at h1
    have h2 := List.all_eq_true.mp hs q hq
    rw [← Option.some.inj h1, isSeq_of z] at h2
    cases h2
theorem seqKeep_G {h H' : Heap} {tgt fr : List (Addr × Obj)} {l : List Env} (G : GroundX h H' (adr tgt ++ adr fr)) (ht : ∀ q ∈ tgt, h.get? q.1 = some q.2) (hs : tgt.all (fun q => !isSeq q.2) = true) (Fs : TI.Frs l fr) (old : ∀ q ∈ fr, h.get? q.1 = some q.2) : SeqKeep h H' := fun b o e z =>
  G.keep b o e fun hm => by
    rcases List.mem_append.mp hm with hm | hm
    · obtain ⟨o', w⟩ := mem_adr hm
      have h1 := ht _ w
      rw [e] at h1
      have h2 := List.all_eq_true.mp hs _ w
      rw [← Option.some.inj h1, isSeq_of z] at h2
      cases h2
    · obtain ⟨o', w⟩ := mem_adr hm
      have h1 := old _ w
      rw [e] at h1
      obtain ⟨es, ep, hd⟩ := Fs.dict _ w
      obtain ⟨xs, n, hz⟩ := z
      rw [← Option.some.inj h1, hz] at hd
      cases hd
theorem tupAt {h : Heap} {a : Addr} {vs : List Value} (e : h.get? a = some (tupO vs)) : IsTup h a vs.toArray := ⟨_, e, rfl, _, rfl⟩
theorem lstAt {h : Heap} {a : Addr} {vs : Array Value} {n : Nat} (e : h.get? a = some (listOf vs n)) : h.IsList a vs := ⟨_, e, rfl, n, rfl⟩
/-- the settings' frame, its pair named -/
inductive SettAt (h : Heap) (v : Value) (p : Addr) (t2 t3 : Tok) : Prop
  | mk (a : Addr) (t1 : Tok) (l : Addr) (nl : Nat) (e : v = .ref a) (ha : h.get? a = some (tupO [sv "settings" t1, .ref l])) (hl : h.get? l = some (listOf #[.ref p] nl)) (hp : h.get? p = some (tupO [.int 6 t2, .int 70 t3]))
theorem SettAt.keep {h h' : Heap} {v : Value} {p : Addr} {t2 t3 : Tok} (x : SettAt h v p t2 t3) (k : SeqKeep h h') : SettAt h' v p t2 t3 := by
  obtain ⟨a, t1, l, nl, rfl, h1, h2, h3⟩ := x
  exact ⟨a, t1, l, nl, rfl, k _ _ h1 ⟨_, _, rfl⟩, k _ _ h2 ⟨_, _, rfl⟩, k _ _ h3 ⟨_, _, rfl⟩⟩
set_option maxHeartbeats 2000000 in
theorem take_sett {H : Heap} (X : (hd.heap_1 w.params).In H) (T : Top hd.view_1 (looseW hd.view_1 []) mean mg mb H) {L : Addr} {m : Str → Option Value} {hp : Heap} {tk0 : Tok} {Q E : Value → Shared → Prop} {x d : Addr} {news : List (Addr × Obj)} {t : Nat → Tok} {cl : Bool} {tp : Tok} {most go told v : Value} (F : Fr H L hp m) (N : News H L hp (crLed w.params x d t cl tp most .none go told ++ news))
  (hsep : ∀ q ∈ crLed w.params x d t cl tp most .none go told, ∀ r ∈ news, r.1 ≠ q.1) (hxd : @Ne Nat x d)
  {p : Addr} {t2 t3 : Tok} (hv : SettAt hp v p t2 t3)
  (ret : ∀ h' tk' l nl, h'.get? p = some (tupO [.int 6 t2, .int 70 t3]) → (∀ r ∈ news, r.1 ≠ l) → Fr H L h' m → News H L h' (crLed w.params x d t cl tp most (.ref l) go told ++ (l, listOf #[.ref p] nl) :: news) → Q .none {s with heap := h', toks := tk'}) :
  wpAny (model PySem.Challenge.rw_sj0117_01.row.prog w) (AA 90) (call (.ref 227) [.ref x, v]) Q E {s with heap := hp, toks := tk0} := by
  have ht : ∀ q ∈ crLed w.params x d t cl tp most .none go told, hp.get? q.1 = some q.2 := fun q hq => (N q (List.mem_append_left _ hq)).1
  obtain ⟨a, t1, l, nl, rfl, h1, h2, h3⟩ := hv
  refine wpAny_call ?_
  refine' enterQ (binds := [(Str.ofString "self", .ref x), (Str.ofString "frame", .ref a)]) (tgt := crLed w.params x d t cl tp most .none go told) (by assumption) (by assumption) (by assumption) (by assumption) (hsep) ?k6 ?k7 (by first | decide | k_room | exact Nat.le_of_ble_eq_true rfl) ?k9 ?kB ?_ ?c2 ?c3 ?c4 ?c5
  ((case k6 => k_is); (case k7 => k_is); (case k9 => exact BindsTo.of_eq (by first | rfl | kernel_rfl | with_unfolding_all rfl)); (case kB => exact locs rfl); (case c2 => exact rfl); (case c3 => exact rfl); (case c4 => exact rfl); (case c5 => decide); (intro xH xL xh xX xT xG xlk xF xN xl1 xl2 xl4); (replace xl1 := ltN xl1); (replace xl2 := PySem.W.allLt_of xl2); (try dsimp only [PySem.W.AllLt] at xl2); (try dsimp only); (try k_fold))
  rename (∀ (b : Addr) (o : Obj), _ → (∀ q : Addr × Obj, q ∈ _ → b ≠ q.1) → _) => lk
  have sk := seqKeep_lk lk ht rfl
  have i1 := tupAt (sk _ _ h1 ⟨_, _, rfl⟩)
  have i2 := lstAt (sk _ _ h2 ⟨_, _, rfl⟩)
  have i3 := sk _ _ h3 ⟨_, _, rfl⟩
  clear F N X T ht h1 h2 h3 lk sk
  have t206 := tupK (by assumption) (show (hd.heap_1 w.params).lookup 206 = some _ from by k_is)
  w_strict k_steps
  rename Fr _ _ _ _ => F2
  rename News _ _ _ _ => N2
  refine Ground'.use (by assumption) F2 (newsSub N2 (b := [_, _, _]) (sub_mem (.tail _ (.head _)) (sub_mem (.tail _ (.tail _ (.head _))) (sub_mem (.head _) sub_nil)))) fun Fb Nb Sb => ?_
  exact ret _ _ _ _ (F2.keep _ _ i3) (Sb _ (.tail _ (.tail _ (.head _)))) Fb Nb
set_option maxHeartbeats 4000000 in
theorem take_unk {H : Heap} (X : (hd.heap_1 w.params).In H) (T : Top hd.view_1 (looseW hd.view_1 []) mean mg mb H) {L : Addr} {m : Str → Option Value} {hp : Heap} {tk0 : Tok} {Q E : Value → Shared → Prop} {x d l0 : Addr} {news : List (Addr × Obj)} {t : Nat → Tok} {cl : Bool} {tp : Tok} {most go told v : Value} (F : Fr H L hp m) (N : News H L hp (crLed w.params x d t cl tp most (.ref l0) go told ++ news))
  (hsep : ∀ q ∈ crLed w.params x d t cl tp most (.ref l0) go told, ∀ r ∈ news, r.1 ≠ q.1) (hxd : @Ne Nat x d)
  (hv : FmAt hp v .unk)
  (ret : ∀ h' tk', Fr H L h' m → News H L h' (crLed w.params x d t cl tp most (.ref l0) go told ++ news) → Q .none {s with heap := h', toks := tk'}) :
  wpAny (model PySem.Challenge.rw_sj0117_01.row.prog w) (AA 90) (call (.ref 227) [.ref x, v]) Q E {s with heap := hp, toks := tk0} := by
  have ht : ∀ q ∈ crLed w.params x d t cl tp most (.ref l0) go told, hp.get? q.1 = some q.2 := fun q hq => (N q (List.mem_append_left _ hq)).1
  obtain ⟨a, t1, t2, t3, rfl, h1⟩ := hv
  refine wpAny_call ?_
  refine' enterQ (binds := [(Str.ofString "self", .ref x), (Str.ofString "frame", .ref a)]) (tgt := crLed w.params x d t cl tp most (.ref l0) go told) (by assumption) (by assumption) (by assumption) (by assumption) (hsep) ?k6 ?k7 (by first | decide | k_room | exact Nat.le_of_ble_eq_true rfl) ?k9 ?kB ?_ ?c2 ?c3 ?c4 ?c5
  ((case k6 => k_is); (case k7 => k_is); (case k9 => exact BindsTo.of_eq (by first | rfl | kernel_rfl | with_unfolding_all rfl)); (case kB => exact locs rfl); (case c2 => exact rfl); (case c3 => exact rfl); (case c4 => exact rfl); (case c5 => decide); (intro xH xL xh xX xT xG xlk xF xN xl1 xl2 xl4); (replace xl1 := ltN xl1); (replace xl2 := PySem.W.allLt_of xl2); (try dsimp only [PySem.W.AllLt] at xl2); (try dsimp only); (try k_fold))
  rename (∀ (b : Addr) (o : Obj), _ → (∀ q : Addr × Obj, q ∈ _ → b ≠ q.1) → _) => lk
  have i1 := tupAt (seqKeep_lk lk ht rfl _ _ h1 ⟨_, _, rfl⟩)
  clear F N X T ht h1 lk
  have t206 := tupK (by assumption) (show (hd.heap_1 w.params).lookup 206 = some _ from by k_is)
  w_strict k_steps
  refine Ground'.use (by assumption) (by assumption) (by assumption) fun Fb Nb Sb => ?_
  exact ret _ _ Fb Nb
set_option maxHeartbeats 4000000 in
theorem take_go {H : Heap} (X : (hd.heap_1 w.params).In H) (T : Top hd.view_1 (looseW hd.view_1 []) mean mg mb H) {L : Addr} {m : Str → Option Value} {hp : Heap} {tk0 : Tok} {Q E : Value → Shared → Prop} {x d l0 : Addr} {news : List (Addr × Obj)} {t : Nat → Tok} {cl : Bool} {tp : Tok} {most go told v : Value} {n : Int} (F : Fr H L hp m) (N : News H L hp (crLed w.params x d t cl tp most (.ref l0) go told ++ news))
  (hsep : ∀ q ∈ crLed w.params x d t cl tp most (.ref l0) go told, ∀ r ∈ news, r.1 ≠ q.1) (hxd : @Ne Nat x d)
  (hv : FmAt hp v (.goaway n)) (h1 : cl = false → Int.fmod n 4 = 0) (h2 : go = .none ∨ ∃ g tg, go = .int g tg ∧ n ≤ g)
  (ret : ∀ h' tk' tn, Fr H L h' m → News H L h' (crLed w.params x d t cl tp most (.ref l0) (.int n tn) told ++ news) → Q .none {s with heap := h', toks := tk'}) :
  wpAny (model PySem.Challenge.rw_sj0117_01.row.prog w) (AA 90) (call (.ref 227) [.ref x, v]) Q E {s with heap := hp, toks := tk0} := by
  have ht : ∀ q ∈ crLed w.params x d t cl tp most (.ref l0) go told, hp.get? q.1 = some q.2 := fun q hq => (N q (List.mem_append_left _ hq)).1
  obtain ⟨a, t1, t2, rfl, h3⟩ := hv
  refine wpAny_call ?_
  refine' enterQ (binds := [(Str.ofString "self", .ref x), (Str.ofString "frame", .ref a)]) (tgt := crLed w.params x d t cl tp most (.ref l0) go told) (by assumption) (by assumption) (by assumption) (by assumption) (hsep) ?k6 ?k7 (by first | decide | k_room | exact Nat.le_of_ble_eq_true rfl) ?k9 ?kB ?_ ?c2 ?c3 ?c4 ?c5
  ((case k6 => k_is); (case k7 => k_is); (case k9 => exact BindsTo.of_eq (by first | rfl | kernel_rfl | with_unfolding_all rfl)); (case kB => exact locs rfl); (case c2 => exact rfl); (case c3 => exact rfl); (case c4 => exact rfl); (case c5 => decide); (intro xH xL xh xX xT xG xlk xF xN xl1 xl2 xl4); (replace xl1 := ltN xl1); (replace xl2 := PySem.W.allLt_of xl2); (try dsimp only [PySem.W.AllLt] at xl2); (try dsimp only); (try k_fold))
  rename (∀ (b : Addr) (o : Obj), _ → (∀ q : Addr × Obj, q ∈ _ → b ≠ q.1) → _) => lk
  have i1 := tupAt (seqKeep_lk lk ht rfl _ _ h3 ⟨_, _, rfl⟩)
  clear F N X T ht h3 lk
  have t206 := tupK (by assumption) (show (hd.heap_1 w.params).lookup 206 = some _ from by k_is)
  w_strict k_steps
  refine wp_at (f := by exact ⟨rfl, Nat.le_of_ble_eq_true rfl, Nat.le_of_ble_eq_true rfl⟩) (tgoaway_ok (news := []) (by assumption) (by assumption) (by assumption) (by assumption) (fun _ _ _ h => absurd h List.not_mem_nil) hxd h1 h2 ?_)
  intro h' tk' F N
  rw [List.append_nil] at N
  w_strict k_steps
  refine Ground'.use (by assumption) (by assumption) (by assumption) fun Fb Nb Sb => ?_
  exact ret _ _ _ Fb Nb

end
section
example : True := by w_top off; exact trivial
set_option maxHeartbeats 4000000 in
theorem take_mp {H : Heap} (X : (hd.heap_1 w.params).In H) (T : Top hd.view_1 (looseW hd.view_1 []) mean mg mb H) {L : Addr} {m : Str → Option Value} {hp : Heap} {tk0 : Tok} {Q E : Value → Shared → Prop} {x d l0 : Addr} {news : List (Addr × Obj)} {t : Nat → Tok} {cl : Bool} {tp : Tok} {most go told v : Value} {n : Int} (F : Fr H L hp m) (N : News H L hp (crLed w.params x d t cl tp most (.ref l0) go told ++ news))
  (hsep : ∀ q ∈ crLed w.params x d t cl tp most (.ref l0) go told, ∀ r ∈ news, r.1 ≠ q.1) (hxd : @Ne Nat x d)
  (hv : FmAt hp v (.maxp n)) (h1 : cl = true) (h2 : told = .none ∨ ∃ g tg, told = .int g tg ∧ g ≤ n)
  (ret : ∀ h' tk' tn, Fr H L h' m → News H L h' (crLed w.params x d t cl tp most (.ref l0) go (.int n tn) ++ news) → Q .none {s with heap := h', toks := tk'}) :
  wpAny (model PySem.Challenge.rw_sj0117_01.row.prog w) (AA 90) (call (.ref 227) [.ref x, v]) Q E {s with heap := hp, toks := tk0} := by
  have ht : ∀ q ∈ crLed w.params x d t cl tp most (.ref l0) go told, hp.get? q.1 = some q.2 := fun q hq => (N q (List.mem_append_left _ hq)).1
  obtain ⟨a, t1, t2, rfl, h3⟩ := hv
  refine wpAny_call ?_
  refine' enterQ (binds := [(Str.ofString "self", .ref x), (Str.ofString "frame", .ref a)]) (tgt := crLed w.params x d t cl tp most (.ref l0) go told) (by assumption) (by assumption) (by assumption) (by assumption) (hsep) ?k6 ?k7 (by first | decide | k_room | exact Nat.le_of_ble_eq_true rfl) ?k9 ?kB ?_ ?c2 ?c3 ?c4 ?c5
  ((case k6 => k_is); (case k7 => k_is); (case k9 => exact BindsTo.of_eq (by first | rfl | kernel_rfl | with_unfolding_all rfl)); (case kB => exact locs rfl); (case c2 => exact rfl); (case c3 => exact rfl); (case c4 => exact rfl); (case c5 => decide); (intro xH xL xh xX xT xG xlk xF xN xl1 xl2 xl4); (replace xl1 := ltN xl1); (replace xl2 := PySem.W.allLt_of xl2); (try dsimp only [PySem.W.AllLt] at xl2); (try dsimp only); (try k_fold))
  rename (∀ (b : Addr) (o : Obj), _ → (∀ q : Addr × Obj, q ∈ _ → b ≠ q.1) → _) => lk
  have i1 := tupAt (seqKeep_lk lk ht rfl _ _ h3 ⟨_, _, rfl⟩)
  clear F N X T ht h3 lk
  have t206 := tupK (by assumption) (show (hd.heap_1 w.params).lookup 206 = some _ from by k_is)
  w_strict k_steps
  refine wp_at (f := by exact ⟨rfl, Nat.le_of_ble_eq_true rfl, Nat.le_of_ble_eq_true rfl⟩) (tmost_ok (news := []) (by assumption) (by assumption) (by assumption) (by assumption) (fun _ _ _ h => absurd h List.not_mem_nil) hxd h1 h2 ?_)
  intro h' tk' F N
  rw [List.append_nil] at N
  w_strict k_steps
  refine Ground'.use (by assumption) (by assumption) (by assumption) fun Fb Nb Sb => ?_
  exact ret _ _ _ Fb Nb
set_option maxHeartbeats 4000000 in
theorem take_cp {H : Heap} (X : (hd.heap_1 w.params).In H) (T : Top hd.view_1 (looseW hd.view_1 []) mean mg mb H) {L : Addr} {m : Str → Option Value} {hp : Heap} {tk0 : Tok} {Q E : Value → Shared → Prop} {x d l0 : Addr} {news : List (Addr × Obj)} {t : Nat → Tok} {cl : Bool} {tp : Tok} {most go told v : Value} {n : Int} (F : Fr H L hp m) (N : News H L hp (crLed w.params x d t cl tp most (.ref l0) go told ++ news))
  (hsep : ∀ q ∈ crLed w.params x d t cl tp most (.ref l0) go told, ∀ r ∈ news, r.1 ≠ q.1) (hxd : @Ne Nat x d)
  (hv : FmAt hp v (.canc n)) (h1 : ∃ k tk, (if cl then told else most) = .int k tk ∧ n ≤ k)
  (ret : ∀ h' tk', Fr H L h' m → News H L h' (crLed w.params x d t cl tp most (.ref l0) go told ++ news) → Q .none {s with heap := h', toks := tk'}) :
  wpAny (model PySem.Challenge.rw_sj0117_01.row.prog w) (AA 90) (call (.ref 227) [.ref x, v]) Q E {s with heap := hp, toks := tk0} := by
  have ht : ∀ q ∈ crLed w.params x d t cl tp most (.ref l0) go told, hp.get? q.1 = some q.2 := fun q hq => (N q (List.mem_append_left _ hq)).1
  obtain ⟨a, t1, t2, rfl, h3⟩ := hv
  refine wpAny_call ?_
  refine' enterQ (binds := [(Str.ofString "self", .ref x), (Str.ofString "frame", .ref a)]) (tgt := crLed w.params x d t cl tp most (.ref l0) go told) (by assumption) (by assumption) (by assumption) (by assumption) (hsep) ?k6 ?k7 (by first | decide | k_room | exact Nat.le_of_ble_eq_true rfl) ?k9 ?kB ?_ ?c2 ?c3 ?c4 ?c5
  ((case k6 => k_is); (case k7 => k_is); (case k9 => exact BindsTo.of_eq (by first | rfl | kernel_rfl | with_unfolding_all rfl)); (case kB => exact locs rfl); (case c2 => exact rfl); (case c3 => exact rfl); (case c4 => exact rfl); (case c5 => decide); (intro xH xL xh xX xT xG xlk xF xN xl1 xl2 xl4); (replace xl1 := ltN xl1); (replace xl2 := PySem.W.allLt_of xl2); (try dsimp only [PySem.W.AllLt] at xl2); (try dsimp only); (try k_fold))
  rename (∀ (b : Addr) (o : Obj), _ → (∀ q : Addr × Obj, q ∈ _ → b ≠ q.1) → _) => lk
  have i1 := tupAt (seqKeep_lk lk ht rfl _ _ h3 ⟨_, _, rfl⟩)
  clear F N X T ht h3 lk
  have t206 := tupK (by assumption) (show (hd.heap_1 w.params).lookup 206 = some _ from by k_is)
  obtain ⟨k, tk0, h1, h2⟩ := h1
  cases cl
  · simp only [Bool.false_eq_true, if_false] at h1
    subst h1
    dsimp only [crLed, pS] at *
    w_strict k_steps
    refine wp_at (f := by exact ⟨rfl, Nat.le_of_ble_eq_true rfl, Nat.le_of_ble_eq_true rfl⟩) (checkpush_ok (by assumption) (by assumption) (by assumption) (by assumption) h2 ?_)
    intro h' tk' st F N
    w_strict k_steps
    refine Ground'.use (by assumption) (by assumption) (by assumption) fun Fb Nb Sb => ?_
    exact ret _ _ Fb Nb
  · simp only [if_true] at h1
    subst h1
    dsimp only [crLed, pS] at *
    w_strict k_steps
    refine wp_at (f := by exact ⟨rfl, Nat.le_of_ble_eq_true rfl, Nat.le_of_ble_eq_true rfl⟩) (checkpush_ok (by assumption) (by assumption) (by assumption) (by assumption) h2 ?_)
    intro h' tk' st F N
    w_strict k_steps
    refine Ground'.use (by assumption) (by assumption) (by assumption) fun Fb Nb Sb => ?_
    exact ret _ _ Fb Nb

end
section
example : True := by w_top off; exact trivial
/-- what is due by the state of the rules -/
def codeF (cl : Bool) (mp go told : Option Int) : Fm → Int
  | .sett | .sett2 | .hdr | .dat => 261
  | .unk => 0
  | .goaway n => if cl = false ∧ Int.fmod n 4 ≠ 0 then 264 else match go with | none => 0 | some g => if g < n then 264 else 0
  | .maxp n => if cl = false then 261 else match told with | none => 0 | some g => if n < g then 264 else 0
  | .canc n => match (if cl then told else mp) with | none => 264 | some k => if k < n then 264 else 0
def IsOpt (v : Value) : Option Int → Prop
  | none => v = .none
  | some n => ∃ t, v = .int n t
set_option maxHeartbeats 4000000 in
theorem take_badD {H : Heap} (X : (hd.heap_1 w.params).In H) (T : Top hd.view_1 (looseW hd.view_1 []) mean mg mb H) {L : Addr} {m : Str → Option Value} {hp : Heap} {tk0 : Tok} {Q E : Value → Shared → Prop} {env : Env} {outer : List Env} {fr : List (Addr × Obj)} {x d l0 : Addr} {t : Nat → Tok} {cl : Bool} {tp : Tok} {most go told v : Value} {f : Fm} (F : Fr H L hp m) (N : News H L hp (crLed w.params x d t cl tp most (.ref l0) go told ++ fr)) (Fs : TI.Frs outer fr) (hf : env.frame = some L) (hke : env.scope.kind ≠ .module)
  (hsep : ∀ q ∈ crLed w.params x d t cl tp most (.ref l0) go told, q.1 ∉ adr fr) (hxd : @Ne Nat x d)
  (hv : FmAt hp v f) (hff : f = .sett ∨ f = .sett2 ∨ f = .hdr ∨ f = .dat)
  (bad : ∀ e d T t3 tx t4 h' tk', Flying hp h' (L :: adr fr) e 51 d T (codeNs tx t4 261 t3) → E (.ref e) {s with heap := h', toks := tk'}) :
  wpAny (model PySem.Challenge.rw_sj0117_01.row.prog w) (AF (env :: outer) 90) (call (.ref 227) [.ref x, v]) Q E {s with heap := hp, toks := tk0} := by
  have ht : ∀ q ∈ crLed w.params x d t cl tp most (.ref l0) go told, hp.get? q.1 = some q.2 := fun q hq => (N q (List.mem_append_left _ hq)).1
  have hx0 := (N _ (.head _)).1
  have hd0 := (N _ (.tail _ (.head _))).1
  obtain ⟨a, rfl⟩ : ∃ a, v = .ref a := by
    rcases hff with rfl | rfl | rfl | rfl
    · obtain ⟨a, _, _, _, _, _, _, e, _⟩ := hv; exact ⟨a, e⟩
    · obtain ⟨a, _, _, _, _, _, _, e, _⟩ := hv; exact ⟨a, e⟩
    · obtain ⟨a, _, _, e, _⟩ := hv; exact ⟨a, e⟩
    · obtain ⟨a, _, _, e, _⟩ := hv; exact ⟨a, e⟩
  refine wpAny_call ?_
  refine' enterX (binds := [(Str.ofString "self", .ref x), (Str.ofString "frame", .ref a)]) (tgt := crLed w.params x d t cl tp most (.ref l0) go told) (by assumption) (by assumption) (by assumption) (by assumption) (by assumption) (by assumption) (by assumption) ?k5 ?k6 ?k7 (by first | decide | k_room | exact Nat.le_of_ble_eq_true rfl) ?k9 ?kB ?_ ?c2 ?c3 ?c4 ?c5
  ((case k5 => first | assumption | exact (fun q hq => absurd hq List.not_mem_nil)); (case k6 => k_is); (case k7 => k_is); (case k9 => exact BindsTo.of_eq (by first | rfl | kernel_rfl | with_unfolding_all rfl)); (case kB => exact locs rfl); (case c2 => exact rfl); (case c3 => exact rfl); (case c4 => exact rfl); (case c5 => decide))
  intro H1 L1 h₁ fr1 X1 T1 G1 Fs1 ea1 tf1 nL1 old1 F1 N1 l2
  replace l2 := PySem.W.allLt_of l2
  (try dsimp only [PySem.W.AllLt] at l2); (try dsimp only); (try k_fold); (try rw [← ea1] at G1)
  clear F N X T
  have fin : ∀ (s2 : Heap) (m2 : Str → Option Value), Fr H1 L1 s2 m2 → News H1 L1 s2 (crLed w.params x d t cl tp most (.ref l0) go told ++ fr1) → Away (adr fr1) [] hp s2 := fun s2 m2 F2 N2 =>
    away_back (away_of G1 F2.keep old1 (TI.SameUp.refl _) fun q hq => (N2 q (List.mem_append_right _ hq)).1) fun b hb _ o e => by
      rcases List.mem_cons.mp hb with rfl | hb
      · rw [hx0] at e; cases e; exact (N2 _ (.head _)).1
      · rw [List.mem_singleton.mp hb] at e ⊢; rw [hd0] at e; cases e; exact (N2 _ (.tail _ (.head _))).1
  have hv1 := hv.keep (seqKeep_G G1 ht rfl Fs1 old1)
  have t206 := tupK (by assumption) (show (hd.heap_1 w.params).lookup 206 = some _ from by k_is)
  clear hx0 hd0 ht hv hsep
  rcases hff with rfl | rfl | rfl | rfl
  · obtain ⟨a', t1, l, nl, p, t2, t3, e, h1, h2, h3⟩ := hv1
    cases e
    have i1 := tupAt h1
    w_strict k_steps
    rename Fr _ _ _ _ => F2
    rename News _ _ _ _ => N2
    refine raiseH3 (hf := by rfl) (hke := by exact funK rfl) (hh := by rfl) (hfr := by rfl) (hd := by exact Nat.le_of_ble_eq_true rfl) (hu := by exact Nat.le_of_ble_eq_true rfl) (fr := fr1) X1 T1 F2 (newsSub N2 fun q hq => .tail _ (.tail _ hq)) Fs1 (fin _ _ F2 N2) nL1 (by decide +kernel) (by decide) (by decide) fun e d T' t3 h' tk' fl => ?_
    rw [ea1] at fl
    exact bad _ _ _ _ _ _ _ _ fl
  · obtain ⟨a', t1, l, nl, p, t2, t3, e, h1, h2, h3⟩ := hv1
    cases e
    have i1 := tupAt h1
    w_strict k_steps
    rename Fr _ _ _ _ => F2
    rename News _ _ _ _ => N2
    refine raiseH3 (hf := by rfl) (hke := by exact funK rfl) (hh := by rfl) (hfr := by rfl) (hd := by exact Nat.le_of_ble_eq_true rfl) (hu := by exact Nat.le_of_ble_eq_true rfl) (fr := fr1) X1 T1 F2 (newsSub N2 fun q hq => .tail _ (.tail _ hq)) Fs1 (fin _ _ F2 N2) nL1 (by decide +kernel) (by decide) (by decide) fun e d T' t3 h' tk' fl => ?_
    rw [ea1] at fl
    exact bad _ _ _ _ _ _ _ _ fl
  · obtain ⟨a', t1, t2, e, h1⟩ := hv1
    cases e
    have i1 := tupAt h1
    w_strict k_steps
    rename Fr _ _ _ _ => F2
    rename News _ _ _ _ => N2
    refine raiseH3 (hf := by rfl) (hke := by exact funK rfl) (hh := by rfl) (hfr := by rfl) (hd := by exact Nat.le_of_ble_eq_true rfl) (hu := by exact Nat.le_of_ble_eq_true rfl) (fr := fr1) X1 T1 F2 (newsSub N2 fun q hq => .tail _ (.tail _ hq)) Fs1 (fin _ _ F2 N2) nL1 (by decide +kernel) (by decide) (by decide) fun e d T' t3 h' tk' fl => ?_
    rw [ea1] at fl
    exact bad _ _ _ _ _ _ _ _ fl
  · obtain ⟨a', t1, t2, e, h1⟩ := hv1
    cases e
    have i1 := tupAt h1
    w_strict k_steps
    rename Fr _ _ _ _ => F2
    rename News _ _ _ _ => N2
    refine raiseH3 (hf := by rfl) (hke := by exact funK rfl) (hh := by rfl) (hfr := by rfl) (hd := by exact Nat.le_of_ble_eq_true rfl) (hu := by exact Nat.le_of_ble_eq_true rfl) (fr := fr1) X1 T1 F2 (newsSub N2 fun q hq => .tail _ (.tail _ hq)) Fs1 (fin _ _ F2 N2) nL1 (by decide +kernel) (by decide) (by decide) fun e d T' t3 h' tk' fl => ?_
    rw [ea1] at fl
    exact bad _ _ _ _ _ _ _ _ fl

end
section
example : True := by w_top off; exact trivial
set_option maxHeartbeats 4000000 in
theorem take_badG {H : Heap} (X : (hd.heap_1 w.params).In H) (T : Top hd.view_1 (looseW hd.view_1 []) mean mg mb H) {L : Addr} {m : Str → Option Value} {hp : Heap} {tk0 : Tok} {Q E : Value → Shared → Prop} {env : Env} {outer : List Env} {fr : List (Addr × Obj)} {x d l0 : Addr} {t : Nat → Tok} {cl : Bool} {tp : Tok} {most go told v : Value} {n : Int} (F : Fr H L hp m) (N : News H L hp (crLed w.params x d t cl tp most (.ref l0) go told ++ fr)) (Fs : TI.Frs outer fr) (hf : env.frame = some L) (hke : env.scope.kind ≠ .module)
  (hsep : ∀ q ∈ crLed w.params x d t cl tp most (.ref l0) go told, q.1 ∉ adr fr) (hxd : @Ne Nat x d)
  (hv : FmAt hp v (.goaway n)) (hb : (cl = false ∧ Int.fmod n 4 ≠ 0) ∨ (cl = false → Int.fmod n 4 = 0) ∧ ∃ g tg, go = .int g tg ∧ g < n)
  (bad : ∀ e d T t3 tx t4 h' tk', Flying hp h' (L :: adr fr) e 51 d T (codeNs tx t4 264 t3) → E (.ref e) {s with heap := h', toks := tk'}) :
  wpAny (model PySem.Challenge.rw_sj0117_01.row.prog w) (AF (env :: outer) 90) (call (.ref 227) [.ref x, v]) Q E {s with heap := hp, toks := tk0} := by
  have ht : ∀ q ∈ crLed w.params x d t cl tp most (.ref l0) go told, hp.get? q.1 = some q.2 := fun q hq => (N q (List.mem_append_left _ hq)).1
  have hx0 := (N _ (.head _)).1
  have hd0 := (N _ (.tail _ (.head _))).1
  obtain ⟨a, rfl⟩ : ∃ a, v = .ref a := by obtain ⟨a, _, _, e, _⟩ := hv; exact ⟨a, e⟩
  refine wpAny_call ?_
  refine' enterX (binds := [(Str.ofString "self", .ref x), (Str.ofString "frame", .ref a)]) (tgt := crLed w.params x d t cl tp most (.ref l0) go told) (by assumption) (by assumption) (by assumption) (by assumption) (by assumption) (by assumption) (by assumption) ?k5 ?k6 ?k7 (by first | decide | k_room | exact Nat.le_of_ble_eq_true rfl) ?k9 ?kB ?_ ?c2 ?c3 ?c4 ?c5
  ((case k5 => first | assumption | exact (fun q hq => absurd hq List.not_mem_nil)); (case k6 => k_is); (case k7 => k_is); (case k9 => exact BindsTo.of_eq (by first | rfl | kernel_rfl | with_unfolding_all rfl)); (case kB => exact locs rfl); (case c2 => exact rfl); (case c3 => exact rfl); (case c4 => exact rfl); (case c5 => decide))
  intro H1 L1 h₁ fr1 X1 T1 G1 Fs1 ea1 tf1 nL1 old1 F1 N1 l2
  replace l2 := PySem.W.allLt_of l2
  (try dsimp only [PySem.W.AllLt] at l2); (try dsimp only); (try k_fold); (try rw [← ea1] at G1)
  clear F N X T
  have fin : ∀ (h2 : Heap) (m2 : Str → Option Value), Fr H1 L1 h2 m2 → News H1 L1 h2 (crLed w.params x d t cl tp most (.ref l0) go told ++ fr1) → Away (adr fr1) [] hp h2 := fun s2 m2 F2 N2 =>
    away_back (away_of G1 F2.keep old1 (TI.SameUp.refl _) fun q hq => (N2 q (List.mem_append_right _ hq)).1) fun b hb _ o e => by
      rcases List.mem_cons.mp hb with rfl | hb
      · rw [hx0] at e; cases e; exact (N2 _ (.head _)).1
      · rw [List.mem_singleton.mp hb] at e ⊢; rw [hd0] at e; cases e; exact (N2 _ (.tail _ (.head _))).1
  have hv1 := hv.keep (seqKeep_G G1 ht rfl Fs1 old1)
  have t206 := tupK (by assumption) (show (hd.heap_1 w.params).lookup 206 = some _ from by k_is)
  clear hx0 hd0 ht hv hsep
  obtain ⟨a', t1, t2, e, h1⟩ := hv1
  cases e
  have i1 := tupAt h1
  w_strict k_steps
  rename Fr _ _ _ _ => F2
  rename News _ _ _ _ => N2
  refine wp_atF (f := by exact ⟨rfl, Nat.le_of_ble_eq_true rfl, Nat.le_of_ble_eq_true rfl⟩) (hf := by rfl) (tgoaway_bad (fr := fr1) X1 T1 F2 N2 Fs1 rfl (funK rfl) tf1 hxd hb fun e d T' t3 tx t4 h' tk' fl => ?_)
  dsimp only
  rw [← ea1] at bad
  refine flyT (fr := fr1) rfl rfl (funK rfl) F2 (newsSub N2 fun q hq => .tail _ (.tail _ hq)) Fs1 (fin _ _ F2 N2) nL1 fl fun h' T' fl => ?_
  exact bad _ _ _ _ _ _ _ _ fl
set_option maxHeartbeats 4000000 in
theorem take_badM {H : Heap} (X : (hd.heap_1 w.params).In H) (T : Top hd.view_1 (looseW hd.view_1 []) mean mg mb H) {L : Addr} {m : Str → Option Value} {hp : Heap} {tk0 : Tok} {Q E : Value → Shared → Prop} {env : Env} {outer : List Env} {fr : List (Addr × Obj)} {x d l0 : Addr} {t : Nat → Tok} {cl : Bool} {tp : Tok} {most go told v : Value} {n : Int} (F : Fr H L hp m) (N : News H L hp (crLed w.params x d t cl tp most (.ref l0) go told ++ fr)) (Fs : TI.Frs outer fr) (hf : env.frame = some L) (hke : env.scope.kind ≠ .module)
  (hsep : ∀ q ∈ crLed w.params x d t cl tp most (.ref l0) go told, q.1 ∉ adr fr) (hxd : @Ne Nat x d)
  (hv : FmAt hp v (.maxp n)) {c : Int} (hb : (cl = false ∧ c = 261) ∨ cl = true ∧ c = 264 ∧ ∃ g tg, told = .int g tg ∧ n < g)
  (bad : ∀ e d T t3 tx t4 h' tk', Flying hp h' (L :: adr fr) e 51 d T (codeNs tx t4 c t3) → E (.ref e) {s with heap := h', toks := tk'}) :
  wpAny (model PySem.Challenge.rw_sj0117_01.row.prog w) (AF (env :: outer) 90) (call (.ref 227) [.ref x, v]) Q E {s with heap := hp, toks := tk0} := by
  have ht : ∀ q ∈ crLed w.params x d t cl tp most (.ref l0) go told, hp.get? q.1 = some q.2 := fun q hq => (N q (List.mem_append_left _ hq)).1
  have hx0 := (N _ (.head _)).1
  have hd0 := (N _ (.tail _ (.head _))).1
  obtain ⟨a, rfl⟩ : ∃ a, v = .ref a := by obtain ⟨a, _, _, e, _⟩ := hv; exact ⟨a, e⟩
  refine wpAny_call ?_
  refine' enterX (binds := [(Str.ofString "self", .ref x), (Str.ofString "frame", .ref a)]) (tgt := crLed w.params x d t cl tp most (.ref l0) go told) (by assumption) (by assumption) (by assumption) (by assumption) (by assumption) (by assumption) (by assumption) ?k5 ?k6 ?k7 (by first | decide | k_room | exact Nat.le_of_ble_eq_true rfl) ?k9 ?kB ?_ ?c2 ?c3 ?c4 ?c5
  ((case k5 => first | assumption | exact (fun q hq => absurd hq List.not_mem_nil)); (case k6 => k_is); (case k7 => k_is); (case k9 => exact BindsTo.of_eq (by first | rfl | kernel_rfl | with_unfolding_all rfl)); (case kB => exact locs rfl); (case c2 => exact rfl); (case c3 => exact rfl); (case c4 => exact rfl); (case c5 => decide))
  intro H1 L1 h₁ fr1 X1 T1 G1 Fs1 ea1 tf1 nL1 old1 F1 N1 l2
  replace l2 := PySem.W.allLt_of l2
  (try dsimp only [PySem.W.AllLt] at l2); (try dsimp only); (try k_fold); (try rw [← ea1] at G1)
  clear F N X T
  have fin : ∀ (h2 : Heap) (m2 : Str → Option Value), Fr H1 L1 h2 m2 → News H1 L1 h2 (crLed w.params x d t cl tp most (.ref l0) go told ++ fr1) → Away (adr fr1) [] hp h2 := fun s2 m2 F2 N2 =>
    away_back (away_of G1 F2.keep old1 (TI.SameUp.refl _) fun q hq => (N2 q (List.mem_append_right _ hq)).1) fun b hb _ o e => by
      rcases List.mem_cons.mp hb with rfl | hb
      · rw [hx0] at e; cases e; exact (N2 _ (.head _)).1
      · rw [List.mem_singleton.mp hb] at e ⊢; rw [hd0] at e; cases e; exact (N2 _ (.tail _ (.head _))).1
  have hv1 := hv.keep (seqKeep_G G1 ht rfl Fs1 old1)
  have t206 := tupK (by assumption) (show (hd.heap_1 w.params).lookup 206 = some _ from by k_is)
  clear hx0 hd0 ht hv hsep
  obtain ⟨a', t1, t2, e, h1⟩ := hv1
  cases e
  have i1 := tupAt h1
  w_strict k_steps
  rename Fr _ _ _ _ => F2
  rename News _ _ _ _ => N2
  refine wp_atF (f := by exact ⟨rfl, Nat.le_of_ble_eq_true rfl, Nat.le_of_ble_eq_true rfl⟩) (hf := by rfl) (tmost_bad (fr := fr1) X1 T1 F2 N2 Fs1 rfl (funK rfl) tf1 hxd hb fun e d T' t3 tx t4 h' tk' fl => ?_)
  dsimp only
  rw [← ea1] at bad
  refine flyT (fr := fr1) rfl rfl (funK rfl) F2 (newsSub N2 fun q hq => .tail _ (.tail _ hq)) Fs1 (fin _ _ F2 N2) nL1 fl fun h' T' fl => ?_
  exact bad _ _ _ _ _ _ _ _ fl
set_option maxHeartbeats 4000000 in
theorem take_badC {H : Heap} (X : (hd.heap_1 w.params).In H) (T : Top hd.view_1 (looseW hd.view_1 []) mean mg mb H) {L : Addr} {m : Str → Option Value} {hp : Heap} {tk0 : Tok} {Q E : Value → Shared → Prop} {env : Env} {outer : List Env} {fr : List (Addr × Obj)} {x d l0 : Addr} {t : Nat → Tok} {cl : Bool} {tp : Tok} {most go told v : Value} {n : Int} (F : Fr H L hp m) (N : News H L hp (crLed w.params x d t cl tp most (.ref l0) go told ++ fr)) (Fs : TI.Frs outer fr) (hf : env.frame = some L) (hke : env.scope.kind ≠ .module)
  (hsep : ∀ q ∈ crLed w.params x d t cl tp most (.ref l0) go told, q.1 ∉ adr fr) (hxd : @Ne Nat x d)
  (hv : FmAt hp v (.canc n)) (hb : (if cl then told else most) = .none ∨ ∃ k t2, (if cl then told else most) = .int k t2 ∧ k < n)
  (bad : ∀ e d T t3 tx t4 h' tk', Flying hp h' (L :: adr fr) e 51 d T (codeNs tx t4 264 t3) → E (.ref e) {s with heap := h', toks := tk'}) :
  wpAny (model PySem.Challenge.rw_sj0117_01.row.prog w) (AF (env :: outer) 90) (call (.ref 227) [.ref x, v]) Q E {s with heap := hp, toks := tk0} := by
  have ht : ∀ q ∈ crLed w.params x d t cl tp most (.ref l0) go told, hp.get? q.1 = some q.2 := fun q hq => (N q (List.mem_append_left _ hq)).1
  have hx0 := (N _ (.head _)).1
  have hd0 := (N _ (.tail _ (.head _))).1
  obtain ⟨a, rfl⟩ : ∃ a, v = .ref a := by obtain ⟨a, _, _, e, _⟩ := hv; exact ⟨a, e⟩
  refine wpAny_call ?_
  refine' enterX (binds := [(Str.ofString "self", .ref x), (Str.ofString "frame", .ref a)]) (tgt := crLed w.params x d t cl tp most (.ref l0) go told) (by assumption) (by assumption) (by assumption) (by assumption) (by assumption) (by assumption) (by assumption) ?k5 ?k6 ?k7 (by first | decide | k_room | exact Nat.le_of_ble_eq_true rfl) ?k9 ?kB ?_ ?c2 ?c3 ?c4 ?c5
  ((case k5 => first | assumption | exact (fun q hq => absurd hq List.not_mem_nil)); (case k6 => k_is); (case k7 => k_is); (case k9 => exact BindsTo.of_eq (by first | rfl | kernel_rfl | with_unfolding_all rfl)); (case kB => exact locs rfl); (case c2 => exact rfl); (case c3 => exact rfl); (case c4 => exact rfl); (case c5 => decide))
  intro H1 L1 h₁ fr1 X1 T1 G1 Fs1 ea1 tf1 nL1 old1 F1 N1 l2
  replace l2 := PySem.W.allLt_of l2
  (try dsimp only [PySem.W.AllLt] at l2); (try dsimp only); (try k_fold); (try rw [← ea1] at G1)
  clear F N X T
  have fin : ∀ (h2 : Heap) (m2 : Str → Option Value), Fr H1 L1 h2 m2 → News H1 L1 h2 (crLed w.params x d t cl tp most (.ref l0) go told ++ fr1) → Away (adr fr1) [] hp h2 := fun s2 m2 F2 N2 =>
    away_back (away_of G1 F2.keep old1 (TI.SameUp.refl _) fun q hq => (N2 q (List.mem_append_right _ hq)).1) fun b hb _ o e => by
      rcases List.mem_cons.mp hb with rfl | hb
      · rw [hx0] at e; cases e; exact (N2 _ (.head _)).1
      · rw [List.mem_singleton.mp hb] at e ⊢; rw [hd0] at e; cases e; exact (N2 _ (.tail _ (.head _))).1
  have hv1 := hv.keep (seqKeep_G G1 ht rfl Fs1 old1)
  have t206 := tupK (by assumption) (show (hd.heap_1 w.params).lookup 206 = some _ from by k_is)
  clear hx0 hd0 ht hv hsep
  obtain ⟨a', t1, t2, e, h1⟩ := hv1
  cases e
  have i1 := tupAt h1
  cases cl
  · simp only [Bool.false_eq_true, if_false] at hb
    rcases hb with rfl | ⟨k, tk0, rfl, hb⟩
    all_goals dsimp only [crLed, pS] at *
    · w_strict k_steps
      rename Fr _ _ _ _ => F2
      rename News _ _ _ _ => N2
      refine wp_atF (f := by exact ⟨rfl, Nat.le_of_ble_eq_true rfl, Nat.le_of_ble_eq_true rfl⟩) (hf := by rfl) (checkpush_bad (fr := fr1) X1 T1 F2 (newsSub N2 fun q hq => .tail _ (.tail _ hq)) Fs1 rfl (funK rfl) (.inl rfl) fun e d T' t3 tx t4 h' tk' fl => ?_)
      dsimp only
      rw [← ea1] at bad
      refine flyT (fr := fr1) rfl rfl (funK rfl) F2 (newsSub N2 fun q hq => .tail _ (.tail _ hq)) Fs1 (fin _ _ F2 N2) nL1 fl fun h' T' fl => ?_
      exact bad _ _ _ _ _ _ _ _ fl
    · w_strict k_steps
      rename Fr _ _ _ _ => F2
      rename News _ _ _ _ => N2
      refine wp_atF (f := by exact ⟨rfl, Nat.le_of_ble_eq_true rfl, Nat.le_of_ble_eq_true rfl⟩) (hf := by rfl) (checkpush_bad (fr := fr1) X1 T1 F2 (newsSub N2 fun q hq => .tail _ (.tail _ hq)) Fs1 rfl (funK rfl) (.inr ⟨k, tk0, rfl, hb⟩) fun e d T' t3 tx t4 h' tk' fl => ?_)
      dsimp only
      rw [← ea1] at bad
      refine flyT (fr := fr1) rfl rfl (funK rfl) F2 (newsSub N2 fun q hq => .tail _ (.tail _ hq)) Fs1 (fin _ _ F2 N2) nL1 fl fun h' T' fl => ?_
      exact bad _ _ _ _ _ _ _ _ fl
  · simp only [if_true] at hb
    rcases hb with rfl | ⟨k, tk0, rfl, hb⟩
    all_goals dsimp only [crLed, pS] at *
    · w_strict k_steps
      rename Fr _ _ _ _ => F2
      rename News _ _ _ _ => N2
      refine wp_atF (f := by exact ⟨rfl, Nat.le_of_ble_eq_true rfl, Nat.le_of_ble_eq_true rfl⟩) (hf := by rfl) (checkpush_bad (fr := fr1) X1 T1 F2 (newsSub N2 fun q hq => .tail _ (.tail _ hq)) Fs1 rfl (funK rfl) (.inl rfl) fun e d T' t3 tx t4 h' tk' fl => ?_)
      dsimp only
      rw [← ea1] at bad
      refine flyT (fr := fr1) rfl rfl (funK rfl) F2 (newsSub N2 fun q hq => .tail _ (.tail _ hq)) Fs1 (fin _ _ F2 N2) nL1 fl fun h' T' fl => ?_
      exact bad _ _ _ _ _ _ _ _ fl
    · w_strict k_steps
      rename Fr _ _ _ _ => F2
      rename News _ _ _ _ => N2
      refine wp_atF (f := by exact ⟨rfl, Nat.le_of_ble_eq_true rfl, Nat.le_of_ble_eq_true rfl⟩) (hf := by rfl) (checkpush_bad (fr := fr1) X1 T1 F2 (newsSub N2 fun q hq => .tail _ (.tail _ hq)) Fs1 rfl (funK rfl) (.inr ⟨k, tk0, rfl, hb⟩) fun e d T' t3 tx t4 h' tk' fl => ?_)
      dsimp only
      rw [← ea1] at bad
      refine flyT (fr := fr1) rfl rfl (funK rfl) F2 (newsSub N2 fun q hq => .tail _ (.tail _ hq)) Fs1 (fin _ _ F2 N2) nL1 fl fun h' T' fl => ?_
      exact bad _ _ _ _ _ _ _ _ fl

end
section
def goF (cl : Bool) (mp go told : Option Int) (f : Fm) : Option Int := match f with
  | .goaway n => if codeF cl mp go told f = 0 then some n else go
  | _ => go
def toldF (cl : Bool) (mp go told : Option Int) (f : Fm) : Option Int := match f with
  | .maxp n => if codeF cl mp go told f = 0 then some n else told
  | _ => told
theorem isOpt_if {cl : Bool} {a b : Value} {x y : Option Int} (h1 : IsOpt a x) (h2 : IsOpt b y) : IsOpt (if cl then a else b) (if cl then x else y) := by cases cl <;> assumption
theorem take_all {H : Heap} (X : (hd.heap_1 w.params).In H) (T : Top hd.view_1 (looseW hd.view_1 []) mean mg mb H) {L : Addr} {m : Str → Option Value} {hp : Heap} {tk0 : Tok} {Q E : Value → Shared → Prop} {env : Env} {outer : List Env} {fr : List (Addr × Obj)} {x d l0 : Addr} {t : Nat → Tok} {cl : Bool} {tp : Tok} {most go told v : Value} {f : Fm} {mp goN toldN : Option Int} (F : Fr H L hp m) (N : News H L hp (crLed w.params x d t cl tp most (.ref l0) go told ++ fr)) (Fs : TI.Frs outer fr) (hf : env.frame = some L) (hke : env.scope.kind ≠ .module)
  (hsep : ∀ q ∈ crLed w.params x d t cl tp most (.ref l0) go told, q.1 ∉ adr fr) (hxd : @Ne Nat x d)
  (hv : FmAt hp v f) (hm : IsOpt most mp) (hg : IsOpt go goN) (ht : IsOpt told toldN)
  (ok : codeF cl mp goN toldN f = 0 → ∀ h' tk' go' told', IsOpt go' (goF cl mp goN toldN f) → IsOpt told' (toldF cl mp goN toldN f) → Fr H L h' m → News H L h' (crLed w.params x d t cl tp most (.ref l0) go' told' ++ fr) → Q .none {s with heap := h', toks := tk'})
  (bad : codeF cl mp goN toldN f ≠ 0 → ∀ e d T t3 tx t4 h' tk', Flying hp h' (L :: adr fr) e 51 d T (codeNs tx t4 (codeF cl mp goN toldN f) t3) → E (.ref e) {s with heap := h', toks := tk'}) :
  wpAny (model PySem.Challenge.rw_sj0117_01.row.prog w) (AF (env :: outer) 90) (call (.ref 227) [.ref x, v]) Q E {s with heap := hp, toks := tk0} := by
  have hs2 : ∀ q ∈ crLed w.params x d t cl tp most (.ref l0) go told, ∀ r ∈ fr, r.1 ≠ q.1 := fun q hq r hr e => hsep q hq (by rw [← e]; exact List.mem_map_of_mem hr)
  cases f with
  | sett => exact take_badD X T F N Fs hf hke hsep hxd hv (.inl rfl) (bad (show (261 : Int) ≠ 0 by decide))
  | sett2 => exact take_badD X T F N Fs hf hke hsep hxd hv (.inr (.inl rfl)) (bad (show (261 : Int) ≠ 0 by decide))
  | hdr => exact take_badD X T F N Fs hf hke hsep hxd hv (.inr (.inr (.inl rfl))) (bad (show (261 : Int) ≠ 0 by decide))
  | dat => exact take_badD X T F N Fs hf hke hsep hxd hv (.inr (.inr (.inr rfl))) (bad (show (261 : Int) ≠ 0 by decide))
  | unk => exact wp_at (f := by exact ⟨rfl, Nat.le_of_ble_eq_true rfl, Nat.le_of_ble_eq_true rfl⟩) (take_unk X T F N hs2 hxd hv fun h' tk' F' N' => ok rfl h' tk' _ _ hg ht F' N')
  | goaway n =>
    by_cases h1 : cl = false ∧ Int.fmod n 4 ≠ 0
    · have e : codeF cl mp goN toldN (.goaway n) = 264 := by simp only [codeF]; rw [if_pos h1]
      rw [e] at bad
      exact take_badG X T F N Fs hf hke hsep hxd hv (.inl h1) (bad (by decide))
    · have h1' : cl = false → Int.fmod n 4 = 0 := fun hc => by
        by_cases z : Int.fmod n 4 = 0
        · exact z
        · exact absurd ⟨hc, z⟩ h1
      cases goN with
      | none =>
        have e : codeF cl mp none toldN (.goaway n) = 0 := by simp only [codeF]; rw [if_neg h1]
        refine wp_at (f := by exact ⟨rfl, Nat.le_of_ble_eq_true rfl, Nat.le_of_ble_eq_true rfl⟩) (take_go X T F N hs2 hxd hv h1' (.inl hg) fun h' tk' tn F' N' => ok e h' tk' _ _ ?_ ht F' N')
        simp only [goF, e, if_true]; exact ⟨_, rfl⟩
      | some g =>
        obtain ⟨tg, rfl⟩ := hg
        by_cases h2 : g < n
        · have e : codeF cl mp (some g) toldN (.goaway n) = 264 := by simp only [codeF]; rw [if_neg h1, if_pos h2]
          rw [e] at bad
          exact take_badG X T F N Fs hf hke hsep hxd hv (.inr ⟨h1', g, tg, rfl, h2⟩) (bad (by decide))
        · have e : codeF cl mp (some g) toldN (.goaway n) = 0 := by simp only [codeF]; rw [if_neg h1, if_neg h2]
          refine wp_at (f := by exact ⟨rfl, Nat.le_of_ble_eq_true rfl, Nat.le_of_ble_eq_true rfl⟩) (take_go X T F N hs2 hxd hv h1' (.inr ⟨g, tg, rfl, by omega⟩) fun h' tk' tn F' N' => ok e h' tk' _ _ ?_ ht F' N')
          simp only [goF, e, if_true]; exact ⟨_, rfl⟩
  | maxp n =>
    cases cl with
    | false =>
      have e : codeF false mp goN toldN (.maxp n) = 261 := by simp only [codeF]; rw [if_pos trivial]
      rw [e] at bad
      exact take_badM X T F N Fs hf hke hsep hxd hv (.inl ⟨rfl, rfl⟩) (bad (by decide))
    | true =>
      cases toldN with
      | none =>
        have e : codeF true mp goN none (.maxp n) = 0 := by simp [codeF]
        refine wp_at (f := by exact ⟨rfl, Nat.le_of_ble_eq_true rfl, Nat.le_of_ble_eq_true rfl⟩) (take_mp X T F N hs2 hxd hv rfl (.inl ht) fun h' tk' tn F' N' => ok e h' tk' _ _ hg ?_ F' N')
        simp only [toldF, e, if_true]; exact ⟨_, rfl⟩
      | some g =>
        obtain ⟨tg, rfl⟩ := ht
        by_cases h2 : n < g
        · have e : codeF true mp goN (some g) (.maxp n) = 264 := by simp only [codeF]; rw [if_neg (by decide), if_pos h2]
          rw [e] at bad
          exact take_badM X T F N Fs hf hke hsep hxd hv (.inr ⟨rfl, rfl, g, tg, rfl, h2⟩) (bad (by decide))
        · have e : codeF true mp goN (some g) (.maxp n) = 0 := by simp only [codeF]; rw [if_neg (by decide), if_neg h2]
          refine wp_at (f := by exact ⟨rfl, Nat.le_of_ble_eq_true rfl, Nat.le_of_ble_eq_true rfl⟩) (take_mp X T F N hs2 hxd hv rfl (.inr ⟨g, tg, rfl, by omega⟩) fun h' tk' tn F' N' => ok e h' tk' _ _ hg ?_ F' N')
          simp only [toldF, e, if_true]; exact ⟨_, rfl⟩
  | canc n =>
    have hi := isOpt_if (cl := cl) ht hm
    cases z : (if cl then toldN else mp) with
    | none =>
      rw [z] at hi
      have e : codeF cl mp goN toldN (.canc n) = 264 := by simp only [codeF]; rw [z]
      rw [e] at bad
      exact take_badC X T F N Fs hf hke hsep hxd hv (.inl hi) (bad (by decide))
    | some k =>
      rw [z] at hi
      obtain ⟨tk0, hi⟩ := hi
      by_cases h2 : k < n
      · have e : codeF cl mp goN toldN (.canc n) = 264 := by simp only [codeF]; rw [z]; exact if_pos h2
        rw [e] at bad
        exact take_badC X T F N Fs hf hke hsep hxd hv (.inr ⟨k, tk0, hi, h2⟩) (bad (by decide))
      · have e : codeF cl mp goN toldN (.canc n) = 0 := by simp only [codeF]; rw [z]; exact if_neg h2
        exact wp_at (f := by exact ⟨rfl, Nat.le_of_ble_eq_true rfl, Nat.le_of_ble_eq_true rfl⟩) (take_cp X T F N hs2 hxd hv ⟨k, tk0, hi, by omega⟩ fun h' tk' F' N' => ok e h' tk' _ _ hg ht F' N')

end
section
example : True := by w_top off; exact trivial
theorem baseApart {H h : Heap} {L : Addr} {m : Str → Option Value} {fr : List (Addr × Obj)} (F : Fr H L h m) (N : News H L h fr) : ∀ b o, H.get? b = some o → b ∉ L :: adr fr ∧ b ∉ ([] : List Addr) := fun b o e => by
  refine ⟨fun hm => ?_, List.not_mem_nil⟩
  rcases List.mem_cons.mp hm with rfl | hm
  · exact absurd (Nat.lt_of_lt_of_le (Heap.lt_size e) F.above) (Nat.lt_irrefl _)
  · obtain ⟨o', z⟩ := mem_adr hm
    have := (N _ z).2.2; rw [e] at this; cases this
section
variable {prog : Program} {w : World} {A : Around} {E : Value → Shared → Prop} {s : Shared} {H h1 : Heap} {L e C d t : Addr} {m mA : Str → Option Value} {name : Str} {scope : Scope} {a : Addr} {cd : Value} {fs : List Addr} {Tb : Addr}
  {n : Str} {b₀ : Stmt} {suite : List Stmt} {pos np : Pos} {rest : List ExceptHandler} {Q : Flow → Shared → Prop} {KF : Frag} {p : Program} {loose : List Str} {mg mb : Str → Option Value} {x : Str}
theorem away_flight {Q : Unit → Shared → Prop} (y : Flying h1 s.heap fs e C d Tb mA)
    (k : ∀ h', Flying h1 h' fs e C d Tb mA → Q () { s with heap := h' }) : wpAny (model prog w) A (setFlight (.ref e) none) Q E s := by
  have dT : d ≠ Tb := fun q => by
    obtain ⟨o, es, ep, ho, hd, _⟩ := y.ns.ns
    obtain ⟨vs, oT, ts, _, _, _, hT, hdT, _⟩ := y.exc
    rw [q, hT] at ho; cases ho; rw [hdT] at hd; cases hd
  refine flightT y.exc fun h' c x' => k h' ?_
  have z : Away fs [Tb] h1 h' := (y.away.mono (fun _ q => q) fun _ q => absurd q List.not_mem_nil).trans (c.mono (fun _ q => absurd q List.not_mem_nil) fun _ q => q)
  exact ⟨z.drop y.nT, y.ne, y.nd, y.nT, y.de, x', y.ns.at fun o q => (c d o q (by simp [dT])).1 List.not_mem_nil⟩
theorem caughtX_as (F : Fr H L s.heap m) (X : KF.In H) (T : TopRead p loose mg mb H) (ex : nsIn KF mainGlobals x = some (some (.ref C))) (hC : IsExcCls s.heap C) (y : Flying h1 s.heap fs e C d Tb mA)
    (hH : ∀ b o, H.get? b = some o → b ∉ fs ∧ b ∉ ([] : List Addr)) (F0 : Fr H L h1 m)
    (k : ∀ h2 h3 tk, Flying h1 h2 fs e C d Tb mA → Heap.SameBut L h2 h3 → Fr H L h3 (fun y => if y = n then some (.ref e) else m y) →
      wpAny (model prog w) (A.mark (some (.ref e))) (execs (b₀ :: suite) (envOf name scope L a cd))
        (fun f s₄ => wpAny (model prog w) A (do bindName (envOf name scope L a cd) n .none; unbindBehindTheSuite (envOf name scope L a cd) n pos) (fun _ s₅ => Q f s₅) E s₄)
        (AsSuiteRaised (model prog w) (A.mark (some (.ref e))) (envOf name scope L a cd) n pos (notedBy (model prog w) (A.mark (some (.ref e))) (envOf name scope L a cd) (cameBackBy (model prog w) A (envOf name scope L a cd) E)))
        { s with heap := h3, toks := tk })
    (hk : scope.kind = .function) (hlo : (envOf name scope L a cd).kindOf n = some .local) (hx : (envOf name scope L a cd).kindOf x = some .globalImplicit) (hd : (x == ("__debug__" : Str)) = false) :
    wpAny (model prog w) A (handleBy (.ref e) (envOf name scope L a cd) (.ExceptHandler (some (.Name x np)) (some n) (b₀ :: suite) pos :: rest)) Q E s := by
  refine wpAny_handleBy_cons (codeAny_handlers_test (name_K F X T ex ?_ hk hx hd)) (by intro q; cases q)
  obtain ⟨nm, q, N, bs, bm, hdct, sn, sub, ab, col, dd, k0, k1, k2, k3, k5, newId, hC, hbase⟩ := hC
  obtain ⟨vs, oT, ts, he, hv1, hTe, hT, hdT, h3⟩ := id y.exc
  obtain ⟨hp, g, dr, tk, os⟩ := s
  refine wpAny_excMatches_sub_self hC he rfl hbase (codeAny_handlers_suite_as ?_)
  refine away_flight y fun h2 y2 => ?_
  have F2 := frAway F0 y2.away hH List.not_mem_nil
  exact wpAny_storeName_local hlo F2.ns (fun h' hn hs => k h2 h' _ y2 hs (F2.set hn hs)) (by show (scope.kind == .class || (scope.kind == .module && L != mainGlobals)) = false; rw [hk]; rfl)
end
set_option maxHeartbeats 4000000 in
theorem refused {H : Heap} (X : (hd.heap_1 w.params).In H) (T : Top hd.view_1 (looseW hd.view_1 []) mean mg mb H) {L : Addr} {m : Str → Option Value} {hp : Heap} {tk0 : Tok} {Q E : Value → Shared → Prop} {env : Env} {outer : List Env} {fr : List (Addr × Obj)} {x d l0 : Addr} {t : Nat → Tok} {cl : Bool} {tp : Tok} {most go told v : Value} {f : Fm} {mp goN toldN : Option Int} (F : Fr H L hp m) (N : News H L hp (crLed w.params x d t cl tp most (.ref l0) go told ++ fr)) (Fs : TI.Frs outer fr) (hf : env.frame = some L) (hke : env.scope.kind ≠ .module)
  (hsep : ∀ q ∈ crLed w.params x d t cl tp most (.ref l0) go told, q.1 ∉ adr fr) (hxd : @Ne Nat x d)
  (hv : FmAt hp v f) (hm : IsOpt most mp) (hg : IsOpt go goN) (ht : IsOpt told toldN)
  (ret : ∀ h' tk' tv go' told', IsOpt go' (goF cl mp goN toldN f) → IsOpt told' (toldF cl mp goN toldN f) → Away (L :: adr fr) [d] hp h' → h'.get? d = some (crDict w.params t (.str (pS cl) tp) most (.ref l0) go' told') → Q (.int (codeF cl mp goN toldN f) tv) {s with heap := h', toks := tk'}) :
  wpAny (model PySem.Challenge.rw_sj0117_01.row.prog w) (AF (env :: outer) 80) (call (.ref 290) [.ref x, v]) Q E {s with heap := hp, toks := tk0} := by
  have hh : ∀ q ∈ crLed w.params x d t cl tp most (.ref l0) go told, hp.get? q.1 = some q.2 := fun q hq => (N q (List.mem_append_left _ hq)).1
  have hx0 := (N _ (.head _)).1
  have hd0 := (N _ (.tail _ (.head _))).1
  refine wpAny_call ?_
  refine' enterX (binds := [(Str.ofString "rules", .ref x), (Str.ofString "frame", v)]) (tgt := crLed w.params x d t cl tp most (.ref l0) go told) (by assumption) (by assumption) (by assumption) (by assumption) (by assumption) (by assumption) (by assumption) ?k5 ?k6 ?k7 (by first | decide | k_room | exact Nat.le_of_ble_eq_true rfl) ?k9 ?kB ?_ ?c2 ?c3 ?c4 ?c5
  ((case k5 => first | assumption | exact (fun q hq => absurd hq List.not_mem_nil)); (case k6 => k_is); (case k7 => k_is); (case k9 => exact BindsTo.of_eq (by first | rfl | kernel_rfl | with_unfolding_all rfl)); (case kB => exact locs rfl); (case c2 => exact rfl); (case c3 => exact rfl); (case c4 => exact rfl); (case c5 => decide))
  intro H1 L1 h₁ fr1 X1 T1 G1 Fs1 ea1 tf1 nL1 old1 F1 N1 l2
  replace l2 := PySem.W.allLt_of l2
  (try dsimp only [PySem.W.AllLt] at l2); (try dsimp only); (try k_fold); (try rw [← ea1] at G1)
  clear F N X T
  have hv1 := hv.keep (seqKeep_G G1 hh rfl Fs1 old1)
  w_strict k_steps
  rename Fr _ _ _ _ => F2
  rename News _ _ _ _ => N2
  refine wp_atF (f := by exact ⟨rfl, Nat.le_of_ble_eq_true rfl, Nat.le_of_ble_eq_true rfl⟩) (hf := by rfl) (take_all (fr := fr1) X1 T1 F2 N2 Fs1 rfl (funK rfl) tf1 hxd (hv1.keep fun b o e _ => F2.keep _ _ e) hm hg ht (fun hc h' tk' go' told' hg' ht' F' N' => ?_) (fun hc e dd T' t3 tx t4 h' tk' fl => ?_))
  · w_strict k_steps
    rename Fr _ _ _ _ => F3
    rename News _ _ _ _ => N3
    try dsimp only
    rw [hc] at ret
    rw [← ea1] at ret
    refine ret _ _ _ _ _ hg' ht' ?_ (N3 _ (.tail _ (.head _))).1
    refine away_back (away_of G1 F3.keep old1 (TI.SameUp.refl _) fun q hq => (N3 q (List.mem_append_right _ hq)).1) fun b hb hn o e => ?_
    rcases List.mem_cons.mp hb with rfl | hb
    · rw [hx0] at e; cases e; exact (N3 _ (.head _)).1
    · exact absurd hb hn
  · dsimp only
    refine flyCaught (fr := fr1) rfl rfl (funK rfl) F2 (newsSub N2 fun q hq => .tail _ (.tail _ hq)) Fs1 fl fun h2 T2 fl2 => ?_
    have F3 := frAway F2 fl2.away (baseApart F2 (newsSub N2 fun q hq => .tail _ (.tail _ hq))) List.not_mem_nil
    refine caughtX_as (hk := by rfl) (hlo := by rfl) (hx := by rfl) (hd := by decide) F3 X1 (by k_asm) (by k_is) (isExc51 (X1.keeps F3.keep)) fl2 (baseApart F2 (newsSub N2 fun q hq => .tail _ (.tail _ hq))) F2 fun h3 h4 tk3 fl3 sb F4 => ?_
    obtain ⟨fr2, hup, Nfr⟩ := frsAway (fr := fr1) (newsSub N2 fun q hq => List.Mem.tail _ (.tail _ hq)) fl3.away (fun _ _ => List.not_mem_nil)
    have N3 : News H1 L1 h3 (crLed w.params x d t cl tp most (.ref l0) go told ++ fr2) := fun q hq => by
      rcases List.mem_append.mp hq with hq | hq
      · refine newsAway (newsSub N2 fun q hq => List.mem_append_left _ hq) fl3.away (fun q hq => ⟨fun hm => ?_, List.not_mem_nil⟩) q hq
        rcases List.mem_cons.mp hm with z | z
        · exact (N2 q (List.mem_append_left _ hq)).2.1 z
        · exact tf1 q hq z
      · exact Nfr q hq
    have N4 := N3.set sb
    clear N3 Nfr
    have hL1 : ∃ o, h₁.get? L1 = some o := let ⟨o, _, _, z, _⟩ := F2.ns; ⟨o, z⟩
    have heL : e ≠ L1 := fun z => by obtain ⟨o, q⟩ := hL1; rw [← z, fl3.ne] at q; cases q
    have hdL : dd ≠ L1 := fun z => by obtain ⟨o, q⟩ := hL1; rw [← z, fl3.nd] at q; cases q
    have I : h4.Inst e 51 (codeNs tx t4 (codeF cl mp goN toldN f) t3) := by
      obtain ⟨vs, oT, ts, he, _⟩ := fl3.exc
      exact ⟨_, (sb.2 e heL).trans he, rfl, (fun c q => by cases q), .inr ⟨dd, rfl, fl3.de, fl3.ns.sameBut sb hdL⟩⟩
    have Xs := X1.keeps F4.keep
    have hC4 : h4.get? 51 = some _ := Xs 51 _ (by k_is)
    have nk : nsOkIn (hd.heap_1 w.params) 50 = true := by
      have l50 := (show (hd.heap_1 w.params).lookup 50 = some _ from by k_is)
      unfold nsOkIn; rw [l50]; simp
    have G : h4.Ns 50 _ := .of_isNs (isNs_of_in Xs nk)
    have n1 := ns_in Xs G (show nsIn (hd.heap_1 w.params) 50 "__getattribute__" = some none from by k_is)
    have n2 := ns_in Xs G (show nsIn (hd.heap_1 w.params) 50 "__getattr__" = some none from by k_is)
    have n3 := ns_in Xs G (show nsIn (hd.heap_1 w.params) 50 "code" = some none from by k_is)
    clear F2 N2 F3
    w_strict k_steps
    refine load_attrE hC4 G n1 n2 n3 lkE_code I (show codeNs tx t4 (codeF cl mp goN toldN f) t3 "code" = some (.int (codeF cl mp goN toldN f) t3) from by rw [codeNs]; simp; decide) rfl ?_
    try dsimp only
    refine Cut.ret (by with_reducible assumption) ?_
    try dsimp only
    refine name_goes_keeps F4 N4 fun h5 tk5 F5 N5 => ?_
    try (refine Cut.ret (by with_reducible assumption) ?_)
    try dsimp only
    rw [← ea1] at ret
    have hgo : goF cl mp goN toldN f = goN := by cases f <;> first | rfl | (simp only [goF]; rw [if_neg hc])
    have hto : toldF cl mp goN toldN f = toldN := by cases f <;> first | rfl | (simp only [toldF]; rw [if_neg hc])
    rw [hgo, hto] at ret
    refine ret _ _ _ _ _ hg ht ?_ (N5 _ (.tail _ (.head _))).1
    refine away_back (away_of G1 F5.keep old1 hup fun q hq => (N5 q (List.mem_append_right _ hq)).1) fun b hb hn o e => ?_
    rcases List.mem_cons.mp hb with rfl | hb
    · rw [hx0] at e; cases e; exact (N5 _ (.head _)).1
    · exact absurd hb hn

end
section
example : True := by w_top off; exact trivial
set_option maxHeartbeats 4000000 in
theorem refused_sett {H : Heap} (X : (hd.heap_1 w.params).In H) (T : Top hd.view_1 (looseW hd.view_1 []) mean mg mb H) {L : Addr} {m : Str → Option Value} {hp : Heap} {tk0 : Tok} {Q E : Value → Shared → Prop} {env : Env} {outer : List Env} {fr : List (Addr × Obj)} {x d : Addr} {t : Nat → Tok} {cl : Bool} {tp : Tok} {most go told v : Value} (F : Fr H L hp m) (N : News H L hp (crLed w.params x d t cl tp most .none go told ++ fr)) (Fs : TI.Frs outer fr) (hf : env.frame = some L) (hke : env.scope.kind ≠ .module)
  (hsep : ∀ q ∈ crLed w.params x d t cl tp most .none go told, q.1 ∉ adr fr) (hxd : @Ne Nat x d)
  {p : Addr} {t2 t3 : Tok} (hv : SettAt hp v p t2 t3)
  (ret : ∀ h' tk' tv l nl, Away (L :: adr fr) [d] hp h' → h'.get? d = some (crDict w.params t (.str (pS cl) tp) most (.ref l) go told) → hp.get? l = none → h'.get? l = some (listOf #[.ref p] nl) → h'.get? p = some (tupO [.int 6 t2, .int 70 t3]) → Q (.int 0 tv) {s with heap := h', toks := tk'}) :
  wpAny (model PySem.Challenge.rw_sj0117_01.row.prog w) (AF (env :: outer) 80) (call (.ref 290) [.ref x, v]) Q E {s with heap := hp, toks := tk0} := by
  have hh : ∀ q ∈ crLed w.params x d t cl tp most .none go told, hp.get? q.1 = some q.2 := fun q hq => (N q (List.mem_append_left _ hq)).1
  have hx0 := (N _ (.head _)).1
  have hd0 := (N _ (.tail _ (.head _))).1
  refine wpAny_call ?_
  refine' enterX (binds := [(Str.ofString "rules", .ref x), (Str.ofString "frame", v)]) (tgt := crLed w.params x d t cl tp most .none go told) (by assumption) (by assumption) (by assumption) (by assumption) (by assumption) (by assumption) (by assumption) ?k5 ?k6 ?k7 (by first | decide | k_room | exact Nat.le_of_ble_eq_true rfl) ?k9 ?kB ?_ ?c2 ?c3 ?c4 ?c5
  ((case k5 => first | assumption | exact (fun q hq => absurd hq List.not_mem_nil)); (case k6 => k_is); (case k7 => k_is); (case k9 => exact BindsTo.of_eq (by first | rfl | kernel_rfl | with_unfolding_all rfl)); (case kB => exact locs rfl); (case c2 => exact rfl); (case c3 => exact rfl); (case c4 => exact rfl); (case c5 => decide))
  intro H1 L1 h₁ fr1 X1 T1 G1 Fs1 ea1 tf1 nL1 old1 F1 N1 l2
  replace l2 := PySem.W.allLt_of l2
  (try dsimp only [PySem.W.AllLt] at l2); (try dsimp only); (try k_fold); (try rw [← ea1] at G1)
  clear F N X T
  have hv1 := hv.keep (seqKeep_G G1 hh rfl Fs1 old1)
  w_strict k_steps
  rename Fr _ _ _ _ => F2
  rename News _ _ _ _ => N2
  have hs2 : ∀ q ∈ crLed w.params x d t cl tp most .none go told, ∀ r ∈ fr1, r.1 ≠ q.1 := fun q hq r hr e => tf1 q hq (by rw [← e]; exact List.mem_map_of_mem hr)
  refine wp_at (f := by exact ⟨rfl, Nat.le_of_ble_eq_true rfl, Nat.le_of_ble_eq_true rfl⟩) (take_sett (news := fr1) X1 T1 F2 N2 hs2 hxd (hv1.keep fun b o e _ => F2.keep _ _ e) (fun h' tk' l nl hpz hl F' N' => ?_))
  have keep : ∀ {b o}, H1.get? b = some o → h'.get? b = some o := fun e => F'.keep _ _ e
  w_strict k_steps
  rename Fr _ _ _ _ => F3
  rename News _ _ _ _ => N3
  try dsimp only
  rw [← ea1] at ret
  have hl3 := N3 _ (.tail _ (.tail _ (.head _)))
  refine ret _ _ _ l nl ?_ (N3 _ (.tail _ (.head _))).1 ?_ hl3.1 hpz
  · refine away_back (away_of G1 F3.keep old1 (TI.SameUp.refl _) fun q hq => (N3 q (.tail _ (.tail _ (.tail _ hq)))).1) fun b hb hn o e => ?_
    rcases List.mem_cons.mp hb with rfl | hb
    · rw [hx0] at e; cases e; exact (N3 _ (.head _)).1
    · exact absurd hb hn
  · cases z : hp.get? l with
    | none => rfl
    | some o =>
      have q := hl3.2.2
      rw [G1.keep _ _ z] at q
      · cases q
      · intro hm
        rcases List.mem_append.mp hm with hm | hm
        · rcases List.mem_cons.mp hm with rfl | hm
          · have a := (N3 _ (.head _)).1; have b := hl3.1; dsimp only at a b; rw [b] at a; exact nomatch (show true = false from congrArg isSeq (Option.some.inj a))
          · rw [List.mem_singleton.mp hm] at hl3; have a := (N3 _ (.tail _ (.head _))).1; have b := hl3.1; dsimp only at a b; rw [b] at a; exact nomatch (show true = false from congrArg isSeq (Option.some.inj a))
        · obtain ⟨o', hm⟩ := mem_adr hm
          exact hl _ hm rfl

end
section
section
variable {prog : Program} {w : World} {A : Around} {s : Shared} {H : Heap} {L : Addr} {m : Str → Option Value} {tgt rest : List (Addr × Obj)} {K : Frag} {p : Program} {loose : List Str} {mean : ExcName → Option Value} {mg mb : Str → Option Value}
  {R : Result → Shared → Prop} {name qual : Str} {params : Arguments} {body : List Stmt} {scope : Scope} {dV kV doc pm cdv ct oc : Value} {an od : Option Addr} {osl : Array (Option Value)} {f : Addr} {args : Args} {binds : List (Str × Value)}

/-- into a def with cells that catches nothing -/
theorem enterQC (X : K.In H) (T : Top p loose mean mg mb H) (F : Fr H L s.heap m) (N : News H L s.heap (tgt ++ rest)) (hsep : ∀ q ∈ tgt, ∀ r ∈ rest, r.1 ≠ q.1)
    (ho : K.lookup f = some ⟨oc, od, .func (fnOf name qual params body scope dV kV doc pm an cdv ct), osl⟩) (hcd : codeIn K cdv qual = true) (hroom : A.depth < recursionLimit)
    (hbind : BindsTo s (fnOf name qual params body scope dV kV doc pm an cdv ct) args binds) (hkind : (binds.all fun y => scope.names.lookup y.1 == some .local || scope.names.lookup y.1 == some .cell) = true)
    (hnd : ((cellsFrom 0 scope.names []).map (·.1)).Nodup)
    (h : ∀ H' L' h₁ tk cells, K.In H' → Top p loose mean mg mb H' → Ground' H H' L m rest → (∀ b o, s.heap.get? b = some o → (∀ q ∈ tgt, b ≠ q.1) → H'.get? b = some o) → Fr H' L' h₁ (bindL (envOfC qual scope L' f cdv).kindOf binds fun _ => none) → News H' L' h₁ (cells ++ tgt) →
      CellsAre (bindC (envOfC qual scope L' f cdv).kindOf binds fun _ => none) (cellsFrom (L' + 1) scope.names []) cells → L < L' → (∀ q ∈ tgt, q.1 < L') → (∀ q ∈ rest, q.1 < L') →
      wpAny (model prog w) (A.deeper (envOfC qual scope L' f cdv)) (execs body (envOfC qual scope L' f cdv))
        (fun fl s' => R (.ok (.ret (match fl with | .ret v => v | _ => .none))) s')
        (fun e s' => wpAny (model prog w) (A.deeper (envOfC qual scope L' f cdv)) (leaving (envOfC qual scope L' f cdv) e) (fun _ s'' => R (.error e) s'') (fun e' s'' => R (.error e') s'') s')
        { s with heap := h₁, toks := tk })
    (hco : scope.isCoroutine = false) (hgen : scope.isGenerator = false) (hk : scope.kind = .function) : codeAny (model prog w) A (.call (.ref f) args) R s := by
  have X' := X.keeps F.keep
  refine codeAny_call_function hroom (X' _ _ ho) rfl hco hgen rfl (codeRec_of X' hcd) (hbind _ _ _ _ ?_)
  refine wpAny_newFunctionEnv_cells hk (kindsX hkind _) fun env' he s' x => ?_
  subst he
  refine ⟨(T.nolimit.keeps F.keep).keeps x.toInCall.keep, codeAny_func ?_⟩
  obtain ⟨h₁, tk, rfl, _⟩ := x.done
  have hk₁ := x.toInCall.keep
  obtain ⟨oL, es, ep, hL, hLd, hLk, hLf⟩ := F.ns
  have hLt := Heap.lt_size hL
  have hnm : ∀ b, (∀ q ∈ tgt, b ≠ q.1) → b ∉ tgt.map Prod.fst := fun b hb q => by
    obtain ⟨x, hx, e⟩ := List.mem_map.mp q
    exact hb x hx e.symm
  have st : H.StaysIn (hideAll s.heap (tgt.map Prod.fst)) := fun b o e => hideAll_get _ (F.keep b o e) (hnm b fun q hq z => by
    have := (N q (List.mem_append_left _ hq)).2.2; rw [← z, e] at this; cases this)
  have hLg := hideAll_get (tgt.map Prod.fst) hL (hnm L fun q hq z => (N q (List.mem_append_left _ hq)).2.1 z.symm)
  obtain ⟨cells, NC, Y⟩ := Cl.news (h₀ := s.heap) (Nat.le_refl _) fun n c hm => ⟨x.cell n c (lookup_of_mem_nodup (cellsFrom_names scope.names 0 (s.heap.objs.size + 1) [] [] rfl ▸ hnd) hm), x.above n c hm⟩
  refine wpAny_mono (h (hideAll s.heap (tgt.map Prod.fst)) s.heap.objs.size h₁ tk cells (X.keeps st) (T.keeps st)
    ⟨st, ⟨oL, hLg, fun h' e => ⟨_, es, ep, e, hLd, hLk, hLf⟩⟩, F.above, fun q hq => ⟨hideAll_get _ (N q (List.mem_append_right _ hq)).1 (hnm _ fun x hx => hsep x hx q hq), (N q (List.mem_append_right _ hq)).2.1, (N q (List.mem_append_right _ hq)).2.2⟩⟩
    (fun b o e hb => hideAll_get _ e (hnm b hb)) ⟨x.toInCall.ns, fun b o e => hk₁ b o (of_hideAll _ e), Nat.le_of_eq (hideAll_size _ _)⟩ (fun p hp => ?_) Y
    hLt (fun q hq => Heap.lt_size (N q (List.mem_append_left _ hq)).1) (fun q hq => Heap.lt_size (N q (List.mem_append_right _ hq)).1)) (fun _ _ z => z) fun _ _ y => y
  rcases List.mem_append.mp hp with hp | hp
  · refine ⟨(NC p hp).1, (NC p hp).2.1, ?_⟩
    cases q : (hideAll s.heap (tgt.map Prod.fst)).get? p.1 with
    | none => rfl
    | some o => have := of_hideAll _ q; rw [(NC p hp).2.2] at this; cases this
  · exact ⟨hk₁ _ _ (N p (List.mem_append_left _ hp)).1, Nat.ne_of_lt (Heap.lt_size (N p (List.mem_append_left _ hp)).1), hideAll_none _ (List.mem_map_of_mem hp)⟩
end

end
section
example : True := by w_top off; exact trivial
set_option maxHeartbeats 2000000 in
theorem islet {H : Heap} (X : (hd.heap_1 w.params).In H) (T : Top hd.view_1 (looseW hd.view_1 []) mean mg mb H) {L : Addr} {m : Str → Option Value} {hp : Heap} {tk0 : Tok} {Q E : Value → Shared → Prop} {x d : Addr} {t : Nat → Tok} {cl : Bool} {tp : Tok} {most sett go told : Value} {goN : Option Int} {n : Int} {tn : Tok} {news : List (Addr × Obj)} (F : Fr H L hp m) (N : News H L hp (crLed w.params x d t cl tp most sett go told ++ news))
  (hsep : ∀ q ∈ crLed w.params x d t cl tp most sett go told, ∀ r ∈ news, r.1 ≠ q.1) (hxd : @Ne Nat x d) (hg : IsOpt go goN)
  (ret : ∀ h' tk', Fr H L h' m → News H L h' (crLed w.params x d t cl tp most sett go told ++ news) → Q (.bool (match goN with | none => true | some g => decide (n < g))) {s with heap := h', toks := tk'}) :
  wpAny (model PySem.Challenge.rw_sj0117_01.row.prog w) (AA 90) (call (.ref 255) [.ref x, .int n tn]) Q E {s with heap := hp, toks := tk0} := by
  refine wpAny_call ?_
  refine' enterQ (binds := [(Str.ofString "self", .ref x), (Str.ofString "stream_id", .int n tn)]) (tgt := crLed w.params x d t cl tp most sett go told) (by assumption) (by assumption) (by assumption) (by assumption) (hsep) ?k6 ?k7 (by first | decide | k_room | exact Nat.le_of_ble_eq_true rfl) ?k9 ?kB ?_ ?c2 ?c3 ?c4 ?c5
  ((case k6 => k_is); (case k7 => k_is); (case k9 => exact BindsTo.of_eq (by first | rfl | kernel_rfl | with_unfolding_all rfl)); (case kB => exact locs rfl); (case c2 => exact rfl); (case c3 => exact rfl); (case c4 => exact rfl); (case c5 => decide); (intro xH xL xh xX xT xG xlk xF xN xl1 xl2 xl4); (replace xl1 := ltN xl1); (replace xl2 := PySem.W.allLt_of xl2); (try dsimp only [PySem.W.AllLt] at xl2); (try dsimp only); (try k_fold))
  clear F N X T
  cases goN with
  | none =>
    cases hg
    w_strict k_steps
    refine Ground'.use (by assumption) (by assumption) (by assumption) fun Fb Nb Sb => ?_
    exact ret _ _ Fb Nb
  | some g =>
    obtain ⟨tg, rfl⟩ := hg
    w_strict k_steps
    refine Ground'.use (by assumption) (by assumption) (by assumption) fun Fb Nb Sb => ?_
    exact ret _ _ Fb Nb

end
section
example : True := by w_top off; exact trivial
def kS : Bool → Str
  | true => Str.ofString "goaway"
  | false => Str.ofString "max_push"
/-- the number of a frame of the kind -/
def numK : Bool → Fm → Option Int
  | true, .goaway n => some n
  | false, .maxp n => some n
  | _, _ => none
def numsK (g : Bool) (fs : List Fm) : List Int := fs.filterMap (numK g)
theorem numsK_succ {g : Bool} {fs : List Fm} {i : Nat} {f : Fm} (h : fs[i]? = some f) : numsK g (fs.take (i + 1)) = numsK g (fs.take i) ++ (numK g f).toList := by
  unfold numsK
  rw [List.take_add_one, h, List.filterMap_append]
  cases h2 : numK g f <;> simp [h2]
theorem take_succ_of {α : Type} {l : List α} {i : Nat} {a : α} (h : l[i]? = some a) : l.take (i + 1) = l.take i ++ [a] := by rw [List.take_add_one, h]; rfl
theorem ints_snoc {ys : List Value} {ns : List Int} {n : Int} {t : Tok} (h : IntsAre ys ns) : IntsAre (ys ++ [.int n t]) (ns ++ [n]) := h.append (IntsAre.cons _ _ IntsAre.nil)
/-- the values that bear the frames -/
def FmsAt (h : Heap) (vs : List Value) (fs : List Fm) : Prop := vs.length = fs.length ∧ ∀ (i : Nat) (v : Value) (f : Fm), vs[i]? = some v → fs[i]? = some f → FmAt h v f
theorem FmsAt.at {h : Heap} {vs : List Value} {fs : List Fm} (x : FmsAt h vs fs) {i : Nat} {v : Value} (e : vs[i]? = some v) : ∃ f, fs[i]? = some f ∧ FmAt h v f := by
  have hi := (List.getElem?_eq_some_iff.mp e).1
  rw [x.1] at hi
  exact ⟨_, List.getElem?_eq_getElem hi, x.2 _ _ _ e (List.getElem?_eq_getElem hi)⟩
theorem FmsAt.keep {h h' : Heap} {vs : List Value} {fs : List Fm} (x : FmsAt h vs fs) (k : SeqKeep h h') : FmsAt h' vs fs := ⟨x.1, fun i v f e1 e2 => (x.2 i v f e1 e2).keep k⟩
section
variable {prog : Program} {w : World} {A : Around} {h₀ : Heap} {L : Addr} {m : Str → Option Value} {env : Env} {ct elt : Expr} {x : Str} {scope : Scope} {cl : List (Str × Addr)} {s : Shared} {S : List (Addr × Obj) → Prop} {P : Nat → Value → Prop} {Fin : List Value → List (Addr × Obj) → Prop} {news : List (Addr × Obj)}
/-- a comprehension with a test, by what it has made -/
theorem compT_ind (Inv : Nat → List Value → Prop) (n : Nat) (h0 : Inv 0 [])
    (step : ∀ k i ys, i + (k + 1) = n → Inv i ys → (∀ ys', Inv (i + 1) ys' → LCt.CompRestT prog w A h₀ L m env ct elt x scope cl s S P Fin k (i + 1) ys' news) → LCt.CompRestT prog w A h₀ L m env ct elt x scope cl s S P Fin (k + 1) i ys news)
    (fin : ∀ ys, Inv n ys → Fin ys news) : LCt.CompRestT prog w A h₀ L m env ct elt x scope cl s S P Fin n 0 [] news := by
  have key : ∀ k i ys, i + k = n → Inv i ys → LCt.CompRestT prog w A h₀ L m env ct elt x scope cl s S P Fin k i ys news := by
    intro k
    induction k with
    | zero => intro i ys e h; obtain rfl : i = n := by omega
              exact LCt.CompRestT.zero (fin ys h)
    | succ k ih => intro i ys e h; exact step k i ys e h fun ys' h' => ih _ _ (by omega) h'
  exact key n 0 [] (by omega) h0
theorem compU_ind (Inv : Nat → List Value → Prop) (n : Nat) (h0 : Inv 0 [])
    (step : ∀ k i ys, i + (k + 1) = n → Inv i ys → (∀ ys', Inv (i + 1) ys' → LCg.CompRest prog w A h₀ L m env elt x scope cl s S P Fin k (i + 1) ys' news) → LCg.CompRest prog w A h₀ L m env elt x scope cl s S P Fin (k + 1) i ys news)
    (fin : ∀ ys, Inv n ys → Fin ys news) : LCg.CompRest prog w A h₀ L m env elt x scope cl s S P Fin n 0 [] news := by
  have key : ∀ k i ys, i + k = n → Inv i ys → LCg.CompRest prog w A h₀ L m env elt x scope cl s S P Fin k i ys news := by
    intro k
    induction k with
    | zero => intro i ys e h; obtain rfl : i = n := by omega
              exact LCg.CompRest.zero (fin ys h)
    | succ k ih => intro i ys e h; exact step k i ys e h fun ys' h' => ih _ _ (by omega) h'
  exact key n 0 [] (by omega) h0
end
section
open LCg
variable {prog : Program} {w : World} {A : Around} {h₀ : Heap} {L : Addr} {m : Str → Option Value} {env : Env} {ct elt : Expr} {x : Str} {scope : Scope} {cl : List (Str × Addr)} {s : Shared} {S : List (Addr × Obj) → Prop} {P : Nat → Value → Prop} {Fin : List Value → List (Addr × Obj) → Prop} {news : List (Addr × Obj)} {k i : Nat} {ys : List Value}
/-- a turn of a comprehension, its ends as names -/
theorem turnT (h : ∀ v I oI C oC D m₂ h tk (E' : Value → Shared → Prop) (J1 : Value → Shared → Prop) (J2 : Shared → Prop), P i v → NsObj oC m₂ → m₂ x = some v → Fr h₀ L h m → News h₀ L h ((I, oI) :: (C, oC) :: (D, lst ys) :: news) → Off3 I C D news → ((@Ne Nat I C) ∧ (@Ne Nat I D) ∧ (@Ne Nat C D)) →
      (∀ y s', CompEnd h₀ L m { s with heap := h, toks := tk } I oI C oC D (lst ys) S (fun y news' => LCt.CompRestT prog w A h₀ L m env ct elt x scope cl s S P Fin k (i + 1) (ys ++ [y]) news') y s' → J1 y s') →
      (∀ s', CompEnd h₀ L m { s with heap := h, toks := tk } I oI C oC D (lst ys) S (fun _ news' => LCt.CompRestT prog w A h₀ L m env ct elt x scope cl s S P Fin k (i + 1) ys news') Value.none s' → J2 s') →
      wpAny (model prog w) A (isTrue ct (compEnvC scope cl C env) (eval ct (compEnvC scope cl C env))) (fun ok s' => if ok = true then wpAny (model prog w) A (eval elt (compEnvC scope cl C env)) J1 E' s' else J2 s') E' { s with heap := h, toks := tk }) :
    LCt.CompRestT prog w A h₀ L m env ct elt x scope cl s S P Fin (k + 1) i ys news :=
  fun v I oI C oC D m₂ h' tk E' a b c d e f g => h v I oI C oC D m₂ h' tk E' _ _ a b c d e f g (fun _ _ q => q) fun _ q => q
theorem turnU (h : ∀ v I oI C oC D m₂ h tk (E' : Value → Shared → Prop) (J1 : Value → Shared → Prop), P i v → NsObj oC m₂ → m₂ x = some v → Fr h₀ L h m → News h₀ L h ((I, oI) :: (C, oC) :: (D, lst ys) :: news) → Off3 I C D news → ((@Ne Nat I C) ∧ (@Ne Nat I D) ∧ (@Ne Nat C D)) →
      (∀ y s', CompEnd h₀ L m { s with heap := h, toks := tk } I oI C oC D (lst ys) S (fun y news' => CompRest prog w A h₀ L m env elt x scope cl s S P Fin k (i + 1) (ys ++ [y]) news') y s' → J1 y s') →
      wpAny (model prog w) A (eval elt (compEnvC scope cl C env)) J1 E' { s with heap := h, toks := tk }) :
    CompRest prog w A h₀ L m env elt x scope cl s S P Fin (k + 1) i ys news :=
  fun v I oI C oC D m₂ h' tk E' a b c d e f g => h v I oI C oC D m₂ h' tk E' _ a b c d e f g (fun _ _ q => q)
end
def nmF : Fm → Str
  | .goaway _ => Str.ofString "goaway"
  | .maxp _ => Str.ofString "max_push"
  | .canc _ => Str.ofString "cancel_push"
  | .unk => Str.ofString "unknown"
  | .hdr => Str.ofString "headers"
  | .dat => Str.ofString "data"
  | .sett => Str.ofString "settings"
  | .sett2 => Str.ofString "settings"
theorem numK_none {g : Bool} {f : Fm} (h : (nmF f == kS g) = false) : numK g f = none := by
  cases g <;> cases f <;> first | rfl | exact absurd h (by first | decide +kernel | (simp only [nmF, kS]; decide +kernel))
/-- a frame's first two items -/
def Two (h : Heap) (v : Value) (f : Fm) (g : Bool) : Prop :=
    (∃ a t p, v = .ref a ∧ h.get? a = some (tupO [.str (nmF f) t, p]) ∧ ((nmF f == kS g) = true → ∃ n u, p = .int n u ∧ numK g f = some n)) ∨
    (∃ a t1 t2 t3, v = .ref a ∧ h.get? a = some (tupO [.str (nmF f) t1, .int 33 t2, .bytes #[117] t3]) ∧ f = .unk ∧ (nmF f == kS g) = false)
theorem Two.a {h : Heap} {v : Value} {f : Fm} {g : Bool} {a : Addr} {t : Tok} {p : Value} (e : v = .ref a) (h1 : h.get? a = some (tupO [.str (nmF f) t, p])) (k : (nmF f == kS g) = true → ∃ n u, p = .int n u ∧ numK g f = some n) : Two h v f g := .inl ⟨a, t, p, e, h1, k⟩
theorem Two.b {h : Heap} {v : Value} {f : Fm} {g : Bool} {a : Addr} {t : Tok} {p : Value} (e : v = .ref a) (h1 : h.get? a = some (tupO [.str (nmF f) t, p])) (k : ∀ g, (nmF f == kS g) = false) : Two h v f g := Two.a e h1 fun q => absurd ((k g).symm.trans q) Bool.false_ne_true
theorem fm_two {h : Heap} {v : Value} {f : Fm} {g : Bool} (x : FmAt h v f) : Two h v f g := by
  cases f with
  | goaway n =>
    obtain ⟨a, t1, t2, e, h1⟩ := x
    exact Two.a e h1 fun q => by
      cases g with
      | true => exact ⟨n, t2, rfl, rfl⟩
      | false => exact absurd q (by simp only [nmF, kS]; decide +kernel)
  | maxp n =>
    obtain ⟨a, t1, t2, e, h1⟩ := x
    exact Two.a e h1 fun q => by
      cases g with
      | false => exact ⟨n, t2, rfl, rfl⟩
      | true => exact absurd q (by simp only [nmF, kS]; decide +kernel)
  | canc n => obtain ⟨a, t1, t2, e, h1⟩ := x; exact Two.b e h1 (by simp only [nmF]; decide +kernel)
  | unk => obtain ⟨a, t1, t2, t3, e, h1⟩ := x; exact .inr ⟨a, t1, t2, t3, e, h1, rfl, by cases g <;> decide +kernel⟩
  | hdr => obtain ⟨a, t1, t2, e, h1⟩ := x; exact Two.b e h1 (by decide +kernel)
  | dat => obtain ⟨a, t1, t2, e, h1⟩ := x; exact Two.b e h1 (by decide +kernel)
  | sett => obtain ⟨a, t1, l, nl, p, t2, t3, e, h1, -⟩ := x; exact Two.b e h1 (by decide +kernel)
  | sett2 => obtain ⟨a, t1, l, nl, p, t2, t3, e, h1, -⟩ := x; exact Two.b e h1 (by decide +kernel)
def cntF (cl g : Bool) (fs : List Fm) : List Int := if g then (numsK true fs).filter (fun n => cl || decide (Int.fmod n 4 = 0)) else if cl then numsK false fs else []
set_option maxHeartbeats 8000000 in
theorem counted {H : Heap} (X : (hd.heap_1 w.params).In H) (T : Top hd.view_1 (looseW hd.view_1 []) mean mg mb H) {L : Addr} {m : Str → Option Value} {hp : Heap} {tk0 : Tok} {Q E : Value → Shared → Prop} {l : Addr} {cl g : Bool} {tp t1 : Tok} {news : List (Addr × Obj)} {nl : Nat} {vs : List Value} {fs : List Fm} (F : Fr H L hp m) (N : News H L hp ([] ++ news))
  (hl : hp.get? l = some (listOf vs.toArray nl)) (hf : FmsAt hp vs fs) (hsz : vs.length ≤ 20)
  (ret : ∀ D ys n h' tk', IntsAre ys (cntF cl g fs) → (∀ r ∈ news, @Ne Nat r.1 D) → Fr H L h' m → News H L h' ((D, listOf ys.toArray n) :: news) → Q (.ref D) {s with heap := h', toks := tk'}) :
  wpAny (model PySem.Challenge.rw_sj0117_01.row.prog w) (AA 70) (call (.ref 295) [.str (pS cl) tp, .ref l, .str (kS g) t1]) Q E {s with heap := hp, toks := tk0} := by
  refine wpAny_call ?_
  refine' enterQC (binds := [(Str.ofString "peer", .str (pS cl) tp), (Str.ofString "came", .ref l), (Str.ofString "kind", .str (kS g) t1)]) (tgt := []) (by assumption) (by assumption) (by assumption) (by assumption) (fun _ h => absurd h List.not_mem_nil) ?k6 ?k7 (by first | decide | k_room | exact Nat.le_of_ble_eq_true rfl) ?k9 ?kB ?kD ?_ ?c2 ?c3 ?c4
  ((case k6 => k_is); (case k7 => k_is); (case k9 => exact BindsTo.of_eq (by first | rfl | kernel_rfl | with_unfolding_all rfl)); (case kB => exact rfl); (case kD => decide +kernel); (case c2 => exact rfl); (case c3 => exact rfl); (case c4 => exact rfl))
  intro H1 L1 h₁ tk1 cells X1 T1 G1 lk1 F1 N1 Y1 l1 l2 l4
  replace l1 := ltN l1
  replace l2 := PySem.W.allLt_of l2
  (try dsimp only [PySem.W.AllLt] at l2)
  k_cells Y1
  (try simp only [List.cons_append, List.nil_append] at N1); (try dsimp only); (try k_fold)
  clear F N X T
  have i1 := lstAt (lk1 _ _ hl (fun q h => absurd h List.not_mem_nil))
  have hf1 := hf.keep (fun b o e _ => lk1 b o e fun q h => absurd h List.not_mem_nil)
  clear hl hf lk1
  w_strict k_steps
  refine unstop (LCt.CompSrcT.base (by rfl) (by k_asm) (by k_asm) i1 (by show vs.length ≤ sizeLine; exact Nat.le_trans hsz (by decide)) ?_)
  intro gh
  refine compT_ind (fun i ys => IntsAre ys (numsK g (fs.take i))) vs.length .nil ?_ ?_
  · clear ret
    intro k i ys hk hi ih
    refine turnT ?_
    intro v I oI C oC D m₂ h tk E' J1 J2 hv hC hx F' N' off ne hJ1 hJ2
    obtain ⟨f, hfi, hfa⟩ := hf1.at (by simpa using hv)
    have hz : numsK g (fs.take (i + 1)) = _ := numsK_succ hfi
    rcases fm_two (g := g) hfa with ⟨a, t2, p, rfl, ha, hpz⟩ | ⟨a, t1, t2, t3, rfl, ha, rfl, hu⟩
    · have i2 := tupAt ha
      w_strict k_steps
      all_goals rw [hz] at ih
      · rename _ = true => h0
        obtain ⟨n, u, rfl, e⟩ := hpz h0
        rw [e] at ih
        exact hJ1 _ _ (LCg.CompEnd.intro (by assumption) (by assumption) _ (by lcg_sub) off (by lcg_src) (ih _ (ints_snoc hi)))
      · rename _ = false => h0
        rw [numK_none h0] at ih
        exact hJ2 _ (LCg.CompEnd.intro (by assumption) (by assumption) _ (by lcg_sub) off (by lcg_src) (ih _ (by rw [Option.toList_none, List.append_nil]; exact hi)))
    · have i2 := tupAt ha
      w_strict k_steps
      rw [hz, numK_none (f := .unk) hu] at ih
      exact hJ2 _ (LCg.CompEnd.intro (by assumption) (by assumption) _ (by lcg_sub) off (by lcg_src) (ih _ (by rw [Option.toList_none, List.append_nil]; exact hi)))
  · intro ys hy
    rw [hf1.1, List.take_length] at hy
    have hyl : ys.length ≤ 20 := by
      rw [hy.length]
      refine Nat.le_trans (List.length_filterMap_le _ _) ?_
      rw [← hf1.1]; exact hsz
    cases g <;> cases cl
    all_goals
      dsimp only [kS, pS] at *
      w_strict k_steps
    · refine Ground'.use (by assumption) (by assumption) (newsSub (by assumption) (b := [_]) (sub_keep sub_nil)) fun Fb Nb Sb => ?_
      exact ret _ [] _ _ _ .nil (Sb _ (.head _)) Fb Nb
    · refine Ground'.use (by assumption) (by assumption) (newsSub (by assumption) (b := [_]) (sub_keep sub_nil)) fun Fb Nb Sb => ?_
      exact ret _ ys _ _ _ hy (Sb _ (.head _)) Fb Nb
    · refine unstop (LCt.CompSrcT.ledger (by rfl) (by k_asm) (by k_asm) (by k_mem) (by show ys.length ≤ sizeLine; exact Nat.le_trans hyl (by decide)) ?_)
      intro gh2
      refine compT_ind (fun i zs => IntsAre zs (((numsK true fs).take i).filter (fun n => false || decide (Int.fmod n 4 = 0)))) ys.length .nil ?_ ?_
      · clear ret
        intro k i zs hk hi ih
        refine turnT ?_
        intro v I oI C oC D m₂ h tk E' J1 J2 hv hC hx F' N' off ne hJ1 hJ2
        obtain ⟨n, tn, rfl, hni⟩ := IntsAre.at hy i v (by simpa using hv)
        have hz := take_succ_of hni
        w_strict k_steps
        all_goals (rw [hz, List.filter_append] at ih)
        · rename Int.fmod n 4 = 0 => h0
          refine hJ1 _ _ (LCg.CompEnd.intro (by assumption) (by assumption) _ (by lcg_sub) off (by lcg_src) (ih _ ?_))
          have e : List.filter (fun n => false || decide (Int.fmod n 4 = 0)) [n] = [n] := by simp [h0]
          rw [e]; exact ints_snoc hi
        · rename ¬ Int.fmod n 4 = 0 => h0
          refine hJ2 _ (LCg.CompEnd.intro (by assumption) (by assumption) _ (by lcg_sub) off (by lcg_src) (ih _ ?_))
          have e : List.filter (fun n => false || decide (Int.fmod n 4 = 0)) [n] = [] := by simp [h0]
          rw [e, List.append_nil]; exact hi
      · intro zs hz
        rw [hy.length, List.take_length] at hz
        w_strict k_steps
        refine Ground'.use (by assumption) (by assumption) (newsSub (by assumption) (b := [_]) (sub_keep sub_nil)) fun Fb Nb Sb => ?_
        exact ret _ zs _ _ _ hz (Sb _ (.head _)) Fb Nb
    · refine unstop (LCt.CompSrcT.ledger (by rfl) (by k_asm) (by k_asm) (by k_mem) (by show ys.length ≤ sizeLine; exact Nat.le_trans hyl (by decide)) ?_)
      intro gh2
      refine compT_ind (fun i zs => IntsAre zs (((numsK true fs).take i).filter (fun n => true || decide (Int.fmod n 4 = 0)))) ys.length .nil ?_ ?_
      · clear ret
        intro k i zs hk hi ih
        refine turnT ?_
        intro v I oI C oC D m₂ h tk E' J1 J2 hv hC hx F' N' off ne hJ1 hJ2
        obtain ⟨n, tn, rfl, hni⟩ := IntsAre.at hy i v (by simpa using hv)
        have hz := take_succ_of hni
        w_strict k_steps
        rw [hz, List.filter_append] at ih
        refine hJ1 _ _ (LCg.CompEnd.intro (by assumption) (by assumption) _ (by lcg_sub) off (by lcg_src) (ih _ ?_))
        exact ints_snoc hi
      · intro zs hz
        rw [hy.length, List.take_length] at hz
        w_strict k_steps
        refine Ground'.use (by assumption) (by assumption) (newsSub (by assumption) (b := [_]) (sub_keep sub_nil)) fun Fb Nb Sb => ?_
        exact ret _ zs _ _ _ hz (Sb _ (.head _)) Fb Nb

end
section
example : True := by w_top off; exact trivial
def boundsF (cl : Bool) (mp : Option Int) (fs : List Fm) : List Int := cntF cl false fs ++ (match cl, mp with | false, some k => [k] | _, _ => [])
set_option maxHeartbeats 8000000 in
theorem bounds {H : Heap} (X : (hd.heap_1 w.params).In H) (T : Top hd.view_1 (looseW hd.view_1 []) mean mg mb H) {L : Addr} {m : Str → Option Value} {hp : Heap} {tk0 : Tok} {Q E : Value → Shared → Prop} {l : Addr} {cl : Bool} {tp : Tok} {most : Value} {mp : Option Int} {news : List (Addr × Obj)} {nl : Nat} {vs : List Value} {fs : List Fm} (F : Fr H L hp m) (N : News H L hp ([] ++ news))
  (hl : hp.get? l = some (listOf vs.toArray nl)) (hf : FmsAt hp vs fs) (hsz : vs.length ≤ 20) (hm : IsOpt most mp)
  (ret : ∀ D ys n h' tk', IntsAre ys (boundsF cl mp fs) → (∀ r ∈ news, @Ne Nat r.1 D) → Fr H L h' m → News H L h' ((D, listOf ys.toArray n) :: news) → Q (.ref D) {s with heap := h', toks := tk'}) :
  wpAny (model PySem.Challenge.rw_sj0117_01.row.prog w) (AA 60) (call (.ref 302) [.str (pS cl) tp, most, .ref l]) Q E {s with heap := hp, toks := tk0} := by
  refine wpAny_call ?_
  refine' enterQ (binds := [(Str.ofString "peer", .str (pS cl) tp), (Str.ofString "most", most), (Str.ofString "came", .ref l)]) (by assumption) (by assumption) (by assumption) (by assumption) (fun _ h => absurd h List.not_mem_nil) ?k6 ?k7 (by first | decide | k_room | exact Nat.le_of_ble_eq_true rfl) ?k9 ?kB ?_ ?c2 ?c3 ?c4 ?c5
  ((case k6 => k_is); (case k7 => k_is); (case k9 => exact BindsTo.of_eq (by first | rfl | kernel_rfl | with_unfolding_all rfl)); (case kB => exact locs rfl); (case c2 => exact rfl); (case c3 => exact rfl); (case c4 => exact rfl); (case c5 => decide); (intro xH xL xh xX xT xG xlk xF xN xl1 xl2 xl4); (replace xl1 := ltN xl1); (replace xl2 := PySem.W.allLt_of xl2); (try dsimp only [PySem.W.AllLt] at xl2); (try dsimp only); (try k_fold))
  rename (∀ (b : Addr) (o : Obj), _ → (∀ q : Addr × Obj, q ∈ _ → b ≠ q.1) → _) => lk
  have hl1 := lk _ _ hl (fun q h => absurd h List.not_mem_nil)
  have hf1 := hf.keep (fun b o e _ => lk b o e fun q h => absurd h List.not_mem_nil)
  clear hl hf lk F N X T
  w_strict k_steps
  rename Fr _ _ _ _ => F2
  rename News _ _ _ _ => N2
  refine wp_at (f := by exact ⟨rfl, Nat.le_of_ble_eq_true rfl, Nat.le_of_ble_eq_true rfl⟩) (counted (g := false) (by assumption) (by assumption) F2 N2 (F2.keep _ _ hl1) (hf1.keep fun b o e _ => F2.keep _ _ e) hsz ?_)
  intro D ys n h' tk' hy hD F N
  have hyl : ys.length ≤ 20 := by
    rw [hy.length]
    unfold cntF numsK
    cases cl
    · simp
    · simp only [Bool.false_eq_true, if_false, if_true]
      exact Nat.le_trans (List.length_filterMap_le _ _) (by rw [← hf1.1]; exact hsz)
  clear F2 N2
  cases cl <;> cases mp
  all_goals dsimp only [pS, IsOpt] at *
  case false.none =>
    subst hm
    w_strict k_steps
    refine Ground'.use (by assumption) (by assumption) (newsSub (by assumption) (b := [_]) (sub_keep sub_nil)) fun Fb Nb Sb => ?_
    refine ret _ _ _ _ _ ?_ (Sb _ (.head _)) Fb Nb
    assumption
  case true.none =>
    subst hm
    w_strict k_steps
    refine Ground'.use (by assumption) (by assumption) (newsSub (by assumption) (b := [_]) (sub_keep sub_nil)) fun Fb Nb Sb => ?_
    refine ret _ (ys ++ []) _ _ _ ?_ (Sb _ (.head _)) Fb Nb
    unfold boundsF
    rw [List.append_nil, List.append_nil]; exact hy
  case false.some k =>
    obtain ⟨tm, rfl⟩ := hm
    w_strict k_steps
    refine Ground'.use (by assumption) (by assumption) (newsSub (by assumption) (b := [_]) (sub_keep sub_nil)) fun Fb Nb Sb => ?_
    refine ret _ _ _ _ _ ?_ (Sb _ (.head _)) Fb Nb
    assumption
  case true.some k =>
    obtain ⟨tm, rfl⟩ := hm
    w_strict k_steps
    refine Ground'.use (by assumption) (by assumption) (newsSub (by assumption) (b := [_]) (sub_keep sub_nil)) fun Fb Nb Sb => ?_
    refine ret _ (ys ++ []) _ _ _ ?_ (Sb _ (.head _)) Fb Nb
    unfold boundsF
    rw [List.append_nil, List.append_nil]; exact hy

end
section
example : True := by w_top off; exact trivial
def dueF (cl : Bool) (mp : Option Int) (fs : List Fm) : Fm → Int
  | .hdr | .dat | .sett | .sett2 => 261
  | .unk => 0
  | .goaway n => if (cl = false ∧ 0 < Int.fmod n 4) ∨ ∃ k ∈ cntF cl true fs, k < n then 264 else 0
  | .maxp n => if cl = false then 261 else if ∃ k ∈ cntF cl false fs, n < k then 264 else 0
  | .canc n => if ∃ k ∈ boundsF cl mp fs, n ≤ k then 0 else 264
set_option maxHeartbeats 8000000 in
theorem due_d {H : Heap} (X : (hd.heap_1 w.params).In H) (T : Top hd.view_1 (looseW hd.view_1 []) mean mg mb H) {L : Addr} {m : Str → Option Value} {hp : Heap} {tk0 : Tok} {Q E : Value → Shared → Prop} {l : Addr} {cl : Bool} {tp : Tok} {most v : Value} {mp : Option Int} {news : List (Addr × Obj)} {nl : Nat} {vs : List Value} {fs : List Fm} {f : Fm} (F : Fr H L hp m) (N : News H L hp ([] ++ news))
  (hl : hp.get? l = some (listOf vs.toArray nl)) (hf : FmsAt hp vs fs) (hsz : vs.length ≤ 20) (hm : IsOpt most mp) (hv : FmAt hp v f) (hff : f = .hdr ∨ f = .dat ∨ f = .sett ∨ f = .sett2 ∨ f = .unk ∨ cl = false ∧ ∃ n, f = .maxp n)
  (ret : ∀ t h' tk', Fr H L h' m → News H L h' news → Q (.int (dueF cl mp fs f) t) {s with heap := h', toks := tk'}) :
  wpAny (model PySem.Challenge.rw_sj0117_01.row.prog w) (AA 50) (call (.ref 307) [.str (pS cl) tp, most, .ref l, v]) Q E {s with heap := hp, toks := tk0} := by
  refine wpAny_call ?_
  refine' enterQC (binds := [(Str.ofString "peer", .str (pS cl) tp), (Str.ofString "most", most), (Str.ofString "came", .ref l), (Str.ofString "frame", v)]) (tgt := []) (by assumption) (by assumption) (by assumption) (by assumption) (fun _ h => absurd h List.not_mem_nil) ?k6 ?k7 (by first | decide | k_room | exact Nat.le_of_ble_eq_true rfl) ?k9 ?kB ?kD ?_ ?c2 ?c3 ?c4
  ((case k6 => k_is); (case k7 => k_is); (case k9 => exact BindsTo.of_eq (by first | rfl | kernel_rfl | with_unfolding_all rfl)); (case kB => exact rfl); (case kD => decide +kernel); (case c2 => exact rfl); (case c3 => exact rfl); (case c4 => exact rfl))
  intro H1 L1 h₁ tk1 cells X1 T1 G1 lk1 F1 N1 Y1 l1 l2 l4
  replace l1 := ltN l1
  replace l2 := PySem.W.allLt_of l2
  (try dsimp only [PySem.W.AllLt] at l2)
  k_cells Y1
  (try simp only [List.cons_append, List.nil_append] at N1); (try dsimp only); (try k_fold)
  clear F N X T
  have hl1 := lk1 _ _ hl (fun q h => absurd h List.not_mem_nil)
  have hf1 := hf.keep (fun b o e _ => lk1 b o e fun q h => absurd h List.not_mem_nil)
  have hv1 := hv.keep (fun b o e _ => lk1 b o e fun q h => absurd h List.not_mem_nil)
  clear hl hf lk1 hv
  rcases hff with rfl | rfl | rfl | rfl | rfl | ⟨rfl, n, rfl⟩
  case inl | inr.inl =>
    obtain ⟨a, t1, t2, rfl, ha⟩ := hv1
    have i2 := tupAt ha
    w_strict k_steps
    refine Ground'.use (by assumption) (by assumption) (newsSub (by assumption) (b := []) sub_nil) fun Fb Nb Sb => ?_
    exact ret _ _ _ Fb Nb
  case inr.inr.inl | inr.inr.inr.inl =>
    obtain ⟨a, t1, l', nl', p, t2, t3, rfl, ha, _⟩ := hv1
    have i2 := tupAt ha
    w_strict k_steps
    refine Ground'.use (by assumption) (by assumption) (newsSub (by assumption) (b := []) sub_nil) fun Fb Nb Sb => ?_
    exact ret _ _ _ Fb Nb
  case inr.inr.inr.inr.inl =>
    obtain ⟨a, t1, t2, t3, rfl, ha⟩ := hv1
    have i2 := tupAt ha
    w_strict k_steps
    refine Ground'.use (by assumption) (by assumption) (newsSub (by assumption) (b := []) sub_nil) fun Fb Nb Sb => ?_
    exact ret _ _ _ Fb Nb
  · obtain ⟨a, t1, t2, rfl, ha⟩ := hv1
    have i2 := tupAt ha
    dsimp only [pS] at *
    w_strict k_steps
    refine Ground'.use (by assumption) (by assumption) (newsSub (by assumption) (b := []) sub_nil) fun Fb Nb Sb => ?_
    exact ret _ _ _ Fb Nb

end
section
example : True := by w_top off; exact trivial
/-- as many ones as items of a kind -/
def onesInv (R : Int → Prop) (ks : List Int) (i : Nat) (zs : List Value) : Prop := ∃ ms, IntsAre zs ms ∧ (ms = [] ↔ ∀ k ∈ ks.take i, ¬ R k)
theorem onesInv.zero {R : Int → Prop} {ks : List Int} : onesInv R ks 0 [] := ⟨[], .nil, by simp⟩
theorem onesInv.yes {R : Int → Prop} {ks : List Int} {i : Nat} {zs : List Value} {n a : Int} {t : Tok} (x : onesInv R ks i zs) (h : ks[i]? = some n) (hr : R n) : onesInv R ks (i + 1) (zs ++ [.int a t]) := by
  obtain ⟨ms, h1, _⟩ := x
  refine ⟨ms ++ [a], ints_snoc h1, ?_⟩
  rw [take_succ_of h]
  constructor
  · intro q; cases ms <;> cases q
  · intro q; exact absurd hr (q n (by simp))
theorem onesInv.no {R : Int → Prop} {ks : List Int} {i : Nat} {zs : List Value} {n : Int} (x : onesInv R ks i zs) (h : ks[i]? = some n) (hr : ¬ R n) : onesInv R ks (i + 1) zs := by
  obtain ⟨ms, h1, h2⟩ := x
  refine ⟨ms, h1, h2.trans ?_⟩
  rw [take_succ_of h]
  constructor
  · intro q k hk
    rcases List.mem_append.mp hk with hk | hk
    · exact q k hk
    · rw [List.mem_singleton.mp hk]; exact hr
  · intro q k hk; exact q k (List.mem_append_left _ hk)
theorem cntF_len {cl g : Bool} {fs : List Fm} : (cntF cl g fs).length ≤ fs.length := by
  unfold cntF numsK
  cases g <;> cases cl <;> simp <;> first | exact List.length_filterMap_le _ _ | exact Nat.le_trans (List.length_filter_le _ _) (List.length_filterMap_le _ _)
theorem dueF_go {cl : Bool} {mp : Option Int} {fs : List Fm} {n : Int} : dueF cl mp fs (.goaway n) = if (cl = false ∧ 0 < Int.fmod n 4) ∨ ∃ k ∈ cntF cl true fs, k < n then 264 else 0 := rfl
theorem dueF_mp {mp : Option Int} {fs : List Fm} {n : Int} : dueF true mp fs (.maxp n) = if ∃ k ∈ cntF true false fs, n < k then 264 else 0 := rfl
theorem dueF_cp {cl : Bool} {mp : Option Int} {fs : List Fm} {n : Int} : dueF cl mp fs (.canc n) = if ∃ k ∈ boundsF cl mp fs, n ≤ k then 0 else 264 := rfl
theorem boundsF_len {cl : Bool} {mp : Option Int} {fs : List Fm} (h : fs.length ≤ 20) : (boundsF cl mp fs).length ≤ 22 := by
  unfold boundsF
  have := cntF_len (cl := cl) (g := false) (fs := fs)
  rw [List.length_append]
  split <;> simp <;> omega
set_option maxHeartbeats 8000000 in
theorem due_go {H : Heap} (X : (hd.heap_1 w.params).In H) (T : Top hd.view_1 (looseW hd.view_1 []) mean mg mb H) {L : Addr} {m : Str → Option Value} {hp : Heap} {tk0 : Tok} {Q E : Value → Shared → Prop} {l : Addr} {cl : Bool} {tp : Tok} {most v : Value} {mp : Option Int} {news : List (Addr × Obj)} {nl : Nat} {vs : List Value} {fs : List Fm} {n : Int} (F : Fr H L hp m) (N : News H L hp ([] ++ news))
  (hl : hp.get? l = some (listOf vs.toArray nl)) (hf : FmsAt hp vs fs) (hsz : vs.length ≤ 20) (hm : IsOpt most mp) (hv : FmAt hp v (.goaway n))
  (ret : ∀ t h' tk', Fr H L h' m → News H L h' news → Q (.int (dueF cl mp fs (.goaway n)) t) {s with heap := h', toks := tk'}) :
  wpAny (model PySem.Challenge.rw_sj0117_01.row.prog w) (AA 50) (call (.ref 307) [.str (pS cl) tp, most, .ref l, v]) Q E {s with heap := hp, toks := tk0} := by
  refine wpAny_call ?_
  refine' enterQC (binds := [(Str.ofString "peer", .str (pS cl) tp), (Str.ofString "most", most), (Str.ofString "came", .ref l), (Str.ofString "frame", v)]) (tgt := []) (by assumption) (by assumption) (by assumption) (by assumption) (fun _ h => absurd h List.not_mem_nil) ?k6 ?k7 (by first | decide | k_room | exact Nat.le_of_ble_eq_true rfl) ?k9 ?kB ?kD ?_ ?c2 ?c3 ?c4
  ((case k6 => k_is); (case k7 => k_is); (case k9 => exact BindsTo.of_eq (by first | rfl | kernel_rfl | with_unfolding_all rfl)); (case kB => exact rfl); (case kD => decide +kernel); (case c2 => exact rfl); (case c3 => exact rfl); (case c4 => exact rfl))
  intro H1 L1 h₁ tk1 cells X1 T1 G1 lk1 F1 N1 Y1 l1 l2 l4
  replace l1 := ltN l1
  replace l2 := PySem.W.allLt_of l2
  (try dsimp only [PySem.W.AllLt] at l2)
  k_cells Y1
  (try simp only [List.cons_append, List.nil_append] at N1); (try dsimp only); (try k_fold)
  clear F N X T
  have hl1 := lk1 _ _ hl (fun q h => absurd h List.not_mem_nil)
  have hf1 := hf.keep (fun b o e _ => lk1 b o e fun q h => absurd h List.not_mem_nil)
  have hv1 := hv.keep (fun b o e _ => lk1 b o e fun q h => absurd h List.not_mem_nil)
  clear hl hf lk1 hv
  obtain ⟨a, t1, t2, rfl, ha⟩ := hv1
  have i2 := tupAt ha
  cases cl
  all_goals dsimp only [pS] at *
  · w_strict k_steps
    · refine Ground'.use (by assumption) (by assumption) (newsSub (by assumption) (b := []) sub_nil) fun Fb Nb Sb => ?_
      rename 0 < Int.fmod n 4 => h0
      have e : dueF false mp fs (.goaway n) = 264 := by rw [dueF_go]; exact if_pos (.inl ⟨rfl, h0⟩)
      rw [e] at ret
      exact ret _ _ _ Fb Nb
    · rename ¬ 0 < Int.fmod n 4 => h0
      rename Fr _ _ _ _ => F2
      rename News _ _ _ _ => N2
      refine wp_at (f := by exact ⟨rfl, Nat.le_of_ble_eq_true rfl, Nat.le_of_ble_eq_true rfl⟩) (counted (cl := false) (g := true) X1 T1 F2 N2 (F2.keep _ _ hl1) (hf1.keep fun b o e _ => F2.keep _ _ e) hsz ?_)
      intro D ys nD h' tk' hy hD F3 N3
      replace hD := allNe_of hD
      dsimp only [AllNe] at hD
      have hyl : ys.length ≤ 22 := by
        rw [hy.length]
        exact Nat.le_trans cntF_len (by rw [← hf1.1]; exact Nat.le_trans hsz (by decide))
      clear F2 N2
      w_strict k_steps
      refine unstop (LCt.CompSrcT.ledger (by rfl) (by k_asm) (by k_asm) (by k_mem) (by show ys.length ≤ sizeLine; exact Nat.le_trans hyl (by decide)) ?_)
      intro gh2
      refine compT_ind (fun i zs => onesInv (fun k => k < n) (cntF false true fs) i zs) ys.length onesInv.zero ?_ ?_
      · clear ret
        intro k i zs hk hi ih
        refine turnT ?_
        intro v I oI C oC D' m₂ h tk E' J1 J2 hv hC hx F' N' off ne hJ1 hJ2
        obtain ⟨n', tn, rfl, hni⟩ := IntsAre.at hy i v (by simpa using hv)
        w_strict k_steps
        · refine hJ1 _ _ (LCg.CompEnd.intro (by assumption) (by assumption) _ (by lcg_sub) off (by lcg_src) (ih _ ?_))
          exact hi.yes hni (by assumption)
        · refine hJ2 _ (LCg.CompEnd.intro (by assumption) (by assumption) _ (by lcg_sub) off (by lcg_src) (ih _ ?_))
          exact hi.no hni (by assumption)
      · intro zs hz
        rw [hy.length] at hz
        obtain ⟨ms, hms, hmz⟩ := hz
        rw [List.take_length] at hmz
        w_strict k_steps
        · rename decide (ms = []) = true => hd0
          have hd1 := hmz.mp (of_decide_eq_true hd0)
          refine Ground'.use (by assumption) (by assumption) (newsSub (by assumption) (b := []) sub_nil) fun Fb Nb Sb => ?_
          have e : dueF false mp fs (.goaway n) = 0 := by rw [dueF_go]; exact if_neg fun q => q.elim (fun q => h0 q.2) fun ⟨k, hk, hlt⟩ => hd1 k hk hlt
          rw [e] at ret
          exact ret _ _ _ Fb Nb
        · rename decide (ms = []) = false => hd0
          have hd1 := (not_congr hmz).mp (of_decide_eq_false hd0)
          refine Ground'.use (by assumption) (by assumption) (newsSub (by assumption) (b := []) sub_nil) fun Fb Nb Sb => ?_
          have e : dueF false mp fs (.goaway n) = 264 := by rw [dueF_go]; exact if_pos (.inr (Classical.byContradiction fun q => hd1 fun k hk hlt => q ⟨k, hk, hlt⟩))
          rw [e] at ret
          exact ret _ _ _ Fb Nb
  · w_strict k_steps
    rename Fr _ _ _ _ => F2
    rename News _ _ _ _ => N2
    refine wp_at (f := by exact ⟨rfl, Nat.le_of_ble_eq_true rfl, Nat.le_of_ble_eq_true rfl⟩) (counted (cl := true) (g := true) X1 T1 F2 N2 (F2.keep _ _ hl1) (hf1.keep fun b o e _ => F2.keep _ _ e) hsz ?_)
    intro D ys nD h' tk' hy hD F3 N3
    replace hD := allNe_of hD
    dsimp only [AllNe] at hD
    have hyl : ys.length ≤ 22 := by
      rw [hy.length]
      exact Nat.le_trans cntF_len (by rw [← hf1.1]; exact Nat.le_trans hsz (by decide))
    clear F2 N2
    w_strict k_steps
    refine unstop (LCt.CompSrcT.ledger (by rfl) (by k_asm) (by k_asm) (by k_mem) (by show ys.length ≤ sizeLine; exact Nat.le_trans hyl (by decide)) ?_)
    intro gh2
    refine compT_ind (fun i zs => onesInv (fun k => k < n) (cntF true true fs) i zs) ys.length onesInv.zero ?_ ?_
    · clear ret
      intro k i zs hk hi ih
      refine turnT ?_
      intro v I oI C oC D' m₂ h tk E' J1 J2 hv hC hx F' N' off ne hJ1 hJ2
      obtain ⟨n', tn, rfl, hni⟩ := IntsAre.at hy i v (by simpa using hv)
      w_strict k_steps
      · refine hJ1 _ _ (LCg.CompEnd.intro (by assumption) (by assumption) _ (by lcg_sub) off (by lcg_src) (ih _ ?_))
        exact hi.yes hni (by assumption)
      · refine hJ2 _ (LCg.CompEnd.intro (by assumption) (by assumption) _ (by lcg_sub) off (by lcg_src) (ih _ ?_))
        exact hi.no hni (by assumption)
    · intro zs hz
      rw [hy.length] at hz
      obtain ⟨ms, hms, hmz⟩ := hz
      rw [List.take_length] at hmz
      w_strict k_steps
      · rename decide (ms = []) = true => hd0
        have hd1 := hmz.mp (of_decide_eq_true hd0)
        refine Ground'.use (by assumption) (by assumption) (newsSub (by assumption) (b := []) sub_nil) fun Fb Nb Sb => ?_
        have e : dueF true mp fs (.goaway n) = 0 := by rw [dueF_go]; exact if_neg fun q => q.elim (fun q => nomatch q.1) fun ⟨k, hk, hlt⟩ => hd1 k hk hlt
        rw [e] at ret
        exact ret _ _ _ Fb Nb
      · rename decide (ms = []) = false => hd0
        have hd1 := (not_congr hmz).mp (of_decide_eq_false hd0)
        refine Ground'.use (by assumption) (by assumption) (newsSub (by assumption) (b := []) sub_nil) fun Fb Nb Sb => ?_
        have e : dueF true mp fs (.goaway n) = 264 := by rw [dueF_go]; exact if_pos (.inr (Classical.byContradiction fun q => hd1 fun k hk hlt => q ⟨k, hk, hlt⟩))
        rw [e] at ret
        exact ret _ _ _ Fb Nb

end
section
example : True := by w_top off; exact trivial
set_option maxHeartbeats 8000000 in
theorem due_mp {H : Heap} (X : (hd.heap_1 w.params).In H) (T : Top hd.view_1 (looseW hd.view_1 []) mean mg mb H) {L : Addr} {m : Str → Option Value} {hp : Heap} {tk0 : Tok} {Q E : Value → Shared → Prop} {l : Addr} {cl : Bool} {tp : Tok} {most v : Value} {mp : Option Int} {news : List (Addr × Obj)} {nl : Nat} {vs : List Value} {fs : List Fm} {n : Int} (F : Fr H L hp m) (N : News H L hp ([] ++ news))
  (hl : hp.get? l = some (listOf vs.toArray nl)) (hf : FmsAt hp vs fs) (hsz : vs.length ≤ 20) (hm : IsOpt most mp) (hc : cl = true) (hv : FmAt hp v (.maxp n))
  (ret : ∀ t h' tk', Fr H L h' m → News H L h' news → Q (.int (dueF cl mp fs (.maxp n)) t) {s with heap := h', toks := tk'}) :
  wpAny (model PySem.Challenge.rw_sj0117_01.row.prog w) (AA 50) (call (.ref 307) [.str (pS cl) tp, most, .ref l, v]) Q E {s with heap := hp, toks := tk0} := by
  refine wpAny_call ?_
  refine' enterQC (binds := [(Str.ofString "peer", .str (pS cl) tp), (Str.ofString "most", most), (Str.ofString "came", .ref l), (Str.ofString "frame", v)]) (tgt := []) (by assumption) (by assumption) (by assumption) (by assumption) (fun _ h => absurd h List.not_mem_nil) ?k6 ?k7 (by first | decide | k_room | exact Nat.le_of_ble_eq_true rfl) ?k9 ?kB ?kD ?_ ?c2 ?c3 ?c4
  ((case k6 => k_is); (case k7 => k_is); (case k9 => exact BindsTo.of_eq (by first | rfl | kernel_rfl | with_unfolding_all rfl)); (case kB => exact rfl); (case kD => decide +kernel); (case c2 => exact rfl); (case c3 => exact rfl); (case c4 => exact rfl))
  intro H1 L1 h₁ tk1 cells X1 T1 G1 lk1 F1 N1 Y1 l1 l2 l4
  replace l1 := ltN l1
  replace l2 := PySem.W.allLt_of l2
  (try dsimp only [PySem.W.AllLt] at l2)
  k_cells Y1
  (try simp only [List.cons_append, List.nil_append] at N1); (try dsimp only); (try k_fold)
  clear F N X T
  have hl1 := lk1 _ _ hl (fun q h => absurd h List.not_mem_nil)
  have hf1 := hf.keep (fun b o e _ => lk1 b o e fun q h => absurd h List.not_mem_nil)
  have hv1 := hv.keep (fun b o e _ => lk1 b o e fun q h => absurd h List.not_mem_nil)
  clear hl hf lk1 hv
  obtain ⟨a, t1, t2, rfl, ha⟩ := hv1
  have i2 := tupAt ha
  subst hc
  dsimp only [pS] at *
  w_strict k_steps
  rename Fr _ _ _ _ => F2
  rename News _ _ _ _ => N2
  refine wp_at (f := by exact ⟨rfl, Nat.le_of_ble_eq_true rfl, Nat.le_of_ble_eq_true rfl⟩) (counted (cl := true) (g := false) X1 T1 F2 N2 (F2.keep _ _ hl1) (hf1.keep fun b o e _ => F2.keep _ _ e) hsz ?_)
  intro D ys nD h' tk' hy hD F3 N3
  replace hD := allNe_of hD
  dsimp only [AllNe] at hD
  have hyl : ys.length ≤ 22 := by
    rw [hy.length]
    exact Nat.le_trans cntF_len (by rw [← hf1.1]; exact Nat.le_trans hsz (by decide))
  clear F2 N2
  w_strict k_steps
  refine unstop (LCt.CompSrcT.ledger (by rfl) (by k_asm) (by k_asm) (by k_mem) (by show ys.length ≤ sizeLine; exact Nat.le_trans hyl (by decide)) ?_)
  intro gh2
  refine compT_ind (fun i zs => onesInv (fun k => n < k) (cntF true false fs) i zs) ys.length onesInv.zero ?_ ?_
  · clear ret
    intro k i zs hk hi ih
    refine turnT ?_
    intro v I oI C oC D' m₂ h tk E' J1 J2 hv hC hx F' N' off ne hJ1 hJ2
    obtain ⟨n', tn, rfl, hni⟩ := IntsAre.at hy i v (by simpa using hv)
    w_strict k_steps
    · refine hJ1 _ _ (LCg.CompEnd.intro (by assumption) (by assumption) _ (by lcg_sub) off (by lcg_src) (ih _ ?_))
      exact hi.yes hni (by assumption)
    · refine hJ2 _ (LCg.CompEnd.intro (by assumption) (by assumption) _ (by lcg_sub) off (by lcg_src) (ih _ ?_))
      exact hi.no hni (by assumption)
  · intro zs hz
    rw [hy.length] at hz
    obtain ⟨ms, hms, hmz⟩ := hz
    rw [List.take_length] at hmz
    w_strict k_steps
    · rename decide (ms = []) = true => hd0
      have hd1 := hmz.mp (of_decide_eq_true hd0)
      refine Ground'.use (by assumption) (by assumption) (newsSub (by assumption) (b := []) sub_nil) fun Fb Nb Sb => ?_
      have e : dueF true mp fs (.maxp n) = 0 := by rw [dueF_mp]; exact if_neg fun ⟨k, hk, hlt⟩ => hd1 k hk hlt
      rw [e] at ret
      exact ret _ _ _ Fb Nb
    · rename decide (ms = []) = false => hd0
      have hd1 := (not_congr hmz).mp (of_decide_eq_false hd0)
      refine Ground'.use (by assumption) (by assumption) (newsSub (by assumption) (b := []) sub_nil) fun Fb Nb Sb => ?_
      have e : dueF true mp fs (.maxp n) = 264 := by rw [dueF_mp]; exact if_pos (Classical.byContradiction fun q => hd1 fun k hk hlt => q ⟨k, hk, hlt⟩)
      rw [e] at ret
      exact ret _ _ _ Fb Nb
set_option maxHeartbeats 8000000 in
theorem due_cp {H : Heap} (X : (hd.heap_1 w.params).In H) (T : Top hd.view_1 (looseW hd.view_1 []) mean mg mb H) {L : Addr} {m : Str → Option Value} {hp : Heap} {tk0 : Tok} {Q E : Value → Shared → Prop} {l : Addr} {cl : Bool} {tp : Tok} {most v : Value} {mp : Option Int} {news : List (Addr × Obj)} {nl : Nat} {vs : List Value} {fs : List Fm} {n : Int} (F : Fr H L hp m) (N : News H L hp ([] ++ news))
  (hl : hp.get? l = some (listOf vs.toArray nl)) (hf : FmsAt hp vs fs) (hsz : vs.length ≤ 20) (hm : IsOpt most mp) (hv : FmAt hp v (.canc n))
  (ret : ∀ t h' tk', Fr H L h' m → News H L h' news → Q (.int (dueF cl mp fs (.canc n)) t) {s with heap := h', toks := tk'}) :
  wpAny (model PySem.Challenge.rw_sj0117_01.row.prog w) (AA 50) (call (.ref 307) [.str (pS cl) tp, most, .ref l, v]) Q E {s with heap := hp, toks := tk0} := by
  refine wpAny_call ?_
  refine' enterQC (binds := [(Str.ofString "peer", .str (pS cl) tp), (Str.ofString "most", most), (Str.ofString "came", .ref l), (Str.ofString "frame", v)]) (tgt := []) (by assumption) (by assumption) (by assumption) (by assumption) (fun _ h => absurd h List.not_mem_nil) ?k6 ?k7 (by first | decide | k_room | exact Nat.le_of_ble_eq_true rfl) ?k9 ?kB ?kD ?_ ?c2 ?c3 ?c4
  ((case k6 => k_is); (case k7 => k_is); (case k9 => exact BindsTo.of_eq (by first | rfl | kernel_rfl | with_unfolding_all rfl)); (case kB => exact rfl); (case kD => decide +kernel); (case c2 => exact rfl); (case c3 => exact rfl); (case c4 => exact rfl))
  intro H1 L1 h₁ tk1 cells X1 T1 G1 lk1 F1 N1 Y1 l1 l2 l4
  replace l1 := ltN l1
  replace l2 := PySem.W.allLt_of l2
  (try dsimp only [PySem.W.AllLt] at l2)
  k_cells Y1
  (try simp only [List.cons_append, List.nil_append] at N1); (try dsimp only); (try k_fold)
  clear F N X T
  have hl1 := lk1 _ _ hl (fun q h => absurd h List.not_mem_nil)
  have hf1 := hf.keep (fun b o e _ => lk1 b o e fun q h => absurd h List.not_mem_nil)
  have hv1 := hv.keep (fun b o e _ => lk1 b o e fun q h => absurd h List.not_mem_nil)
  clear hl hf lk1 hv
  obtain ⟨a, t1, t2, rfl, ha⟩ := hv1
  have i2 := tupAt ha
  cases cl
  all_goals dsimp only [pS] at *
  · w_strict k_steps
    rename Fr _ _ _ _ => F2
    rename News _ _ _ _ => N2
    refine wp_at (f := by exact ⟨rfl, Nat.le_of_ble_eq_true rfl, Nat.le_of_ble_eq_true rfl⟩) (bounds (cl := false) X1 T1 F2 N2 (F2.keep _ _ hl1) (hf1.keep fun b o e _ => F2.keep _ _ e) hsz hm ?_)
    intro D ys nD h' tk' hy hD F3 N3
    replace hD := allNe_of hD
    dsimp only [AllNe] at hD
    have hyl : ys.length ≤ 22 := by
      rw [hy.length]
      exact boundsF_len (by rw [← hf1.1]; exact hsz)
    clear F2 N2
    w_strict k_steps
    refine unstop (LCt.CompSrcT.ledger (by rfl) (by k_asm) (by k_asm) (by k_mem) (by show ys.length ≤ sizeLine; exact Nat.le_trans hyl (by decide)) ?_)
    intro gh2
    refine compT_ind (fun i zs => onesInv (fun k => n ≤ k) (boundsF false mp fs) i zs) ys.length onesInv.zero ?_ ?_
    · clear ret
      intro k i zs hk hi ih
      refine turnT ?_
      intro v I oI C oC D' m₂ h tk E' J1 J2 hv hC hx F' N' off ne hJ1 hJ2
      obtain ⟨n', tn, rfl, hni⟩ := IntsAre.at hy i v (by simpa using hv)
      w_strict k_steps
      · refine hJ1 _ _ (LCg.CompEnd.intro (by assumption) (by assumption) _ (by lcg_sub) off (by lcg_src) (ih _ ?_))
        exact hi.yes hni (by assumption)
      · refine hJ2 _ (LCg.CompEnd.intro (by assumption) (by assumption) _ (by lcg_sub) off (by lcg_src) (ih _ ?_))
        exact hi.no hni (by assumption)
    · intro zs hz
      rw [hy.length] at hz
      obtain ⟨ms, hms, hmz⟩ := hz
      rw [List.take_length] at hmz
      w_strict k_steps
      · rename decide (ms = []) = true => hd0
        have hd1 := hmz.mp (of_decide_eq_true hd0)
        refine Ground'.use (by assumption) (by assumption) (newsSub (by assumption) (b := []) sub_nil) fun Fb Nb Sb => ?_
        have e : dueF false mp fs (.canc n) = 264 := by rw [dueF_cp]; exact if_neg fun ⟨k, hk, hlt⟩ => hd1 k hk hlt
        rw [e] at ret
        exact ret _ _ _ Fb Nb
      · rename decide (ms = []) = false => hd0
        have hd1 := (not_congr hmz).mp (of_decide_eq_false hd0)
        refine Ground'.use (by assumption) (by assumption) (newsSub (by assumption) (b := []) sub_nil) fun Fb Nb Sb => ?_
        have e : dueF false mp fs (.canc n) = 0 := by rw [dueF_cp]; exact if_pos (Classical.byContradiction fun q => hd1 fun k hk hlt => q ⟨k, hk, hlt⟩)
        rw [e] at ret
        exact ret _ _ _ Fb Nb
  · w_strict k_steps
    rename Fr _ _ _ _ => F2
    rename News _ _ _ _ => N2
    refine wp_at (f := by exact ⟨rfl, Nat.le_of_ble_eq_true rfl, Nat.le_of_ble_eq_true rfl⟩) (bounds (cl := true) X1 T1 F2 N2 (F2.keep _ _ hl1) (hf1.keep fun b o e _ => F2.keep _ _ e) hsz hm ?_)
    intro D ys nD h' tk' hy hD F3 N3
    replace hD := allNe_of hD
    dsimp only [AllNe] at hD
    have hyl : ys.length ≤ 22 := by
      rw [hy.length]
      exact boundsF_len (by rw [← hf1.1]; exact hsz)
    clear F2 N2
    w_strict k_steps
    refine unstop (LCt.CompSrcT.ledger (by rfl) (by k_asm) (by k_asm) (by k_mem) (by show ys.length ≤ sizeLine; exact Nat.le_trans hyl (by decide)) ?_)
    intro gh2
    refine compT_ind (fun i zs => onesInv (fun k => n ≤ k) (boundsF true mp fs) i zs) ys.length onesInv.zero ?_ ?_
    · clear ret
      intro k i zs hk hi ih
      refine turnT ?_
      intro v I oI C oC D' m₂ h tk E' J1 J2 hv hC hx F' N' off ne hJ1 hJ2
      obtain ⟨n', tn, rfl, hni⟩ := IntsAre.at hy i v (by simpa using hv)
      w_strict k_steps
      · refine hJ1 _ _ (LCg.CompEnd.intro (by assumption) (by assumption) _ (by lcg_sub) off (by lcg_src) (ih _ ?_))
        exact hi.yes hni (by assumption)
      · refine hJ2 _ (LCg.CompEnd.intro (by assumption) (by assumption) _ (by lcg_sub) off (by lcg_src) (ih _ ?_))
        exact hi.no hni (by assumption)
    · intro zs hz
      rw [hy.length] at hz
      obtain ⟨ms, hms, hmz⟩ := hz
      rw [List.take_length] at hmz
      w_strict k_steps
      · rename decide (ms = []) = true => hd0
        have hd1 := hmz.mp (of_decide_eq_true hd0)
        refine Ground'.use (by assumption) (by assumption) (newsSub (by assumption) (b := []) sub_nil) fun Fb Nb Sb => ?_
        have e : dueF true mp fs (.canc n) = 264 := by rw [dueF_cp]; exact if_neg fun ⟨k, hk, hlt⟩ => hd1 k hk hlt
        rw [e] at ret
        exact ret _ _ _ Fb Nb
      · rename decide (ms = []) = false => hd0
        have hd1 := (not_congr hmz).mp (of_decide_eq_false hd0)
        refine Ground'.use (by assumption) (by assumption) (newsSub (by assumption) (b := []) sub_nil) fun Fb Nb Sb => ?_
        have e : dueF true mp fs (.canc n) = 0 := by rw [dueF_cp]; exact if_pos (Classical.byContradiction fun q => hd1 fun k hk hlt => q ⟨k, hk, hlt⟩)
        rw [e] at ret
        exact ret _ _ _ Fb Nb

end
section
theorem due {H : Heap} (X : (hd.heap_1 w.params).In H) (T : Top hd.view_1 (looseW hd.view_1 []) mean mg mb H) {L : Addr} {m : Str → Option Value} {hp : Heap} {tk0 : Tok} {Q E : Value → Shared → Prop} {l : Addr} {cl : Bool} {tp : Tok} {most v : Value} {mp : Option Int} {news : List (Addr × Obj)} {nl : Nat} {vs : List Value} {fs : List Fm} {f : Fm} (F : Fr H L hp m) (N : News H L hp ([] ++ news))
  (hl : hp.get? l = some (listOf vs.toArray nl)) (hf : FmsAt hp vs fs) (hsz : vs.length ≤ 20) (hm : IsOpt most mp) (hv : FmAt hp v f)
  (ret : ∀ t h' tk', Fr H L h' m → News H L h' news → Q (.int (dueF cl mp fs f) t) {s with heap := h', toks := tk'}) :
  wpAny (model PySem.Challenge.rw_sj0117_01.row.prog w) (AA 50) (call (.ref 307) [.str (pS cl) tp, most, .ref l, v]) Q E {s with heap := hp, toks := tk0} := by
  cases f with
  | goaway n => exact due_go X T F N hl hf hsz hm hv ret
  | canc n => exact due_cp X T F N hl hf hsz hm hv ret
  | maxp n =>
    cases cl with
    | false => exact due_d X T F N hl hf hsz hm hv (.inr (.inr (.inr (.inr (.inr ⟨rfl, n, rfl⟩))))) ret
    | true => exact due_mp X T F N hl hf hsz hm rfl hv ret
  | unk => exact due_d X T F N hl hf hsz hm hv (.inr (.inr (.inr (.inr (.inl rfl))))) ret
  | hdr => exact due_d X T F N hl hf hsz hm hv (.inl rfl) ret
  | dat => exact due_d X T F N hl hf hsz hm hv (.inr (.inl rfl)) ret
  | sett => exact due_d X T F N hl hf hsz hm hv (.inr (.inr (.inl rfl))) ret
  | sett2 => exact due_d X T F N hl hf hsz hm hv (.inr (.inr (.inr (.inl rfl)))) ret

end
local macro_rules | `(tactic| k_handed) => `(tactic| assumption)
section
example : True := by w_top off; exact trivial
def isLetF (go : Option Int) (n : Int) : Bool := match go with | none => true | some g => decide (n < g)
def intsTo (n : Nat) : List Int := (List.range n).map Int.ofNat
theorem intsTo_at {n i : Nat} (h : i < n) : (intsTo n)[i]? = some (i : Int) := by
  unfold intsTo
  rw [List.getElem?_map, List.getElem?_range h]; rfl
def letF (go : Option Int) : List Int := (intsTo 22).filter (isLetF go)
set_option maxHeartbeats 8000000 in
theorem lawstate {H : Heap} (X : (hd.heap_1 w.params).In H) (T : Top hd.view_1 (looseW hd.view_1 []) mean mg mb H) {L : Addr} {m : Str → Option Value} {hp : Heap} {tk0 : Tok} {Q E : Value → Shared → Prop} {x d l0 : Addr} {t : Nat → Tok} {cl : Bool} {tp : Tok} {most go told : Value} {goN toldN : Option Int} {news : List (Addr × Obj)} (F : Fr H L hp m) (N : News H L hp (crLed w.params x d t cl tp most (.ref l0) go told ++ news))
  (hsep : ∀ q ∈ crLed w.params x d t cl tp most (.ref l0) go told, ∀ r ∈ news, r.1 ≠ q.1) (hxd : @Ne Nat x d) (hg : IsOpt go goN) (ht : IsOpt told toldN)
  (ret : ∀ a D zs n h' tk', IntsAre zs (letF goN) → (∀ r ∈ crLed w.params x d t cl tp most (.ref l0) go told ++ news, @Ne Nat r.1 a ∧ @Ne Nat r.1 D) → @Ne Nat a D → Fr H L h' m → News H L h' ((a, tupO [.ref l0, go, told, .ref D]) :: (D, listOf zs.toArray n) :: (crLed w.params x d t cl tp most (.ref l0) go told ++ news)) → Q (.ref a) {s with heap := h', toks := tk'}) :
  wpAny (model PySem.Challenge.rw_sj0117_01.row.prog w) (AA 50) (call (.ref 312) [.ref x]) Q E {s with heap := hp, toks := tk0} := by
  refine wpAny_call ?_
  refine' enterQC (binds := [(Str.ofString "rules", .ref x)]) (tgt := crLed w.params x d t cl tp most (.ref l0) go told) (by assumption) (by assumption) (by assumption) (by assumption) (hsep) ?k6 ?k7 (by first | decide | k_room | exact Nat.le_of_ble_eq_true rfl) ?k9 ?kB ?kD ?_ ?c2 ?c3 ?c4
  ((case k6 => k_is); (case k7 => k_is); (case k9 => exact BindsTo.of_eq (by first | rfl | kernel_rfl | with_unfolding_all rfl)); (case kB => exact rfl); (case kD => decide +kernel); (case c2 => exact rfl); (case c3 => exact rfl); (case c4 => exact rfl))
  intro H1 L1 h₁ tk1 cells X1 T1 G1 lk1 F1 N1 Y1 l1 l2 l4
  replace l1 := ltN l1
  replace l2 := PySem.W.allLt_of l2
  (try dsimp only [PySem.W.AllLt] at l2)
  k_cells Y1
  (try simp only [List.cons_append, List.nil_append] at N1); (try dsimp only); (try k_fold)
  clear F N X T
  rename Obj => oc
  have hfg : handedIn go = true := by cases goN with | none => cases hg; rfl | some g => obtain ⟨_, rfl⟩ := hg; rfl
  have hft : handedIn told = true := by cases toldN with | none => cases ht; rfl | some g => obtain ⟨_, rfl⟩ := ht; rfl
  w_strict k_steps
  refine unstop (LCt.CompSrcT.range (n := 22) (by rfl) (by k_asm) (by k_asm) (by assumption) (by decide) (by rfl) (by decide) ?_)
  intro gh
  refine compT_ind (fun i zs => IntsAre zs (((intsTo 22).take i).filter (isLetF goN))) 22 .nil ?_ ?_
  · clear ret
    intro k i zs hk hi ih
    refine turnT ?_
    intro v I oI C oC D m₂ h tk E' J1 J2 hv hC hx F' N' off ne hJ1 hJ2
    have off0 := off
    obtain ⟨tn, rfl⟩ := hv
    have hz := take_succ_of (intsTo_at (n := 22) (i := i) (by omega))
    rw [show (0 : Int) + (i : Int) = (i : Int) by omega] at *
    simp only [LCg.Off3, and_true] at off
    have lx : @Ne Nat (L1 + 1) x := by clear off off0 ne; omega
    have ld : @Ne Nat (L1 + 1) d := by clear off off0 ne; omega
    w_strict k_steps
    rename Fr _ _ _ _ => F2
    rename News _ _ _ _ => N2
    have hsp : ∀ q ∈ crLed w.params x d t cl tp most (.ref l0) go told, ∀ r ∈ [(I, oI), (C, oC), (D, LCg.lst zs), (L1 + 1, oc)], r.1 ≠ q.1 := List.forall_mem_cons.mpr ⟨of_allNe ⟨off.2.1.1.symm, off.2.1.2.1.symm, off.2.1.2.2.symm, lx, trivial⟩, List.forall_mem_cons.mpr ⟨of_allNe ⟨off.2.2.1.symm, off.2.2.2.1.symm, off.2.2.2.2.symm, ld, trivial⟩, List.forall_mem_nil _⟩⟩
    have NN : News H1 L1 h (crLed w.params x d t cl tp most (.ref l0) go told ++ [(I, oI), (C, oC), (D, LCg.lst zs), (L1 + 1, oc)]) := newsSub N2 (by dsimp only [crLed, List.cons_append, List.nil_append]; lcg_sub)
    refine wp_at (f := by exact ⟨rfl, Nat.le_of_ble_eq_true rfl, Nat.le_of_ble_eq_true rfl⟩) (islet (t := t) (cl := cl) (tp := tp) (most := most) (sett := .ref l0) (go := go) (told := told) (news := [(I, oI), (C, oC), (D, LCg.lst zs), (L1 + 1, oc)]) X1 T1 F2 NN hsp hxd hg fun h' tk' F3 N3 => ?_)
    have N4 := newsSub N3 (b := (I, oI) :: (C, oC) :: (D, LCg.lst zs) :: (L1 + 1, oc) :: crLed w.params x d t cl tp most (.ref l0) go told) (by lcg_sub)
    clear N2 N3 F2 NN
    w_strict k_steps
    all_goals (rw [hz, List.filter_append] at ih)
    · rename _ = true => h0
      refine hJ1 _ _ (LCg.CompEnd.intro (by assumption) (by assumption) _ (by lcg_sub) off0 trivial (ih _ ?_))
      have e : List.filter (isLetF goN) [(i : Int)] = [(i : Int)] := by have h0' : isLetF goN (i : Int) = _ := h0; simp only [List.filter, h0']
      rw [e]; exact ints_snoc hi
    · rename _ = false => h0
      refine hJ2 _ (LCg.CompEnd.intro (by assumption) (by assumption) _ (by lcg_sub) off0 trivial (ih _ ?_))
      have e : List.filter (isLetF goN) [(i : Int)] = [] := by have h0' : isLetF goN (i : Int) = _ := h0; simp only [List.filter, h0']
      rw [e, List.append_nil]; exact hi
  · intro zs hz
    rw [show (intsTo 22).take 22 = intsTo 22 from rfl] at hz
    w_strict k_steps
    rename Fr _ _ _ _ => F5
    rename News _ _ _ _ => N5
    refine Ground'.use (by assumption) F5 (newsSub N5 (b := [_, _, _, _]) (sub_mem (.head _) (sub_mem (.tail _ (.head _)) (sub_mem (.tail _ (.tail _ (.tail _ (.head _)))) (sub_mem (.tail _ (.tail _ (.tail _ (.tail _ (.head _))))) sub_nil))))) fun Fb Nb Sb => ?_
    refine ret _ _ zs _ _ _ hz ?_ ?_ Fb Nb
    · intro r hr
      rcases List.mem_append.mp hr with hr | hr
      · rcases List.mem_cons.mp hr with rfl | hr
        · (try dsimp only); omega
        · rw [List.mem_singleton.mp hr]; dsimp only; omega
      · exact ⟨Sb _ (.head _) r hr, Sb _ (.tail _ (.head _)) r hr⟩
    · (try dsimp only); omega

end
section
example : True := by w_top off; exact trivial
def leastF : List Int → Option Int
  | [] => none
  | a :: r => some (r.foldl min a)
def greatestF : List Int → Option Int
  | [] => none
  | a :: r => some (r.foldl max a)
theorem foldl_min_le (r : List Int) : ∀ a : Int, r.foldl min a ≤ a ∧ (∀ b ∈ r, r.foldl min a ≤ b) ∧ (r.foldl min a = a ∨ r.foldl min a ∈ r) := by
  induction r with
  | nil => intro a; exact ⟨Int.le_refl _, fun b h => absurd h List.not_mem_nil, .inl rfl⟩
  | cons c r ih =>
    intro a
    obtain ⟨h1, h2, h3⟩ := ih (min a c)
    refine ⟨by rw [List.foldl_cons]; omega, fun b hb => ?_, ?_⟩
    · rw [List.foldl_cons]
      rcases List.mem_cons.mp hb with rfl | hb
      · omega
      · exact h2 b hb
    · rw [List.foldl_cons]
      rcases h3 with h3 | h3
      · rw [h3]; by_cases hc : a ≤ c
        · exact .inl (by omega)
        · exact .inr (by rw [show min a c = c by omega]; exact .head _)
      · exact .inr (.tail _ h3)
theorem foldl_max_le (r : List Int) : ∀ a : Int, a ≤ r.foldl max a ∧ (∀ b ∈ r, b ≤ r.foldl max a) ∧ (r.foldl max a = a ∨ r.foldl max a ∈ r) := by
  induction r with
  | nil => intro a; exact ⟨Int.le_refl _, fun b h => absurd h List.not_mem_nil, .inl rfl⟩
  | cons c r ih =>
    intro a
    obtain ⟨h1, h2, h3⟩ := ih (max a c)
    refine ⟨by rw [List.foldl_cons]; omega, fun b hb => ?_, ?_⟩
    · rw [List.foldl_cons]
      rcases List.mem_cons.mp hb with rfl | hb
      · omega
      · exact h2 b hb
    · rw [List.foldl_cons]
      rcases h3 with h3 | h3
      · rw [h3]; by_cases hc : c ≤ a
        · exact .inl (by omega)
        · exact .inr (by rw [show max a c = c by omega]; exact .head _)
      · exact .inr (.tail _ h3)
theorem leastF_of {ns : List Int} {M : Int} (h : M ∈ ns) (hl : ∀ a ∈ ns, M ≤ a) : leastF ns = some M := by
  cases ns with
  | nil => cases h
  | cons a r =>
    obtain ⟨h1, h2, h3⟩ := foldl_min_le r a
    refine congrArg some (Int.le_antisymm ?_ ?_)
    · rcases List.mem_cons.mp h with rfl | h
      · exact h1
      · exact h2 _ h
    · rcases h3 with h3 | h3
      · rw [h3]; exact hl _ (.head _)
      · exact hl _ (.tail _ h3)
theorem greatestF_of {ns : List Int} {M : Int} (h : M ∈ ns) (hl : ∀ a ∈ ns, a ≤ M) : greatestF ns = some M := by
  cases ns with
  | nil => cases h
  | cons a r =>
    obtain ⟨h1, h2, h3⟩ := foldl_max_le r a
    refine congrArg some (Int.le_antisymm ?_ ?_)
    · rcases h3 with h3 | h3
      · rw [h3]; exact hl _ (.head _)
      · exact hl _ (.tail _ h3)
    · rcases List.mem_cons.mp h with rfl | h
      · exact h1
      · exact h2 _ h
theorem pos_of_ne {ns : List Int} (h : decide (ns = []) = false) : 0 < ns.length := List.length_pos_iff.mpr (of_decide_eq_false h)
theorem ran_a : List.map (fun a => a) (rangeInts 0 1 (22 - 0 : Int).toNat) = intsTo 22 := by decide
theorem ran_b : ∀ m : Nat, m < 22 → rangeKs 0 m = intsTo m := by decide
/-- how many ids are let -/
def lessN : Option Int → Nat
  | none => 22
  | some M => M.toNat
theorem ran_c {M : Int} (h0 : 0 ≤ M) (h1 : M < 22) : rangeKs 0 (M - 0).toNat = intsTo (lessN (some M)) := by
  rw [show M - 0 = M by omega]; exact ran_b _ (by omega)
theorem leastF_in {ns : List Int} {M : Int} (h : leastF ns = some M) : M ∈ ns := by
  cases ns with
  | nil => cases h
  | cons a r =>
    cases h
    obtain ⟨_, _, h3⟩ := foldl_min_le r a
    rcases h3 with h3 | h3
    · rw [h3]; exact .head _
    · exact .tail _ h3
/-- a cut, what is asked as one name -/
theorem cutV {α : Type} {M : Model} {A : Around} {E : Value → Shared → Prop} {s : Shared} {t : Sem α} {P : α → Shared → Prop} (J : α → Shared → Prop) (h1 : ∀ K : α → Shared → Prop, (∀ v s', J v s' → K v s') → wpAny M A t K E s) (h2 : ∀ v s', J v s' → P v s') : wpAny M A t P E s := wpAny_mono (h1 J fun _ _ q => q) h2 fun _ _ e => e
local macro_rules | `(tactic| walk_at "exec Assign cons Tuple") => `(tactic| (k_here; (with_reducible rename Stop True => mk1); clear mk1; k_dflt (refine ofStop ?_)))
set_option maxHeartbeats 8000000 in
theorem duestate {H : Heap} (X : (hd.heap_1 w.params).In H) (T : Top hd.view_1 (looseW hd.view_1 []) mean mg mb H) {L : Addr} {m : Str → Option Value} {hp : Heap} {tk0 : Tok} {Q E : Value → Shared → Prop} {l : Addr} {cl : Bool} {tp : Tok} {news : List (Addr × Obj)} {nl : Nat} {vs : List Value} {fs : List Fm} (F : Fr H L hp m) (N : News H L hp ([] ++ news))
  (hl : hp.get? l = some (listOf vs.toArray nl)) (hf : FmsAt hp vs fs) (hsz : vs.length ≤ 20) (hn : ∀ n ∈ cntF cl true fs, 0 ≤ n ∧ n < 22)
  (ret : ∀ a SL nS p t2 t3 lv gv RL ys nR h' tk', IsOpt lv (leastF (cntF cl true fs)) → IsOpt gv (greatestF (cntF cl false fs)) → IntsAre ys (intsTo (lessN (leastF (cntF cl true fs)))) →
    (∀ r ∈ news, @Ne Nat r.1 a ∧ @Ne Nat r.1 RL ∧ @Ne Nat r.1 SL ∧ @Ne Nat r.1 p) → Fr H L h' m → News H L h' ((a, tupO [.ref SL, lv, gv, .ref RL]) :: (RL, listOf ys.toArray nR) :: (SL, listOf #[.ref p] nS) :: (p, tupO [.int 6 t2, .int 70 t3]) :: news) → Q (.ref a) {s with heap := h', toks := tk'}) :
  wpAny (model PySem.Challenge.rw_sj0117_01.row.prog w) (AA 50) (call (.ref 319) [.str (pS cl) tp, .ref l]) Q E {s with heap := hp, toks := tk0} := by
  refine wpAny_call ?_
  refine' enterQ (binds := [(Str.ofString "peer", .str (pS cl) tp), (Str.ofString "came", .ref l)]) (by assumption) (by assumption) (by assumption) (by assumption) (fun _ h => absurd h List.not_mem_nil) ?k6 ?k7 (by first | decide | k_room | exact Nat.le_of_ble_eq_true rfl) ?k9 ?kB ?_ ?c2 ?c3 ?c4 ?c5
  ((case k6 => k_is); (case k7 => k_is); (case k9 => exact BindsTo.of_eq (by first | rfl | kernel_rfl | with_unfolding_all rfl)); (case kB => exact locs rfl); (case c2 => exact rfl); (case c3 => exact rfl); (case c4 => exact rfl); (case c5 => decide))
  intro H1 L1 h₁ X1 T1 G1 lk F1 N1 l1 l2 l4
  replace l1 := ltN l1
  replace l2 := PySem.W.allLt_of l2
  (try dsimp only [PySem.W.AllLt] at l2)
  (try dsimp only); (try k_fold)
  have hl1 := lk _ _ hl (fun q h => absurd h List.not_mem_nil)
  have hf1 := hf.keep (fun b o e _ => lk b o e fun q h => absurd h List.not_mem_nil)
  clear hl hf lk F N X T
  w_strict k_steps
  rename Fr _ _ _ _ => F2
  rename News _ _ _ _ => N2
  refine wp_at (f := by exact ⟨rfl, Nat.le_of_ble_eq_true rfl, Nat.le_of_ble_eq_true rfl⟩) (counted (g := true) X1 T1 F2 N2 (F2.keep _ _ hl1) (hf1.keep fun b o e _ => F2.keep _ _ e) hsz ?_)
  intro D1 ys1 n1 h1 tk1 hy1 hD1 F3 N3
  clear F2 N2
  w_strict k_steps
  rename Fr _ _ _ _ => F2
  rename News _ _ _ _ => N2
  refine wp_at (f := by exact ⟨rfl, Nat.le_of_ble_eq_true rfl, Nat.le_of_ble_eq_true rfl⟩) (counted (g := false) (news := [_]) X1 T1 F2 N2 (F2.keep _ _ hl1) (hf1.keep fun b o e _ => F2.keep _ _ e) hsz ?_)
  intro D2 ys2 n2 h2 tk2 hy2 hD2 F4 N4
  clear F2 N2
  replace hD2 := allNe_of hD2
  dsimp only [AllNe] at hD2
  have mark : Stop True := trivial
  w_strict k_steps
  refine unstop (cutV (fun fl s' => fl = .next ∧ ∃ h tk lv gv, ∃ m2 : Str → Option Value, s' = {s with heap := h, toks := tk } ∧ IsOpt lv (leastF (cntF cl true fs)) ∧ IsOpt gv (greatestF (cntF cl false fs)) ∧ Fr H1 L1 h (fun y => if y = Str.ofString "least" then some lv else if y = Str.ofString "greatest" then some gv else m2 y) ∧ News H1 L1 h []) (fun K hK => ?_) ?_)
  · clear ret
    w_strict k_steps
    · rename decide (cntF cl true fs = []) = true => g1
      rename decide (cntF cl false fs = []) = true => g2
      rw [of_decide_eq_true g1, of_decide_eq_true g2] at hK
      exact hK _ _ ⟨rfl, _, _, _, _, _, rfl, rfl, rfl, by assumption, newsSub (by assumption) sub_nil⟩
    · rename decide (cntF cl true fs = []) = true => g1
      rename decide (cntF cl false fs = []) = false => h2
      refine kso_max (by k_asm) (by k_asm) (kso_isList (by k_asm) (by k_mem) rfl) hy2 (pos_of_ne h2) rfl fun h' M t' tk' F5 N5 hM hl5 => ?_
      w_strict k_steps
      rw [of_decide_eq_true g1, greatestF_of hM hl5] at hK
      exact hK _ _ ⟨rfl, _, _, _, _, _, rfl, rfl, ⟨_, rfl⟩, by assumption, newsSub (by assumption) sub_nil⟩
    · rename decide (cntF cl true fs = []) = false => h2
      refine kso_min (by k_asm) (by k_asm) (kso_isList (by k_asm) (by k_mem) rfl) hy1 (pos_of_ne h2) rfl fun h' M t' tk' F5 N5 hM hl5 => ?_
      rw [leastF_of hM hl5] at hK
      w_strict k_steps
      · rename decide (cntF cl false fs = []) = true => g2
        rw [of_decide_eq_true g2] at hK
        exact hK _ _ ⟨rfl, _, _, _, _, _, rfl, ⟨_, rfl⟩, rfl, by assumption, newsSub (by assumption) sub_nil⟩
      · rename decide (cntF cl false fs = []) = false => h3
        refine kso_max (by k_asm) (by k_asm) (kso_isList (by k_asm) (by k_mem) rfl) hy2 (pos_of_ne h3) rfl fun h' M2 t2' tk' F6 N6 hM2 hl6 => ?_
        w_strict k_steps
        rw [greatestF_of hM2 hl6] at hK
        exact hK _ _ ⟨rfl, _, _, _, _, _, rfl, ⟨_, rfl⟩, ⟨_, rfl⟩, by assumption, newsSub (by assumption) sub_nil⟩
  · clear hy1 hy2 hD1 hD2
    rintro fl s' ⟨rfl, h5, tk5, lv, gv, m2, rfl, hlv, hgv, F5, N5⟩
    have hgh : handedIn gv = true := by cases e : greatestF (cntF cl false fs) with | none => rw [e] at hgv; cases hgv; rfl | some g => rw [e] at hgv; obtain ⟨_, rfl⟩ := hgv; rfl
    cases e : leastF (cntF cl true fs) with
    | none =>
      rw [e] at hlv ret
      obtain rfl : lv = .none := hlv
      w_strict k_steps
      rename News _ _ _ _ => N6
      refine Ground'.use (by assumption) (by assumption) (newsSub N6 (b := [_, _, _, _]) (sub_mem (.head _) (sub_mem (.tail _ (.head _)) (sub_mem (.tail _ (.tail _ (.head _))) (sub_mem (.tail _ (.tail _ (.tail _ (.head _)))) sub_nil))))) fun Fb Nb Sb => ?_
      refine ret _ _ _ _ _ _ _ _ _ _ _ _ _ rfl hgv ?_ (fun r hr => ⟨Sb _ (.head _) r hr, Sb _ (.tail _ (.head _)) r hr, Sb _ (.tail _ (.tail _ (.head _))) r hr, Sb _ (.tail _ (.tail _ (.tail _ (.head _)))) r hr⟩) Fb Nb
      rw [ran_a] at *; assumption
    | some M =>
      obtain ⟨hM0, hM1⟩ := hn M (leastF_in e)
      rw [e] at hlv ret
      obtain ⟨tl, rfl⟩ := hlv
      w_strict k_steps
      rename News _ _ _ _ => N6
      refine Ground'.use (by assumption) (by assumption) (newsSub N6 (b := [_, _, _, _]) (sub_mem (.head _) (sub_mem (.tail _ (.head _)) (sub_mem (.tail _ (.tail _ (.head _))) (sub_mem (.tail _ (.tail _ (.tail _ (.head _)))) sub_nil))))) fun Fb Nb Sb => ?_
      refine ret _ _ _ _ _ _ _ _ _ _ _ _ _ ⟨_, rfl⟩ hgv ?_ (fun r hr => ⟨Sb _ (.head _) r hr, Sb _ (.tail _ (.head _)) r hr, Sb _ (.tail _ (.tail _ (.head _))) r hr, Sb _ (.tail _ (.tail _ (.tail _ (.head _)))) r hr⟩) Fb Nb
      rw [ran_c hM0 hM1] at *; assumption

end
section
example : True := by w_top off; exact trivial
section
variable {prog : Program} {w : World} {A : Around} {E : Value → Shared → Prop} {s : Shared} {H h1 : Heap} {L e C d t : Addr} {m mA : Str → Option Value} {name : Str} {scope : Scope} {a : Addr} {cd : Value} {fs : List Addr} {Tb : Addr}
  {b₀ : Stmt} {suite : List Stmt} {pos np : Pos} {rest : List ExceptHandler} {Q : Flow → Shared → Prop} {KF : Frag} {p : Program} {loose : List Str} {mg mb : Str → Option Value} {x : Str}
/-- caught by its class's name, bound to none -/
theorem caughtX (F : Fr H L s.heap m) (X : KF.In H) (T : TopRead p loose mg mb H) (ex : nsIn KF mainGlobals x = some (some (.ref C))) (hC : IsExcCls s.heap C) (y : Flying h1 s.heap fs e C d Tb mA)
    (hH : ∀ b o, H.get? b = some o → b ∉ fs ∧ b ∉ ([] : List Addr)) (F0 : Fr H L h1 m)
    (k : ∀ h2, Flying h1 h2 fs e C d Tb mA → Fr H L h2 m →
      wpAny (model prog w) (A.mark (some (.ref e))) (execs (b₀ :: suite) (envOf name scope L a cd)) Q (fun _ _ => False) { s with heap := h2 })
    (hk : scope.kind = .function) (hx : (envOf name scope L a cd).kindOf x = some .globalImplicit) (hd : (x == ("__debug__" : Str)) = false) :
    wpAny (model prog w) A (handleBy (.ref e) (envOf name scope L a cd) (.ExceptHandler (some (.Name x np)) none (b₀ :: suite) pos :: rest)) Q E s := by
  refine wpAny_handleBy_cons (codeAny_handlers_test (name_K F X T ex ?_ hk hx hd)) (by intro q; cases q)
  obtain ⟨nm, q, N, bs, bm, hdct, sn, sub, ab, col, dd, k0, k1, k2, k3, k5, newId, hC, hbase⟩ := hC
  obtain ⟨vs, oT, ts, he, hv1, hTe, hT, hdT, h3⟩ := id y.exc
  obtain ⟨hp, g, dr, tk, os⟩ := s
  refine wpAny_excMatches_sub_self hC he rfl hbase (codeAny_handlers_suite ?_)
  refine away_flight y fun h2 y2 => ?_
  have F2 := frAway F0 y2.away hH List.not_mem_nil
  exact wpAny_mono (k h2 y2 F2) (fun f s' q => q) fun _ _ q => q.elim
end
abbrev shortNs (tx : Str) (t2 : Tok) : Str → Option Value := fun y => if y = Str.ofString "text" then some (.str tx t2) else none
/-- the stream's exception is made and leaves its frame -/
theorem raiseShort {H : Heap} (X : (hd.heap_1 w.params).In H) (T : Top hd.view_1 (looseW hd.view_1 []) mean mg mb H) {L : Addr} {m : Str → Option Value} {hp : Heap} {tk0 : Tok} {Q E : Value → Shared → Prop} {A : Around} {env : Env} {outer : List Env} {fr : List (Addr × Obj)} {s0 : Heap} {tx : Str} {t4 : Tok} (F : Fr H L hp m) (N : News H L hp fr) (Fs : TI.Frs outer fr)
  (a : Away (adr fr) [] s0 hp) (n1 : s0.get? L = none) (hx : tx.length < 1000)
  (bad : ∀ e d T h' tk', Flying s0 h' (adr fr) e 71 d T (shortNs tx t4) → E (.ref e) {s with heap := h', toks := tk'})
  (hf : env.frame = some L) (hke : env.scope.kind ≠ .module) (hh : A.handled = none) (hfr : A.frames = some (env :: outer)) (hd : A.depth ≤ 150 + 300) (hu : A.units ≤ 600) :
  wpAny (model PySem.Challenge.rw_sj0117_01.row.prog w) A (call (.ref 71) [.str tx t4]) (RaisedX fun e s' => wpAny (model PySem.Challenge.rw_sj0117_01.row.prog w) A (leaving env e) (fun _ s'' => E e s'') (fun e' s'' => E e' s'') s') Q {s with heap := hp, toks := tk0} := by
  refine wp_at (f := ⟨hh, hd, hu⟩) (mkShort X T F hx ?_)
  intro e d h' tk' st he hdn de x ns
  refine ⟨e, d, 71, rfl, isExc71 ((X.keeps F.keep).keeps st), x, ?_⟩
  exact fly0 hfr hf hke F N Fs a n1 st he hdn de x ns fun h2 T' fl => bad e d T' h2 _ fl
set_option maxHeartbeats 2000000 in
theorem getvar_short {H : Heap} (X : (hd.heap_1 w.params).In H) (T : Top hd.view_1 (looseW hd.view_1 []) mean mg mb H) {L : Addr} {m : Str → Option Value} {hp : Heap} {tk0 : Tok} {Q E : Value → Shared → Prop} {env : Env} {outer : List Env} {fr : List (Addr × Obj)} {b : Array UInt8} {ks : List Int} {i : Int} {t1 t2 : Tok} (F : Fr H L hp m) (N : News H L hp ([] ++ fr)) (Fs : TI.Frs outer fr) (hf : env.frame = some L) (hke : env.scope.kind ≠ .module)
  (hk : KBw.bInts b = ks) (h0 : 0 ≤ i) (h1 : ks.length ≤ i) (hb : ks.length < 1000)
  (bad : ∀ e d T tx t4 h' tk', Flying hp h' (L :: adr fr) e 71 d T (shortNs tx t4) → E (.ref e) {s with heap := h', toks := tk'}) :
  wpAny (model PySem.Challenge.rw_sj0117_01.row.prog w) (AF (env :: outer) 130) (call (.ref 110) [.bytes b t1, .int i t2]) Q E {s with heap := hp, toks := tk0} := by
  refine wpAny_call ?_
  refine' enterX (binds := [(Str.ofString "data", .bytes b t1), (Str.ofString "at", .int i t2)]) (tgt := []) (by assumption) (by assumption) (by assumption) (by assumption) (by assumption) (by assumption) (by assumption) ?k5 ?k6 ?k7 (by first | decide | k_room | exact Nat.le_of_ble_eq_true rfl) ?k9 ?kB ?_ ?c2 ?c3 ?c4 ?c5
  ((case k5 => first | assumption | exact (fun q hq => absurd hq List.not_mem_nil)); (case k6 => k_is); (case k7 => k_is); (case k9 => exact BindsTo.of_eq (by first | rfl | kernel_rfl | with_unfolding_all rfl)); (case kB => exact locs rfl); (case c2 => exact rfl); (case c3 => exact rfl); (case c4 => exact rfl); (case c5 => decide))
  intro H1 L1 h₁ fr1 X1 T1 G1 Fs1 ea1 tf1 nL1 old1 F1 N1 l2
  replace l2 := PySem.W.allLt_of l2
  (try dsimp only [PySem.W.AllLt] at l2); (try dsimp only); (try k_fold); (try rw [← ea1] at G1)
  clear X T F N
  w_strict k_steps
  all_goals try (exfalso; omega)
  rename Fr _ _ _ _ => F2
  rename News _ _ _ _ => N2
  refine raiseShort (hf := by rfl) (hke := by exact funK rfl) (hh := by rfl) (hfr := by rfl) (hd := by exact Nat.le_of_ble_eq_true rfl) (hu := by exact Nat.le_of_ble_eq_true rfl) (fr := fr1) X1 T1 F2 N2 Fs1 (away_of (tgt := []) G1 F2.keep old1 (TI.SameUp.refl _) fun q hq => (N2 q hq).1) nL1 (by decide) fun e d T' h' tk' fl => ?_
  rw [ea1] at fl
  exact bad _ _ _ _ _ _ _ fl

end
section
example : True := by w_top off; exact trivial
/-- the octets of a number that the law writes -/
def octs (n : Int) : List Int := if n < 64 then [n] else [64, 70]
def isNum (n : Int) : Prop := 0 ≤ n ∧ n < 64 ∨ n = 70
theorem getD_of_drop {ks post : List Int} {i : Nat} {n : Int} (h : ks.drop i = n :: post) : i < ks.length ∧ ks.getD i 0 = n ∧ ks.drop (i + 1) = post := by
  have hl : i < ks.length := by
    rcases Nat.lt_or_ge i ks.length with q | q
    · exact q
    · rw [List.drop_eq_nil_of_le q] at h; cases h
  rw [List.drop_eq_getElem_cons hl] at h
  injection h with h1 h2
  exact ⟨hl, by rw [List.getD_eq_getElem?_getD, List.getElem?_eq_getElem hl]; exact h1, h2⟩
set_option maxHeartbeats 1000000 in
theorem getvar2 {H : Heap} (X : (hd.heap_1 w.params).In H) (T : Top hd.view_1 (looseW hd.view_1 []) mean mg mb H) {L : Addr} {m : Str → Option Value} {hp : Heap} {tk0 : Tok} {Q E : Value → Shared → Prop} {b : Array UInt8} {ks : List Int} {i : Int} {t1 t2 : Tok} {news : List (Addr × Obj)}
  (F : Fr H L hp m) (N : News H L hp news) (hk : KBw.bInts b = ks) (h0 : 0 ≤ i) (h1 : i + 1 < ks.length) (hb : ks.length < 1000) (g1 : ks.getD i.toNat 0 = 64) (g2 : getW ks i 2 = 16454)
  (ret : ∀ a t3 t4 h' tk', (∀ r ∈ news, r.1 ≠ a) → Fr H L h' m → News H L h' ((a, tupO [.int 70 t3, .int (i + 2) t4]) :: news) → Q (.ref a) {s with heap := h', toks := tk'}) :
  wpAny (model PySem.Challenge.rw_sj0117_01.row.prog w) (AA 130) (call (.ref 110) [.bytes b t1, .int i t2]) Q E {s with heap := hp, toks := tk0} := by
  refine wpAny_call ?_
  have N0 : News H L hp ([] ++ news) := N
  refine' enterQ (binds := [(Str.ofString "data", .bytes b t1), (Str.ofString "at", .int i t2)]) (by assumption) (by assumption) (by assumption) (by assumption) (fun _ h => absurd h List.not_mem_nil) ?k6 ?k7 (by first | decide | k_room | exact Nat.le_of_ble_eq_true rfl) ?k9 ?kB ?_ ?c2 ?c3 ?c4 ?c5
  ((case k6 => k_is); (case k7 => k_is); (case k9 => exact BindsTo.of_eq (by first | rfl | kernel_rfl | with_unfolding_all rfl)); (case kB => exact locs rfl); (case c2 => exact rfl); (case c3 => exact rfl); (case c4 => exact rfl); (case c5 => decide); (intro xH xL xh xX xT xG xlk xF xN xl1 xl2 xl4); (replace xl1 := ltN xl1); (replace xl2 := PySem.W.allLt_of xl2); (try dsimp only [PySem.W.AllLt] at xl2); (try dsimp only); (try k_fold))
  clear F N0 N X T
  have t75 := tupK (by assumption) (show (hd.heap_1 w.params).lookup 75 = some _ from by k_is)
  have hg : 0 ≤ ks.getD i.toNat 0 := by omega
  w_strict k_steps
  rw [g1, show (64 : Int).fdiv (2 ^ Int.toNat 6) = 1 from by decide]
  w_strict k_steps
  refine wp_at (f := by exact ⟨rfl, Nat.le_of_ble_eq_true rfl, Nat.le_of_ble_eq_true rfl⟩) (getwhole (by assumption) (by assumption) (by assumption) (by assumption) hk h0 (by decide) (by omega) hb ?_)
  intro v t h' tk' hv F N
  w_strict k_steps
  refine Ground'.use (by assumption) (by assumption) (by assumption) fun Fb Nb Sb => ?_
  rw [hv, g2, show Builtin.bitAnd 16454 (1 * 2 ^ (8 * 2 - 2 : Int).toNat - 1) = 70 from by decide +kernel] at Nb Sb
  exact ret _ _ _ _ _ (Sb _ (.head _)) Fb Nb
theorem getnum {H : Heap} (X : (hd.heap_1 w.params).In H) (T : Top hd.view_1 (looseW hd.view_1 []) mean mg mb H) {L : Addr} {m : Str → Option Value} {hp : Heap} {tk0 : Tok} {Q E : Value → Shared → Prop} {b : Array UInt8} {ks post : List Int} {i n : Int} {t1 t2 : Tok} {news : List (Addr × Obj)}
  (F : Fr H L hp m) (N : News H L hp news) (hk : KBw.bInts b = ks) (h0 : 0 ≤ i) (hn : isNum n) (hd' : ks.drop i.toNat = octs n ++ post) (hb : ks.length < 1000)
  (ret : ∀ a t3 t4 h' tk', (∀ r ∈ news, r.1 ≠ a) → Fr H L h' m → News H L h' ((a, tupO [.int n t3, .int (i + (octs n).length) t4]) :: news) → Q (.ref a) {s with heap := h', toks := tk'}) :
  wpAny (model PySem.Challenge.rw_sj0117_01.row.prog w) (AA 130) (call (.ref 110) [.bytes b t1, .int i t2]) Q E {s with heap := hp, toks := tk0} := by
  rcases hn with ⟨n0, n1⟩ | rfl
  · have e : octs n = [n] := by unfold octs; rw [if_pos n1]
    rw [e] at hd' ret
    obtain ⟨z1, z2, z3⟩ := getD_of_drop hd'
    refine getvar X T F N hk h0 (by omega) hb (by rw [z2]; exact n1) (by rw [z2]; exact n0) ?_
    rw [z2]
    exact ret
  · have e : octs 70 = [64, 70] := rfl
    rw [e] at hd' ret
    obtain ⟨z1, z2, z3⟩ := getD_of_drop hd'
    obtain ⟨y1, y2, y3⟩ := getD_of_drop z3
    refine getvar2 X T F N hk h0 (by omega) hb z2 ?_ ret
    unfold getW
    rw [hd']; rfl
set_option maxHeartbeats 1000000 in
theorem wholenum {H : Heap} (X : (hd.heap_1 w.params).In H) (T : Top hd.view_1 (looseW hd.view_1 []) mean mg mb H) {L : Addr} {m : Str → Option Value} {hp : Heap} {tk0 : Tok} {Q E : Value → Shared → Prop} {b : Array UInt8} {ks post : List Int} {i n : Int} {t1 t2 : Tok} {news : List (Addr × Obj)}
  (F : Fr H L hp m) (N : News H L hp news) (hk : KBw.bInts b = ks) (h0 : 0 ≤ i) (hn : isNum n) (hd' : ks.drop i.toNat = octs n ++ post) (hb : ks.length < 1000)
  (ret : ∀ a t3 t4 h' tk', (∀ r ∈ news, r.1 ≠ a) → Fr H L h' m → News H L h' ((a, tupO [.int n t3, .int (i + (octs n).length) t4]) :: news) → Q (.ref a) {s with heap := h', toks := tk'}) :
  wpAny (model PySem.Challenge.rw_sj0117_01.row.prog w) (AA 125) (call (.ref 144) [.bytes b t1, .int i t2]) Q E {s with heap := hp, toks := tk0} := by
  refine wpAny_call ?_
  have N0 : News H L hp ([] ++ news) := N
  refine' enterQ (binds := [(Str.ofString "payload", .bytes b t1), (Str.ofString "at", .int i t2)]) (by assumption) (by assumption) (by assumption) (by assumption) (fun _ h => absurd h List.not_mem_nil) ?k6 ?k7 (by first | decide | k_room | exact Nat.le_of_ble_eq_true rfl) ?k9 ?kB ?_ ?c2 ?c3 ?c4 ?c5
  ((case k6 => k_is); (case k7 => k_is); (case k9 => exact BindsTo.of_eq (by first | rfl | kernel_rfl | with_unfolding_all rfl)); (case kB => exact locs rfl); (case c2 => exact rfl); (case c3 => exact rfl); (case c4 => exact rfl); (case c5 => decide); (intro xH xL xh xX xT xG xlk xF xN xl1 xl2 xl4); (replace xl1 := ltN xl1); (replace xl2 := PySem.W.allLt_of xl2); (try dsimp only [PySem.W.AllLt] at xl2); (try dsimp only); (try k_fold))
  clear F N0 N X T
  w_strict k_steps
  refine wp_at (f := by exact ⟨rfl, Nat.le_of_ble_eq_true rfl, Nat.le_of_ble_eq_true rfl⟩) (getnum (by assumption) (by assumption) (by assumption) (by assumption) hk h0 hn hd' hb ?_)
  intro a t3 t4 h' tk' hne F N
  w_strict k_steps
  refine Ground'.use (by assumption) (by assumption) (by assumption) fun Fb Nb Sb => ?_
  exact ret _ _ _ _ _ (Sb _ (.head _)) Fb Nb

end
section
example : True := by w_top off; exact trivial
theorem ints_mem {vs : List Value} {ns : List Int} (h : IntsAre vs ns) {y : Value} (hy : y ∈ vs) : ∃ k t, y = .int k t ∧ k ∈ ns := by
  obtain ⟨i, hi⟩ := List.mem_iff_getElem?.mp hy
  obtain ⟨n, t, e, h2⟩ := IntsAre.at h i y hi
  exact ⟨n, t, e, List.mem_of_getElem? h2⟩
section
variable {w : World} {H : Heap} {L : Addr} {m : Str → Option Value} {A : Around} {s : Shared} {n : Int} {u : Tok} {Q : Value → Shared → Prop} {E : Value → Shared → Prop}
theorem notInTup {prog : Program} {a : Addr} {vs : List Value} {ns : List Int} (ht : IsTup s.heap a vs.toArray) (hi : IntsAre vs ns) (hn : n ∉ ns) (h : Q (.bool false) s) : wpAny (model prog w) A (compareOp .In (.int n u) (.ref a)) Q E s := by
  refine SeqAt.in_tupleAt (fun y => match y with | .int k _ => k == n | _ => false) ht (fun y hy => ?_) ?_
  · obtain ⟨k, t, rfl, _⟩ := ints_mem hi (List.mem_toArray.mp hy)
    exact SeqAt.EqAt.int_int k t n u
  · rw [show (vs.toArray.any fun y => match y with | .int k _ => k == n | _ => false) = false from ?_]
    · exact h
    · rw [List.any_toArray, List.any_eq_false]
      intro y hy
      obtain ⟨k, t, rfl, hk⟩ := ints_mem hi hy
      try dsimp only
      intro e
      rw [beq_iff_eq] at e
      exact hn (e ▸ hk)
theorem in116 (X : (hd.heap_1 w.params).In H) (F : Fr H L s.heap m) (hn : n ∉ [0, 2, 3, 4, 5]) (h : Q (.bool false) s) : wpAny (model PySem.Challenge.rw_sj0117_01.row.prog w) A (compareOp .In (.int n u) (.ref 116)) Q E s :=
  notInTup (ns := [0, 2, 3, 4, 5]) ((tupK X (show (hd.heap_1 w.params).lookup 116 = some _ from by k_is)).keeps F.keep) (.cons _ _ (.cons _ _ (.cons _ _ (.cons _ _ (.cons _ _ .nil))))) hn h
theorem in115 (X : (hd.heap_1 w.params).In H) (F : Fr H L s.heap m) (hn : n ∉ [2, 6, 8, 9]) (h : Q (.bool false) s) : wpAny (model PySem.Challenge.rw_sj0117_01.row.prog w) A (compareOp .In (.int n u) (.ref 115)) Q E s :=
  notInTup (ns := [2, 6, 8, 9]) ((tupK X (show (hd.heap_1 w.params).lookup 115 = some _ from by k_is)).keeps F.keep) (.cons _ _ (.cons _ _ (.cons _ _ (.cons _ _ .nil)))) hn h
end

end
local macro_rules | `(tactic| walk_at "compareOp In int ref") => `(tactic| (k_here; k_dflt (first | refine' in116 ?k1 ?k2 ?k3 ?_ | refine' in115 ?k1 ?k2 ?k3 ?_); k_dflt (case k1 => k_asm); k_dflt (case k2 => k_asm); (case k3 => assumption); k_whole))
local macro_rules | `(tactic| walk_at "eval ListComp") => `(tactic| (k_here; lcp_look; k_dflt (refine LCp.ListComp_P (F₀ := by k_asm) (by with_unfolding_all rfl) (by decide) (by rfl) (by decide) (by rfl) (by rfl) (by decide) (stopT ?_))))
local macro_rules | `(tactic| walk_at "WhlIf") => `(tactic| k_dflt (first | refine WhlIf.yes (decide_eq_true (by omega)) ?_ | refine WhlIf.no (decide_eq_false (by omega)) ?_))
section
example : True := by w_top off; exact trivial
set_option maxHeartbeats 600000 in
theorem readsett {H : Heap} (X : (hd.heap_1 w.params).In H) (T : Top hd.view_1 (looseW hd.view_1 []) mean mg mb H) {L : Addr} {m : Str → Option Value} {hp : Heap} {tk0 : Tok} {Q E : Value → Shared → Prop} {b : Array UInt8} {n v : Int} {t1 : Tok} {news : List (Addr × Obj)}
  (F : Fr H L hp m) (N : News H L hp news) (hk : KBw.bInts b = octs n ++ octs v) (hnv : n = 6 ∧ v = 70 ∨ n = 33 ∧ v = 9)
  (ret : ∀ l p nl t3 t4 h' tk', (∀ r ∈ news, @Ne Nat r.1 l ∧ @Ne Nat r.1 p) → @Ne Nat l p → Fr H L h' m → News H L h' ((l, listOf #[.ref p] nl) :: (p, tupO [.int n t3, .int v t4]) :: news) → Q (.ref l) {s with heap := h', toks := tk'}) :
  wpAny (model PySem.Challenge.rw_sj0117_01.row.prog w) (AA 110) (call (.ref 149) [.bytes b t1]) Q E {s with heap := hp, toks := tk0} := by
  refine wpAny_call ?_
  have N0 : News H L hp ([] ++ news) := N
  refine' enterQ (binds := [(Str.ofString "payload", .bytes b t1)]) (by assumption) (by assumption) (by assumption) (by assumption) (fun _ h => absurd h List.not_mem_nil) ?k6 ?k7 (by first | decide | k_room | exact Nat.le_of_ble_eq_true rfl) ?k9 ?kB ?_ ?c2 ?c3 ?c4 ?c5
  ((case k6 => k_is); (case k7 => k_is); (case k9 => exact BindsTo.of_eq (by first | rfl | kernel_rfl | with_unfolding_all rfl)); (case kB => exact locs rfl); (case c2 => exact rfl); (case c3 => exact rfl); (case c4 => exact rfl); (case c5 => decide); (intro xH xL xh xX xT xG xlk xF xN xl1 xl2 xl4); (replace xl1 := ltN xl1); (replace xl2 := PySem.W.allLt_of xl2); (try dsimp only [PySem.W.AllLt] at xl2); (try dsimp only); (try k_fold))
  clear F N0 N X T
  generalize he : octs n ++ octs v = ks at hk
  have hn : isNum n := by rcases hnv with ⟨rfl, rfl⟩ | ⟨rfl, rfl⟩ <;> exact .inl ⟨by decide, by decide⟩
  have hv : isNum v := by rcases hnv with ⟨rfl, rfl⟩ | ⟨rfl, rfl⟩ <;> first | exact .inr rfl | exact .inl ⟨by decide, by decide⟩
  have h1n : (octs n).length = 1 := by rcases hnv with ⟨rfl, rfl⟩ | ⟨rfl, rfl⟩ <;> rfl
  have h2n : 0 < (octs v).length ∧ (octs v).length < 3 := by rcases hnv with ⟨rfl, rfl⟩ | ⟨rfl, rfl⟩ <;> decide
  have hkl : ks.length = (octs n).length + (octs v).length := by rw [← he, List.length_append]
  have hkb : ks.length < 1000 := by omega
  have hd0 : ks.drop (0 : Int).toNat = octs n ++ octs v := he.symm
  have hd1 : ks.drop (1 : Int).toNat = octs v ++ [] := by
    rw [← he, List.append_nil]
    exact (congrArg (fun k => List.drop k (octs n ++ octs v)) h1n.symm).trans List.drop_left
  have hn2 : n = 6 ∨ n = 33 := hnv.imp (·.1) (·.1)
  clear he hnv
  w_strict k_steps
  rename Fr _ _ _ _ => F1
  rename News _ _ _ _ => N1
  refine wp_at (f := by exact ⟨rfl, Nat.le_of_ble_eq_true rfl, Nat.le_of_ble_eq_true rfl⟩) (wholenum (i := 0) (n := n) (ks := ks) (post := octs v) (by assumption) (by assumption) F1 N1 hk (by decide) hn hd0 hkb ?_)
  clear F1 N1
  intro a1 t3 t4 h1 tk1 hne1 F1 N1
  replace hne1 := allNe_of hne1
  dsimp only [AllNe] at hne1
  rw [show (0 : Int) + ((octs n).length : Int) = 1 by omega] at N1
  w_strict k_steps
  rename Fr _ _ _ _ => F1
  rename News _ _ _ _ => N1
  refine wp_at (f := by exact ⟨rfl, Nat.le_of_ble_eq_true rfl, Nat.le_of_ble_eq_true rfl⟩) (wholenum (i := 1) (n := v) (ks := ks) (post := []) (by assumption) (by assumption) F1 N1 hk (by decide) hv hd1 hkb ?_)
  clear F1 N1
  intro a2 t5 t6 h2 tk2 hne2 F1 N1
  replace hne2 := allNe_of hne2
  dsimp only [AllNe] at hne2
  have hn3 : n ∉ [0, 2, 3, 4, 5] := by rcases hn2 with e | e <;> (rw [e]; decide)
  w_strict k_steps
  refine unstop (LCp.SrcLP.ledger (its := #[]) (by rfl) (by k_asm) (by k_asm) (by k_mem) (by decide) ?_)
  intro gh
  refine LCp.CompRestP.zero ?_
  w_strict k_steps
  try dsimp only
  rename Fr _ _ _ _ => F5
  rename News _ _ _ _ => N5
  refine Ground'.use (by assumption) F5 (newsSub N5 (b := [_, _]) (sub_mem (.tail _ (.tail _ (.tail _ (.tail _ (.tail _ (.head _)))))) (sub_mem (.head _) sub_nil))) fun Fb Nb Sb => ?_
  refine ret _ _ _ _ _ _ _ (fun r hr => ⟨Sb _ (.head _) r hr, Sb _ (.tail _ (.head _)) r hr⟩) ?_ Fb Nb
  (try dsimp only); omega

end
section
example : True := by w_top off; exact trivial
theorem bInts_inj {b c : Array UInt8} (h : KBw.bInts b = KBw.bInts c) : b = c := by
  unfold KBw.bInts at h
  have key : ∀ (x y : List UInt8), x.map (fun k => (k.toNat : Int)) = y.map (fun k => (k.toNat : Int)) → x = y := by
    intro x
    induction x with
    | nil => intro y h; cases y with | nil => rfl | cons _ _ => cases h
    | cons a x ih =>
      intro y h
      cases y with
      | nil => cases h
      | cons c y =>
        rw [List.map_cons, List.map_cons] at h
        injection h with h1 h2
        rw [ih y h2, UInt8.toNat_inj.mp (Int.ofNat.inj h1)]
  exact Array.toList_inj.mp (key _ _ h)
def kindF : Fm → Int
  | .sett | .sett2 => 4
  | .goaway _ => 7
  | .maxp _ => 13
  | .canc _ => 3
  | .unk => 33
  | .hdr => 1
  | .dat => 0
def payF : Fm → List Int
  | .sett => [6, 64, 70]
  | .sett2 => [33, 9]
  | .goaway n | .maxp n | .canc n => [n]
  | .unk => [117]
  | .hdr => [104]
  | .dat => []
/-- the octets of a frame -/
def enc (f : Fm) : List Int := kindF f :: ((payF f).length : Int) :: payF f
def fsmall : Fm → Prop
  | .goaway n | .maxp n | .canc n => 0 ≤ n ∧ n < 64
  | _ => True
set_option maxHeartbeats 1000000 in
theorem readonly {H : Heap} (X : (hd.heap_1 w.params).In H) (T : Top hd.view_1 (looseW hd.view_1 []) mean mg mb H) {L : Addr} {m : Str → Option Value} {hp : Heap} {tk0 : Tok} {Q E : Value → Shared → Prop} {b : Array UInt8} {n : Int} {x : Str} {t1 t2 : Tok} {news : List (Addr × Obj)}
  (F : Fr H L hp m) (N : News H L hp news) (hk : KBw.bInts b = [n]) (h0 : 0 ≤ n) (h1 : n < 64)
  (ret : ∀ a t3 h' tk', (∀ r ∈ news, r.1 ≠ a) → Fr H L h' m → News H L h' ((a, tupO [.str x t2, .int n t3]) :: news) → Q (.ref a) {s with heap := h', toks := tk'}) :
  wpAny (model PySem.Challenge.rw_sj0117_01.row.prog w) (AA 110) (call (.ref 156) [.str x t2, .bytes b t1]) Q E {s with heap := hp, toks := tk0} := by
  refine wpAny_call ?_
  have N0 : News H L hp ([] ++ news) := N
  refine' enterQ (binds := [(Str.ofString "name", .str x t2), (Str.ofString "payload", .bytes b t1)]) (by assumption) (by assumption) (by assumption) (by assumption) (fun _ h => absurd h List.not_mem_nil) ?k6 ?k7 (by first | decide | k_room | exact Nat.le_of_ble_eq_true rfl) ?k9 ?kB ?_ ?c2 ?c3 ?c4 ?c5
  ((case k6 => k_is); (case k7 => k_is); (case k9 => exact BindsTo.of_eq (by first | rfl | kernel_rfl | with_unfolding_all rfl)); (case kB => exact locs rfl); (case c2 => exact rfl); (case c3 => exact rfl); (case c4 => exact rfl); (case c5 => decide); (intro xH xL xh xX xT xG xlk xF xN xl1 xl2 xl4); (replace xl1 := ltN xl1); (replace xl2 := PySem.W.allLt_of xl2); (try dsimp only [PySem.W.AllLt] at xl2); (try dsimp only); (try k_fold))
  clear F N0 N X T
  generalize he : [n] = ks at hk
  have hkl : ks.length = 1 := by rw [← he]; rfl
  have hkb : ks.length < 1000 := by omega
  have e1 : octs n = [n] := by unfold octs; rw [if_pos h1]
  w_strict k_steps
  rename Fr _ _ _ _ => F1
  rename News _ _ _ _ => N1
  refine wp_at (f := by exact ⟨rfl, Nat.le_of_ble_eq_true rfl, Nat.le_of_ble_eq_true rfl⟩) (wholenum (i := 0) (n := n) (ks := ks) (post := []) (by assumption) (by assumption) F1 N1 hk (by decide) (.inl ⟨h0, h1⟩) (by rw [← he, e1]; rfl) hkb ?_)
  clear F1 N1
  intro a1 t3 t4 h1 tk1 hne1 F1 N1
  rw [e1, show (0 : Int) + ((([n] : List Int).length : Nat) : Int) = 1 from rfl] at N1
  w_strict k_steps
  all_goals try (exfalso; omega)
  rename Fr _ _ _ _ => F5
  rename News _ _ _ _ => N5
  refine Ground'.use (by assumption) F5 (newsSub N5 (b := [_]) (sub_mem (.head _) sub_nil)) fun Fb Nb Sb => ?_
  exact ret _ _ _ _ (Sb _ (.head _)) Fb Nb
set_option maxHeartbeats 4000000 in
theorem readpay_a {H : Heap} (X : (hd.heap_1 w.params).In H) (T : Top hd.view_1 (looseW hd.view_1 []) mean mg mb H) {L : Addr} {m : Str → Option Value} {hp : Heap} {tk0 : Tok} {Q E : Value → Shared → Prop} {b : Array UInt8} {f : Fm} {t1 t2 : Tok} {news : List (Addr × Obj)}
  (F : Fr H L hp m) (N : News H L hp news) (hk : KBw.bInts b = payF f) (hf : f = .dat ∨ f = .hdr ∨ f = .unk)
  (ret : ∀ v tl h' tk', IsFm tl v f → (∀ q ∈ tl, ∀ r ∈ news, r.1 ≠ q.1) → Fr H L h' m → News H L h' (tl ++ news) → Q v {s with heap := h', toks := tk'}) :
  wpAny (model PySem.Challenge.rw_sj0117_01.row.prog w) (AA 100) (call (.ref 163) [.int (kindF f) t1, .bytes b t2]) Q E {s with heap := hp, toks := tk0} := by
  refine wpAny_call ?_
  have N0 : News H L hp ([] ++ news) := N
  refine' enterQ (binds := [(Str.ofString "kind", .int (kindF f) t1), (Str.ofString "payload", .bytes b t2)]) (by assumption) (by assumption) (by assumption) (by assumption) (fun _ h => absurd h List.not_mem_nil) ?k6 ?k7 (by first | decide | k_room | exact Nat.le_of_ble_eq_true rfl) ?k9 ?kB ?_ ?c2 ?c3 ?c4 ?c5
  ((case k6 => k_is); (case k7 => k_is); (case k9 => exact BindsTo.of_eq (by first | rfl | kernel_rfl | with_unfolding_all rfl)); (case kB => exact locs rfl); (case c2 => exact rfl); (case c3 => exact rfl); (case c4 => exact rfl); (case c5 => decide); (intro xH xL xh xX xT xG xlk xF xN xl1 xl2 xl4); (replace xl1 := ltN xl1); (replace xl2 := PySem.W.allLt_of xl2); (try dsimp only [PySem.W.AllLt] at xl2); (try dsimp only); (try k_fold))
  clear F N0 N X T
  have hn1 : kindF f ∉ [2, 6, 8, 9] := by rcases hf with rfl | rfl | rfl <;> decide
  rcases hf with rfl | rfl | rfl
  · dsimp only [kindF] at *
    obtain rfl : b = #[] := bInts_inj hk
    w_strict k_steps
    refine Ground'.use (by assumption) (by assumption) (by assumption) fun Fb Nb Sb => ?_
    exact ret _ _ _ _ ⟨_, _, _, rfl, .head _⟩ Sb Fb Nb
  · dsimp only [kindF] at *
    obtain rfl : b = #[104] := bInts_inj hk
    w_strict k_steps
    refine Ground'.use (by assumption) (by assumption) (by assumption) fun Fb Nb Sb => ?_
    exact ret _ _ _ _ ⟨_, _, _, rfl, .head _⟩ Sb Fb Nb
  · dsimp only [kindF] at *
    obtain rfl : b = #[117] := bInts_inj hk
    have t114 := tupK (by assumption) (show (hd.heap_1 w.params).lookup 114 = some _ from by k_is)
    w_strict k_steps
    rename Fr _ _ _ _ => F5
    rename News _ _ _ _ => N5
    refine Ground'.use (by assumption) F5 (newsSub N5 (b := [_]) (sub_mem (.head _) sub_nil)) fun Fb Nb Sb => ?_
    exact ret _ _ _ _ ⟨_, _, _, _, rfl, .head _⟩ Sb Fb Nb
set_option maxHeartbeats 4000000 in
theorem readpay_s {H : Heap} (X : (hd.heap_1 w.params).In H) (T : Top hd.view_1 (looseW hd.view_1 []) mean mg mb H) {L : Addr} {m : Str → Option Value} {hp : Heap} {tk0 : Tok} {Q E : Value → Shared → Prop} {b : Array UInt8} {f : Fm} {t1 t2 : Tok} {news : List (Addr × Obj)}
  (F : Fr H L hp m) (N : News H L hp news) (hk : KBw.bInts b = payF f) (hf : f = .sett ∨ f = .sett2)
  (ret : ∀ v tl h' tk', IsFm tl v f → (∀ q ∈ tl, ∀ r ∈ news, r.1 ≠ q.1) → Fr H L h' m → News H L h' (tl ++ news) → Q v {s with heap := h', toks := tk'}) :
  wpAny (model PySem.Challenge.rw_sj0117_01.row.prog w) (AA 100) (call (.ref 163) [.int (kindF f) t1, .bytes b t2]) Q E {s with heap := hp, toks := tk0} := by
  have hkk : kindF f = 4 := by rcases hf with rfl | rfl <;> rfl
  rw [hkk]
  obtain ⟨n, v, hnv, hpay, hres⟩ : ∃ n v, (n = 6 ∧ v = 70 ∨ n = 33 ∧ v = 9) ∧ payF f = octs n ++ octs v ∧ ∀ tl a t1 l nl p t2 t3, (a, tupO [sv "settings" t1, .ref l]) ∈ tl → (l, listOf #[.ref p] nl) ∈ tl → (p, tupO [.int n t2, .int v t3]) ∈ tl → IsFm tl (.ref a) f := by
    rcases hf with rfl | rfl
    · exact ⟨6, 70, .inl ⟨rfl, rfl⟩, rfl, fun tl a t1 l nl p t2 t3 h1 h2 h3 => ⟨a, t1, l, nl, p, t2, t3, rfl, h1, h2, h3⟩⟩
    · exact ⟨33, 9, .inr ⟨rfl, rfl⟩, rfl, fun tl a t1 l nl p t2 t3 h1 h2 h3 => ⟨a, t1, l, nl, p, t2, t3, rfl, h1, h2, h3⟩⟩
  rw [hpay] at hk
  clear hpay hkk hf
  refine wpAny_call ?_
  have N0 : News H L hp ([] ++ news) := N
  refine' enterQ (binds := [(Str.ofString "kind", .int 4 t1), (Str.ofString "payload", .bytes b t2)]) (by assumption) (by assumption) (by assumption) (by assumption) (fun _ h => absurd h List.not_mem_nil) ?k6 ?k7 (by first | decide | k_room | exact Nat.le_of_ble_eq_true rfl) ?k9 ?kB ?_ ?c2 ?c3 ?c4 ?c5
  ((case k6 => k_is); (case k7 => k_is); (case k9 => exact BindsTo.of_eq (by first | rfl | kernel_rfl | with_unfolding_all rfl)); (case kB => exact locs rfl); (case c2 => exact rfl); (case c3 => exact rfl); (case c4 => exact rfl); (case c5 => decide); (intro xH xL xh xX xT xG xlk xF xN xl1 xl2 xl4); (replace xl1 := ltN xl1); (replace xl2 := PySem.W.allLt_of xl2); (try dsimp only [PySem.W.AllLt] at xl2); (try dsimp only); (try k_fold))
  clear F N0 N X T
  have hn1 : (4 : Int) ∉ [2, 6, 8, 9] := by decide
  w_strict k_steps
  rename Fr _ _ _ _ => F1
  rename News _ _ _ _ => N1
  refine wp_at (f := by exact ⟨rfl, Nat.le_of_ble_eq_true rfl, Nat.le_of_ble_eq_true rfl⟩) (readsett (by assumption) (by assumption) F1 N1 hk hnv ?_)
  clear F1 N1
  intro l p nl t3 t4 h' tk' hne hlp F1 N1
  w_strict k_steps
  refine Ground'.use (by assumption) (by assumption) (by assumption) fun Fb Nb Sb => ?_
  exact ret _ _ _ _ (hres _ _ _ _ _ _ _ _ (.head _) (.tail _ (.head _)) (.tail _ (.tail _ (.head _)))) Sb Fb Nb
set_option maxHeartbeats 4000000 in
theorem readpay_i {H : Heap} (X : (hd.heap_1 w.params).In H) (T : Top hd.view_1 (looseW hd.view_1 []) mean mg mb H) {L : Addr} {m : Str → Option Value} {hp : Heap} {tk0 : Tok} {Q E : Value → Shared → Prop} {b : Array UInt8} {f : Fm} {t1 t2 : Tok} {news : List (Addr × Obj)}
  (F : Fr H L hp m) (N : News H L hp news) (hk : KBw.bInts b = payF f) {n : Int} (hf : f = .goaway n ∨ f = .maxp n ∨ f = .canc n) (h0 : 0 ≤ n) (h1 : n < 64)
  (ret : ∀ v tl h' tk', IsFm tl v f → (∀ q ∈ tl, ∀ r ∈ news, r.1 ≠ q.1) → Fr H L h' m → News H L h' (tl ++ news) → Q v {s with heap := h', toks := tk'}) :
  wpAny (model PySem.Challenge.rw_sj0117_01.row.prog w) (AA 100) (call (.ref 163) [.int (kindF f) t1, .bytes b t2]) Q E {s with heap := hp, toks := tk0} := by
  refine wpAny_call ?_
  have N0 : News H L hp ([] ++ news) := N
  refine' enterQ (binds := [(Str.ofString "kind", .int (kindF f) t1), (Str.ofString "payload", .bytes b t2)]) (by assumption) (by assumption) (by assumption) (by assumption) (fun _ h => absurd h List.not_mem_nil) ?k6 ?k7 (by first | decide | k_room | exact Nat.le_of_ble_eq_true rfl) ?k9 ?kB ?_ ?c2 ?c3 ?c4 ?c5
  ((case k6 => k_is); (case k7 => k_is); (case k9 => exact BindsTo.of_eq (by first | rfl | kernel_rfl | with_unfolding_all rfl)); (case kB => exact locs rfl); (case c2 => exact rfl); (case c3 => exact rfl); (case c4 => exact rfl); (case c5 => decide); (intro xH xL xh xX xT xG xlk xF xN xl1 xl2 xl4); (replace xl1 := ltN xl1); (replace xl2 := PySem.W.allLt_of xl2); (try dsimp only [PySem.W.AllLt] at xl2); (try dsimp only); (try k_fold))
  clear F N0 N X T
  have hn1 : kindF f ∉ [2, 6, 8, 9] := by rcases hf with rfl | rfl | rfl <;> first | exact (by decide : (7 : Int) ∉ [2, 6, 8, 9]) | exact (by decide : (13 : Int) ∉ [2, 6, 8, 9]) | exact (by decide : (3 : Int) ∉ [2, 6, 8, 9])
  rcases hf with rfl | rfl | rfl
  all_goals
    dsimp only [kindF, payF] at *
    w_strict k_steps
    rename Fr _ _ _ _ => F1
    rename News _ _ _ _ => N1
    refine wp_at (f := by exact ⟨rfl, Nat.le_of_ble_eq_true rfl, Nat.le_of_ble_eq_true rfl⟩) (readonly (by assumption) (by assumption) F1 N1 hk h0 h1 ?_)
    clear F1 N1
    intro a t3 h' tk' hne F1 N1
    w_strict k_steps
    rename Fr _ _ _ _ => F5
    rename News _ _ _ _ => N5
    refine Ground'.use (by assumption) F5 (newsSub N5 (b := [_]) (sub_mem (.head _) sub_nil)) fun Fb Nb Sb => ?_
    exact ret _ _ _ _ ⟨_, _, _, rfl, .head _⟩ Sb Fb Nb
theorem readpay {H : Heap} (X : (hd.heap_1 w.params).In H) (T : Top hd.view_1 (looseW hd.view_1 []) mean mg mb H) {L : Addr} {m : Str → Option Value} {hp : Heap} {tk0 : Tok} {Q E : Value → Shared → Prop} {b : Array UInt8} {f : Fm} {t1 t2 : Tok} {news : List (Addr × Obj)}
  (F : Fr H L hp m) (N : News H L hp news) (hk : KBw.bInts b = payF f) (hf : fsmall f)
  (ret : ∀ v tl h' tk', IsFm tl v f → (∀ q ∈ tl, ∀ r ∈ news, r.1 ≠ q.1) → Fr H L h' m → News H L h' (tl ++ news) → Q v {s with heap := h', toks := tk'}) :
  wpAny (model PySem.Challenge.rw_sj0117_01.row.prog w) (AA 100) (call (.ref 163) [.int (kindF f) t1, .bytes b t2]) Q E {s with heap := hp, toks := tk0} := by
  cases f with
  | sett => exact readpay_s X T F N hk (.inl rfl) ret
  | sett2 => exact readpay_s X T F N hk (.inr rfl) ret
  | goaway n => exact readpay_i X T F N hk (.inl rfl) hf.1 hf.2 ret
  | maxp n => exact readpay_i X T F N hk (.inr (.inl rfl)) hf.1 hf.2 ret
  | canc n => exact readpay_i X T F N hk (.inr (.inr rfl)) hf.1 hf.2 ret
  | unk => exact readpay_a X T F N hk (.inr (.inr rfl)) ret
  | hdr => exact readpay_a X T F N hk (.inr (.inl rfl)) ret
  | dat => exact readpay_a X T F N hk (.inl rfl) ret

end
section
example : True := by w_top off; exact trivial
/-- the dict of a FrameStream -/
abbrev fsDict (P : Params) (t : Nat → Tok) (rest : Value) : Obj := dictOf [ent P "most" (t 0) (.int 20 (t 1)), ent P "rest" (t 2) rest] 2
abbrev fsLed (P : Params) (x d : Addr) (t : Nat → Tok) (rest : Value) : List (Addr × Obj) := [(x, instObj 201 d), (d, fsDict P t rest)]
def toks3 (a b c : Tok) : Nat → Tok
  | 0 => a | 1 => b | _ => c
set_option maxHeartbeats 1000000 in
theorem fsinit {H : Heap} (X : (hd.heap_1 w.params).In H) (T : Top hd.view_1 (looseW hd.view_1 []) mean mg mb H) {L : Addr} {m : Str → Option Value} {hp : Heap} {tk0 : Tok} {Q E : Value → Shared → Prop} {tp : Tok} {news : List (Addr × Obj)}
  (F : Fr H L hp m) (N : News H L hp news) 
  (ret : ∀ x d t tb h' tk', @Ne Nat x d → (∀ r ∈ news, @Ne Nat r.1 x ∧ @Ne Nat r.1 d) → Fr H L h' m → News H L h' (fsLed w.params x d t (.bytes #[] tb) ++ news) → Q (.ref x) {s with heap := h', toks := tk'}) :
  wpAny (model PySem.Challenge.rw_sj0117_01.row.prog w) (AA 70) (call (.ref 201) [.int 20 tp]) Q E {s with heap := hp, toks := tk0} := by
  refine' call_cls F X N ?k4 ?k5 ?k6 ?_
  case k4 => k_is
  case k5 => k_is
  case k6 => k_is
  intro x dx h' F1 N1 l1 l2
  replace l2 := ltN l2
  refine' enterQ (binds := [(Str.ofString "self", .ref x), (Str.ofString "most", .int 20 tp)]) (tgt := [(x, instObj 201 dx), (dx, dictOf [] 0)]) (by assumption) (by assumption) (by assumption) (by assumption) (fun q hq r hr => by have z := ltN (l1 r hr); rcases List.mem_cons.mp hq with rfl | hq; exact Nat.ne_of_lt (Nat.lt_trans z l2); cases List.mem_singleton.mp hq; exact Nat.ne_of_lt z) ?k6 ?k7 (by first | decide | k_room | exact Nat.le_of_ble_eq_true rfl) ?k9 ?kB ?_ ?c2 ?c3 ?c4 ?c5
  ((case k6 => k_is); (case k7 => k_is); (case k9 => exact BindsTo.of_eq (by first | rfl | kernel_rfl | with_unfolding_all rfl)); (case kB => exact locs rfl); (case c2 => exact rfl); (case c3 => exact rfl); (case c4 => exact rfl); (case c5 => decide); (intro xH xL xh xX xT xG xlk xF xN xl1 xl2 xl4); (replace xl1 := ltN xl1); (replace xl2 := PySem.W.allLt_of xl2); (try dsimp only [PySem.W.AllLt] at xl2); (try dsimp only); (try k_fold))
  clear F N X T F1 N1
  w_strict k_steps
  refine Ground'.use (by assumption) (by assumption) (by assumption) fun Fb Nb Sb => ?_
  refine ⟨rfl, ret x dx (toks3 _ _ _) _ _ _ (Nat.ne_of_gt l2) (fun r hr => ⟨Sb _ (.head _) r hr, Sb _ (.tail _ (.head _)) r hr⟩) Fb Nb⟩
theorem led_back {tgt : List (Addr × Obj)} {h h' : Heap} (ht : ∀ q ∈ tgt, h.get? q.1 = some q.2) (ht' : ∀ q ∈ tgt, h'.get? q.1 = some q.2) : ∀ b ∈ adr tgt, b ∉ ([] : List Addr) → ∀ o, h.get? b = some o → h'.get? b = some o := fun b hb _ o e => by
  obtain ⟨o', hm⟩ := mem_adr hb
  have z := ht _ hm
  rw [e] at z; cases z
  exact ht' _ hm
theorem newsFlown {H h h' : Heap} {L : Addr} {tgt fr fr2 : List (Addr × Obj)} (N : News H L h (tgt ++ fr)) (x : Away (L :: adr fr) [] h h') (tf : ∀ q ∈ tgt, q.1 ∉ adr fr) (Nfr : News H L h' fr2) : News H L h' (tgt ++ fr2) := fun q hq => by
  rcases List.mem_append.mp hq with hq | hq
  · refine newsAway (newsSub N fun q hq => List.mem_append_left _ hq) x (fun q hq => ⟨fun hm => ?_, List.not_mem_nil⟩) q hq
    rcases List.mem_cons.mp hm with z | z
    · exact (N q (List.mem_append_left _ hq)).2.1 z
    · exact tf q hq z
  · exact Nfr q hq
set_option maxHeartbeats 4000000 in
theorem next_none {H : Heap} (X : (hd.heap_1 w.params).In H) (T : Top hd.view_1 (looseW hd.view_1 []) mean mg mb H) {L : Addr} {m : Str → Option Value} {hp : Heap} {tk0 : Tok} {Q E : Value → Shared → Prop} {env : Env} {outer : List Env} {fr : List (Addr × Obj)} {x d : Addr} {t : Nat → Tok} {b : Array UInt8} {tb : Tok} {ks : List Int} (F : Fr H L hp m) (N : News H L hp (fsLed w.params x d t (.bytes b tb) ++ fr)) (Fs : TI.Frs outer fr) (hf : env.frame = some L) (hke : env.scope.kind ≠ .module)
  (hsep : ∀ q ∈ fsLed w.params x d t (.bytes b tb), q.1 ∉ adr fr) (hxd : @Ne Nat x d) (hk : KBw.bInts b = ks) (hb : ks.length < 500)
  (hks : ks.length = 0 ∨ (∃ k, ks = [k] ∧ 0 ≤ k ∧ k < 64) ∨ ∃ k j p, ks = k :: j :: p ∧ 0 ≤ k ∧ k < 64 ∧ 0 ≤ j ∧ j ≤ 20 ∧ p.length < j ∧ k ∉ [2, 6, 8, 9])
  (ret : ∀ h' tk', Away (L :: adr fr) [] hp h' → Q .none {s with heap := h', toks := tk'}) :
  wpAny (model PySem.Challenge.rw_sj0117_01.row.prog w) (AF (env :: outer) 90) (call (.ref 191) [.ref x]) Q E {s with heap := hp, toks := tk0} := by
  have hh : ∀ q ∈ fsLed w.params x d t (.bytes b tb), hp.get? q.1 = some q.2 := fun q hq => (N q (List.mem_append_left _ hq)).1
  refine wpAny_call ?_
  refine' enterX (binds := [(Str.ofString "self", .ref x)]) (tgt := fsLed w.params x d t (.bytes b tb)) (by assumption) (by assumption) (by assumption) (by assumption) (by assumption) (by assumption) (by assumption) ?k5 ?k6 ?k7 (by first | decide | k_room | exact Nat.le_of_ble_eq_true rfl) ?k9 ?kB ?_ ?c2 ?c3 ?c4 ?c5
  ((case k5 => first | assumption | exact (fun q hq => absurd hq List.not_mem_nil)); (case k6 => k_is); (case k7 => k_is); (case k9 => exact BindsTo.of_eq (by first | rfl | kernel_rfl | with_unfolding_all rfl)); (case kB => exact locs rfl); (case c2 => exact rfl); (case c3 => exact rfl); (case c4 => exact rfl); (case c5 => decide))
  intro H1 L1 h₁ fr1 X1 T1 G1 Fs1 ea1 tf1 nL1 old1 F1 N1 l2
  replace l2 := PySem.W.allLt_of l2
  (try dsimp only [PySem.W.AllLt] at l2); (try dsimp only); (try k_fold); (try rw [← ea1] at G1)
  clear F N X T hsep
  have hkb : ks.length < 1000 := by omega
  rw [← ea1] at ret
  have flown : ∀ {h2 : Heap} {m2 : Str → Option Value} {e dd T' : Addr} {mA : Str → Option Value}, Fr H1 L1 h2 m2 → News H1 L1 h2 (fsLed w.params x d t (.bytes b tb) ++ fr1) → ∀ h3, Flying h2 h3 (L1 :: adr fr1) e 71 dd T' mA → Away (adr fr1) [] hp h3 := fun {h2 m2 e dd T' mA} F2 N2 h3 fl3 => by
    obtain ⟨fr2, hup, Nfr⟩ := frsAway (fr := fr1) (newsSub N2 fun q hq => List.mem_append_right _ hq) fl3.away (fun _ _ => List.not_mem_nil)
    have N4 := newsFlown N2 fl3.away tf1 Nfr
    have F4 := frAway F2 fl3.away (baseApart F2 (newsSub N2 fun q hq => List.mem_append_right _ hq)) List.not_mem_nil
    exact away_back (away_of G1 F4.keep old1 hup fun q hq => (N4 q (List.mem_append_right _ hq)).1) (led_back hh fun q hq => (N4 q (List.mem_append_left _ hq)).1)
  rcases hks with hl | ⟨k, rfl, k0, k1⟩ | ⟨k, j, p, rfl, k0, k1, j0, j1, hpz, hkn⟩
  · w_strict k_steps
    rename Fr _ _ _ _ => F2
    rename News _ _ _ _ => N2
    refine wp_atF (f := by exact ⟨rfl, Nat.le_of_ble_eq_true rfl, Nat.le_of_ble_eq_true rfl⟩) (hf := by rfl) (getvar_short (fr := fr1) (i := 0) X1 T1 F2 (newsSub N2 fun q hq => .tail _ (.tail _ hq)) Fs1 rfl (funK rfl) hk (by decide) (by omega) hkb fun e dd T' tx t4 h' tk' fl => ?_)
    try dsimp only
    refine flyCaught (fr := fr1) rfl rfl (funK rfl) F2 (newsSub N2 fun q hq => .tail _ (.tail _ hq)) Fs1 fl fun h2 T2 fl2 => ?_
    have F3 := frAway F2 fl2.away (baseApart F2 (newsSub N2 fun q hq => .tail _ (.tail _ hq))) List.not_mem_nil
    refine caughtX (hk := by rfl) (hx := by rfl) (hd := by decide) F3 X1 (by k_asm) (by k_is) (isExc71 (X1.keeps F3.keep)) fl2 (baseApart F2 (newsSub N2 fun q hq => .tail _ (.tail _ hq))) F2 fun h3 fl3 F4 => ?_
    have aw := flown F2 N2 h3 fl3
    clear F2 N2 F3 flown
    w_strict k_steps
    exact ret _ _ aw
  · have hd0 : List.drop (0 : Int).toNat [k] = octs k ++ [] := by unfold octs; rw [if_pos k1]; rfl
    have e1 : (0 : Int) + ((octs k).length : Int) = 1 := by unfold octs; rw [if_pos k1]; rfl
    w_strict k_steps
    rename Fr _ _ _ _ => F2
    rename News _ _ _ _ => N2
    refine wp_at (f := by exact ⟨rfl, Nat.le_of_ble_eq_true rfl, Nat.le_of_ble_eq_true rfl⟩) (getnum (i := 0) X1 T1 F2 N2 hk (by decide) (.inl ⟨k0, k1⟩) hd0 hkb ?_)
    clear F2 N2
    intro a t3 t4 h' tk' hne F2 N2
    rw [e1] at N2
    w_strict k_steps
    rename Fr _ _ _ _ => F2
    rename News _ _ _ _ => N2
    replace N2 := newsSub N2 (b := fsLed w.params x d t (.bytes b tb) ++ fr1) (fun q hq => .tail _ hq)
    refine wp_atF (f := by exact ⟨rfl, Nat.le_of_ble_eq_true rfl, Nat.le_of_ble_eq_true rfl⟩) (hf := by rfl) (getvar_short (fr := fr1) (i := 1) X1 T1 F2 (newsSub N2 fun q hq => .tail _ (.tail _ hq)) Fs1 rfl (funK rfl) hk (by decide) (by show ((1 : Nat) : Int) ≤ 1; decide) hkb fun e dd T' tx t4 h' tk' fl => ?_)
    try dsimp only
    refine flyCaught (fr := fr1) rfl rfl (funK rfl) F2 (newsSub N2 fun q hq => .tail _ (.tail _ hq)) Fs1 fl fun h2 T2 fl2 => ?_
    have F3 := frAway F2 fl2.away (baseApart F2 (newsSub N2 fun q hq => .tail _ (.tail _ hq))) List.not_mem_nil
    refine caughtX (hk := by rfl) (hx := by rfl) (hd := by decide) F3 X1 (by k_asm) (by k_is) (isExc71 (X1.keeps F3.keep)) fl2 (baseApart F2 (newsSub N2 fun q hq => .tail _ (.tail _ hq))) F2 fun h3 fl3 F4 => ?_
    have aw := flown F2 N2 h3 fl3
    clear F2 N2 F3 flown
    w_strict k_steps
    exact ret _ _ aw
  · clear flown
    generalize hke' : k :: j :: p = ks at *
    have hd0 : List.drop (0 : Int).toNat ks = octs k ++ (j :: p) := by rw [← hke']; unfold octs; rw [if_pos k1]; rfl
    have hd1 : List.drop (1 : Int).toNat ks = octs j ++ p := by rw [← hke']; unfold octs; rw [if_pos (by omega)]; rfl
    have e1 : (0 : Int) + ((octs k).length : Int) = 1 := by unfold octs; rw [if_pos k1]; rfl
    have e2 : (1 : Int) + ((octs j).length : Int) = 2 := by unfold octs; rw [if_pos (by omega)]; rfl
    have hl : ks.length = p.length + 2 := by rw [← hke']; rfl
    clear hke'
    w_strict k_steps
    rename Fr _ _ _ _ => F2
    rename News _ _ _ _ => N2
    refine wp_at (f := by exact ⟨rfl, Nat.le_of_ble_eq_true rfl, Nat.le_of_ble_eq_true rfl⟩) (getnum (i := 0) X1 T1 F2 N2 hk (by decide) (.inl ⟨k0, k1⟩) hd0 hkb ?_)
    clear F2 N2
    intro a t3 t4 h' tk' hne F2 N2
    rw [e1] at N2
    w_strict k_steps
    rename Fr _ _ _ _ => F2
    rename News _ _ _ _ => N2
    refine wp_at (f := by exact ⟨rfl, Nat.le_of_ble_eq_true rfl, Nat.le_of_ble_eq_true rfl⟩) (getnum (i := 1) X1 T1 F2 N2 hk (by decide) (.inl ⟨j0, by omega⟩) hd1 hkb ?_)
    clear F2 N2
    intro a2 t5 t6 h2 tk2 hne2 F2 N2
    rw [e2] at N2
    w_strict k_steps
    all_goals try (exfalso; omega)
    try dsimp only
    rename Fr _ _ _ _ => F5
    rename News _ _ _ _ => N5
    refine ret _ _ ?_
    exact away_back (away_of G1 F5.keep old1 (TI.SameUp.refl _) fun q hq => (N5 q (.tail _ (.tail _ (List.mem_append_right _ hq)))).1) (led_back hh fun q hq => (N5 q (.tail _ (.tail _ (List.mem_append_left _ hq)))).1)

end
section
example : True := by w_top off; exact trivial
theorem kindF_ok : ∀ f, 0 ≤ kindF f ∧ kindF f < 64 ∧ kindF f ∉ [2, 6, 8, 9] := by
  intro f
  have key : ∀ k ∈ [(4 : Int), 7, 13, 3, 33, 1, 0], 0 ≤ k ∧ k < 64 ∧ k ∉ [2, 6, 8, 9] := by decide
  exact key _ (by cases f <;> repeat' (first | exact List.Mem.head _ | refine List.Mem.tail _ ?_))
theorem payF_len : ∀ f, (payF f).length ≤ 3 := by
  intro f; cases f <;> exact Nat.le_of_ble_eq_true rfl
set_option maxHeartbeats 4000000 in
theorem next_some {H : Heap} (X : (hd.heap_1 w.params).In H) (T : Top hd.view_1 (looseW hd.view_1 []) mean mg mb H) {L : Addr} {m : Str → Option Value} {hp : Heap} {tk0 : Tok} {Q E : Value → Shared → Prop} {news : List (Addr × Obj)} {x d : Addr} {t : Nat → Tok} {b : Array UInt8} {tb : Tok} {f : Fm} {more : List Int} (F : Fr H L hp m) (N : News H L hp (fsLed w.params x d t (.bytes b tb) ++ news))
  (hsep : ∀ q ∈ fsLed w.params x d t (.bytes b tb), ∀ r ∈ news, r.1 ≠ q.1) (hxd : @Ne Nat x d) (hk : KBw.bInts b = enc f ++ more) (hb : (enc f ++ more).length < 500) (hfs : fsmall f)
  (ret : ∀ v tl b2 t2 h' tk', KBw.bInts b2 = more → IsFm tl v f → (∀ q ∈ tl ++ fsLed w.params x d t (.bytes b2 t2), ∀ r ∈ news, r.1 ≠ q.1) → (∀ q ∈ tl, @Ne Nat q.1 x ∧ @Ne Nat q.1 d) → Fr H L h' m → News H L h' ((tl ++ fsLed w.params x d t (.bytes b2 t2)) ++ news) → Q v {s with heap := h', toks := tk'}) :
  wpAny (model PySem.Challenge.rw_sj0117_01.row.prog w) (AA 90) (call (.ref 191) [.ref x]) Q E {s with heap := hp, toks := tk0} := by
  refine wpAny_call ?_
  refine' enterQ (binds := [(Str.ofString "self", .ref x)]) (tgt := fsLed w.params x d t (.bytes b tb)) (by assumption) (by assumption) (by assumption) (by assumption) (hsep) ?k6 ?k7 (by first | decide | k_room | exact Nat.le_of_ble_eq_true rfl) ?k9 ?kB ?_ ?c2 ?c3 ?c4 ?c5
  ((case k6 => k_is); (case k7 => k_is); (case k9 => exact BindsTo.of_eq (by first | rfl | kernel_rfl | with_unfolding_all rfl)); (case kB => exact locs rfl); (case c2 => exact rfl); (case c3 => exact rfl); (case c4 => exact rfl); (case c5 => decide); (intro xH xL xh xX xT xG xlk xF xN xl1 xl2 xl4); (replace xl1 := ltN xl1); (replace xl2 := PySem.W.allLt_of xl2); (try dsimp only [PySem.W.AllLt] at xl2); (try dsimp only); (try k_fold))
  clear F N X T hsep
  rename News _ _ _ _ => N1
  dsimp only [fsLed] at N1
  generalize hke' : enc f ++ more = ks at *
  obtain ⟨k0, k1, hn1⟩ := kindF_ok f
  have hj := payF_len f
  have hkb : ks.length < 1000 := by omega
  have hd0 : List.drop (0 : Int).toNat ks = octs (kindF f) ++ (((payF f).length : Int) :: (payF f ++ more)) := by rw [← hke']; unfold octs enc; rw [if_pos k1]; rfl
  have hd1 : List.drop (1 : Int).toNat ks = octs ((payF f).length : Int) ++ (payF f ++ more) := by rw [← hke']; unfold octs enc; rw [if_pos (by omega)]; rfl
  have e1 : (0 : Int) + ((octs (kindF f)).length : Int) = 1 := by unfold octs; rw [if_pos k1]; rfl
  have e2 : (1 : Int) + ((octs ((payF f).length : Int)).length : Int) = 2 := by unfold octs; rw [if_pos (by omega)]; rfl
  have hl : ks.length = (payF f).length + more.length + 2 := by rw [← hke']; unfold enc; simp only [List.length_append, List.length_cons]; omega
  w_strict k_steps
  rename Fr _ _ _ _ => F2
  rename News _ _ _ _ => N2
  refine wp_at (f := by exact ⟨rfl, Nat.le_of_ble_eq_true rfl, Nat.le_of_ble_eq_true rfl⟩) (getnum (i := 0) (by assumption) (by assumption) F2 N2 hk (by decide) (.inl ⟨k0, k1⟩) hd0 hkb ?_)
  clear F2 N2
  intro a t3 t4 h' tk' hne F2 N2
  rw [e1] at N2
  replace hne := allNe_of hne
  dsimp only [AllNe] at hne
  w_strict k_steps
  rename Fr _ _ _ _ => F2
  rename News _ _ _ _ => N2
  refine wp_at (f := by exact ⟨rfl, Nat.le_of_ble_eq_true rfl, Nat.le_of_ble_eq_true rfl⟩) (getnum (i := 1) (by assumption) (by assumption) F2 N2 hk (by decide) (.inl ⟨by omega, by omega⟩) hd1 hkb ?_)
  clear F2 N2
  intro a2 t5 t6 h2 tk2 hne2 F2 N2
  rw [e2] at N2
  replace hne2 := allNe_of hne2
  dsimp only [AllNe] at hne2
  w_strict k_steps
  all_goals try (exfalso; omega)
  rename Fr _ _ _ _ => F2
  rename News _ _ _ _ => N2
  have c1 : KBw.bInts (KBy.picked b (some 2) (some (2 + ((payF f).length : Int)))) = List.take (clipAt ks.length (2 + ((payF f).length : Int)) - clipAt ks.length 2) (List.drop (clipAt ks.length 2) ks) := by with_reducible assumption
  have c2 : KBw.bInts (KBy.picked b (some (2 + ((payF f).length : Int))) none) = List.take (ks.length - clipAt ks.length (2 + ((payF f).length : Int))) (List.drop (clipAt ks.length (2 + ((payF f).length : Int))) ks) := by with_reducible assumption
  have z1 : clipAt ks.length 2 = 2 := clip_le (by decide) (by omega)
  have z2 : clipAt ks.length (2 + ((payF f).length : Int)) = 2 + (payF f).length := clip_le (i := ((2 + (payF f).length : Nat) : Int)) (Int.natCast_nonneg _) (by omega)
  rw [z1, z2] at c1
  rw [z2] at c2
  have hdr : ks.drop 2 = payF f ++ more := by rw [← hke']; rfl
  have hp1 : KBw.bInts (KBy.picked b (some 2) (some (2 + ((payF f).length : Int)))) = payF f := by
    rw [c1, hdr, Nat.add_sub_cancel_left]; exact List.take_left
  have hp2 : KBw.bInts (KBy.picked b (some (2 + ((payF f).length : Int))) none) = more := by
    rw [c2, ← List.drop_drop, hdr, List.drop_left]
    exact List.take_of_length_le (by omega)
  clear c1 c2 hdr
  have t1 := N2
  refine wp_at (f := by exact ⟨rfl, Nat.le_of_ble_eq_true rfl, Nat.le_of_ble_eq_true rfl⟩) (readpay (by assumption) (by assumption) F2 N2 hp1 hfs ?_)
  intro v tl h3 tk3 hv hsp F3 N3
  (try dsimp only)
  refine Cut.ret (by with_reducible assumption) ?_
  try dsimp only
  refine Ground'.use (by assumption) F3 (newsSub N3 (b := tl ++ fsLed w.params x d t (.bytes (KBy.picked b (some (2 + ((payF f).length : Int))) none) _)) fun q hq => (List.mem_append.mp hq).elim (fun h => List.mem_append_left _ h) fun h => List.mem_append_right _ (.tail _ (.tail _ h))) fun Fb Nb Sb => ?_
  exact ret v tl _ _ _ _ hp2 hv Sb (fun q hq => ⟨(hsp q hq (x, instObj 201 d) (.tail _ (.tail _ (.head _)))).symm, (hsp q hq _ (.tail _ (.tail _ (.tail _ (.head _))))).symm⟩) Fb Nb

end
section
/-- octets that make no whole frame yet -/
def Inc (ks : List Int) : Prop := ks.length = 0 ∨ (∃ k, ks = [k] ∧ 0 ≤ k ∧ k < 64) ∨ ∃ k j p, ks = k :: j :: p ∧ 0 ≤ k ∧ k < 64 ∧ 0 ≤ j ∧ j ≤ 20 ∧ p.length < j ∧ k ∉ [2, 6, 8, 9]
def encs (fs : List Fm) : List Int := fs.flatMap enc
def FmsIn (tl : List (Addr × Obj)) (vs : List Value) (fs : List Fm) : Prop := vs.length = fs.length ∧ ∀ (i : Nat) (v : Value) (f : Fm), vs[i]? = some v → fs[i]? = some f → IsFm tl v f
theorem IsFm.mono {a b : List (Addr × Obj)} (hs : ∀ q ∈ a, q ∈ b) {v : Value} {f : Fm} (x : IsFm a v f) : IsFm b v f := by
  cases f with
  | goaway n => obtain ⟨a, t1, t2, e, h1⟩ := x; exact ⟨a, t1, t2, e, hs _ h1⟩
  | maxp n => obtain ⟨a, t1, t2, e, h1⟩ := x; exact ⟨a, t1, t2, e, hs _ h1⟩
  | canc n => obtain ⟨a, t1, t2, e, h1⟩ := x; exact ⟨a, t1, t2, e, hs _ h1⟩
  | unk => obtain ⟨a, t1, t2, t3, e, h1⟩ := x; exact ⟨a, t1, t2, t3, e, hs _ h1⟩
  | hdr => obtain ⟨a, t1, t2, e, h1⟩ := x; exact ⟨a, t1, t2, e, hs _ h1⟩
  | dat => obtain ⟨a, t1, t2, e, h1⟩ := x; exact ⟨a, t1, t2, e, hs _ h1⟩
  | sett => obtain ⟨a, t1, l, nl, p, t2, t3, e, h1, h2, h3⟩ := x; exact ⟨a, t1, l, nl, p, t2, t3, e, hs _ h1, hs _ h2, hs _ h3⟩
  | sett2 => obtain ⟨a, t1, l, nl, p, t2, t3, e, h1, h2, h3⟩ := x; exact ⟨a, t1, l, nl, p, t2, t3, e, hs _ h1, hs _ h2, hs _ h3⟩
theorem FmsIn.mono {a b : List (Addr × Obj)} (hs : ∀ q ∈ a, q ∈ b) {vs : List Value} {fs : List Fm} (x : FmsIn a vs fs) : FmsIn b vs fs := ⟨x.1, fun i v f h1 h2 => (x.2 i v f h1 h2).mono hs⟩
theorem FmsIn.nil (a : List (Addr × Obj)) : FmsIn a [] [] := ⟨rfl, fun i v f h => by simp at h⟩
theorem FmsIn.snoc {a : List (Addr × Obj)} {vs : List Value} {fs : List Fm} {v : Value} {f : Fm} (x : FmsIn a vs fs) (y : IsFm a v f) : FmsIn a (vs ++ [v]) (fs ++ [f]) := by
  refine ⟨by rw [List.length_append, List.length_append, x.1]; rfl, fun i u g h1 h2 => ?_⟩
  rcases Nat.lt_or_ge i vs.length with q | q
  · rw [List.getElem?_append_left q] at h1
    rw [List.getElem?_append_left (x.1 ▸ q)] at h2
    exact x.2 i u g h1 h2
  · rw [List.getElem?_append_right q] at h1
    rw [List.getElem?_append_right (x.1 ▸ q), ← x.1] at h2
    have hi : i - vs.length = 0 := by have := (List.getElem?_eq_some_iff.mp h1).1; simp at this; omega
    rw [hi] at h1 h2
    cases h1; cases h2; exact y
/-- the ledger of a take: the list that it fills, the stream, the frames' objects, the frames below -/
abbrev tkLed (P : Params) (x d : Addr) (t : Nat → Tok) (l : Addr) (vs : List Value) (n : Nat) (b : Array UInt8) (tb : Tok) (more : List (Addr × Obj)) : List (Addr × Obj) := (l, listOf vs.toArray n) :: (fsLed P x d t (.bytes b tb) ++ more)
/-- what keeps them apart -/
structure Apart (x d l : Addr) (tl fr : List (Addr × Obj)) : Prop where
  xd : @Ne Nat x d
  lx : @Ne Nat l x
  ld : @Ne Nat l d
  tl_ : ∀ q ∈ tl, @Ne Nat q.1 l ∧ @Ne Nat q.1 x ∧ @Ne Nat q.1 d ∧ q.1 ∉ adr fr
  fr_ : ∀ q ∈ fr, @Ne Nat q.1 l ∧ @Ne Nat q.1 x ∧ @Ne Nat q.1 d
/-- behind a call of next_frame -/
inductive NextJ (P : Params) (H : Heap) (L : Addr) (s0 : Shared) (mm : Str → Option Value) (x d : Addr) (t : Nat → Tok) (l : Addr) (fr : List (Addr × Obj)) (r : List Int) (fs done : List Fm) (vs : List Value) (n : Nat) (v : Value) (s : Shared) : Prop
  | mk (h : Heap) (tk : Tok) (tl : List (Addr × Obj)) (b : Array UInt8) (tb : Tok) (fr' : List (Addr × Obj)) (e : s = { s0 with heap := h, toks := tk }) (F : Fr H L h mm) (hu : TI.SameUp fr fr') (N : News H L h (tkLed P x d t l vs n b tb (tl ++ fr'))) (ap : Apart x d l tl fr') (hv : FmsIn tl vs done)
    (hm : match fs with
    | [] => v = .none ∧ KBw.bInts b = r
    | f :: fs' => IsFm tl v f ∧ KBw.bInts b = encs fs' ++ r ∧ fr' = fr)
set_option maxHeartbeats 1000000 in
theorem nextj {H : Heap} (X : (hd.heap_1 w.params).In H) (T : Top hd.view_1 (looseW hd.view_1 []) mean mg mb H) {L : Addr} {m : Str → Option Value} {hp : Heap} {tk0 : Tok} {Q E : Value → Shared → Prop} {env : Env} {outer : List Env} {fr tl : List (Addr × Obj)} {x d l : Addr} {t : Nat → Tok} {b : Array UInt8} {tb : Tok} {r : List Int} {fs done : List Fm} {vs : List Value} {n : Nat} (F : Fr H L hp m) (N : News H L hp (tkLed w.params x d t l vs n b tb (tl ++ fr))) (Fs : TI.Frs outer fr) (hf : env.frame = some L) (hke : env.scope.kind ≠ .module)
  (ap : Apart x d l tl fr) (hv : FmsIn tl vs done) (hk : KBw.bInts b = encs fs ++ r) (hb : (encs fs ++ r).length < 500) (hr : Inc r) (hfs : ∀ f ∈ fs, fsmall f) :
  wpAny (model PySem.Challenge.rw_sj0117_01.row.prog w) (AF (env :: outer) 90) (call (.ref 191) [.ref x]) (NextJ w.params H L s m x d t l fr r fs done vs n) E {s with heap := hp, toks := tk0} := by
  cases fs with
  | nil =>
    have hk' : KBw.bInts b = r := hk
    have hb' : r.length < 500 := hb
    have hsub : ∀ q ∈ fsLed w.params x d t (.bytes b tb) ++ fr, q ∈ tkLed w.params x d t l vs n b tb (tl ++ fr) := fun q hq => .tail _ ((List.mem_append.mp hq).elim (fun h => List.mem_append_left _ h) fun h => List.mem_append_right _ (List.mem_append_right _ h))
    have hsep : ∀ q ∈ fsLed w.params x d t (.bytes b tb), q.1 ∉ adr fr := fun q hq hm => by
      obtain ⟨o, z⟩ := mem_adr hm
      rcases List.mem_cons.mp hq with rfl | hq
      · exact (ap.fr_ _ z).2.1 rfl
      · rw [List.mem_singleton.mp hq] at z; exact (ap.fr_ _ z).2.2 rfl
    refine next_none X T F (newsSub N hsub) Fs hf hke hsep ap.xd hk' hb' hr fun h' tk' a => ?_
    obtain ⟨fr', hup, Nfr⟩ := frsAway (fr := fr) (newsSub N fun q hq => .tail _ (List.mem_append_right _ (List.mem_append_right _ hq))) a (fun _ _ => List.not_mem_nil)
    have F' := frAway F a (baseApart F (newsSub N fun q hq => .tail _ (List.mem_append_right _ (List.mem_append_right _ hq)))) List.not_mem_nil
    have hadr := sameUp_adr hup
    have N' : News H L h' (((l, listOf vs.toArray n) :: (fsLed w.params x d t (.bytes b tb) ++ tl)) ++ fr') := newsFlown (by
      rw [List.cons_append, List.append_assoc]; exact N) a (fun q hq => by
        intro hm
        obtain ⟨o, z⟩ := mem_adr hm
        rcases List.mem_cons.mp hq with rfl | hq
        · exact (ap.fr_ _ z).1 rfl
        · rcases List.mem_append.mp hq with hq | hq
          · exact hsep q hq hm
          · exact (ap.tl_ _ hq).2.2.2 hm) Nfr
    have ap' : Apart x d l tl fr' := ⟨ap.xd, ap.lx, ap.ld, fun q hq => ⟨(ap.tl_ q hq).1, (ap.tl_ q hq).2.1, (ap.tl_ q hq).2.2.1, by rw [hadr]; exact (ap.tl_ q hq).2.2.2⟩, fun q hq => by
      have z : q.1 ∈ adr fr := hadr ▸ List.mem_map_of_mem hq
      obtain ⟨o, z⟩ := mem_adr z
      have y := ap.fr_ _ z
      exact y⟩
    exact ⟨h', tk', tl, b, tb, fr', rfl, F', hup, by rw [List.cons_append, List.append_assoc] at N'; exact N', ap', hv, rfl, hk'⟩
  | cons f fs' =>
    have e : encs (f :: fs') ++ r = enc f ++ (encs fs' ++ r) := by unfold encs; rw [List.flatMap_cons, List.append_assoc]
    rw [e] at hk hb
    have N' : News H L hp (fsLed w.params x d t (.bytes b tb) ++ ((l, listOf vs.toArray n) :: (tl ++ fr))) := newsSub N fun q hq => by
      rcases List.mem_append.mp hq with h | h
      · exact .tail _ (List.mem_append_left _ h)
      · rcases List.mem_cons.mp h with rfl | h
        · exact .head _
        · exact .tail _ (List.mem_append_right _ h)
    have hsep : ∀ q ∈ fsLed w.params x d t (.bytes b tb), ∀ z ∈ (l, listOf vs.toArray n) :: (tl ++ fr), z.1 ≠ q.1 := fun q hq z hz => by
      have key : ∀ a : Addr, a = x ∨ a = d → z.1 ≠ a := fun a ha => by
        rcases List.mem_cons.mp hz with rfl | hz
        · rcases ha with rfl | rfl
          · exact ap.lx
          · exact ap.ld
        · rcases List.mem_append.mp hz with hz | hz
          · rcases ha with rfl | rfl
            · exact (ap.tl_ _ hz).2.1
            · exact (ap.tl_ _ hz).2.2.1
          · rcases ha with rfl | rfl
            · exact (ap.fr_ _ hz).2.1
            · exact (ap.fr_ _ hz).2.2
      rcases List.mem_cons.mp hq with rfl | hq
      · exact key _ (.inl rfl)
      · rw [List.mem_singleton.mp hq]; exact key _ (.inr rfl)
    refine wp_at (f := by exact ⟨rfl, Nat.le_of_ble_eq_true rfl, Nat.le_of_ble_eq_true rfl⟩) (next_some X T F N' hsep ap.xd hk hb (hfs _ (.head _)) fun v tl2 b2 t2 h' tk' hb2 hv2 hs2 hx2 F2 N2 => ?_)
    refine ⟨h', tk', tl2 ++ tl, b2, t2, fr, rfl, F2, TI.SameUp.refl _, newsSub N2 fun q hq => ?_, ⟨ap.xd, ap.lx, ap.ld, fun q hq => ?_, ap.fr_⟩, hv.mono fun q hq => List.mem_append_right _ hq, hv2.mono fun q hq => List.mem_append_left _ hq, hb2, rfl⟩
    · rcases List.mem_cons.mp hq with rfl | hq
      · exact List.mem_append_right _ (.head _)
      · rcases List.mem_append.mp hq with hq | hq
        · exact List.mem_append_left _ (List.mem_append_right _ hq)
        · rw [List.append_assoc] at hq
          rcases List.mem_append.mp hq with hq | hq
          · exact List.mem_append_left _ (List.mem_append_left _ hq)
          · exact List.mem_append_right _ (.tail _ hq)
    · rcases List.mem_append.mp hq with hq | hq
      · have z := hs2 q (List.mem_append_left _ hq)
        exact ⟨(z _ (.head _)).symm, (hx2 q hq).1, (hx2 q hq).2, fun hm => by
          obtain ⟨o, y⟩ := mem_adr hm
          exact z _ (.tail _ (List.mem_append_right _ y)) rfl⟩
      · exact ap.tl_ q hq

end
section
example : True := by w_top off; exact trivial
section
variable {prog : Program} {w : World} {A : Around} {E : Value → Shared → Prop} {s : Shared} {env : Env} {test : Expr} {body : List Stmt} {Q : Flow → Shared → Prop}
/-- a while along a list -/
theorem whl_list {α : Type} {I : List α → Shared → Prop} (hE : PassesOwn (model prog w) A env E)
    (step : ∀ fs s, I fs s → wpAny (model prog w) A (isTrue test env (eval test env)) (fun b s₂ => WhlIf b (wpAny (model prog w) A (execs body env) (fun f s' => match f with
      | .next => Stop (∃ g fs', fs = g :: fs' ∧ I fs' s')
      | .cont => Stop (∃ g fs', fs = g :: fs' ∧ I fs' s')
      | .brk => Q .next s'
      | .ret v => Q (.ret v) s') E s₂) (Q .next s₂)) E s) : ∀ (fs : List α) (s : Shared), I fs s → WhlRest prog w A E env test body [] Q 0 s := by
  have turn : ∀ (fs : List α), (∀ g fs', fs = g :: fs' → ∀ s, I fs' s → WhlRest prog w A E env test body [] Q 0 s) → ∀ s, I fs s → WhlRest prog w A E env test body [] Q 0 s := by
    intro fs ih s h
    refine (show WhlRest prog w A E env test body [] Q (0 + 1) s from whl_turn hE (wpAny_mono (step fs s h) (fun b s₂ h₂ => ?_) fun _ _ x => x))
    cases b with
    | false => exact WhlIf.no rfl (wpAny_execs_nil h₂)
    | true =>
      refine WhlIf.yes rfl (wpAny_mono (show wpAny _ _ _ _ _ _ from h₂) (fun f s' q => ?_) fun _ _ x => x)
      cases f with
      | next => obtain ⟨g, fs', e, q⟩ := ofStop q; exact ih g fs' e _ q
      | cont => obtain ⟨g, fs', e, q⟩ := ofStop q; exact ih g fs' e _ q
      | brk => exact q
      | ret v => exact q
  intro fs
  induction fs with
  | nil => exact turn [] (fun g fs' e => nomatch e)
  | cons a fs ih => exact turn (a :: fs) (fun g fs' e => by cases e; exact ih)
theorem cutQ {α : Type} {M : Model} {t : Sem α} {P : α → Shared → Prop} (J : α → Shared → Prop) (h1 : wpAny M A t J E s) (h2 : ∀ v s', J v s' → P v s') : wpAny M A t P E s := wpAny_mono h1 h2 fun _ _ x => x
end
theorem frEq {H h : Heap} {L : Addr} {m m' : Str → Option Value} (F : Fr H L h m) (e : ∀ y, m y = m' y) : Fr H L h m' := (funext e : m = m') ▸ F
local macro_rules | `(tactic| walk_at "exec While Compare") => `(tactic| (k_here; k_dflt (refine whl_start 0 (ofStop ?_))))
theorem fm_ref {tl : List (Addr × Obj)} {v : Value} {f : Fm} (x : IsFm tl v f) : ∃ a, v = .ref a := by
  cases f with
  | goaway n => obtain ⟨a, _, _, e, _⟩ := x; exact ⟨a, e⟩
  | maxp n => obtain ⟨a, _, _, e, _⟩ := x; exact ⟨a, e⟩
  | canc n => obtain ⟨a, _, _, e, _⟩ := x; exact ⟨a, e⟩
  | unk => obtain ⟨a, _, _, _, e, _⟩ := x; exact ⟨a, e⟩
  | hdr => obtain ⟨a, _, _, e, _⟩ := x; exact ⟨a, e⟩
  | dat => obtain ⟨a, _, _, e, _⟩ := x; exact ⟨a, e⟩
  | sett => obtain ⟨a, _, _, _, _, _, _, e, _⟩ := x; exact ⟨a, e⟩
  | sett2 => obtain ⟨a, _, _, _, _, _, _, e, _⟩ := x; exact ⟨a, e⟩
theorem encs_len : ∀ fs : List Fm, fs.length ≤ (encs fs).length
  | [] => Nat.zero_le _
  | f :: fs => by
    have := encs_len fs
    have e : encs (f :: fs) = enc f ++ encs fs := rfl
    rw [e, List.length_append, List.length_cons]
    have : 1 ≤ (enc f).length := by unfold enc; rw [List.length_cons]; omega
    omega
theorem newOld {h H' : Heap} {hid : List Addr} {a : Addr} (G : GroundX h H' hid) (n : H'.get? a = none) (ha : a ∉ hid) : h.get? a = none := by
  cases z : h.get? a with
  | none => rfl
  | some o => rw [G.keep _ _ z ha] at n; cases n
theorem of_allLt {d : Addr} {l : List (Addr × Obj)} (h : PySem.W.AllLt d l) : ∀ q ∈ l, @LT.lt Nat _ q.1 d := by
  induction l with
  | nil => intro q hq; cases hq
  | cons a r ih =>
    intro q hq
    rcases List.mem_cons.mp hq with rfl | hq
    · exact h.1
    · exact ih h.2 q hq
set_option maxHeartbeats 4000000 in
theorem fstake {H : Heap} (X : (hd.heap_1 w.params).In H) (T : Top hd.view_1 (looseW hd.view_1 []) mean mg mb H) {L : Addr} {m : Str → Option Value} {hp : Heap} {tk0 : Tok} {Q E : Value → Shared → Prop} {env : Env} {outer : List Env} {fr : List (Addr × Obj)} {x d : Addr} {t : Nat → Tok} {b dv : Array UInt8} {tb td : Tok} {ks ds r : List Int} {fs : List Fm} (F : Fr H L hp m) (N : News H L hp (fsLed w.params x d t (.bytes b tb) ++ fr)) (Fs : TI.Frs outer fr) (hf : env.frame = some L) (hke : env.scope.kind ≠ .module)
  (hsep : ∀ q ∈ fsLed w.params x d t (.bytes b tb), q.1 ∉ adr fr) (hxd : @Ne Nat x d) (hk : KBw.bInts b = ks) (hdv : KBw.bInts dv = ds) (he : ks ++ ds = encs fs ++ r) (hkl : ks.length < 200) (hdl : ds.length < 200) (hr : Inc r) (hfs : ∀ f ∈ fs, fsmall f)
  (ret : ∀ l vs nl tl b2 t2 h' tk', KBw.bInts b2 = r → FmsIn tl vs fs → (∀ q ∈ (l, listOf vs.toArray nl) :: tl, hp.get? q.1 = none ∧ h'.get? q.1 = some q.2) → (∀ q ∈ tl, @Ne Nat q.1 l) → Away (L :: adr fr) [d] hp h' → h'.get? d = some (fsDict w.params t (.bytes b2 t2)) → Q (.ref l) {s with heap := h', toks := tk'}) :
  wpAny (model PySem.Challenge.rw_sj0117_01.row.prog w) (AF (env :: outer) 80) (call (.ref 184) [.ref x, .bytes dv td]) Q E {s with heap := hp, toks := tk0} := by
  have hh : ∀ q ∈ fsLed w.params x d t (.bytes b tb), hp.get? q.1 = some q.2 := fun q hq => (N q (List.mem_append_left _ hq)).1
  refine wpAny_call ?_
  refine' enterX (binds := [(Str.ofString "self", .ref x), (Str.ofString "data", .bytes dv td)]) (tgt := fsLed w.params x d t (.bytes b tb)) (by assumption) (by assumption) (by assumption) (by assumption) (by assumption) (by assumption) (by assumption) ?k5 ?k6 ?k7 (by first | decide | k_room | exact Nat.le_of_ble_eq_true rfl) ?k9 ?kB ?_ ?c2 ?c3 ?c4 ?c5
  ((case k5 => first | assumption | exact (fun q hq => absurd hq List.not_mem_nil)); (case k6 => k_is); (case k7 => k_is); (case k9 => exact BindsTo.of_eq (by first | rfl | kernel_rfl | with_unfolding_all rfl)); (case kB => exact locs rfl); (case c2 => exact rfl); (case c3 => exact rfl); (case c4 => exact rfl); (case c5 => decide))
  intro H1 L1 h₁ fr1 X1 T1 G1 Fs1 ea1 tf1 nL1 old1 F1 N1 l2
  replace l2 := PySem.W.allLt_of l2
  (try dsimp only [PySem.W.AllLt] at l2); (try dsimp only); (try k_fold); (try rw [← ea1] at G1)
  clear F N X T
  have fx : ∀ q ∈ fr1, @Ne Nat q.1 x := fun q hq e => tf1 _ (.head _) (by show x ∈ adr fr1; rw [← e]; exact List.mem_map_of_mem hq)
  have fd : ∀ q ∈ fr1, @Ne Nat q.1 d := fun q hq e => tf1 _ (.tail _ (.head _)) (by show d ∈ adr fr1; rw [← e]; exact List.mem_map_of_mem hq)
  dsimp only [fsLed, List.cons_append, List.nil_append] at N1
  w_strict k_steps
  rename_i l0 hB l3 hC F2 N2 _ _ _
  rename KBw.bInts (b ++ dv) = _ => hbd
  rw [he] at hbd
  obtain ⟨l3a, l3b, l3c⟩ := l3
  replace l3c := of_allLt l3c
  have hlen : (encs fs ++ r).length < 500 := by rw [← he, List.length_append]; omega
  refine cutQ _ (wp_atF (f := by exact ⟨rfl, Nat.le_of_ble_eq_true rfl, Nat.le_of_ble_eq_true rfl⟩) (hf := by rfl) (nextj (Q := fun _ _ => True) (tl := []) (vs := []) (n := 0) (done := []) X1 T1 F2 N2 Fs1 rfl (funK rfl) ⟨hxd, Nat.ne_of_gt l3a, Nat.ne_of_gt l3b, fun q hq => absurd hq List.not_mem_nil, fun q hq => ⟨Nat.ne_of_lt (l3c q hq), fx q hq, fd q hq⟩⟩ (FmsIn.nil _) hbd hlen hr hfs)) ?_
  clear F2 N2
  rintro v s' ⟨h, tk, tl, b2, tb2, fr2, rfl, F2, hup, N2, ap, hv, hm⟩
  dsimp only [tkLed, fsLed, List.cons_append, List.nil_append] at N2
  w_strict k_steps
  rename Fr _ _ _ _ => F3
  rename News _ _ _ _ => N3
  refine unstop (whl_list (α := Fm) (I := fun g s' => ∃ done vs n v, done ++ g = fs ∧ NextJ w.params H1 L1 s (fun y => if y = Str.ofString "frame" then some v else if y = Str.ofString "found" then some (.ref l0) else List.lookup y [(Str.ofString "self", Value.ref x), (Str.ofString "data", Value.bytes dv td)].reverse) x d t _ fr1 r g done vs n v s') (by with_unfolding_all passes_own) ?_ fs _ ⟨[], [], 0, v, rfl, _, _, tl, b2, tb2, fr2, rfl, F3, hup, N3, ap, hv, hm⟩)
  clear F3 N3 hm hv ap hup
  rintro g s' ⟨done, vs, n, v, hg, h, tk, tl, b2, tb2, fr2, rfl, F2, hup, N2, ap, hv, hm⟩
  have hvl : vs.length < 1000 := by
    have z := encs_len fs
    have z2 := congrArg List.length hg
    rw [List.length_append] at z2 hlen
    rw [hv.1]; omega
  have hlen2 : (encs g ++ r).length < 500 := by
    rw [List.length_append] at hlen ⊢
    rw [← hg] at hlen
    unfold encs at hlen ⊢
    rw [List.flatMap_append, List.length_append] at hlen
    omega
  have hfg : ∀ f ∈ g, fsmall f := fun f hf => hfs f (by rw [← hg]; exact List.mem_append_right _ hf)
  cases g with
  | nil =>
    obtain ⟨rfl, hb2⟩ := hm
    w_strict k_steps
    try dsimp only
    have hadr := sameUp_adr hup
    have m1 : ∀ q ∈ tl, q ∈ tkLed w.params x d t l0 vs n b2 tb2 (tl ++ fr2) := fun q hq => .tail _ (List.mem_append_right _ (List.mem_append_left _ hq))
    rw [← ea1] at ret
    have hidn : ∀ a : Addr, a ≠ x → a ≠ d → a ∉ adr fr1 → a ∉ adr (fsLed w.params x d t (.bytes b tb)) ++ adr fr1 := fun a h1 h2 h3 hm => by
      rcases List.mem_append.mp hm with hm | hm
      · rcases List.mem_cons.mp hm with e | hm
        · exact h1 e
        · exact h2 (List.mem_singleton.mp hm)
      · exact h3 hm
    refine ret l0 vs n tl b2 tb2 h tk hb2 (by rw [← hg, List.append_nil]; exact hv) (fun q hq => ?_) (fun q hq => (ap.tl_ q hq).1) ?_ (N2 _ (.tail _ (.tail _ (.head _)))).1
    · rcases List.mem_cons.mp hq with rfl | hq
      · refine ⟨newOld G1 (N2 _ (.head _)).2.2 (hidn _ ap.lx ap.ld fun hm => ?_), (N2 _ (.head _)).1⟩
        rw [← hadr] at hm
        obtain ⟨o, z⟩ := mem_adr hm
        exact (ap.fr_ _ z).1 rfl
      · exact ⟨newOld G1 (N2 q (m1 q hq)).2.2 (hidn _ (ap.tl_ q hq).2.1 (ap.tl_ q hq).2.2.1 (hadr ▸ (ap.tl_ q hq).2.2.2)), (N2 q (m1 q hq)).1⟩
    · refine away_back (away_of G1 F2.keep old1 hup fun q hq => (N2 q (.tail _ (List.mem_append_right _ (List.mem_append_right _ hq)))).1) fun b hb hn o e => ?_
      rcases List.mem_cons.mp hb with rfl | hb
      · have z := hh _ (.head _)
        rw [e] at z; cases z
        exact (N2 _ (.tail _ (.head _))).1
      · exact absurd hb hn
  | cons f g =>
    obtain ⟨hv1, hb2, rfl⟩ := hm
    obtain ⟨a, rfl⟩ := fm_ref hv1
    have a1 := ap.lx
    have a2 := ap.ld
    have a3 := ap.xd
    have a4 : ∀ q ∈ tl ++ fr2, @Ne Nat q.1 l0 := fun q hq => (List.mem_append.mp hq).elim (fun hq => (ap.tl_ q hq).1) fun hq => (ap.fr_ q hq).1
    dsimp only [tkLed, fsLed, List.cons_append, List.nil_append] at N2
    w_strict k_steps
    rename Fr _ _ _ _ => F3
    rename News _ _ _ _ => N3
    rw [List.push_toArray] at N3
    refine cutQ _ (wp_atF (f := by exact ⟨rfl, Nat.le_of_ble_eq_true rfl, Nat.le_of_ble_eq_true rfl⟩) (hf := by rfl) (nextj (Q := fun _ _ => True) (tl := tl) (vs := vs ++ [.ref a]) (n := n + 1) (done := done ++ [f]) (fs := g) X1 T1 F3 N3 Fs1 rfl (funK rfl) ap (hv.snoc hv1) hb2 (by
      have e : (encs (f :: g) ++ r).length = (enc f).length + (encs g ++ r).length := by
        rw [show encs (f :: g) = enc f ++ encs g from rfl, List.append_assoc, List.length_append]
      omega) hr fun f' hf' => hfg f' (.tail _ hf'))) ?_
    clear F3 N3
    rintro v s' ⟨h, tk, tl, b2, tb2, fr2, rfl, F2, hup, N2, ap, hv, hm⟩
    w_strict k_steps
    rename Fr _ _ _ _ => F3
    rename News _ _ _ _ => N3
    exact unstop ⟨f, g, rfl, done ++ [f], vs ++ [.ref a], n + 1, v, by rw [← hg, List.append_assoc]; rfl, _, _, tl, b2, tb2, fr2, rfl, frEq F3 fun y => by by_cases hy : y = Str.ofString "frame" <;> simp [hy], hup, N3, ap, hv, hm⟩

end
section
section
variable {prog : Program} {w : World} {A : Around} {s : Shared} {H : Heap} {L : Addr} {m : Str → Option Value} {tgt rest : List (Addr × Obj)} {K : Frag} {p : Program} {loose : List Str} {mean : ExcName → Option Value} {mg mb : Str → Option Value}
  {R : Result → Shared → Prop} {name qual : Str} {params : Arguments} {body : List Stmt} {scope : Scope} {dV kV doc pm cdv ct oc : Value} {an od : Option Addr} {osl : Array (Option Value)} {f : Addr} {args : Args} {binds : List (Str × Value)}
theorem codeN_func {env : Env} (h : wpN (model prog w) (A.deeper env) (execs body env) (fun f s' => R (.ok (.ret (match f with | .ret v => v | _ => .none))) s') (fun _ _ => False) s) :
    codeN (model prog w) A (.func body env) R s := by
  refine codeN_tree trivial ?_
  show wpN _ (A.deeper env) (do point; match ← (execs body env).onRaise (leaving env) with | .ret v => ret v | _ => ret .none) _ _ s
  refine wpN_bind (wpN_any (wpAny_point (wpN_bind (wpN_onRaise (wpN_mono h (fun f s' h' => ?_) fun _ _ h' => h')))))
  cases f <;> exact wpN_pure h'
theorem codeN_call_function {a : Addr} {args : Args} {o : Obj} {fd : FuncData} {body : List Stmt} (hroom : A.depth < recursionLimit) (ho : s.heap.get? a = some o)
    (hd' : o.data = .func fd) (hco : fd.scope.isCoroutine = false) (hgen : fd.scope.isGenerator = false) (hbody : fd.body = .stmts body) (hcd : s.heap.CodeRec fd.code fd.qualname)
    (h : wpAny (model prog w) A.in1 (bindArgs fd args) (fun binds s₁ =>
      wpAny (model prog w) A.in1 (newFunctionEnv fd.scope fd.globals fd.closure binds (fd.qualname ++ ".<locals>.") (some a) fd.code none fd.builtins)
        (fun env s₂ => s₂.heap.NoLimit ∧ codeN (model prog w) A (.func body env) R s₂) (fun e s' => R (.error e) s') s₁) (fun e s' => R (.error e) s') s) :
    codeN (model prog w) A (.call (.ref a) args) R s := by
  refine codeN_tree trivial (wpN_any ?_)
  show wpAny _ A.in1 (callAny (.ref a) args) _ _ s
  simp only [callAny]
  refine wpAny_bind (wpAny_load ho ?_)
  obtain ⟨c, oc, vs, tq, hc, hoc, hdc, hq⟩ := hcd
  simp only [hd', callFunction, hco, hgen, hbody, hc]
  rw [hc] at h
  refine wpAny_bind (m := field (.ref c) 1) (wpAny_field hoc hdc hq (wpAny_bind (wpAny_pure ?_)))
  exact wpAny_bind (wpAny_mono h (fun binds s₁ h₁ => wpAny_bind (wpAny_mono h₁ (fun env s₂ h₂ => wpAny_bind (wpAny_enterFrame h₂.1 hroom
    (wpAny_pure (And.intro rfl h₂.2)))) fun _ _ h' => h')) fun _ _ h' => h')

/-- into a def, of clean contexts -/
theorem enterN (X : K.In H) (T : Top p loose mean mg mb H) (F : Fr H L s.heap m) (N : News H L s.heap (tgt ++ rest)) (hsep : ∀ q ∈ tgt, ∀ r ∈ rest, r.1 ≠ q.1)
    (ho : K.lookup f = some ⟨oc, od, .func (fnOf name qual params body scope dV kV doc pm an cdv ct), osl⟩) (hcd : codeIn K cdv qual = true) (hroom : A.depth < recursionLimit)
    (hbind : BindsTo s (fnOf name qual params body scope dV kV doc pm an cdv ct) args binds) (hloc : ∀ y ∈ binds, scope.names.lookup y.1 = some .local)
    (h : ∀ H' L' h₁, K.In H' → Top p loose mean mg mb H' → Ground' H H' L m rest → (∀ b o, s.heap.get? b = some o → (∀ q ∈ tgt, b ≠ q.1) → H'.get? b = some o) → Fr H' L' h₁ (fun y => binds.reverse.lookup y) → News H' L' h₁ tgt → L < L' → (∀ q ∈ tgt, q.1 < L') → (∀ q ∈ rest, q.1 < L') →
      wpN (model prog w) (A.deeper (envOf qual scope L' f cdv)) (execs body (envOf qual scope L' f cdv))
        (fun fl s' => R (.ok (.ret (match fl with | .ret v => v | _ => .none))) s') (fun _ _ => False)
        { s with heap := h₁, toks := s.toks + binds.length })
    (hco : scope.isCoroutine = false) (hgen : scope.isGenerator = false) (hk : scope.kind = .function)
    (hcell : ∀ x ∈ scope.names, x.2 ≠ .cell) : codeN (model prog w) A (.call (.ref f) args) R s := by
  have X' := X.keeps F.keep
  refine codeN_call_function hroom (X' _ _ ho) rfl hco hgen rfl (codeRec_of X' hcd) (hbind _ _ _ _ ?_)
  obtain ⟨oL, es, ep, hL, hLd, hLk, hLf⟩ := F.ns
  have hLt := Heap.lt_size hL
  refine wpAny_newFunctionEnv hcell hloc (fun h₁ hns hsb₀ => ⟨(T.nolimit.keeps F.keep).fresh _ hsb₀, codeN_func ?_⟩) hk
  have hk₁ : ∀ b o, s.heap.get? b = some o → h₁.get? b = some o := fun b o e => hsb₀.extBut b o (Nat.ne_of_lt (Heap.lt_size e)) (Heap.get?_push_of_some _ e)
  have hnm : ∀ b, (∀ q ∈ tgt, b ≠ q.1) → b ∉ tgt.map Prod.fst := fun b hb q => by
    obtain ⟨x, hx, e⟩ := List.mem_map.mp q
    exact hb x hx e.symm
  have st : H.StaysIn (hideAll s.heap (tgt.map Prod.fst)) := fun b o e => hideAll_get _ (F.keep b o e) (hnm b fun q hq z => by
    have := (N q (List.mem_append_left _ hq)).2.2; rw [← z, e] at this; cases this)
  have hLg := hideAll_get (tgt.map Prod.fst) hL (hnm L fun q hq z => (N q (List.mem_append_left _ hq)).2.1 z.symm)
  refine h (hideAll s.heap (tgt.map Prod.fst)) s.heap.objs.size h₁ (X.keeps st) (T.keeps st)
    ⟨st, ⟨oL, hLg, fun h' e => ⟨_, es, ep, e, hLd, hLk, hLf⟩⟩, F.above, fun q hq => ⟨hideAll_get _ (N q (List.mem_append_right _ hq)).1 (hnm _ fun x hx => hsep x hx q hq), (N q (List.mem_append_right _ hq)).2.1, (N q (List.mem_append_right _ hq)).2.2⟩⟩
    (fun b o e hb => hideAll_get _ e (hnm b hb)) ⟨hns, fun b o e => hk₁ b o (of_hideAll _ e), Nat.le_of_eq (hideAll_size _ _)⟩
    (fun q hq => ⟨hk₁ _ _ (N q (List.mem_append_left _ hq)).1, Nat.ne_of_lt (Heap.lt_size (N q (List.mem_append_left _ hq)).1), hideAll_none _ (List.mem_map_of_mem hq)⟩)
    hLt (fun q hq => Heap.lt_size (N q (List.mem_append_left _ hq)).1) (fun q hq => Heap.lt_size (N q (List.mem_append_right _ hq)).1)
end
section
variable {α β : Type} {M : Model} {A : Around} {E : Value → Shared → Prop} {s : Shared} {env : Env}
theorem wpN_execs {st : Stmt} {rest : List Stmt} {Q : Flow → Shared → Prop} (h : wpN M A (exec st env) (fun f s' => match f with | .next => wpN M A (execs rest env) Q E s' | f => Q f s') E s) : wpN M A (execs (st :: rest) env) Q E s := by
  rw [arm_execs_cons]
  refine wpN_bind (wpN_mono h (fun f s' h' => ?_) fun _ _ h' => h')
  cases f <;> first | exact h' | exact wpN_pure h'
theorem wpN_Return {e : Expr} {pos : Pos} {Q : Flow → Shared → Prop} (h : wpN M A (eval e env) (fun v s' => Q (.ret v) s') E s) : wpN M A (exec (.Return (some e) pos) env) Q E s := by
  rw [arm_exec_Return]
  refine wpN_bind (wpN_any (wpAny_standAt ?_))
  exact wpN_bind (wpN_mono h (fun v s' h' => wpN_pure h') fun _ _ h' => h')
theorem wpN_at {A' : Around} {k : Nat} {t : Sem α} {Q : α → Shared → Prop} (h : wpN M (AA k) t Q E s)
    (f : Fits A' k) : wpN M A' t Q E s :=
  fun Γ p hΓ h2 h3 => h Γ p ⟨hΓ.1.trans f.1, Nat.le_trans hΓ.2.1 f.2.1, (fun _ q => nomatch q), (fun _ q => nomatch q), Nat.le_trans hΓ.2.2.2.2 f.2.2⟩ h2 h3
end

end
section
open Builtin Builtin.Bytes in
theorem ba_call_eq (a : Value) : Builtin.«type.__call__» ⟨[.type "bytearray", a], []⟩ = (do
    let obj ← holding [.builtin "bytearray.__new__"] (call (.builtin "bytearray.__new__") [.type "bytearray", a] [])
    if !(← isInstance obj (.type "bytearray")) then rule "type.call.new-gave-other-type"; return ← ret obj
    match ← holding [obj] (callSpecial? obj "__init__" [a] []) with
    | none => ret obj
    | some r =>
      if r != .none then
        rule "type.call.init-returned-value"
        raiseError "TypeError" s!"__init__() should return None, not '{← typeNameOf r}'"
      ret obj) := by kernel_rfl
open Builtin Builtin.Bytes in
theorem ba_init_eq1 (a : Addr) (t : Tok) : Builtin.«bytearray.__init__» ⟨[.ref a, .int 1 t], []⟩ = (do
    if ← ownRelease (.ref a) then unsupported "bytearray.__init__:own-__release_buffer__-on-a-subclass"
    if ← exported (.ref a) <||> (do return (← exportsOf (.ref a)) > 0) then
      if !(← payload (.ref a)).isEmpty then checkResize (.ref a)
      unsupported "bytearray.__init__:exported"
    write (.ref a) fun _ => #[]
    rule "bytearray.__init__.count"
    write (.ref a) fun _ => Array.replicate 1 0
    ret .none) := by kernel_rfl
open Builtin Builtin.Bytes in
theorem ba_init_eq2 (a : Addr) (t : Tok) : Builtin.«bytearray.__init__» ⟨[.ref a, .int 2 t], []⟩ = (do
    if ← ownRelease (.ref a) then unsupported "bytearray.__init__:own-__release_buffer__-on-a-subclass"
    if ← exported (.ref a) <||> (do return (← exportsOf (.ref a)) > 0) then
      if !(← payload (.ref a)).isEmpty then checkResize (.ref a)
      unsupported "bytearray.__init__:exported"
    write (.ref a) fun _ => #[]
    rule "bytearray.__init__.count"
    write (.ref a) fun _ => Array.replicate 2 0
    ret .none) := by kernel_rfl
theorem ba_mro : mroOf (.type "bytearray") = pure [.type "bytearray", .type "object"] := by rw [mroOf_type]; kernel_rfl
theorem ba_sub : isSubtype (.type "bytearray") (.type "bytearray") = pure true := by rw [isSubtype_type]; kernel_rfl
theorem ba_newCall (a : Value) : checkBuiltinCall "bytearray.__new__" ⟨[.type "bytearray", a], []⟩ = pure () := by kernel_rfl
theorem ba_entry_new : entryFor table "bytearray.__new__" = some Builtin.«list.__new__» :=
  entryFor_alias (id' := "list.__new__") (by kernel_rfl) (by first | rfl | decide +kernel) (by decide +kernel) (by kernel_rfl)
theorem ba_entry_init : entryFor table "bytearray.__init__" = some Builtin.«bytearray.__init__» := by first | exact entryFor_of_fast (by kernel_rfl) | exact entryFor_of_tree (by kernel_rfl)
theorem ba_plain_new : plainId "bytearray.__new__" = true := by decide +kernel
theorem ba_plain_init : plainId "bytearray.__init__" = true := by decide +kernel
theorem ba_slot_init : Slot "bytearray" "__init__" "bytearray.__init__" :=
  .of (owner := "bytearray") (n := "__init__") (by rw [typeLookup_type, builtinLookup_eq_fast]; kernel_rfl) (by decide +kernel) (by decide +kernel) (by decide +kernel)
    (by first | exact .inl (by decide +kernel) | exact .inr (by decide +kernel)) (by rw [isSubtype_type]; kernel_rfl)
theorem ba_dec1 : decId "type.__call__" = false := by decide +kernel
theorem ba_dec2 : decId "bytearray.__init__" = false := by decide +kernel
set_option maxRecDepth 1000000 in
set_option maxHeartbeats 4000000 in
theorem ba_owner : ("bytearray.__new__".splitOn ".__new__").headD "" = "bytearray" := by simp +decide [String.splitOn, String.splitOnAux]

end
section
section
variable {prog : Program} {w : World} {A : Around} {E : Value → Shared → Prop} {s : Shared}
abbrev baO (b : Array UInt8) : Obj := { cls := .type "bytearray", data := .bytearray b }
theorem code_ba_new (a : Value) {Q₁ : Value → Shared → Prop}
    (h : Q₁ (.ref s.heap.objs.size) { s with heap := s.heap.push (baO #[]) }) :
    codeAny (model prog w) A (.call (.builtin "bytearray.__new__") ⟨[.type "bytearray", a], []⟩) (wants Q₁ E) s := by
  refine codeAny_of_tree ?_
  show wpAny _ A.in1 (do checkBuiltinCall "bytearray.__new__" ⟨[.type "bytearray", a], []⟩; again (.builtin "bytearray.__new__" ⟨[.type "bytearray", a], []⟩)) _ _ s
  refine wpAny_bind (wpAny_of_eq (ba_newCall a) (wpAny_pure ⟨plainId_quiet ba_plain_new _, codeAny_builtin_stack ba_entry_new rfl fun p st => ?_⟩))
  rw [Around.under_plainId ba_plain_new _]
  have hsub := ba_sub
  have hown := ba_owner
  obtain ⟨hp, g, d, tk, os⟩ := s
  simp only [hown]
  wp_walk
  exact h
theorem wpAny_write {a : Addr} {b : Array UInt8} {f : Array UInt8 → Array UInt8} {Q : Unit → Shared → Prop} (ha : s.heap.get? a = some (baO b)) (hz : (f b).size ≤ sizeLine)
    (h : ∀ h', Heap.SameBut a s.heap h' → h'.get? a = some (baO (f b)) → Q () { s with heap := h' }) : wpAny (model prog w) A (Builtin.Bytes.write (.ref a) f) Q E s := by
  show wpAny _ _ (updateBytearray a f) _ _ _
  unfold updateBytearray
  refine wpAny_bind (wpAny_load ha ?_)
  show wpAny _ _ (update a (Obj.mapBytearray f) >>= fun _ => lookBehind a) _ _ _
  refine wpAny_bind (wpAny_update ha ?_)
  have h2 : (s.heap.update a (Obj.mapBytearray f)).get? a = some (baO (f b)) := Heap.get?_update_self (Obj.mapBytearray f) ha rfl
  refine wpAny_lookBehind h2 ?_ (h _ (Heap.SameBut.update ..) h2)
  show (if (f b).size > sizeLine then some "bytearray:memory" else none) = none
  rw [if_neg (Nat.not_lt.mpr hz)]
theorem ba_lookup_rel : typeLookup (.type "bytearray") "__release_buffer__" = pure (some (.builtin "bytearray.__release_buffer__")) := by rw [typeLookup_type, builtinLookup_eq_fast]; kernel_rfl
theorem ba_ends : (!"bytearray.__release_buffer__".endsWith ("." ++ "__release_buffer__")) = false := by decide +kernel
theorem ba_drop : "bytearray.__release_buffer__".dropRight ("__release_buffer__".length + 1) = "bytearray" := by decide +kernel
theorem wpAny_ownRelease {a : Addr} {b : Array UInt8} {Q : Bool → Shared → Prop} (ha : s.heap.get? a = some (baO b)) (h : Q false s) : wpAny (model prog w) A (Builtin.Bytes.ownRelease (.ref a)) Q E s := by
  have hT : s.TypeIs (.ref a) "bytearray" := ⟨_, ha, rfl⟩
  unfold Builtin.Bytes.ownRelease Builtin.Bytes.slotIsOwn
  refine wpAny_bind (wpAny_bind (wpAny_specialOf hT ba_lookup_rel ?_))
  try dsimp only
  rw [ba_ends, ba_drop]
  refine bm_if_false rfl ?_
  refine wpAny_isInstance hT ba_sub (wpAny_pure h)
theorem wpAny_exportsOf {a : Addr} {b : Array UInt8} {Q : Nat → Shared → Prop} (ha : s.heap.get? a = some (baO b)) (h : Q 0 s) : wpAny (model prog w) A (Builtin.Bytes.exportsOf (.ref a)) Q E s := by
  unfold Builtin.Bytes.exportsOf
  exact wpAny_bind (wpAny_load ha (wpAny_pure h))
end

end
section
section
variable {prog : Program} {w : World} {A : Around} {E : Value → Shared → Prop} {s : Shared}
theorem codeN_builtin {id : String} {args : Args} {b : Builtin} {R : Result → Shared → Prop} (hn : decId id = false) (hb : entryFor table id = some b)
    (h : wpN (model prog w) (A.under (.builtin id args)) (b args) (fun fin s' => match fin with | .done f => R (.ok f) s' | .again c' => c'.quiet = true ∧ codeN (model prog w) A c' R s') (fun e s' => R (.error e) s') s) :
    codeN (model prog w) A (.builtin id args) R s := by
  refine codeN_tree hn ?_
  show wpN _ _ (match entryFor table id with | some b => b args | none => unsupported ((withoutEnding? id "#data").getD id)) _ _ s
  rw [hb]; exact h
theorem wpN_if_false {α : Type} {M : Model} {c : Bool} {a b : Sem α} {Q : α → Shared → Prop} (hc : c = false) (h : wpN M A b Q E s) : wpN M A (if c = true then a else b) Q E s := by
  subst hc
  exact h
theorem ba_initCode {a : Addr} {n : Int} {k : Nat} {t : Tok} {R : Result → Shared → Prop} (ha : s.heap.get? a = some (baO #[])) (hn : n = 1 ∧ k = 1 ∨ n = 2 ∧ k = 2)
    (h : ∀ h', Heap.SameBut a s.heap h' → h'.get? a = some (baO (Array.replicate k 0)) → R (.ok (.ret .none)) { s with heap := h' }) :
    codeN (model prog w) A (.builtin "bytearray.__init__" ⟨[.ref a, .int n t], []⟩) R s := by
  refine codeN_builtin ba_dec2 ba_entry_init ?_
  rw [Around.under_plainId ba_plain_init _]
  have key : ∀ f : Array UInt8 → Array UInt8, (∀ b, f b = Array.replicate k 0) → k ≤ 2 → wpN (model prog w) A.in1 (do
    if ← Builtin.Bytes.ownRelease (.ref a) then unsupported "bytearray.__init__:own-__release_buffer__-on-a-subclass"
    if ← Builtin.Bytes.exported (.ref a) <||> (do return (← Builtin.Bytes.exportsOf (.ref a)) > 0) then
      if !(← Builtin.Bytes.payload (.ref a)).isEmpty then Builtin.Bytes.checkResize (.ref a)
      unsupported "bytearray.__init__:exported"
    Builtin.Bytes.write (.ref a) fun _ => #[]
    rule "bytearray.__init__.count"
    Builtin.Bytes.write (.ref a) f
    ret .none) (fun fin s' => match fin with | .done f => R (.ok f) s' | .again c' => c'.quiet = true ∧ codeN (model prog w) A c' R s') (fun e s' => R (.error e) s') s := fun f hf hk => by
    refine wpN_bind (wpN_any (wpAny_ownRelease ha ?_))
    refine wpN_if_false rfl ?_
    refine wpN_bind (wpN_bind (wpN_exported ?_))
    refine wpN_any ?_
    refine wpAny_bind (wpAny_exportsOf ha ?_)
    refine wpAny_pure ?_
    refine wpN_if_false rfl ?_
    refine wpN_any ?_
    refine wpAny_bind (wpAny_write ha (Nat.zero_le _) fun h1 s1 e1 => ?_)
    refine wpAny_bind (wpAny_rule ?_)
    refine wpAny_bind (wpAny_write e1 ?_ fun h2 s2 e2 => ?_)
    · rw [hf]; rw [Array.size_replicate]; exact Nat.le_trans hk (by decide)
    · rw [hf] at e2
      exact wpAny_pure (h _ (s1.trans s2) e2)
  rcases hn with ⟨rfl, rfl⟩ | ⟨rfl, rfl⟩
  · rw [ba_init_eq1]; exact key _ (fun _ => rfl) (by decide)
  · rw [ba_init_eq2]; exact key _ (fun _ => rfl) (by decide)
end
section
variable {prog : Program} {w : World} {A : Around} {E : Value → Shared → Prop} {s : Shared}
theorem ba_typeCall (a : Value) : callAny (.type "bytearray") ⟨[a], []⟩ = again (.builtin "type.__call__" ⟨[.type "bytearray", a], []⟩) := by rfl
theorem ba_args (a b : Value) : argsOk "bytearray.__init__" ⟨[a, b], []⟩ := by unfold argsOk; kernel_rfl
theorem callBA {n : Int} {k : Nat} {t : Tok} {Q : Value → Shared → Prop} (hn : n = 1 ∧ k = 1 ∨ n = 2 ∧ k = 2)
    (h : ∀ a h', s.heap.StaysIn h' → s.heap.get? a = none → h'.get? a = some (baO (Array.replicate k 0)) → Q (.ref a) { s with heap := h' }) :
    wpN (model prog w) A (call (.type "bytearray") [.int n t]) Q E s := by
  refine wpN_call (codeN_tree trivial ?_)
  show wpN _ _ (callAny (.type "bytearray") ⟨[.int n t], []⟩) _ _ _
  refine wpN_pure ⟨Code.quiet_builtin _ (by decide +kernel), codeN_builtin ba_dec1 F.entry_type_call ?_⟩
  rw [Around.under_plain (weight_type_call_type "bytearray" [.int n t] []) rfl, ba_call_eq]
  have hc := code_ba_new (prog := prog) (w := w) (A := A.in1) (s := s) (E := fun _ _ => False) (.int n t) (Q₁ := fun v s' => v = .ref s.heap.objs.size ∧ s' = { s with heap := s.heap.push (baO #[]) }) ⟨rfl, rfl⟩
  refine wpN_bind (wpN_any (wpAny_holding (wpAny_call (codeAny_mono hc fun r s' hr => ?_))))
  cases r with
  | error e => exact hr.elim
  | ok fl =>
    cases fl with
    | ret v =>
      obtain ⟨rfl, rfl⟩ := hr
      have ha : (s.heap.push (baO #[])).get? s.heap.objs.size = some (baO #[]) := Heap.get?_push_size _ rfl
      have hT : ({ s with heap := s.heap.push (baO #[]) } : Shared).TypeIs (.ref s.heap.objs.size) "bytearray" := ⟨_, ha, rfl⟩
      try dsimp only
      refine wpN_bind (wpN_any (wpAny_isInstance hT ba_sub ?_))
      refine wpN_if_false rfl ?_
      refine wpN_bind (wpN_holding ?_)
      unfold callSpecial?
      refine wpN_bind (wpN_any (wpAny_specialOf hT ba_slot_init.lookup ?_))
      try dsimp only
      refine wpN_holding (wpN_bind (wpN_any (wpAny_of_eq (ba_slot_init.bind _) ?_)))
      refine wpN_bind (wpN_call (codeN_tree trivial ?_))
      show wpN _ _ (do checkBuiltinCall "bytearray.__init__" ⟨[.ref s.heap.objs.size, .int n t], []⟩; again (.builtin "bytearray.__init__" ⟨[.ref s.heap.objs.size, .int n t], []⟩)) _ _ _
      refine wpN_bind (wpN_any (ba_slot_init.check _ _ _ _ _ _ _ _ hT (ba_args _ _) ?_))
      refine wpN_pure ⟨plainId_quiet ba_plain_init _, ba_initCode ha hn fun h' sb ha' => ?_⟩
      refine wpN_pure ?_
      try dsimp only
      refine wpN_if_false (by decide) ?_
      refine wpN_pure ?_
      refine h _ h' (fun b o e => sb.extBut b o (Nat.ne_of_lt (Heap.lt_size e)) (Heap.get?_push_of_some _ e)) (Heap.get?_none_of_le (Nat.le_refl _)) ha'
    | _ => exact hr.elim
end

end
section
theorem ba_slot_set : Slot "bytearray" "__setitem__" "bytearray.__setitem__" :=
  .of (owner := "bytearray") (n := "__setitem__") (by rw [typeLookup_type, builtinLookup_eq_fast]; kernel_rfl) (by decide +kernel) (by decide +kernel) (by decide +kernel)
    (by first | exact .inl (by decide +kernel) | exact .inr (by decide +kernel)) (by rw [isSubtype_type]; kernel_rfl)
theorem ba_entry_set : entryFor table "bytearray.__setitem__" = some Builtin.«bytearray.__setitem__» := by first | exact entryFor_of_fast (by kernel_rfl) | exact entryFor_of_tree (by kernel_rfl)
theorem ba_args_set (a b c : Value) : argsOk "bytearray.__setitem__" ⟨[a, b, c], []⟩ := by unfold argsOk; kernel_rfl
section
variable {prog : Program} {w : World} {A : Around} {E : Value → Shared → Prop} {s : Shared}
theorem ba_subs {k : Int} {t : Tok} (hk : k = 0 ∨ k = 1) : Builtin.Bytes.subscript? (.int k t) = pure (some k) := by rcases hk with rfl | rfl <;> kernel_rfl
theorem setBA {a : Addr} {b : Array UInt8} {k v : Int} {j : Nat} {t u : Tok} {Q : Unit → Shared → Prop} (ha : s.heap.get? a = some (baO b)) (hk : k = 0 ∧ j = 0 ∨ k = 1 ∧ j = 1) (hj : j < b.size) (hb : b.size ≤ 2) (h0 : 0 ≤ v) (h1 : v < 256)
    (hQ : ∀ h', h'.get? a = some (baO (b.setIfInBounds j v.toNat.toUInt8)) → Heap.SameBut a s.heap h' → Q () { s with heap := h' }) :
    wpAny (model prog w) A (setItem (.ref a) (.int k t) (.int v u)) Q E s := by
  have hT : s.TypeIs (.ref a) "bytearray" := ⟨_, ha, rfl⟩
  unfold setItem
  try with_reducible refine wpAny_holding ?_
  first | refine wpAny_bind (wpAny_pure ?_) | skip
  refine wpAny_bind (wpAny_sequenceKey hT (by decide) ?_)
  refine wpAny_bind (wpAny_callSpecial?_slot (name := Str.ofString "__setitem__") hT ba_slot_set
    (wpAny_call_entry ba_slot_set hT ba_entry_set ?_ (ba_args_set _ _ _)))
  show wpAny _ _ (Builtin.Bytes.subscript? (.int k t) >>= _) _ _ s
  refine wpAny_bind (wpAny_of_eq (ba_subs (hk.imp (·.1) (·.1))) ?_)
  show wpAny _ _ (Builtin.Bytes.byteValue (.int v u) >>= _) _ _ s
  refine wpAny_bind ?_
  unfold Builtin.Bytes.byteValue
  refine wpAny_bind (wpAny_of_eq (rfl : asIndex (.int v u) = pure v) ?_)
  refine bm_if_false (by simp only [Bool.or_eq_false_iff, decide_eq_false_iff_not]; omega) ?_
  refine wpAny_pure ?_
  show wpAny _ _ (Builtin.Bytes.payload (.ref a) >>= _) _ _ s
  refine wpAny_bind ?_
  unfold Builtin.Bytes.payload Builtin.Bytes.payload?
  refine wpAny_bind (wpAny_bind (wpAny_load ha ?_))
  refine wpAny_pure (wpAny_pure ?_)
  have e : seqIndex? k b.size = some j := by
    unfold seqIndex?
    try dsimp only
    rcases hk with ⟨rfl, rfl⟩ | ⟨rfl, rfl⟩
    · rw [if_neg (show ¬ ((0 : Int) < 0) by decide), if_pos (by simp only [Bool.and_eq_true, decide_eq_true_eq]; omega)]; rfl
    · rw [if_neg (show ¬ ((1 : Int) < 0) by decide), if_pos (by simp only [Bool.and_eq_true, decide_eq_true_eq]; omega)]; rfl
  rw [e]
  try dsimp only
  refine wpAny_bind (wpAny_write ha ?_ fun h' sb e' => ?_)
  · rw [Array.size_setIfInBounds]; exact Nat.le_trans hb (by decide)
  · exact wpAny_pure ⟨.none, rfl, wpAny_pure (hQ _ e' sb)⟩
/-- bytes of a bytearray -/
theorem ba_no_bytes : typeLookup (.type "bytearray") "__bytes__" = pure none := by rw [typeLookup_type, builtinLookup_eq_fast]; kernel_rfl
theorem ba_no_index : typeLookup (.type "bytearray") "__index__" = pure none := by rw [typeLookup_type, builtinLookup_eq_fast]; kernel_rfl
theorem ba_lookup_buf : typeLookup (.type "bytearray") "__buffer__" = pure (some (.builtin "bytearray.__buffer__")) := by rw [typeLookup_type, builtinLookup_eq_fast]; kernel_rfl
theorem ba_ends2 : (!"bytearray.__buffer__".endsWith ("." ++ "__buffer__")) = false := by decide +kernel
theorem ba_drop2 : "bytearray.__buffer__".dropRight ("__buffer__".length + 1) = "bytearray" := by decide +kernel
theorem bytesBA {a : Addr} {b : Array UInt8} {Q : Value → Shared → Prop} (hh : A.handled = none) (ha : s.heap.get? a = some (baO b)) (hb : b.size ≤ 2)
    (hQ : ∀ t k, Q (.bytes b t) { s with toks := k }) :
    codeAny (model prog w) A (.call (.builtin "bytes.__new__") ⟨[.type "bytes", .ref a], []⟩) (wants Q E) s := by
  refine codeAny_of_tree ?_
  show wpAny _ A.in1 (do checkBuiltinCall "bytes.__new__" ⟨[.type "bytes", .ref a], []⟩; again (.builtin "bytes.__new__" ⟨[.type "bytes", .ref a], []⟩)) _ _ s
  refine wpAny_bind (wpAny_of_eq (F.bm_newCall _) (wpAny_pure ⟨plainId_quiet F.bm_plain _, codeAny_builtin F.bm_entry ?_⟩))
  rw [Around.under_plainId F.bm_plain _]
  have hT : s.TypeIs (.ref a) "bytearray" := ⟨_, ha, rfl⟩
  unfold Builtin.«bytes.__new__»
  refine wpAny_bind (wpAny_of_eq (a := true) rfl ?_)
  refine bm_if_false rfl ?_
  refine wpAny_bind (wpAny_of_eq F.bm_sub ?_)
  refine bm_if_false rfl ?_
  refine wpAny_bind (wpAny_of_eq (F.bm_bind _) ?_)
  refine wpAny_bind (wpAny_of_eq (a := ()) rfl ?_)
  refine wpAny_bind (wpAny_of_eq (a := ()) rfl ?_)
  refine bm_if_false rfl ?_
  refine wpAny_bind (wpAny_specialOf hT ba_no_bytes ?_)
  refine wpAny_bind (wpAny_bind ?_)
  show wpAny _ _ (load a >>= _) _ _ _
  refine wpAny_bind (wpAny_load ha ?_)
  refine wpAny_pure (wpAny_pure ?_)
  refine bm_if_false rfl ?_
  refine wpAny_bind (wpAny_specialOf hT ba_no_index ?_)
  refine bm_if_true rfl ?_
  show wpAny _ _ (Builtin.Bytes.buffer? "bytes.__new__" (.ref a) true >>= _) _ _ _
  refine wpAny_bind ?_
  unfold Builtin.Bytes.buffer? Builtin.Bytes.slotIsOwn
  refine wpAny_bind (wpAny_specialOf hT ba_lookup_buf ?_)
  try dsimp only
  refine wpAny_bind (wpAny_bind (wpAny_specialOf hT ba_lookup_buf ?_))
  try dsimp only
  rw [ba_ends2, ba_drop2]
  refine bm_if_false rfl ?_
  refine wpAny_isInstance hT ba_sub ?_
  refine bm_if_false rfl ?_
  refine wpAny_bind (wpAny_specialOf hT ba_lookup_buf ?_)
  refine wpAny_bind (wpAny_ownRelease ha ?_)
  refine bm_if_false rfl ?_
  refine wpAny_bind ?_
  unfold Builtin.Bytes.payload Builtin.Bytes.payload?
  refine wpAny_bind (wpAny_bind (wpAny_load ha ?_))
  refine wpAny_pure (wpAny_pure (wpAny_pure ?_))
  refine wpAny_bind (wpAny_rule ?_)
  refine wpAny_bind ?_
  refine wpAny_mkBytes ?_ (Nat.le_trans hb (by decide))
  show wpAny _ _ (if (Value.type "bytes" == Value.type "bytes") = true then _ else _) _ _ _
  refine bm_if_true (by decide) ?_
  first
    | exact wpAny_pure (hQ _ _)
    | exact wpAny_bind (wpAny_pure (wpAny_pure (hQ _ _)))
theorem call_bytesBA {a : Addr} {b : Array UInt8} {Q : Value → Shared → Prop} (hh : A.handled = none) (ha : s.heap.get? a = some (baO b)) (hb : b.size ≤ 2)
    (hQ : ∀ t k, Q (.bytes b t) { s with toks := k }) : wpAny (model prog w) A (call (.type "bytes") [.ref a]) Q E s := by
  refine callType_codes (Q₁ := fun obj s₁ => s₁.TypeIs obj "bytes" ∧ Q obj s₁) F.bm_called (F.bm_typeCall _) F.entry_object_init
    (bytesBA hh ha hb fun t k => ⟨PySem.W.typeIs_bytes _ _ _, hQ t k⟩) fun obj s₁ h₁ => ?_
  exact ⟨h₁.1, F.args_object_init_2 obj _, object_init_meets F.bm_called.init.lookup F.bm_called.made (by decide) prog w A.in1 _ s₁ ⟨h₁.1, rfl, h₁.2⟩⟩
end

end
section
section
variable {α : Type} {M : Model} {A : Around} {E : Value → Shared → Prop} {s : Shared} {K : Frag} {env : Env} {pos : Pos} {f : Value} {first : List Value} {Q : Value → Shared → Prop}
theorem wpN_eq {t : Sem α} {a : α} {Q : α → Shared → Prop} (e : t = pure a) (h : Q a s) : wpN M A t Q E s := by rw [e]; exact wpN_pure h
theorem splN_nil {Q : List Value → Shared → Prop} (h : Q [] s) : wpN M A (spliced []) Q E s := wpN_pure h
theorem splN_cons {x : Sem Value} {rest : List (Bool × Sem Value)} {Q : List Value → Shared → Prop}
    (h : wpN M A x (fun v s₁ => wpN M A (spliced rest) (fun vs s₂ => Q (v :: vs) s₂) E s₁) E s) : wpN M A (spliced ((false, x) :: rest)) Q E s := by
  rw [spliced]
  refine wpN_bind (wpN_mono h (fun v s₁ h₁ => ?_) fun _ _ x => x)
  simp only [Bool.false_eq_true, if_false]
  exact wpN_bind (wpN_pure (wpN_bind (wpN_holding (wpN_mono h₁ (fun vs s₂ h₂ => wpN_pure h₂) fun _ _ x => x))))
theorem argsN {x : Sem Value} {rest : List (Bool × Sem Value)} {Q : Args → Shared → Prop}
    (h : wpN M A (spliced ((false, x) :: rest)) (fun vs s' => Q ⟨vs, []⟩ s') E s) : wpN M A (evalArgs f true ((false, x) :: rest) []) Q E s := by
  unfold evalArgs
  show wpN M A (spliced ((false, x) :: rest) >>= _) Q E s
  refine wpN_bind (wpN_mono h (fun vs s' h' => ?_) fun _ _ x => x)
  refine wpN_holding ?_
  exact wpN_bind (wpN_pure (wpN_bind (wpN_pure (wpN_pure h'))))
theorem callWithN {P : Heap → Prop} {args : List (Bool × Sem Value)} (hplain : args.any (·.1) = false)
    (hk : ∀ h, P h → ∃ k, (k = Keeper.frame ∨ k = Keeper.machine ∨ k = Keeper.boundFrame) ∧ Looks M h (keeperOf f) k)
    (h : wpN M A (evalArgs f true args []) (fun a s₁ => P s₁.heap ∧ wpN M A (call f (first ++ a.pos) a.kw) Q E s₁) E s) : wpN M A (callWith pos f first args []) Q E s := by
  unfold callWith
  refine wpN_bind (wpN_holding (wpN_mono h (fun a s₁ h₁ => wpN_bind (wpN_any (wpAny_standAt ?_))) fun _ _ x => x))
  obtain ⟨k, hk', L⟩ := hk _ h₁.1
  simp only [hplain, List.any_nil, Bool.or_false]
  refine wpN_bind (wpN_any (L.here ?_))
  have tail : ∀ {t : Sem Value}, wpN M A t Q E s₁ → wpN M A (t >>= fun r => holding [r] point >>= fun _ => pure r) Q E s₁ :=
    fun ht => wpN_bind (wpN_mono ht (fun r s₂ hr => wpN_any (wpAny_bind (wpAny_holding (wpAny_point (wpAny_pure hr))))) fun _ _ x => x)
  have marked (mk : Value) : wpN M A (callMarked mk f (first ++ a.pos) a.kw) Q E s₁ := by
    unfold callMarked
    intro Γ p g1 g2 g3
    rw [Sem.wp_keep]
    exact h₁.2 Γ p g1 g2 g3
  rcases hk' with rfl | rfl | rfl <;> dsimp only <;> first | exact tail h₁.2 | (split <;> first | exact tail h₁.2 | exact tail (marked _))
theorem callWithN_type {T : String} {args : List (Bool × Sem Value)} (hplain : args.any (·.1) = false)
    (h : wpN M A (evalArgs (.type T) true args []) (fun a s₁ => wpN M A (call (.type T) (first ++ a.pos) a.kw) Q E s₁) E s) : wpN M A (callWith pos (.type T) first args []) Q E s := by
  unfold callWith
  refine wpN_bind (wpN_holding (wpN_mono h (fun a s₁ h₁ => wpN_bind (wpN_any (wpAny_standAt ?_))) fun _ _ x => x))
  simp only [hplain, List.any_nil, Bool.or_false]
  refine wpN_bind (wpN_pure ?_)
  exact wpN_bind (wpN_mono h₁ (fun r s₂ hr => wpN_any (wpAny_bind (wpAny_holding (wpAny_point (wpAny_pure hr))))) fun _ _ x => x)
theorem CallN {x : Str} {np : Pos} {args : List Expr} {l : List (Bool × Sem Value)} (he : backTo pos (starEach args env) = l) (h : wpN M A (eval (.Name x np) env) (fun f s₁ => wpN M A (callWith pos f [] l []) Q E s₁) E s) :
    wpN M A (eval (.Call (.Name x np) args [] pos) env) Q E s := by
  rw [← he] at h
  show wpN M A (do callWith pos (← eval (.Name x np) env) [] (backTo pos (starEach args env)) (backToKw pos (keywordEach [] env))) Q E s
  exact wpN_bind h
theorem BinOpN {l r : Expr} {op : Operator} (h : wpN M A (eval l env) (fun a s₁ => wpN M A (eval r env) (fun b s₂ => wpN M A (binaryOp op a b) Q E s₂) E s₁) E s) : wpN M A (eval (.BinOp l op r pos) env) Q E s := by
  rw [arm_eval_BinOp]
  refine wpN_bind (wpN_mono h (fun a s₁ h₁ => wpN_bind (wpN_holding (wpN_mono h₁ (fun b s₂ h₂ => wpN_bind (wpN_any (wpAny_standAt ?_))) fun _ _ x => x))) fun _ _ x => x)
  intro Γ p g1 g2 g3
  rw [Sem.wp_operate]
  exact h₂ Γ p g1 g2 g3
theorem AssignN {targets : List Expr} {value : Expr} {Q : Flow → Shared → Prop}
    (h : wpN M A (eval value env) (fun v s₁ => wpAny M A (assignAll v ((assignEach targets env).map (·.2))) (fun _ => Q .next) E s₁) E s)
    (hs : swapsWithSole targets value pos.line env = pure false) (hw : swappedStores targets value env = pure none) :
    wpN M A (exec (.Assign targets value pos) env) Q E s := by
  rw [exec_Assign_arm]
  refine wpN_bind (wpN_any (wpAny_standAt ?_))
  rw [hs]
  refine wpN_bind (wpN_pure ?_)
  rw [if_neg (by decide)]
  refine wpN_bind (wpN_mono h (fun v s₁ h₁ => ?_) fun _ _ x => x)
  rw [hw]
  refine wpN_bind (wpN_pure ?_)
  show wpN M A (do assignAll v ((assignEach targets env).map (·.2)); pure .next) Q E s₁
  exact wpN_any (wpAny_bind (wpAny_mono h₁ (fun _ _ x => wpAny_pure x) fun _ _ x => x))
theorem AssignN1 {x : Str} {px : Pos} {value : Expr} {Q : Flow → Shared → Prop}
    (h : wpN M A (eval value env) (fun v s₁ => wpAny M A (storeName env x v) (fun _ => Q .next) E s₁) E s)
    (hs : swapsWithSole [.Name x px] value pos.line env = pure false) (hw : swappedStores [.Name x px] value env = pure none) :
    wpN M A (exec (.Assign [.Name x px] value pos) env) Q E s := by
  refine AssignN (wpN_mono h (fun v s₁ h₁ => ?_) fun _ _ x => x) hs hw
  show wpAny M A (assignAll v [assign (.Name x px) env]) _ _ _
  unfold assignAll
  first | exact wpAny_bind (wpAny_holding (wpAny_mono (wpAny_assign_Name h₁) (fun _ _ z => by first | exact wpAny_pure z | (unfold assignAll; exact wpAny_pure z)) fun _ _ z => z)) | exact wpAny_holding (wpAny_bind (wpAny_mono (wpAny_assign_Name h₁) (fun _ _ z => by first | exact wpAny_pure z | (unfold assignAll; exact wpAny_pure z)) fun _ _ z => z)) | exact wpAny_bind (wpAny_mono (wpAny_assign_Name h₁) (fun _ _ z => by first | exact wpAny_pure z | (unfold assignAll; exact wpAny_pure z)) fun _ _ z => z) | exact wpAny_assign_Name h₁
theorem wpN_If {test : Expr} {body orelse : List Stmt} {Q : Flow → Shared → Prop} (h : wpN M A (isTrue test env (eval test env)) (fun b s₁ => if b = true then wpN M A (execs body env) Q E s₁ else wpN M A (execs orelse env) Q E s₁) E s) :
    wpN M A (exec (.If test body orelse pos) env) Q E s := by
  rw [arm_exec_If]
  refine wpN_bind (wpN_any (wpAny_standAt (wpN_bind (wpN_mono h (fun b s₁ h₁ => ?_) fun _ _ x => x))))
  cases b
  · simpa using h₁
  · simpa using h₁
end

end
section
example : True := by w_top off; exact trivial
set_option maxHeartbeats 2000000 in
theorem putwhole1 {H : Heap} (X : (hd.heap_1 w.params).In H) (T : Top hd.view_1 (looseW hd.view_1 []) mean mg mb H) {L : Addr} {m : Str → Option Value} {hp : Heap} {tk0 : Tok} {Q E : Value → Shared → Prop} {n : Int} {t1 t2 : Tok} {news : List (Addr × Obj)} (F : Fr H L hp m) (N : News H L hp ([] ++ news)) (h0 : 0 ≤ n) (h1 : n < 64)
  (ret : ∀ b t h' tk', KBw.bInts b = [n] → Fr H L h' m → News H L h' news → Q (.bytes b t) {s with heap := h', toks := tk'}) :
  wpN (model PySem.Challenge.rw_sj0117_01.row.prog w) (AA 130) (call (.ref 82) [.int n t1, .int 1 t2]) Q (fun _ _ => False) {s with heap := hp, toks := tk0} := by
  refine wpN_call ?_
  refine' enterN (binds := [(Str.ofString "n", .int n t1), (Str.ofString "size", .int 1 t2)]) (tgt := []) (by assumption) (by assumption) (by assumption) (by assumption) (fun _ h => absurd h List.not_mem_nil) ?k6 ?k7 (by first | decide | k_room | exact Nat.le_of_ble_eq_true rfl) ?k9 ?kB ?_ ?c2 ?c3 ?c4 ?c5
  ((case k6 => k_is); (case k7 => k_is); (case k9 => exact BindsTo.of_eq (by first | rfl | kernel_rfl | with_unfolding_all rfl)); (case kB => exact locs rfl); (case c2 => exact rfl); (case c3 => exact rfl); (case c4 => exact rfl); (case c5 => decide))
  intro H1 L1 h₁ X1 T1 G1 lk1 F1 N1 l1 _ l4
  replace l1 := ltN l1
  (try dsimp only)
  clear F N X T
  have e0 : n.fdiv (2 ^ (8 * 1 : Int).toNat) = 0 := by
    rw [Int.fdiv_eq_ediv_of_nonneg _ (by decide)]; show n / 256 = 0; omega
  refine wpN_execs (wpN_any ?_)
  w_strict k_steps
  all_goals try (exfalso; omega)
  try dsimp only
  refine wpN_execs (AssignN1 (CallN (l := [(false, eval (.Name _ _) _)]) rfl (wpN_any ?_)) rfl rfl)
  w_strict k_steps
  refine callWithN_type rfl (argsN (splN_cons (wpN_any ?_)))
  w_strict k_steps
  refine splN_nil ?_
  refine callBA (.inl ⟨rfl, rfl⟩) fun a h' st hn ha => ?_
  rename Fr _ _ _ _ => F1
  have F2 := fr_of_keep F1 st
  have haH : H1.get? a = none := by
    cases z : H1.get? a with
    | none => rfl
    | some o => have := F1.keep _ _ z; have hn' : h₁.get? a = none := hn; rw [hn'] at this; cases this
  have haL : a ≠ L1 := fun z => by obtain ⟨o, es, ep, q, _⟩ := F1.ns; have hn' : h₁.get? a = none := hn; rw [← z, hn'] at q; cases q
  have N2 : News H1 L1 h' [(a, baO (Array.replicate 1 0))] := fun q hq => by cases List.mem_singleton.mp hq; exact ⟨ha, haL, haH⟩
  clear F1 N1 ha
  w_strict k_steps
  try dsimp only
  refine wpN_any ?_
  w_strict k_steps
  rename Fr _ _ _ _ => F3
  rename News _ _ _ _ => N3
  have hm : n.fmod 256 = n := by rw [Int.fmod_eq_emod_of_nonneg _ (by decide)]; omega
  rw [hm]
  have hia := N3.ne_of_cls (.head _) (.tail _ (.head _)) (by intro q; exact absurd (Value.type.inj q) (by decide))
  refine setBA (j := 0) (N3 _ (.tail _ (.head _))).1 (.inl ⟨rfl, rfl⟩) (by decide) (by decide) h0 (by omega) fun h2 ha2 sb => ?_
  have F4 : Fr H1 L1 h2 _ := fr_but F3 (fun b o hb e => sb.extBut b o hb e) (Ne.symm haL) haH
  have N4 : News H1 L1 h2 [(_, _), (a, baO #[n.toNat.toUInt8])] := fun q hq => by
    rcases List.mem_cons.mp hq with rfl | hq
    · exact ⟨sb.extBut _ _ hia (N3 _ (.head _)).1, (N3 _ (.head _)).2⟩
    · cases List.mem_singleton.mp hq; exact ⟨ha2, haL, haH⟩
  clear F3 N3 sb
  w_strict k_steps
  rename Fr _ _ _ _ => F5
  rename News _ _ _ _ => N5
  refine call_bytesBA rfl (N5 _ (.head _)).1 (show 1 ≤ 2 by decide) fun t k => ?_
  refine Cut.ret (by with_reducible assumption) ?_
  try dsimp only
  refine Ground'.use (by assumption) F5 (newsSub N5 (b := []) sub_nil) fun Fb Nb Sb => ?_
  refine ret _ _ _ _ ?_ Fb Nb
  show [((n.toNat.toUInt8).toNat : Int)] = [n]
  rw [show (n.toNat.toUInt8).toNat = n.toNat % 256 from rfl]
  congr 1
  omega

end
section
example : True := by w_top off; exact trivial
set_option maxHeartbeats 2000000 in
theorem putwhole2 {H : Heap} (X : (hd.heap_1 w.params).In H) (T : Top hd.view_1 (looseW hd.view_1 []) mean mg mb H) {L : Addr} {m : Str → Option Value} {hp : Heap} {tk0 : Tok} {Q E : Value → Shared → Prop} {t1 t2 : Tok} {news : List (Addr × Obj)} (F : Fr H L hp m) (N : News H L hp ([] ++ news))
  (ret : ∀ b t h' tk', KBw.bInts b = [64, 70] → Fr H L h' m → News H L h' news → Q (.bytes b t) {s with heap := h', toks := tk'}) :
  wpN (model PySem.Challenge.rw_sj0117_01.row.prog w) (AA 130) (call (.ref 82) [.int 16454 t1, .int 2 t2]) Q (fun _ _ => False) {s with heap := hp, toks := tk0} := by
  refine wpN_call ?_
  refine' enterN (binds := [(Str.ofString "n", .int 16454 t1), (Str.ofString "size", .int 2 t2)]) (tgt := []) (by assumption) (by assumption) (by assumption) (by assumption) (fun _ h => absurd h List.not_mem_nil) ?k6 ?k7 (by first | decide | k_room | exact Nat.le_of_ble_eq_true rfl) ?k9 ?kB ?_ ?c2 ?c3 ?c4 ?c5
  ((case k6 => k_is); (case k7 => k_is); (case k9 => exact BindsTo.of_eq (by first | rfl | kernel_rfl | with_unfolding_all rfl)); (case kB => exact locs rfl); (case c2 => exact rfl); (case c3 => exact rfl); (case c4 => exact rfl); (case c5 => decide))
  intro H1 L1 h₁ X1 T1 G1 lk1 F1 N1 l1 _ l4
  replace l1 := ltN l1
  (try dsimp only)
  clear F N X T
  refine wpN_execs (wpN_any ?_)
  w_strict k_steps
  all_goals try (exfalso; omega)
  try dsimp only
  refine wpN_execs (AssignN1 (CallN (l := [(false, eval (.Name _ _) _)]) rfl (wpN_any ?_)) rfl rfl)
  w_strict k_steps
  refine callWithN_type rfl (argsN (splN_cons (wpN_any ?_)))
  w_strict k_steps
  refine splN_nil ?_
  refine callBA (.inr ⟨rfl, rfl⟩) fun a h' st hn ha => ?_
  rename Fr _ _ _ _ => F1
  have F2 := fr_of_keep F1 st
  have haH : H1.get? a = none := by
    cases z : H1.get? a with
    | none => rfl
    | some o => have := F1.keep _ _ z; have hn' : h₁.get? a = none := hn; rw [hn'] at this; cases this
  have haL : a ≠ L1 := fun z => by obtain ⟨o, es, ep, q, _⟩ := F1.ns; have hn' : h₁.get? a = none := hn; rw [← z, hn'] at q; cases q
  have N2 : News H1 L1 h' [(a, baO (Array.replicate 2 0))] := fun q hq => by cases List.mem_singleton.mp hq; exact ⟨ha, haL, haH⟩
  clear F1 N1 ha
  w_strict k_steps
  try dsimp only
  refine wpN_any ?_
  w_strict k_steps
  rename Fr _ _ _ _ => F3
  rename News _ _ _ _ => N3
  have hia := N3.ne_of_cls (.head _) (.tail _ (.head _)) (by intro q; exact absurd (Value.type.inj q) (by decide))
  refine setBA (j := 1) (v := 70) (N3 _ (.tail _ (.head _))).1 (.inr ⟨rfl, rfl⟩) (by decide) (by decide) (by decide) (by decide) fun h2 ha2 sb => ?_
  have F4 : Fr H1 L1 h2 _ := fr_but F3 (fun b o hb e => sb.extBut b o hb e) (Ne.symm haL) haH
  have N4 : News H1 L1 h2 [(_, _), (a, baO #[0, 70])] := fun q hq => by
    rcases List.mem_cons.mp hq with rfl | hq
    · exact ⟨sb.extBut _ _ hia (N3 _ (.head _)).1, (N3 _ (.head _)).2⟩
    · cases List.mem_singleton.mp hq; exact ⟨ha2, haL, haH⟩
  clear F3 N3 sb ha2 hia
  w_strict k_steps
  rename Fr _ _ _ _ => F3
  rename News _ _ _ _ => N3
  have hia := N3.ne_of_cls (.head _) (.tail _ (.head _)) (by intro q; exact absurd (Value.type.inj q) (by decide))
  refine setBA (j := 0) (v := 64) (N3 _ (.tail _ (.head _))).1 (.inl ⟨rfl, rfl⟩) (by decide) (by decide) (by decide) (by decide) fun h2 ha2 sb => ?_
  have F4 : Fr H1 L1 h2 _ := fr_but F3 (fun b o hb e => sb.extBut b o hb e) (Ne.symm haL) haH
  have N4 : News H1 L1 h2 [(_, _), (a, baO #[64, 70])] := fun q hq => by
    rcases List.mem_cons.mp hq with rfl | hq
    · exact ⟨sb.extBut _ _ hia (N3 _ (.head _)).1, (N3 _ (.head _)).2⟩
    · cases List.mem_singleton.mp hq; exact ⟨ha2, haL, haH⟩
  clear F3 N3 sb ha2 hia
  w_strict k_steps
  rename Fr _ _ _ _ => F5
  rename News _ _ _ _ => N5
  refine call_bytesBA rfl (N5 _ (.head _)).1 (by decide) fun t k => ?_
  refine Cut.ret (by with_reducible assumption) ?_
  try dsimp only
  refine Ground'.use (by assumption) F5 (newsSub N5 (b := []) sub_nil) fun Fb Nb Sb => ?_
  exact ret _ _ _ _ (by decide) Fb Nb

end
section
theorem tup_args (x y : Value) : argsOk "tuple.index" ⟨[x, y], []⟩ := F.args_tuple_index_2 x y
section
variable {prog : Program} {w : World} {A : Around} {E : Value → Shared → Prop} {s : Shared}
theorem tupidx {a : Addr} {t1 t2 t3 t4 u : Tok} {k : Int} {j : Int} {Q : Value → Shared → Prop} (hk : k = 1 ∧ j = 0 ∨ k = 2 ∧ j = 1) (hT : IsTup s.heap a #[.int 1 t1, .int 2 t2, .int 4 t3, .int 8 t4])
    (h : Q (.int j s.toks) { s with toks := s.toks + 1 }) : wpAny (model prog w) A (call (.builtin "tuple.index") [.ref a, .int k u]) Q E s := by
  obtain ⟨o, ho, hc, n, hd⟩ := hT
  have hTy : s.TypeIs (.ref a) "tuple" := ⟨_, ho, hc⟩
  refine wpAny_call_entry F.slot_tuple_index hTy F.entry_tuple_index ?_ (tup_args _ _)
  unfold Builtin.«tuple.index»
  refine wpAny_bind (wpAny_of_eq (a := (Value.ref a, [Value.int k u])) (by kernel_rfl) ?_)
  try dsimp only
  unfold Builtin.Tuple.tupleItemsOf seqItems?
  refine wpAny_bind (wpAny_bind (wpAny_bind ?_))
  refine wpAny_load ho ?_
  rw [hd]
  refine wpAny_pure (wpAny_pure ?_)
  (try dsimp only)
  refine wpAny_bind (wpAny_pure (wpAny_bind (wpAny_pure ?_)))
  refine wpAny_bind ?_
  first | rw [Std.Legacy.Range.forIn_eq_forIn_range'] | rw [Std.Range.forIn_eq_forIn_range']
  generalize hl : List.range' _ _ _ = l
  obtain rfl : l = [0, 1, 2, 3] := by rw [← hl]; first | kernel_rfl | (simp [Std.Legacy.Range.size]; decide)
  rw [List.forIn_cons]
  refine wpAny_bind ?_
  show wpAny _ _ (eqBool (.int 1 t1) (.int k u) >>= _) _ _ _
  refine wpAny_bind (wpAny_eqBool_int ?_)
  rcases hk with ⟨rfl, rfl⟩ | ⟨rfl, rfl⟩
  · refine bm_if_true rfl ?_
    wp_walk
    exact ⟨_, rfl, h⟩
  · refine bm_if_false rfl ?_
    refine wpAny_pure ?_
    try dsimp only
    rw [List.forIn_cons]
    refine wpAny_bind ?_
    show wpAny _ _ (eqBool (.int 2 t2) (.int 2 u) >>= _) _ _ _
    refine wpAny_bind (wpAny_eqBool_int ?_)
    refine bm_if_true rfl ?_
    wp_walk
    exact ⟨_, rfl, h⟩
end

end
section
example : True := by w_top off; exact trivial
theorem tupMeth75 {w : World} {H : Heap} {L : Addr} {m : Str → Option Value} {M : Model} {A : Around} {s : Shared} {pl : Sem Bool} {Q : Value × List Value → Shared → Prop} {E : Value → Shared → Prop} (X : (hd.heap_1 w.params).In H) (F : Fr H L s.heap m)
    (h : Q (.builtin "tuple.index", [.ref 75]) s) : wpAny M A (getMethod (.ref 75) (Str.ofString "index") pl) Q E s := by
  have ho : s.heap.get? 75 = some _ := F.keep _ _ (X 75 _ (by k_is))
  exact getMethod_builtin ⟨_, ho, rfl⟩ PySem.F.plainAttrs_tuple PySem.F.slot_tuple_index PySem.F.type_tuple_index (fun a e => by cases e; exact ⟨_, ho, rfl⟩) h
theorem tupIdx75 {w : World} {H : Heap} {L : Addr} {m : Str → Option Value} {A : Around} {s : Shared} {u : Tok} {k j : Int} {Q : Value → Shared → Prop} {E : Value → Shared → Prop} (X : (hd.heap_1 w.params).In H) (F : Fr H L s.heap m) (hk : k = 1 ∧ j = 0 ∨ k = 2 ∧ j = 1)
    (h : Q (.int j s.toks) { s with toks := s.toks + 1 }) : wpAny (model PySem.Challenge.rw_sj0117_01.row.prog w) A (call (.builtin "tuple.index") [.ref 75, .int k u]) Q E s :=
  tupidx hk ((tupK X (show (hd.heap_1 w.params).lookup 75 = some _ from by k_is)).keeps F.keep) h
local macro_rules | `(tactic| walk_at "getMethod ref") => `(tactic| (k_here; k_dflt (refine' tupMeth75 ?k1 ?k2 ?_; (case k1 => k_asm); (case k2 => k_asm); k_whole)))
local macro_rules | `(tactic| walk_at "call builtin:tuple.index") => `(tactic| (k_here; k_dflt (first | refine' tupIdx75 ?k1 ?k2 (Or.inl ⟨rfl, rfl⟩) ?_ | refine' tupIdx75 ?k1 ?k2 (Or.inr ⟨rfl, rfl⟩) ?_); k_dflt (case k1 => k_asm); k_dflt (case k2 => k_asm); k_whole))
theorem or0 {n : Int} (h0 : 0 ≤ n) (h1 : n < 64) : Builtin.bitOr (0 * 2 ^ (8 * 1 - 2 : Int).toNat) n = n := by
  obtain ⟨k, rfl⟩ := Int.eq_ofNat_of_zero_le h0
  have h : k < 64 := by omega
  clear h0 h1
  revert k
  decide +kernel
set_option maxHeartbeats 2000000 in
theorem putvar1 {H : Heap} (X : (hd.heap_1 w.params).In H) (T : Top hd.view_1 (looseW hd.view_1 []) mean mg mb H) {L : Addr} {m : Str → Option Value} {hp : Heap} {tk0 : Tok} {Q E : Value → Shared → Prop} {n : Int} {t1 : Tok} {news : List (Addr × Obj)} (F : Fr H L hp m) (N : News H L hp ([] ++ news)) (h0 : 0 ≤ n) (h1 : n < 64)
  (ret : ∀ b t h' tk', KBw.bInts b = [n] → Fr H L h' m → News H L h' news → Q (.bytes b t) {s with heap := h', toks := tk'}) :
  wpN (model PySem.Challenge.rw_sj0117_01.row.prog w) (AA 120) (call (.ref 103) [.int n t1, .none]) Q (fun _ _ => False) {s with heap := hp, toks := tk0} := by
  refine wpN_call ?_
  refine' enterN (binds := [(Str.ofString "n", .int n t1), (Str.ofString "size", .none)]) (tgt := []) (by assumption) (by assumption) (by assumption) (by assumption) (fun _ h => absurd h List.not_mem_nil) ?k6 ?k7 (by first | decide | k_room | exact Nat.le_of_ble_eq_true rfl) ?k9 ?kB ?_ ?c2 ?c3 ?c4 ?c5
  ((case k6 => k_is); (case k7 => k_is); (case k9 => exact BindsTo.of_eq (by first | rfl | kernel_rfl | with_unfolding_all rfl)); (case kB => exact locs rfl); (case c2 => exact rfl); (case c3 => exact rfl); (case c4 => exact rfl); (case c5 => decide))
  intro H1 L1 h₁ X1 T1 G1 lk1 F1 N1 l1 _ l4
  replace l1 := ltN l1
  (try dsimp only)
  clear F N X T
  have t75 := tupK (by assumption) (show (hd.heap_1 w.params).lookup 75 = some _ from by k_is)
  refine wpN_execs (wpN_any ?_)
  w_strict k_steps
  refine wp_at (f := by exact ⟨rfl, Nat.le_of_ble_eq_true rfl, Nat.le_of_ble_eq_true rfl⟩) (varsize (by assumption) (by assumption) (by assumption) (by assumption) h0 (by omega) ?_)
  intro v t h' tk' hv F N
  rw [if_pos h1] at hv
  subst hv
  clear F1 N1
  w_strict k_steps
  try dsimp only
  refine wpN_execs (wpN_any ?_)
  w_strict k_steps
  try dsimp only
  refine wpN_execs (wpN_any ?_)
  w_strict k_steps
  try dsimp only
  refine wpN_execs (wpN_Return (CallN (l := [(false, eval (.BinOp _ _ _ _) _), (false, eval (.Name _ _) _)]) rfl (wpN_any ?_)))
  w_strict k_steps
  refine callWithN (P := fun h => (hd.heap_1 w.params).In h) rfl (keeps_K (by k_is)) (argsN (splN_cons (wpN_any ?_)))
  w_strict k_steps
  refine splN_cons (wpN_any ?_)
  w_strict k_steps
  rename Fr _ _ _ _ => F3
  rename News _ _ _ _ => N3
  refine splN_nil ⟨X1.keeps F3.keep, ?_⟩
  rw [or0 h0 h1]
  refine wpN_at (f := by exact ⟨rfl, Nat.le_of_ble_eq_true rfl, Nat.le_of_ble_eq_true rfl⟩) (putwhole1 (E := E) X1 T1 F3 N3 h0 h1 fun b t' h2 tk2 hb F4 N4 => ?_)
  refine Ground'.use (by assumption) F4 (newsSub N4 (b := []) sub_nil) fun Fb Nb Sb => ?_
  exact ret _ _ _ _ hb Fb Nb

example : True := by w_top off; exact trivial
set_option maxHeartbeats 2000000 in
theorem putvar70 {H : Heap} (X : (hd.heap_1 w.params).In H) (T : Top hd.view_1 (looseW hd.view_1 []) mean mg mb H) {L : Addr} {m : Str → Option Value} {hp : Heap} {tk0 : Tok} {Q E : Value → Shared → Prop} {t1 : Tok} {news : List (Addr × Obj)} (F : Fr H L hp m) (N : News H L hp ([] ++ news))
  (ret : ∀ b t h' tk', KBw.bInts b = [64, 70] → Fr H L h' m → News H L h' news → Q (.bytes b t) {s with heap := h', toks := tk'}) :
  wpN (model PySem.Challenge.rw_sj0117_01.row.prog w) (AA 120) (call (.ref 103) [.int 70 t1, .none]) Q (fun _ _ => False) {s with heap := hp, toks := tk0} := by
  refine wpN_call ?_
  refine' enterN (binds := [(Str.ofString "n", .int 70 t1), (Str.ofString "size", .none)]) (tgt := []) (by assumption) (by assumption) (by assumption) (by assumption) (fun _ h => absurd h List.not_mem_nil) ?k6 ?k7 (by first | decide | k_room | exact Nat.le_of_ble_eq_true rfl) ?k9 ?kB ?_ ?c2 ?c3 ?c4 ?c5
  ((case k6 => k_is); (case k7 => k_is); (case k9 => exact BindsTo.of_eq (by first | rfl | kernel_rfl | with_unfolding_all rfl)); (case kB => exact locs rfl); (case c2 => exact rfl); (case c3 => exact rfl); (case c4 => exact rfl); (case c5 => decide))
  intro H1 L1 h₁ X1 T1 G1 lk1 F1 N1 l1 _ l4
  replace l1 := ltN l1
  (try dsimp only)
  clear F N X T
  have t75 := tupK (by assumption) (show (hd.heap_1 w.params).lookup 75 = some _ from by k_is)
  refine wpN_execs (wpN_any ?_)
  w_strict k_steps
  refine wp_at (f := by exact ⟨rfl, Nat.le_of_ble_eq_true rfl, Nat.le_of_ble_eq_true rfl⟩) (varsize (by assumption) (by assumption) (by assumption) (by assumption) (by decide) (by decide) ?_)
  intro v t h' tk' hv F N
  rw [if_neg (by decide)] at hv
  subst hv
  clear F1 N1
  w_strict k_steps
  try dsimp only
  refine wpN_execs (wpN_any ?_)
  w_strict k_steps
  try dsimp only
  refine wpN_execs (wpN_any ?_)
  w_strict k_steps
  try dsimp only
  refine wpN_execs (wpN_Return (CallN (l := [(false, eval (.BinOp _ _ _ _) _), (false, eval (.Name _ _) _)]) rfl (wpN_any ?_)))
  w_strict k_steps
  refine callWithN (P := fun h => (hd.heap_1 w.params).In h) rfl (keeps_K (by k_is)) (argsN (splN_cons (wpN_any ?_)))
  w_strict k_steps
  refine splN_cons (wpN_any ?_)
  w_strict k_steps
  rename Fr _ _ _ _ => F3
  rename News _ _ _ _ => N3
  refine splN_nil ⟨X1.keeps F3.keep, ?_⟩
  rw [show Builtin.bitOr (1 * 2 ^ (8 * 2 - 2 : Int).toNat) 70 = 16454 by decide +kernel]
  refine wpN_at (f := by exact ⟨rfl, Nat.le_of_ble_eq_true rfl, Nat.le_of_ble_eq_true rfl⟩) (putwhole2 (E := E) X1 T1 F3 N3 fun b t' h2 tk2 hb F4 N4 => ?_)
  refine Ground'.use (by assumption) F4 (newsSub N4 (b := []) sub_nil) fun Fb Nb Sb => ?_
  exact ret _ _ _ _ hb Fb Nb

end
section
example : True := by w_top off; exact trivial
set_option maxHeartbeats 2000000 in
theorem putplain {H : Heap} (X : (hd.heap_1 w.params).In H) (T : Top hd.view_1 (looseW hd.view_1 []) mean mg mb H) {L : Addr} {m : Str → Option Value} {hp : Heap} {tk0 : Tok} {Q E : Value → Shared → Prop} {k : Int} {p : Array UInt8} {ps : List Int} {t1 t2 : Tok} {news : List (Addr × Obj)} (F : Fr H L hp m) (N : News H L hp ([] ++ news)) (h0 : 0 ≤ k) (h1 : k < 64) (hpz : KBw.bInts p = ps) (hl : ps.length < 64)
  (ret : ∀ b t h' tk', KBw.bInts b = k :: (ps.length : Int) :: ps → Fr H L h' m → News H L h' news → Q (.bytes b t) {s with heap := h', toks := tk'}) :
  wpN (model PySem.Challenge.rw_sj0117_01.row.prog w) (AA 115) (call (.ref 123) [.int k t1, .bytes p t2]) Q (fun _ _ => False) {s with heap := hp, toks := tk0} := by
  refine wpN_call ?_
  refine' enterN (binds := [(Str.ofString "kind", .int k t1), (Str.ofString "payload", .bytes p t2)]) (tgt := []) (by assumption) (by assumption) (by assumption) (by assumption) (fun _ h => absurd h List.not_mem_nil) ?k6 ?k7 (by first | decide | k_room | exact Nat.le_of_ble_eq_true rfl) ?k9 ?kB ?_ ?c2 ?c3 ?c4 ?c5
  ((case k6 => k_is); (case k7 => k_is); (case k9 => exact BindsTo.of_eq (by first | rfl | kernel_rfl | with_unfolding_all rfl)); (case kB => exact locs rfl); (case c2 => exact rfl); (case c3 => exact rfl); (case c4 => exact rfl); (case c5 => decide))
  intro H1 L1 h₁ X1 T1 G1 lk1 F1 N1 l1 _ l4
  replace l1 := ltN l1
  (try dsimp only)
  clear F N X T
  refine wpN_execs (wpN_Return (BinOpN (BinOpN ?_)))
  refine CallN rfl (wpN_any ?_)
  w_strict k_steps
  dsimp only [backTo, starEach, List.map]
  simp only [Bool.false_eq_true, if_false]
  refine callWithN (P := fun h => (hd.heap_1 w.params).In h) rfl (keeps_K (by k_is)) (argsN (splN_cons (wpN_any ?_)))
  w_strict k_steps
  refine splN_cons (wpN_any ?_)
  w_strict k_steps
  rename Fr _ _ _ _ => F3
  rename News _ _ _ _ => N3
  refine splN_nil ⟨X1.keeps F3.keep, ?_⟩
  refine wpN_at (f := by exact ⟨rfl, Nat.le_of_ble_eq_true rfl, Nat.le_of_ble_eq_true rfl⟩) (putvar1 (E := E) X1 T1 F3 N3 h0 h1 fun b t' h2 tk2 hb F4 N4 => ?_)
  clear F3 N3
  refine CallN rfl (wpN_any ?_)
  w_strict k_steps
  dsimp only [backTo, starEach, List.map]
  simp only [Bool.false_eq_true, if_false]
  refine callWithN (P := fun h => (hd.heap_1 w.params).In h) rfl (keeps_K (by k_is)) (argsN (splN_cons (wpN_any ?_)))
  w_strict k_steps
  refine splN_cons (wpN_any ?_)
  w_strict k_steps
  rename Fr _ _ _ _ => F3
  rename News _ _ _ _ => N3
  refine splN_nil ⟨X1.keeps F3.keep, ?_⟩
  refine wpN_at (f := by exact ⟨rfl, Nat.le_of_ble_eq_true rfl, Nat.le_of_ble_eq_true rfl⟩) (putvar1 (E := E) X1 T1 F3 N3 (by omega) (by omega) fun b2 t'' h3 tk3 hb2 F4 N4 => ?_)
  clear F3 N3
  refine wpN_any ?_
  w_strict k_steps
  refine wpN_any ?_
  w_strict k_steps
  refine wpN_any ?_
  w_strict k_steps
  rename Fr _ _ _ _ => F5
  rename News _ _ _ _ => N5
  rename KBw.bInts (b ++ b2 ++ p) = _ => hfin
  refine Ground'.use (by assumption) F5 (newsSub N5 (b := []) sub_nil) fun Fb Nb Sb => ?_
  exact ret _ _ _ _ hfin Fb Nb

end
section
abbrev itO (l : Addr) (i : Nat) : Obj := { cls := .type "list_iterator", data := .fields #[.ref l, .int i 0] }
abbrev itT (l : Addr) (i : Nat) : Obj := { cls := .type "tuple_iterator", data := .fields #[.ref l, .int i 0] }
section
variable {prog : Program} {w : World} {A : Around} {E : Value → Shared → Prop} {s : Shared} {env : Env} {H : Heap} {L : Addr} {m : Str → Option Value} {news : List (Addr × Obj)} {target iter : Expr} {body : List Stmt} {pos : Pos} {R : Result → Shared → Prop}
theorem ForN {M : Model} {Q : Flow → Shared → Prop} (h : wpAny M A (eval iter env) (fun x s₁ => wpAny M A (pyIter x) (fun it s₂ => codeN M A (.forLoop target it body [] env) (fun r s' => match r with | .ok f => Q f s' | .error _ => False) s₂) E s₁) E s)
    (hs : ∀ x, foldedSetIterable iter env x = pure x := by intro _; rfl) : wpN M A (exec (.For target iter body [] pos) env) Q E s := by
  rw [exec_For]
  refine wpN_bind (wpN_any (wpAny_standAt ?_))
  refine wpN_bind (wpN_mono (wpN_any h) (fun x s₁ h₁ => ?_) fun _ _ y => y)
  rw [hs x]
  refine wpN_bind (wpN_pure (wpN_bind (wpN_any (wpAny_standAt ?_))))
  refine wpN_bind (wpN_holding (wpN_mono (wpN_any h₁) (fun it s₂ h₂ => wpN_run h₂) fun _ _ y => y))
/-- a turn of a loop, of clean contexts -/
theorem forN_turn {it : Value} (h : wpAny (model prog w) A (pyNext it) (fun r s₁ => match r with
      | none => R (.ok .next) s₁
      | some v => wpAny (model prog w) A (letOwnedTupleGo target it v) (fun _ s₁ => wpAny (model prog w) A (assign target env v) (fun _ s₂ => wpN (model prog w) A (execs body env) (fun f s₃ => match f with
          | .next | .cont => codeN (model prog w) A (.forLoop target it body [] env) R s₃
          | .brk => R (.ok .next) s₃
          | .ret v => R (.ok (.ret v)) s₃) (fun _ _ => False) s₂) (fun _ _ => False) s₁) (fun _ _ => False) s₁) (fun _ _ => False) s) :
    codeN (model prog w) A (.forLoop target it body [] env) R s := by
  refine codeN_tree trivial ?_
  show wpN _ _ ((forTurn target it body [] env).onRaise (fun x => do noteFrame x env; theTreesLotGoes x)) _ _ s
  refine wpN_onRaise ?_
  simp only [forTurn]
  refine wpN_bind (wpN_any (wpAny_standAt (wpN_bind (wpN_onRaise (wpN_mono (wpN_any h) (fun r s₁ h₁ => ?_) fun _ _ h' => h')))))
  cases r with
  | none => exact wpN_pure ⟨rfl, codeN_any (codeAny_block (wpAny_execs_nil h₁))⟩
  | some v =>
    refine wpN_bind (wpN_mono (wpN_any h₁) (fun _ s₂ h₂ => ?_) fun _ _ h' => h')
    refine wpN_bind (wpN_mono (wpN_any h₂) (fun _ s₂ h₂ => ?_) fun _ _ h' => h')
    refine wpN_bind (wpN_mono h₂ (fun f s₃ h₃ => ?_) fun _ _ h' => h')
    cases f with
    | next => exact wpN_pure ⟨rfl, h₃⟩
    | cont => exact wpN_pure ⟨rfl, h₃⟩
    | brk => exact wpN_pure h₃
    | ret v => exact wpN_pure h₃
theorem letGo_listiter {I l : Addr} {i : Nat} {v : Value} {Q' : Unit → Shared → Prop} (hit : s.heap.IsListIter I l i) (h : Q' () s) :
    wpAny (model prog w) A (letOwnedTupleGo target (.ref I) v) Q' E s := by
  obtain ⟨o, ho, hc, hd⟩ := hit
  unfold letOwnedTupleGo
  cases target <;> first
    | exact wpAny_pure h
    | (cases v <;> first
        | exact wpAny_pure h
        | (refine wpAny_bind (wpAny_load ho ?_)
           rw [hc, hd]
           exact wpAny_pure h))
/-- a list's iterator is made -/
theorem iterL {l : Addr} {items : Array Value} {Q : Value → Shared → Prop} (F : Fr H L s.heap m) (N : News H L s.heap news) (hl : s.heap.IsList l items)
    (h : ∀ I h', Fr H L h' m → News H L h' ((I, itO l 0) :: news) → (∀ r ∈ news, @LT.lt Nat _ r.1 I) → h'.IsList l items → Q (.ref I) { s with heap := h' }) : wpAny (model prog w) A (pyIter (.ref l)) Q E s := by
  refine wpAny_pyIter_list hl (h _ _ (fr_of_keep F fun b o e => Heap.get?_push_of_some _ e) (fun q hq => ?_) (fun r hr => Heap.lt_size (N r hr).1) ?_)
  · rcases List.mem_cons.mp hq with rfl | hq
    · obtain ⟨oL, es, ep, hL, _⟩ := F.ns
      exact ⟨Heap.get?_push_size _ rfl, (Nat.ne_of_lt (Heap.lt_size hL)).symm, Heap.get?_none_of_le (Nat.le_trans F.above (Nat.le_of_lt (Heap.lt_size hL)))⟩
    · exact ⟨Heap.get?_push_of_some _ (N q hq).1, (N q hq).2⟩
  · obtain ⟨o, e, r⟩ := hl
    exact ⟨o, Heap.get?_push_of_some _ e, r⟩
theorem iterT {l : Addr} {items : Array Value} {Q : Value → Shared → Prop} (F : Fr H L s.heap m) (N : News H L s.heap news) (hl : s.heap.IsTuple l items)
    (h : ∀ I h', Fr H L h' m → News H L h' ((I, itT l 0) :: news) → (∀ r ∈ news, @LT.lt Nat _ r.1 I) → h'.IsTuple l items → Q (.ref I) { s with heap := h' }) : wpAny (model prog w) A (pyIter (.ref l)) Q E s := by
  refine wpAny_pyIter_tuple hl (h _ _ (fr_of_keep F fun b o e => Heap.get?_push_of_some _ e) (fun q hq => ?_) (fun r hr => Heap.lt_size (N r hr).1) ?_)
  · rcases List.mem_cons.mp hq with rfl | hq
    · obtain ⟨oL, es, ep, hL, _⟩ := F.ns
      exact ⟨Heap.get?_push_size _ rfl, (Nat.ne_of_lt (Heap.lt_size hL)).symm, Heap.get?_none_of_le (Nat.le_trans F.above (Nat.le_of_lt (Heap.lt_size hL)))⟩
    · exact ⟨Heap.get?_push_of_some _ (N q hq).1, (N q hq).2⟩
  · obtain ⟨o, e, r⟩ := hl
    exact ⟨o, Heap.get?_push_of_some _ e, r⟩
theorem newsBut {h h' : Heap} {I : Addr} {o o' : Obj} (N : News H L h ((I, o) :: news)) (hs : Heap.SameBut I h h') (ho : h'.get? I = some o') (hne : ∀ r ∈ news, r.1 ≠ I) : News H L h' ((I, o') :: news) := fun q hq => by
  rcases List.mem_cons.mp hq with rfl | hq
  · exact ⟨ho, (N _ (.head _)).2⟩
  · exact ⟨hs.extBut _ _ (hne q hq) (N q (.tail _ hq)).1, (N q (.tail _ hq)).2⟩
theorem frBut {h h' : Heap} {I : Addr} {o : Obj} (F : Fr H L h m) (N : News H L h ((I, o) :: news)) (hs : Heap.ExtBut I h h') : Fr H L h' m :=
  fr_but F hs (N _ (.head _)).2.1.symm (N _ (.head _)).2.2
/-- an iterator's object -/
def LI (c : String) (o : Obj) (l : Addr) (i : Nat) : Prop := o.cls = .type c ∧ o.data = .fields #[.ref l, .int i 0]
theorem LI.list {h : Heap} {I l : Addr} {i : Nat} {o : Obj} (x : LI "list_iterator" o l i) (e : h.get? I = some o) : h.IsListIter I l i := ⟨o, e, x.1, x.2⟩
theorem LI.tup {h : Heap} {I l : Addr} {i : Nat} {o : Obj} (x : LI "tuple_iterator" o l i) (e : h.get? I = some o) : h.IsTupleIter I l i := ⟨o, e, x.1, x.2⟩
theorem nextL {I l : Addr} {i : Nat} {items : Array Value} {x : Value} {o : Obj} {Q : Option Value → Shared → Prop} (F : Fr H L s.heap m) (N : News H L s.heap ((I, o) :: news)) (ho : LI "list_iterator" o l i) (hl : s.heap.IsList l items) (hne : ∀ r ∈ news, r.1 ≠ I) (hx : items[i]? = some x)
    (h : ∀ o' h', LI "list_iterator" o' l (i + 1) → Fr H L h' m → News H L h' ((I, o') :: news) → h'.IsList l items → Q (some x) { s with heap := h' }) : wpAny (model prog w) A (pyNext (.ref I)) Q E s := by
  have hlI : l ≠ I := fun e => by
    obtain ⟨ol, e1, c1, _⟩ := hl
    have e2 := (N _ (.head _)).1
    rw [← e, e1] at e2
    cases e2
    rw [ho.1] at c1
    exact absurd (Value.type.inj c1) (by decide)
  refine wpAny_pyNext_list_item (ho.list (N _ (.head _)).1) hl hx fun h' hit hs => ?_
  obtain ⟨o', e', c', d'⟩ := hit
  exact h o' h' ⟨c', d'⟩ (frBut F N hs.extBut) (newsBut N hs e' hne) (hl.extBut hs.extBut hlI)
theorem nextT {I l : Addr} {i : Nat} {items : Array Value} {x : Value} {o : Obj} {Q : Option Value → Shared → Prop} (F : Fr H L s.heap m) (N : News H L s.heap ((I, o) :: news)) (ho : LI "tuple_iterator" o l i) (hl : s.heap.IsTuple l items) (hne : ∀ r ∈ news, r.1 ≠ I) (hx : items[i]? = some x)
    (h : ∀ o' h', LI "tuple_iterator" o' l (i + 1) → Fr H L h' m → News H L h' ((I, o') :: news) → h'.IsTuple l items → Q (some x) { s with heap := h' }) : wpAny (model prog w) A (pyNext (.ref I)) Q E s := by
  have hlI : l ≠ I := fun e => by
    obtain ⟨ol, e1, c1, _⟩ := hl
    have e2 := (N _ (.head _)).1
    rw [← e, e1] at e2
    cases e2
    rw [ho.1] at c1
    exact absurd (Value.type.inj c1) (by decide)
  refine wpAny_pyNext_tuple_item (ho.tup (N _ (.head _)).1) hl hx fun h' hit hs => ?_
  obtain ⟨o', e', c', d'⟩ := hit
  exact h o' h' ⟨c', d'⟩ (frBut F N hs.extBut) (newsBut N hs e' hne) (hl.extBut hs.extBut hlI)
theorem nextLend {I l : Addr} {i : Nat} {items : Array Value} {o : Obj} {Q : Option Value → Shared → Prop} (hh : A.handled = none) (F : Fr H L s.heap m) (N : News H L s.heap ((I, o) :: news)) (ho : LI "list_iterator" o l i) (hl : s.heap.IsList l items) (hx : items[i]? = none) (hne : ∀ r ∈ news, r.1 ≠ I)
    (h : ∀ h', Fr H L h' m → News H L h' news → Q none { s with heap := h' }) : wpAny (model prog w) A (pyNext (.ref I)) Q E s :=
  wpAny_pyNext_list_end hh (ho.list (N _ (.head _)).1) hl hx fun h' hs => h h' (frBut F N hs) fun q hq => ⟨hs _ _ (hne q hq) (N q (.tail _ hq)).1, (N q (.tail _ hq)).2⟩
end

end
section
example : True := by w_top off; exact trivial
theorem putvar {H : Heap} (X : (hd.heap_1 w.params).In H) (T : Top hd.view_1 (looseW hd.view_1 []) mean mg mb H) {L : Addr} {m : Str → Option Value} {hp : Heap} {tk0 : Tok} {Q E : Value → Shared → Prop} {n : Int} {t1 : Tok} {news : List (Addr × Obj)} (F : Fr H L hp m) (N : News H L hp ([] ++ news)) (h0 : isNum n)
  (ret : ∀ b t h' tk', KBw.bInts b = octs n → Fr H L h' m → News H L h' news → Q (.bytes b t) {s with heap := h', toks := tk'}) :
  wpN (model PySem.Challenge.rw_sj0117_01.row.prog w) (AA 120) (call (.ref 103) [.int n t1, .none]) Q (fun _ _ => False) {s with heap := hp, toks := tk0} := by
  rcases h0 with ⟨h0, h1⟩ | rfl
  · exact putvar1 (E := E) X T F N h0 h1 fun b t h' tk' hb => ret b t h' tk' (by rw [hb]; unfold octs; rw [if_pos h1])
  · exact putvar70 (E := E) X T F N fun b t h' tk' hb => ret b t h' tk' hb
theorem isList_keep {h h' : Heap} {l : Addr} {items : Array Value} (x : h.IsList l items) (k : h.StaysIn h') : h'.IsList l items := let ⟨o, e, r⟩ := x; ⟨o, k _ _ e, r⟩
set_option maxHeartbeats 2000000 in
theorem putsett {H : Heap} (X : (hd.heap_1 w.params).In H) (T : Top hd.view_1 (looseW hd.view_1 []) mean mg mb H) {L : Addr} {m : Str → Option Value} {hp : Heap} {tk0 : Tok} {Q E : Value → Shared → Prop} {l p : Addr} {a b : Int} {t1 t2 : Tok} {nl : Nat} {news : List (Addr × Obj)} (F : Fr H L hp m) (N : News H L hp ([] ++ news))
  (hl : hp.get? l = some (listOf #[.ref p] nl)) (hpz : hp.get? p = some (tupO [.int a t1, .int b t2])) (ha : isNum a) (hb : isNum b)
  (ret : ∀ x t h' tk', KBw.bInts x = octs a ++ octs b → Fr H L h' m → News H L h' news → Q (.bytes x t) {s with heap := h', toks := tk'}) :
  wpN (model PySem.Challenge.rw_sj0117_01.row.prog w) (AA 115) (call (.ref 130) [.ref l]) Q (fun _ _ => False) {s with heap := hp, toks := tk0} := by
  refine wpN_call ?_
  refine' enterN (binds := [(Str.ofString "pairs", .ref l)]) (tgt := []) (by assumption) (by assumption) (by assumption) (by assumption) (fun _ h => absurd h List.not_mem_nil) ?k6 ?k7 (by first | decide | k_room | exact Nat.le_of_ble_eq_true rfl) ?k9 ?kB ?_ ?c2 ?c3 ?c4 ?c5
  ((case k6 => k_is); (case k7 => k_is); (case k9 => exact BindsTo.of_eq (by first | rfl | kernel_rfl | with_unfolding_all rfl)); (case kB => exact locs rfl); (case c2 => exact rfl); (case c3 => exact rfl); (case c4 => exact rfl); (case c5 => decide))
  intro H1 L1 h₁ X1 T1 G1 lk1 F1 N1 l1 _ l4
  replace l1 := ltN l1
  (try dsimp only)
  clear F N X T
  have i1 := lstAt (lk1 _ _ hl (fun q h => absurd h List.not_mem_nil))
  have i2 := tupAt (lk1 _ _ hpz (fun q h => absurd h List.not_mem_nil))
  clear hl hpz lk1
  have hb0 : KBw.bInts #[] = [] := rfl
  have hla : (octs a).length < 3 := by unfold octs; split <;> simp
  have hlb : (octs b).length < 3 := by unfold octs; split <;> simp
  refine wpN_execs (wpN_any ?_)
  w_strict k_steps
  try dsimp only
  refine wpN_execs (ForN (stopT ?_))
  w_strict k_steps
  rename Fr _ _ _ _ => F2
  rename News _ _ _ _ => N2
  refine unstop (iterL F2 N2 (isList_keep i1 F2.keep) fun I h' F3 N3 hlt hl3 => ?_)
  clear F2 N2
  refine forN_turn (nextL (i := 0) (x := .ref p) F3 N3 ⟨rfl, rfl⟩ hl3 (fun r hr => absurd hr List.not_mem_nil) rfl fun o' h2 ho F4 N4 hl4 => ?_)
  clear F3 N3 hl3
  refine letGo_listiter (ho.list (N4 _ (.head _)).1) ?_
  try dsimp only
  w_strict k_steps
  refine wpN_execs (AssignN1 (BinOpN (BinOpN (wpN_any ?_))) rfl rfl)
  w_strict k_steps
  refine CallN rfl (wpN_any ?_)
  w_strict k_steps
  dsimp only [backTo, starEach, List.map]
  simp only [Bool.false_eq_true, if_false]
  refine callWithN (P := fun h => (hd.heap_1 w.params).In h) rfl (keeps_K (by k_is)) (argsN (splN_cons (wpN_any ?_)))
  w_strict k_steps
  refine splN_cons (wpN_any ?_)
  w_strict k_steps
  rename Fr _ _ _ _ => F3
  rename News _ _ _ _ => N3
  refine splN_nil ⟨X1.keeps F3.keep, ?_⟩
  refine wpN_at (f := by exact ⟨rfl, Nat.le_of_ble_eq_true rfl, Nat.le_of_ble_eq_true rfl⟩) (putvar (E := E) (news := [(I, o')]) X1 T1 F3 N3 ha fun b1 t' h2 tk2 hb1 F4 N4 => ?_)
  clear F3 N3
  refine wpN_any ?_
  w_strict k_steps
  refine CallN rfl (wpN_any ?_)
  w_strict k_steps
  dsimp only [backTo, starEach, List.map]
  simp only [Bool.false_eq_true, if_false]
  refine callWithN (P := fun h => (hd.heap_1 w.params).In h) rfl (keeps_K (by k_is)) (argsN (splN_cons (wpN_any ?_)))
  w_strict k_steps
  refine splN_cons (wpN_any ?_)
  w_strict k_steps
  rename Fr _ _ _ _ => F3
  rename News _ _ _ _ => N3
  refine splN_nil ⟨X1.keeps F3.keep, ?_⟩
  refine wpN_at (f := by exact ⟨rfl, Nat.le_of_ble_eq_true rfl, Nat.le_of_ble_eq_true rfl⟩) (putvar (E := E) (news := [(I, o')]) X1 T1 F3 N3 hb fun b2 t'' h3 tk3 hb2 F4 N4 => ?_)
  clear F3 N3
  refine wpN_any ?_
  w_strict k_steps
  rename Fr _ _ _ _ => F5
  rename News _ _ _ _ => N5
  refine wpN_any (wpAny_execs_nil ?_)
  try dsimp only
  refine forN_turn (nextLend rfl F5 N5 ho (isList_keep i1 F5.keep) rfl (fun r hr => absurd hr List.not_mem_nil) fun h' F6 N6 => ?_)
  clear F5 N5
  try dsimp only
  refine wpN_execs (wpN_any ?_)
  w_strict k_steps
  try dsimp only
  rename Fr _ _ _ _ => F7
  rename News _ _ _ _ => N7
  refine Ground'.use (by assumption) F7 (newsSub N7 (b := []) sub_nil) fun Fb Nb Sb => ?_
  exact ret _ _ _ _ (by assumption) Fb Nb

end
section
example : True := by w_top off; exact trivial
set_option maxHeartbeats 4000000 in
theorem puth3_a {H : Heap} (X : (hd.heap_1 w.params).In H) (T : Top hd.view_1 (looseW hd.view_1 []) mean mg mb H) {L : Addr} {m : Str → Option Value} {hp : Heap} {tk0 : Tok} {Q E : Value → Shared → Prop} {v : Value} {f : Fm} {news : List (Addr × Obj)} (F : Fr H L hp m) (N : News H L hp ([] ++ news)) (hv : FmAt hp v f) (hf : f = .hdr ∨ f = .dat ∨ f = .unk)
  (ret : ∀ b t h' tk', KBw.bInts b = enc f → Fr H L h' m → News H L h' news → Q (.bytes b t) {s with heap := h', toks := tk'}) :
  wpN (model PySem.Challenge.rw_sj0117_01.row.prog w) (AA 100) (call (.ref 137) [v]) Q (fun _ _ => False) {s with heap := hp, toks := tk0} := by
  refine wpN_call ?_
  refine' enterN (binds := [(Str.ofString "frame", v)]) (tgt := []) (by assumption) (by assumption) (by assumption) (by assumption) (fun _ h => absurd h List.not_mem_nil) ?k6 ?k7 (by first | decide | k_room | exact Nat.le_of_ble_eq_true rfl) ?k9 ?kB ?_ ?c2 ?c3 ?c4 ?c5
  ((case k6 => k_is); (case k7 => k_is); (case k9 => exact BindsTo.of_eq (by first | rfl | kernel_rfl | with_unfolding_all rfl)); (case kB => exact locs rfl); (case c2 => exact rfl); (case c3 => exact rfl); (case c4 => exact rfl); (case c5 => decide))
  intro H1 L1 h₁ X1 T1 G1 lk1 F1 N1 l1 _ l4
  replace l1 := ltN l1
  (try dsimp only)
  clear F N X T
  have hv1 := hv.keep (fun b o e _ => lk1 b o e fun q h => absurd h List.not_mem_nil)
  clear hv lk1
  rcases hf with rfl | rfl | rfl
  · obtain ⟨a, t1, t2, rfl, h1⟩ := hv1
    have i1 := tupAt h1
    refine wpN_execs (wpN_any ?_)
    w_strict k_steps
    try dsimp only
    refine wpN_execs (wpN_If (wpN_any ?_))
    w_strict k_steps
    refine wpN_execs (wpN_Return (CallN rfl (wpN_any ?_)))
    w_strict k_steps
    dsimp only [backTo, starEach, List.map]
    simp only [Bool.false_eq_true, if_false]
    refine callWithN (P := fun h => (hd.heap_1 w.params).In h) rfl (keeps_K (by k_is)) (argsN (splN_cons (wpN_any ?_)))
    w_strict k_steps
    refine splN_cons (wpN_any ?_)
    w_strict k_steps
    rename Fr _ _ _ _ => F3
    rename News _ _ _ _ => N3
    refine splN_nil ⟨X1.keeps F3.keep, ?_⟩
    refine wpN_at (f := by exact ⟨rfl, Nat.le_of_ble_eq_true rfl, Nat.le_of_ble_eq_true rfl⟩) (putplain (E := E) (k := 1) (ps := [104]) (news := []) X1 T1 F3 N3 (by decide) (by decide) rfl (by decide) fun b t' h2 tk2 hb F4 N4 => ?_)
    refine Ground'.use (by assumption) F4 (newsSub N4 (b := []) sub_nil) fun Fb Nb Sb => ?_
    exact ret _ _ _ _ hb Fb Nb
  · obtain ⟨a, t1, t2, rfl, h1⟩ := hv1
    have i1 := tupAt h1
    refine wpN_execs (wpN_any ?_)
    w_strict k_steps
    try dsimp only
    refine wpN_execs (wpN_If (wpN_any ?_))
    w_strict k_steps
    refine wpN_execs (wpN_Return (CallN rfl (wpN_any ?_)))
    w_strict k_steps
    dsimp only [backTo, starEach, List.map]
    simp only [Bool.false_eq_true, if_false]
    refine callWithN (P := fun h => (hd.heap_1 w.params).In h) rfl (keeps_K (by k_is)) (argsN (splN_cons (wpN_any ?_)))
    w_strict k_steps
    refine splN_cons (wpN_any ?_)
    w_strict k_steps
    rename Fr _ _ _ _ => F3
    rename News _ _ _ _ => N3
    refine splN_nil ⟨X1.keeps F3.keep, ?_⟩
    refine wpN_at (f := by exact ⟨rfl, Nat.le_of_ble_eq_true rfl, Nat.le_of_ble_eq_true rfl⟩) (putplain (E := E) (k := 0) (ps := []) (news := []) X1 T1 F3 N3 (by decide) (by decide) rfl (by decide) fun b t' h2 tk2 hb F4 N4 => ?_)
    refine Ground'.use (by assumption) F4 (newsSub N4 (b := []) sub_nil) fun Fb Nb Sb => ?_
    exact ret _ _ _ _ hb Fb Nb
  · obtain ⟨a, t1, t2, t3, rfl, h1⟩ := hv1
    have i1 := tupAt h1
    refine wpN_execs (wpN_any ?_)
    w_strict k_steps
    try dsimp only
    refine wpN_execs (wpN_any ?_)
    w_strict k_steps
    try dsimp only
    refine wpN_execs (wpN_any ?_)
    w_strict k_steps
    try dsimp only
    refine wpN_execs (wpN_any ?_)
    w_strict k_steps
    try dsimp only
    refine wpN_execs (wpN_If (wpN_any ?_))
    w_strict k_steps
    refine wpN_execs (wpN_Return (CallN rfl (wpN_any ?_)))
    w_strict k_steps
    dsimp only [backTo, starEach, List.map]
    simp only [Bool.false_eq_true, if_false]
    refine callWithN (P := fun h => (hd.heap_1 w.params).In h) rfl (keeps_K (by k_is)) (argsN (splN_cons (wpN_any ?_)))
    w_strict k_steps
    refine splN_cons (wpN_any ?_)
    w_strict k_steps
    rename Fr _ _ _ _ => F3
    rename News _ _ _ _ => N3
    refine splN_nil ⟨X1.keeps F3.keep, ?_⟩
    refine wpN_at (f := by exact ⟨rfl, Nat.le_of_ble_eq_true rfl, Nat.le_of_ble_eq_true rfl⟩) (putplain (E := E) (k := 33) (ps := [117]) (news := []) X1 T1 F3 N3 (by decide) (by decide) rfl (by decide) fun b t' h2 tk2 hb F4 N4 => ?_)
    refine Ground'.use (by assumption) F4 (newsSub N4 (b := []) sub_nil) fun Fb Nb Sb => ?_
    exact ret _ _ _ _ hb Fb Nb

end
section
example : True := by w_top off; exact trivial
set_option maxHeartbeats 4000000 in
theorem puth3_s {H : Heap} (X : (hd.heap_1 w.params).In H) (T : Top hd.view_1 (looseW hd.view_1 []) mean mg mb H) {L : Addr} {m : Str → Option Value} {hp : Heap} {tk0 : Tok} {Q E : Value → Shared → Prop} {v : Value} {f : Fm} {news : List (Addr × Obj)} (F : Fr H L hp m) (N : News H L hp ([] ++ news)) (hv : FmAt hp v f) (hf : f = .sett ∨ f = .sett2)
  (ret : ∀ b t h' tk', KBw.bInts b = enc f → Fr H L h' m → News H L h' news → Q (.bytes b t) {s with heap := h', toks := tk'}) :
  wpN (model PySem.Challenge.rw_sj0117_01.row.prog w) (AA 100) (call (.ref 137) [v]) Q (fun _ _ => False) {s with heap := hp, toks := tk0} := by
  obtain ⟨n, u, hn, hu, henc, a, t1, l, nl, p, t2, t3, rfl, h1, h2, h3⟩ : ∃ n u, isNum n ∧ isNum u ∧ enc f = 4 :: ((octs n ++ octs u).length : Int) :: (octs n ++ octs u) ∧ ∃ a t1 l nl p t2 t3, v = .ref a ∧ hp.get? a = some (tupO [sv "settings" t1, .ref l]) ∧ hp.get? l = some (listOf #[.ref p] nl) ∧ hp.get? p = some (tupO [.int n t2, .int u t3]) := by
    rcases hf with rfl | rfl
    · exact ⟨6, 70, .inl ⟨by decide, by decide⟩, .inr rfl, rfl, hv⟩
    · exact ⟨33, 9, .inl ⟨by decide, by decide⟩, .inl ⟨by decide, by decide⟩, rfl, hv⟩
  have hlen : (octs n ++ octs u).length < 64 := by
    have z : ∀ k, (octs k).length < 3 := fun k => by unfold octs; split <;> simp
    have := z n; have := z u; rw [List.length_append]; omega
  clear hf hv
  refine wpN_call ?_
  refine' enterN (binds := [(Str.ofString "frame", .ref a)]) (tgt := []) (by assumption) (by assumption) (by assumption) (by assumption) (fun _ h => absurd h List.not_mem_nil) ?k6 ?k7 (by first | decide | k_room | exact Nat.le_of_ble_eq_true rfl) ?k9 ?kB ?_ ?c2 ?c3 ?c4 ?c5
  ((case k6 => k_is); (case k7 => k_is); (case k9 => exact BindsTo.of_eq (by first | rfl | kernel_rfl | with_unfolding_all rfl)); (case kB => exact locs rfl); (case c2 => exact rfl); (case c3 => exact rfl); (case c4 => exact rfl); (case c5 => decide))
  intro H1 L1 h₁ X1 T1 G1 lk1 F1 N1 l1 _ l4
  replace l1 := ltN l1
  (try dsimp only)
  clear F N X T
  have i1 := tupAt (lk1 _ _ h1 (fun q h => absurd h List.not_mem_nil))
  have i2 := lk1 _ _ h2 (fun q h => absurd h List.not_mem_nil)
  have i3 := lk1 _ _ h3 (fun q h => absurd h List.not_mem_nil)
  clear h1 h2 h3 lk1
  refine wpN_execs (wpN_any ?_)
  w_strict k_steps
  try dsimp only
  refine wpN_execs (wpN_any ?_)
  w_strict k_steps
  try dsimp only
  refine wpN_execs (wpN_If (wpN_any ?_))
  w_strict k_steps
  refine wpN_execs (wpN_Return (CallN rfl (wpN_any ?_)))
  w_strict k_steps
  dsimp only [backTo, starEach, List.map]
  simp only [Bool.false_eq_true, if_false]
  refine callWithN (P := fun h => (hd.heap_1 w.params).In h) rfl (keeps_K (by k_is)) (argsN (splN_cons (wpN_any ?_)))
  w_strict k_steps
  refine splN_cons ?_
  refine CallN rfl (wpN_any ?_)
  w_strict k_steps
  dsimp only [backTo, starEach, List.map]
  simp only [Bool.false_eq_true, if_false]
  refine callWithN (P := fun h => (hd.heap_1 w.params).In h) rfl (keeps_K (by k_is)) (argsN (splN_cons (wpN_any ?_)))
  w_strict k_steps
  rename Fr _ _ _ _ => F3
  rename News _ _ _ _ => N3
  refine splN_nil ⟨X1.keeps F3.keep, ?_⟩
  refine wpN_at (f := by exact ⟨rfl, Nat.le_of_ble_eq_true rfl, Nat.le_of_ble_eq_true rfl⟩) (putsett (E := E) (news := []) X1 T1 F3 N3 (F3.keep _ _ i2) (F3.keep _ _ i3) hn hu fun b t' h2 tk2 hb F4 N4 => ?_)
  clear F3 N3
  refine splN_nil ⟨X1.keeps F4.keep, ?_⟩
  refine wpN_at (f := by exact ⟨rfl, Nat.le_of_ble_eq_true rfl, Nat.le_of_ble_eq_true rfl⟩) (putplain (E := E) (k := 4) (ps := octs n ++ octs u) (news := []) X1 T1 F4 N4 (by decide) (by decide) hb hlen fun b t' h2 tk2 hb F4 N4 => ?_)
  refine Ground'.use (by assumption) F4 (newsSub N4 (b := []) sub_nil) fun Fb Nb Sb => ?_
  exact ret _ _ _ _ (hb.trans henc.symm) Fb Nb
set_option maxHeartbeats 4000000 in
theorem puth3_i {H : Heap} (X : (hd.heap_1 w.params).In H) (T : Top hd.view_1 (looseW hd.view_1 []) mean mg mb H) {L : Addr} {m : Str → Option Value} {hp : Heap} {tk0 : Tok} {Q E : Value → Shared → Prop} {v : Value} {f : Fm} {n : Int} {news : List (Addr × Obj)} (F : Fr H L hp m) (N : News H L hp ([] ++ news)) (hv : FmAt hp v f) (hf : f = .canc n ∨ f = .goaway n ∨ f = .maxp n) (h0 : 0 ≤ n) (h1 : n < 64)
  (ret : ∀ b t h' tk', KBw.bInts b = enc f → Fr H L h' m → News H L h' news → Q (.bytes b t) {s with heap := h', toks := tk'}) :
  wpN (model PySem.Challenge.rw_sj0117_01.row.prog w) (AA 100) (call (.ref 137) [v]) Q (fun _ _ => False) {s with heap := hp, toks := tk0} := by
  refine wpN_call ?_
  refine' enterN (binds := [(Str.ofString "frame", v)]) (tgt := []) (by assumption) (by assumption) (by assumption) (by assumption) (fun _ h => absurd h List.not_mem_nil) ?k6 ?k7 (by first | decide | k_room | exact Nat.le_of_ble_eq_true rfl) ?k9 ?kB ?_ ?c2 ?c3 ?c4 ?c5
  ((case k6 => k_is); (case k7 => k_is); (case k9 => exact BindsTo.of_eq (by first | rfl | kernel_rfl | with_unfolding_all rfl)); (case kB => exact locs rfl); (case c2 => exact rfl); (case c3 => exact rfl); (case c4 => exact rfl); (case c5 => decide))
  intro H1 L1 h₁ X1 T1 G1 lk1 F1 N1 l1 _ l4
  replace l1 := ltN l1
  (try dsimp only)
  clear F N X T
  have hv1 := hv.keep (fun b o e _ => lk1 b o e fun q h => absurd h List.not_mem_nil)
  clear hv lk1
  have t114 := tupK (by assumption) (show (hd.heap_1 w.params).lookup 114 = some _ from by k_is)
  have t111 := tupK (by assumption) (show (hd.heap_1 w.params).lookup 111 = some _ from by k_is)
  have t112 := tupK (by assumption) (show (hd.heap_1 w.params).lookup 112 = some _ from by k_is)
  have t113 := tupK (by assumption) (show (hd.heap_1 w.params).lookup 113 = some _ from by k_is)
  rcases hf with rfl | rfl | rfl
  · obtain ⟨a, t1, t2, rfl, h1'⟩ := hv1
    have i1 := tupAt h1'
    refine wpN_execs (wpN_any ?_)
    w_strict k_steps
    try dsimp only
    refine wpN_execs (wpN_any ?_)
    w_strict k_steps
    try dsimp only
    refine wpN_execs (wpN_any ?_)
    w_strict k_steps
    try dsimp only
    refine wpN_execs (wpN_any ?_)
    w_strict k_steps
    try dsimp only
    refine wpN_execs (wpN_any ?_)
    w_strict k_steps
    try dsimp only
    refine wpN_execs (ForN (stopT ?_))
    w_strict k_steps
    rename Fr _ _ _ _ => F2
    rename News _ _ _ _ => N2
    refine unstop (iterT F2 N2 (t114.keeps F2.keep) fun I h' F3 N3 hlt hl3 => ?_)
    clear F2 N2
    refine forN_turn (nextT (i := 0) (x := .ref 111) F3 N3 ⟨rfl, rfl⟩ hl3 (fun r hr => absurd hr List.not_mem_nil) rfl fun o' h2 ho F4 N4 hl4 => ?_)
    clear F3 N3 hl3
    refine letGo_tupleiter (ho.tup (N4 _ (.head _)).1) ?_
    try dsimp only
    w_strict k_steps
    refine wpN_execs (wpN_If (wpN_any ?_))
    w_strict k_steps
    refine wpN_execs (wpN_Return (CallN rfl (wpN_any ?_)))
    w_strict k_steps
    dsimp only [backTo, starEach, List.map]
    simp only [Bool.false_eq_true, if_false]
    refine callWithN (P := fun h => (hd.heap_1 w.params).In h) rfl (keeps_K (by k_is)) (argsN (splN_cons (wpN_any ?_)))
    w_strict k_steps
    refine splN_cons ?_
    refine CallN rfl (wpN_any ?_)
    w_strict k_steps
    dsimp only [backTo, starEach, List.map]
    simp only [Bool.false_eq_true, if_false]
    refine callWithN (P := fun h => (hd.heap_1 w.params).In h) rfl (keeps_K (by k_is)) (argsN (splN_cons (wpN_any ?_)))
    w_strict k_steps
    refine splN_cons (wpN_any ?_)
    w_strict k_steps
    rename Fr _ _ _ _ => F3
    rename News _ _ _ _ => N3
    refine splN_nil ⟨X1.keeps F3.keep, ?_⟩
    refine wpN_at (f := by exact ⟨rfl, Nat.le_of_ble_eq_true rfl, Nat.le_of_ble_eq_true rfl⟩) (putvar1 (E := E) (news := [(I, o')]) X1 T1 F3 N3 h0 h1 fun b t' h2 tk2 hb F4 N4 => ?_)
    clear F3 N3
    refine splN_nil ⟨X1.keeps F4.keep, ?_⟩
    refine wpN_at (f := by exact ⟨rfl, Nat.le_of_ble_eq_true rfl, Nat.le_of_ble_eq_true rfl⟩) (putplain (E := E) (k := 3) (ps := [n]) (news := [(I, o')]) X1 T1 F4 N4 (by decide) (by decide) hb (by simp) fun b t' h2 tk2 hb F4 N4 => ?_)
    refine Ground'.use (by assumption) F4 (newsSub N4 (b := []) sub_nil) fun Fb Nb Sb => ?_
    exact ret _ _ _ _ hb Fb Nb
  · obtain ⟨a, t1, t2, rfl, h1'⟩ := hv1
    have i1 := tupAt h1'
    refine wpN_execs (wpN_any ?_)
    w_strict k_steps
    try dsimp only
    refine wpN_execs (wpN_any ?_)
    w_strict k_steps
    try dsimp only
    refine wpN_execs (wpN_any ?_)
    w_strict k_steps
    try dsimp only
    refine wpN_execs (wpN_any ?_)
    w_strict k_steps
    try dsimp only
    refine wpN_execs (wpN_any ?_)
    w_strict k_steps
    try dsimp only
    refine wpN_execs (ForN (stopT ?_))
    w_strict k_steps
    rename Fr _ _ _ _ => F2
    rename News _ _ _ _ => N2
    refine unstop (iterT F2 N2 (t114.keeps F2.keep) fun I h' F3 N3 hlt hl3 => ?_)
    clear F2 N2
    refine forN_turn (nextT (i := 0) (x := .ref 111) F3 N3 ⟨rfl, rfl⟩ hl3 (fun r hr => absurd hr List.not_mem_nil) rfl fun o' h2 ho F4 N4 hl4 => ?_)
    clear F3 N3 hl3
    refine letGo_tupleiter (ho.tup (N4 _ (.head _)).1) ?_
    try dsimp only
    w_strict k_steps
    refine wpN_execs (wpN_any ?_)
    w_strict k_steps
    try dsimp only
    refine wpN_any (wpAny_execs_nil ?_)
    try dsimp only
    rename Fr _ _ _ _ => F3
    rename News _ _ _ _ => N3
    refine forN_turn (nextT (i := 1) (x := .ref 112) F3 N3 ho (t114.keeps F3.keep) (fun r hr => absurd hr List.not_mem_nil) rfl fun o' h2 ho F4 N4 hl4 => ?_)
    clear F3 N3
    refine letGo_tupleiter (ho.tup (N4 _ (.head _)).1) ?_
    try dsimp only
    w_strict k_steps
    refine wpN_execs (wpN_If (wpN_any ?_))
    w_strict k_steps
    refine wpN_execs (wpN_Return (CallN rfl (wpN_any ?_)))
    w_strict k_steps
    dsimp only [backTo, starEach, List.map]
    simp only [Bool.false_eq_true, if_false]
    refine callWithN (P := fun h => (hd.heap_1 w.params).In h) rfl (keeps_K (by k_is)) (argsN (splN_cons (wpN_any ?_)))
    w_strict k_steps
    refine splN_cons ?_
    refine CallN rfl (wpN_any ?_)
    w_strict k_steps
    dsimp only [backTo, starEach, List.map]
    simp only [Bool.false_eq_true, if_false]
    refine callWithN (P := fun h => (hd.heap_1 w.params).In h) rfl (keeps_K (by k_is)) (argsN (splN_cons (wpN_any ?_)))
    w_strict k_steps
    refine splN_cons (wpN_any ?_)
    w_strict k_steps
    rename Fr _ _ _ _ => F3
    rename News _ _ _ _ => N3
    refine splN_nil ⟨X1.keeps F3.keep, ?_⟩
    refine wpN_at (f := by exact ⟨rfl, Nat.le_of_ble_eq_true rfl, Nat.le_of_ble_eq_true rfl⟩) (putvar1 (E := E) (news := [(I, o')]) X1 T1 F3 N3 h0 h1 fun b t' h2 tk2 hb F4 N4 => ?_)
    clear F3 N3
    refine splN_nil ⟨X1.keeps F4.keep, ?_⟩
    refine wpN_at (f := by exact ⟨rfl, Nat.le_of_ble_eq_true rfl, Nat.le_of_ble_eq_true rfl⟩) (putplain (E := E) (k := 7) (ps := [n]) (news := [(I, o')]) X1 T1 F4 N4 (by decide) (by decide) hb (by simp) fun b t' h2 tk2 hb F4 N4 => ?_)
    refine Ground'.use (by assumption) F4 (newsSub N4 (b := []) sub_nil) fun Fb Nb Sb => ?_
    exact ret _ _ _ _ hb Fb Nb
  · obtain ⟨a, t1, t2, rfl, h1'⟩ := hv1
    have i1 := tupAt h1'
    refine wpN_execs (wpN_any ?_)
    w_strict k_steps
    try dsimp only
    refine wpN_execs (wpN_any ?_)
    w_strict k_steps
    try dsimp only
    refine wpN_execs (wpN_any ?_)
    w_strict k_steps
    try dsimp only
    refine wpN_execs (wpN_any ?_)
    w_strict k_steps
    try dsimp only
    refine wpN_execs (wpN_any ?_)
    w_strict k_steps
    try dsimp only
    refine wpN_execs (ForN (stopT ?_))
    w_strict k_steps
    rename Fr _ _ _ _ => F2
    rename News _ _ _ _ => N2
    refine unstop (iterT F2 N2 (t114.keeps F2.keep) fun I h' F3 N3 hlt hl3 => ?_)
    clear F2 N2
    refine forN_turn (nextT (i := 0) (x := .ref 111) F3 N3 ⟨rfl, rfl⟩ hl3 (fun r hr => absurd hr List.not_mem_nil) rfl fun o' h2 ho F4 N4 hl4 => ?_)
    clear F3 N3 hl3
    refine letGo_tupleiter (ho.tup (N4 _ (.head _)).1) ?_
    try dsimp only
    w_strict k_steps
    refine wpN_execs (wpN_any ?_)
    w_strict k_steps
    try dsimp only
    refine wpN_any (wpAny_execs_nil ?_)
    try dsimp only
    rename Fr _ _ _ _ => F3
    rename News _ _ _ _ => N3
    refine forN_turn (nextT (i := 1) (x := .ref 112) F3 N3 ho (t114.keeps F3.keep) (fun r hr => absurd hr List.not_mem_nil) rfl fun o' h2 ho F4 N4 hl4 => ?_)
    clear F3 N3
    refine letGo_tupleiter (ho.tup (N4 _ (.head _)).1) ?_
    try dsimp only
    w_strict k_steps
    refine wpN_execs (wpN_any ?_)
    w_strict k_steps
    try dsimp only
    refine wpN_any (wpAny_execs_nil ?_)
    try dsimp only
    rename Fr _ _ _ _ => F3
    rename News _ _ _ _ => N3
    refine forN_turn (nextT (i := 2) (x := .ref 113) F3 N3 ho (t114.keeps F3.keep) (fun r hr => absurd hr List.not_mem_nil) rfl fun o' h2 ho F4 N4 hl4 => ?_)
    clear F3 N3
    refine letGo_tupleiter (ho.tup (N4 _ (.head _)).1) ?_
    try dsimp only
    w_strict k_steps
    refine wpN_execs (wpN_If (wpN_any ?_))
    w_strict k_steps
    refine wpN_execs (wpN_Return (CallN rfl (wpN_any ?_)))
    w_strict k_steps
    dsimp only [backTo, starEach, List.map]
    simp only [Bool.false_eq_true, if_false]
    refine callWithN (P := fun h => (hd.heap_1 w.params).In h) rfl (keeps_K (by k_is)) (argsN (splN_cons (wpN_any ?_)))
    w_strict k_steps
    refine splN_cons ?_
    refine CallN rfl (wpN_any ?_)
    w_strict k_steps
    dsimp only [backTo, starEach, List.map]
    simp only [Bool.false_eq_true, if_false]
    refine callWithN (P := fun h => (hd.heap_1 w.params).In h) rfl (keeps_K (by k_is)) (argsN (splN_cons (wpN_any ?_)))
    w_strict k_steps
    refine splN_cons (wpN_any ?_)
    w_strict k_steps
    rename Fr _ _ _ _ => F3
    rename News _ _ _ _ => N3
    refine splN_nil ⟨X1.keeps F3.keep, ?_⟩
    refine wpN_at (f := by exact ⟨rfl, Nat.le_of_ble_eq_true rfl, Nat.le_of_ble_eq_true rfl⟩) (putvar1 (E := E) (news := [(I, o')]) X1 T1 F3 N3 h0 h1 fun b t' h2 tk2 hb F4 N4 => ?_)
    clear F3 N3
    refine splN_nil ⟨X1.keeps F4.keep, ?_⟩
    refine wpN_at (f := by exact ⟨rfl, Nat.le_of_ble_eq_true rfl, Nat.le_of_ble_eq_true rfl⟩) (putplain (E := E) (k := 13) (ps := [n]) (news := [(I, o')]) X1 T1 F4 N4 (by decide) (by decide) hb (by simp) fun b t' h2 tk2 hb F4 N4 => ?_)
    refine Ground'.use (by assumption) F4 (newsSub N4 (b := []) sub_nil) fun Fb Nb Sb => ?_
    exact ret _ _ _ _ hb Fb Nb
theorem puth3 {H : Heap} (X : (hd.heap_1 w.params).In H) (T : Top hd.view_1 (looseW hd.view_1 []) mean mg mb H) {L : Addr} {m : Str → Option Value} {hp : Heap} {tk0 : Tok} {Q E : Value → Shared → Prop} {v : Value} {f : Fm} {news : List (Addr × Obj)} (F : Fr H L hp m) (N : News H L hp ([] ++ news)) (hv : FmAt hp v f) (hf : fsmall f)
  (ret : ∀ b t h' tk', KBw.bInts b = enc f → Fr H L h' m → News H L h' news → Q (.bytes b t) {s with heap := h', toks := tk'}) :
  wpN (model PySem.Challenge.rw_sj0117_01.row.prog w) (AA 100) (call (.ref 137) [v]) Q (fun _ _ => False) {s with heap := hp, toks := tk0} := by
  cases f with
  | sett => exact puth3_s (E := E) X T F N hv (.inl rfl) ret
  | sett2 => exact puth3_s (E := E) X T F N hv (.inr rfl) ret
  | goaway n => exact puth3_i (E := E) X T F N hv (.inr (.inl rfl)) hf.1 hf.2 ret
  | maxp n => exact puth3_i (E := E) X T F N hv (.inr (.inr rfl)) hf.1 hf.2 ret
  | canc n => exact puth3_i (E := E) X T F N hv (.inl rfl) hf.1 hf.2 ret
  | unk => exact puth3_a (E := E) X T F N hv (.inr (.inr rfl)) ret
  | hdr => exact puth3_a (E := E) X T F N hv (.inl rfl) ret
  | dat => exact puth3_a (E := E) X T F N hv (.inr (.inl rfl)) ret

end
section
section
variable {prog : Program} {w : World} {A : Around} {s : Shared} {K : Frag} {p : Program} {loose : List Str} {mean : ExcName → Option Value} {mg mb : Str → Option Value}
  {R : Result → Shared → Prop} {name qual : Str} {params : Arguments} {body : List Stmt} {scope : Scope} {dV kV doc pm cdv ct oc : Value} {an od : Option Addr} {osl : Array (Option Value)} {f : Addr} {args : Args} {binds : List (Str × Value)}
/-- into the law, from the claim's caller: the whole heap is its base -/
theorem enterTopN (X : K.In s.heap) (T : Top p loose mean mg mb s.heap)
    (ho : K.lookup f = some ⟨oc, od, .func (fnOf name qual params body scope dV kV doc pm an cdv ct), osl⟩) (hcd : codeIn K cdv qual = true) (hroom : A.depth < recursionLimit)
    (hbind : BindsTo s (fnOf name qual params body scope dV kV doc pm an cdv ct) args binds) (hkind : (binds.all fun y => scope.names.lookup y.1 == some .local || scope.names.lookup y.1 == some .cell) = true)
    (hnd : ((cellsFrom 0 scope.names []).map (·.1)).Nodup)
    (h : ∀ L h₁ tk cells, Fr s.heap L h₁ (bindL (envOfC qual scope L f cdv).kindOf binds fun _ => none) → News s.heap L h₁ cells →
      CellsAre (bindC (envOfC qual scope L f cdv).kindOf binds fun _ => none) (cellsFrom (L + 1) scope.names []) cells →
      wpN (model prog w) (A.deeper (envOfC qual scope L f cdv)) (execs body (envOfC qual scope L f cdv))
        (fun fl s' => R (.ok (.ret (match fl with | .ret v => v | _ => .none))) s') (fun _ _ => False)
        { s with heap := h₁, toks := tk })
    (hco : scope.isCoroutine = false) (hgen : scope.isGenerator = false) (hk : scope.kind = .function) : codeN (model prog w) A (.call (.ref f) args) R s := by
  refine codeN_call_function hroom (X _ _ ho) rfl hco hgen rfl (codeRec_of X hcd) (hbind _ _ _ _ ?_)
  refine wpAny_newFunctionEnv_cells hk (kindsX hkind _) fun env' he s' x => ?_
  subst he
  refine ⟨T.nolimit.keeps x.toInCall.keep, codeN_func ?_⟩
  obtain ⟨h₁, tk, rfl, _⟩ := x.done
  obtain ⟨cells, NC, Y⟩ := Cl.news (h₀ := s.heap) (Nat.le_refl _) fun n c hm => ⟨x.cell n c (lookup_of_mem_nodup (cellsFrom_names scope.names 0 (s.heap.objs.size + 1) [] [] rfl ▸ hnd) hm), x.above n c hm⟩
  exact h s.heap.objs.size h₁ tk cells ⟨x.toInCall.ns, x.toInCall.keep, Nat.le_refl _⟩ (fun q hq => NC q hq) Y
end
/-- a cut between two statements -/
theorem cutN {M : Model} {A : Around} {s : Shared} {E : Value → Shared → Prop} {st : Stmt} {rest : List Stmt} {env : Env} {Q : Flow → Shared → Prop} (J : Shared → Prop) (h1 : wpN M A (exec st env) (fun f s' => f = .next ∧ J s') E s) (h2 : ∀ s', J s' → wpN M A (execs rest env) Q E s') : wpN M A (execs (st :: rest) env) Q E s :=
  wpN_execs (wpN_mono h1 (fun f s' q => by obtain ⟨rfl, q⟩ := q; exact h2 s' q) fun _ _ x => x)

end
section
abbrev rIt (x left step : Int) : Obj := { cls := .type "range_iterator", dict := none, data := .fields #[rawInt x, rawInt left, rawInt step], slots := #[] }
section
variable {prog : Program} {w : World} {A : Around} {E : Value → Shared → Prop} {s s0 : Shared} {env : Env} {H : Heap} {L : Addr} {m : Str → Option Value} {news : List (Addr × Obj)} {x : Str} {px : Pos} {body : List Stmt} {R : Result → Shared → Prop} {I : Addr}
/-- a range's iterator is made -/
theorem iterR {r : Addr} {a b c : Int} {t u v : Tok} {Q : Value → Shared → Prop} (F : Fr H L s.heap m) (N : News H L s.heap news) (hr : IsRange s.heap r a b c t u v) (hs : Builtin.Range.small a b c = true)
    (h : ∀ I h', Fr H L h' m → News H L h' ((I, rIt a (Builtin.Range.rangeSize a b c) c) :: news) → (∀ q ∈ news, @LT.lt Nat _ q.1 I) → Q (.ref I) { s with heap := h' }) : wpAny (model prog w) A (pyIter (.ref r)) Q E s := by
  refine wpAny_pyIter_range hr hs (h _ _ (fr_of_keep F fun b o e => Heap.get?_push_of_some _ e) (fun q hq => ?_) (fun r hr => Heap.lt_size (N r hr).1))
  rcases List.mem_cons.mp hq with rfl | hq
  · obtain ⟨oL, es, ep, hL, _⟩ := F.ns
    exact ⟨Heap.get?_push_size _ rfl, (Nat.ne_of_lt (Heap.lt_size hL)).symm, Heap.get?_none_of_le (Nat.le_trans F.above (Nat.le_of_lt (Heap.lt_size hL)))⟩
  · exact ⟨Heap.get?_push_of_some _ (N q hq).1, (N q hq).2⟩
/-- what a turn leaves -/
inductive TurnEnd (H : Heap) (L : Addr) (s0 : Shared) (I : Addr) (o : Obj) (P : (Str → Option Value) → List (Addr × Obj) → Prop) (s : Shared) : Prop
  | mk (h : Heap) (tk : Tok) (m : Str → Option Value) (news : List (Addr × Obj)) (e : s = { s0 with heap := h, toks := tk }) (F : Fr H L h m) (N : News H L h ((I, o) :: news)) (hI : ∀ q ∈ news, q.1 ≠ I) (hP : P m news)
theorem forRangeN {a c : Int} {n : Nat} (P : Nat → (Str → Option Value) → List (Addr × Obj) → Prop) (hh : A.handled = none) (hx : env.kindOf x = some .local) (hp : (env.scope.kind == .class || (env.scope.kind == .module && env.locals != env.globals)) = false) (hL : env.locals = L)
    (step : ∀ i h tk m news t, i < n → P i m news → Fr H L h (fun y => if y = x then some (.int (a + i * c) t) else m y) → News H L h ((I, rIt (a + (i + 1 : Nat) * c) (n - (i + 1 : Nat)) c) :: news) → (∀ q ∈ news, q.1 ≠ I) →
      wpN (model prog w) A (execs body env) (fun f s₃ => f = .next ∧ TurnEnd H L s0 I (rIt (a + (i + 1 : Nat) * c) (n - (i + 1 : Nat)) c) (P (i + 1)) s₃) (fun _ _ => False) { s0 with heap := h, toks := tk })
    (done : ∀ h tk m news, P n m news → Fr H L h m → News H L h news → R (.ok .next) { s0 with heap := h, toks := tk }) :
    ∀ (k i : Nat) (s : Shared), i + k = n → TurnEnd H L s0 I (rIt (a + i * c) (n - i) c) (P i) s → codeN (model prog w) A (.forLoop (.Name x px) (.ref I) body [] env) R s := by
  intro k
  induction k with
  | zero =>
    rintro i s e ⟨h, tk, m, news, rfl, F, N, hI, hP⟩
    obtain rfl : i = n := by omega
    refine forN_turn (wpAny_pyNext_range_end hh (N _ (.head _)).1 (by omega) fun h' he => ?_)
    exact done h' tk m news hP (frBut F N he) fun q hq => ⟨he _ _ (hI q hq) (N q (.tail _ hq)).1, (N q (.tail _ hq)).2⟩
  | succ k ih =>
    rintro i s e ⟨h, tk, m, news, rfl, F, N, hI, hP⟩
    refine forN_turn (wpAny_pyNext_range_item (N _ (.head _)).1 (by omega) fun h' hit hs => ?_)
    have F' := frBut F N hs.extBut
    have e1 : a + ((i + 1 : Nat) : Int) * c = a + (i : Int) * c + c := by push_cast; rw [Int.add_mul, Int.one_mul, Int.add_assoc]
    have e2 : (n : Int) - ((i + 1 : Nat) : Int) = (n : Int) - (i : Int) - 1 := by push_cast; omega
    have hit' : h'.get? I = some (rIt (a + (i + 1 : Nat) * c) (n - (i + 1 : Nat)) c) := by rw [e1, e2]; exact hit
    have N' := newsBut N hs hit' hI
    try dsimp only
    refine wpAny_of_eq (a := ()) (by rfl) ?_
    refine wpAny_assign_Name (wpAny_storeName_local (m := m) hx (by rw [hL]; exact F'.ns) (fun h₂ hn₂ hs₂ => ?_) hp)
    rw [hL] at hn₂ hs₂
    refine wpN_mono (step i h₂ _ m news _ (by omega) hP (F'.set hn₂ hs₂) (fun q hq => ?_) hI) (fun f s₃ q => ?_) fun _ _ q => q
    · exact ⟨hs₂.extBut _ _ (N' q hq).2.1 (N' q hq).1, (N' q hq).2⟩
    · obtain ⟨rfl, q⟩ := q
      exact ih (i + 1) s₃ (by omega) q
theorem forListN {l : Addr} {items : List Value} (P : Nat → (Str → Option Value) → List (Addr × Obj) → Prop) (hh : A.handled = none) (hx : env.kindOf x = some .local) (hp : (env.scope.kind == .class || (env.scope.kind == .module && env.locals != env.globals)) = false) (hL : env.locals = L)
    (hmem : ∀ i m news, P i m news → ∃ n, (l, listOf items.toArray n) ∈ news)
    (step : ∀ i h tk m news v o, items[i]? = some v → P i m news → LI "list_iterator" o l (i + 1) → Fr H L h (fun y => if y = x then some v else m y) → News H L h ((I, o) :: news) → (∀ q ∈ news, q.1 ≠ I) →
      wpN (model prog w) A (execs body env) (fun f s₃ => f = .next ∧ TurnEnd H L s0 I o (P (i + 1)) s₃) (fun _ _ => False) { s0 with heap := h, toks := tk })
    (done : ∀ h tk m news, P items.length m news → Fr H L h m → News H L h news → R (.ok .next) { s0 with heap := h, toks := tk }) :
    ∀ (k i : Nat) (s : Shared) (o : Obj), i + k = items.length → LI "list_iterator" o l i → TurnEnd H L s0 I o (P i) s → codeN (model prog w) A (.forLoop (.Name x px) (.ref I) body [] env) R s := by
  intro k
  induction k with
  | zero =>
    rintro i s o e ho ⟨h, tk, m, news, rfl, F, N, hI, hP⟩
    obtain rfl : i = items.length := by omega
    obtain ⟨n, hm⟩ := hmem _ _ _ hP
    refine forN_turn (nextLend hh F N ho (lstAt (N _ (.tail _ hm)).1) (by simp) hI fun h' F' N' => ?_)
    exact done h' tk m news hP F' N'
  | succ k ih =>
    rintro i s o e ho ⟨h, tk, m, news, rfl, F, N, hI, hP⟩
    obtain ⟨n, hm⟩ := hmem _ _ _ hP
    have hv : items[i]? = some (items[i]'(by omega)) := List.getElem?_eq_getElem (by omega)
    refine forN_turn (nextL (x := items[i]'(by omega)) F N ho (lstAt (N _ (.tail _ hm)).1) hI (by simpa using hv) fun o' h' ho' F' N' hl' => ?_)
    refine letGo_listiter (ho'.list (N' _ (.head _)).1) ?_
    try dsimp only
    refine wpAny_assign_Name (wpAny_storeName_local (m := m) hx (by rw [hL]; exact F'.ns) (fun h₂ hn₂ hs₂ => ?_) hp)
    rw [hL] at hn₂ hs₂
    refine wpN_mono (step i h₂ _ m news _ o' hv hP ho' (F'.set hn₂ hs₂) (fun q hq => ?_) hI) (fun f s₃ q => ?_) fun _ _ q => q
    · exact ⟨hs₂.extBut _ _ (N' q hq).2.1 (N' q hq).1, (N' q hq).2⟩
    · obtain ⟨rfl, q⟩ := q
      exact ih (i + 1) s₃ o' (by omega) ho' q
end

end
/- a ledger's part -/
local macro_rules | `(tactic| lcg_sub) => `(tactic| first
  | with_reducible exact sub_nil
  | with_reducible exact sub_all
  | ((with_reducible refine sub_app ?_ ?_) <;> lcg_sub)
  | (with_reducible refine sub_mem ?h1 ?h2;
     (case h1 => repeat' (first | with_reducible exact List.mem_cons_self | with_reducible refine List.mem_cons_of_mem _ ?_ | with_reducible assumption | exact List.mem_cons_self | refine List.mem_cons_of_mem _ ?_ | with_reducible refine List.mem_append_right _ ?_ | refine List.mem_append_right _ ?_));
     (case h2 => lcg_sub))
  | with_reducible exact sub_appL
  | (with_reducible refine sub_skip ?_; lcg_sub)
  | (refine sub_skip ?_; lcg_sub)
  | (with_reducible refine sub_appR ?_; lcg_sub)
  | (refine sub_appR ?_; lcg_sub))
section
example : True := by w_top off; exact trivial
def fdOf (o : Obj) : Option FuncData := match o.data with
  | .func fd => some fd
  | _ => none
def stmtsOf (fd : FuncData) : List Stmt := match fd.body with
  | .stmts b => b
  | _ => []
theorem law_uniq {w : World} {b1 b2 : List Stmt} {e1 e2 : Addr → Env} (h1 : LawBody w b1 e1) (h2 : LawBody w b2 e2) : b1 = b2 ∧ e1 = e2 := by
  obtain ⟨name, qual, params, scope, dV, kV, doc, pm, an, cdv, ct, oc, od, osl, hk, rfl⟩ := h1
  obtain ⟨name', qual', params', scope', dV', kV', doc', pm', an', cdv', ct', oc', od', osl', hk', rfl⟩ := h2
  have e := Option.some.inj (congrArg fdOf (Option.some.inj (hk.symm.trans hk')))
  have eb : b1 = b2 := congrArg stmtsOf e
  have eq : qual = qual' := congrArg FuncData.qualname e
  have es : scope = scope' := congrArg FuncData.scope e
  have ec : cdv = cdv' := congrArg FuncData.code e
  exact ⟨eb, by rw [eq, es, ec]⟩
noncomputable def lawSub : { x : List Stmt × (Addr → Env) // ∀ w, LawBody w x.1 x.2 } := by
  refine ⟨(_, fun L => envOfC _ _ L 324 _), fun w => ⟨_, _, _, _, _, _, _, _, _, _, _, _, _, _, (show (hd.heap_1 w.params).lookup 324 = some _ from by k_is), rfl⟩⟩
noncomputable def lawB : List Stmt := lawSub.1.1
noncomputable def lawE : Addr → Env := lawSub.1.2
theorem lawIs {w : World} {body : List Stmt} {env : Addr → Env} (hb : LawBody w body env) : body = lawB ∧ env = lawE := law_uniq hb (lawSub.2 w)
theorem execs_split {M : Model} {A : Around} {E : Value → Shared → Prop} {env : Env} {Q : Flow → Shared → Prop} {s : Shared} (J : Shared → Prop) (n : Nat) (body : List Stmt) (h1 : wpN M A (execs (body.take n) env) (fun f s' => f = .next ∧ J s') E s) (h2 : ∀ s', J s' → wpN M A (execs (body.drop n) env) Q E s') : wpN M A (execs body env) Q E s := fun Γ p g1 g2 g3 => by
  have key : ∀ (n : Nat) (body : List Stmt) (p : Pos) (s : Shared), Sem.wp M Γ (execs (body.take n) env) (fun f _ s' => f = .next ∧ J s') (fun e _ s' => E e s') p s → (∀ p s', J s' → Sem.wp M Γ (execs (body.drop n) env) (fun f _ s' => Q f s') (fun e _ s' => E e s') p s') → Sem.wp M Γ (execs body env) (fun f _ s' => Q f s') (fun e _ s' => E e s') p s := by
    intro n
    induction n with
    | zero =>
      intro body p s h1 h2
      rw [List.take_zero] at h1
      exact h2 p s h1.2
    | succ n ih =>
      intro body p s h1 h2
      cases body with
      | nil =>
        rw [List.take_nil] at h1
        exact h2 p s h1.2
      | cons st rest =>
        rw [List.take_succ_cons, arm_execs_cons, Sem.wp_bind'] at h1
        rw [List.drop_succ_cons] at h2
        rw [arm_execs_cons, Sem.wp_bind']
        refine Sem.wp_mono M Γ _ (fun f p' s' q => ?_) (fun _ _ _ q => q) p s h1
        cases f with
        | next => exact ih rest p' s' q h2
        | cont => exact nomatch q.1
        | brk => exact nomatch q.1
        | ret v => exact nomatch q.1
  exact key n body p s (h1 Γ p g1 g2 g3) fun p s' q => h2 s' q Γ p g1 g2 g3
/-- addresses apart -/
abbrev Nd (l : List (Addr × Obj)) : Prop := (adr l).Nodup
theorem Nd.head {a : Addr} {o : Obj} {l : List (Addr × Obj)} (h : Nd ((a, o) :: l)) : ∀ q ∈ l, @Ne Nat q.1 a := fun q hq e => by
  have z := (List.nodup_cons.mp h).1
  have y : q.1 ∈ adr l := List.mem_map_of_mem hq
  rw [e] at y
  exact z y
theorem Nd.tail {a : Addr × Obj} {l : List (Addr × Obj)} (h : Nd (a :: l)) : Nd l := (List.nodup_cons.mp h).2
theorem Nd.cons {a : Addr} {o : Obj} {l : List (Addr × Obj)} (h : Nd l) (n : ∀ q ∈ l, @Ne Nat q.1 a) : Nd ((a, o) :: l) := List.nodup_cons.mpr ⟨fun hm => by
  obtain ⟨o', z⟩ := mem_adr hm
  exact n _ z rfl, h⟩
/-- what is asked at the end, as one name -/
theorem postVar {M : Model} {A : Around} {α : Type} {t : Sem α} {Q : α → Shared → Prop} {E : Value → Shared → Prop} {s : Shared} (h : ∀ J : α → Shared → Prop, (∀ f s', Q f s' → J f s') → wpN M A t J E s) : wpN M A t Q E s := h Q fun _ _ q => q
/-- a piece of the law goes on to the next -/
def Nx (J : Shared → Prop) (f : Flow) (s : Shared) : Prop := f = .next ∧ J s
set_option maxHeartbeats 4000000 in
theorem law_a {H : Heap} (X : (hd.heap_1 w.params).In H) (T : Top hd.view_1 (looseW hd.view_1 []) mean mg mb H) {L : Addr} {m : Str → Option Value} {hp : Heap} {tk0 : Tok} {body : List Stmt} {env : Addr → Env} (hb : LawBody w body env) {l : Addr} {vs : List Value} {ns : List Int} (hl : H.IsList l vs.toArray) (hi : IntsAre vs ns) (hlen : ns.length ≤ 63) {o2 o1 : Obj}
  (F : Fr H L hp (fun y => if y = Str.ofString "script" then some (.ref l) else none)) (N : News H L hp [(L + 1 + 1, o1), (L + 1, o2)])
  {JJ : Flow → Shared → Prop} (hJ : ∀ h tk b nb lc nlc cs t more, IntsAre cs (ns.take 24) → (Fr H L h (fun y => if y = Str.ofString "box" then some (.ref b) else if y = Str.ofString "script" then some (.ref l) else none)) → News H L h ((b, listOf #[.ref lc, .int 0 t] nb) :: (lc, listOf cs.toArray nlc) :: (L + 1 + 1, o1) :: (L + 1, o2) :: more) → Nd ((b, listOf #[.ref lc, .int 0 t] nb) :: (lc, listOf cs.toArray nlc) :: (L + 1 + 1, o1) :: (L + 1, o2) :: more) → JJ .next {s with heap := h, toks := tk }) :
  wpN (model PySem.Challenge.rw_sj0117_01.row.prog w) (callerA.deeper (env L)) (execs (body.take 1) (env L)) JJ (fun _ _ => False) {s with heap := hp, toks := tk0} := by
  obtain ⟨rfl, rfl⟩ := lawIs hb
  dsimp only [lawB, lawE, lawSub]
  try simp only [List.drop_succ_cons, List.drop_zero, List.take_succ_cons, List.take_zero]
  refine wpN_any ?_
  w_strict k_steps
  rename Fr _ _ _ _ => F5
  rename News _ _ _ _ => N5
  refine hJ _ _ _ _ _ _ _ _ _ (by assumption) F5 (newsSub N5 (sub_mem (.head _) (sub_mem (.tail _ (.head _)) (sub_mem (.tail _ (.tail _ (.tail _ (.head _)))) (sub_mem (.tail _ (.tail _ (.tail _ (.tail _ (.head _))))) (sub_nil (α := Addr × Obj))))))) ?_
  refine Nd.cons (Nd.cons (Nd.cons (Nd.cons List.nodup_nil ?_) ?_) ?_) ?_
  all_goals refine of_allNe ?_
  all_goals (simp only [AllNe, and_true] <;> omega)

end
section
example : True := by w_top off; exact trivial
theorem drawnV_range (ns : List Int) (k many : Int) (h : 1 ≤ many) : 0 ≤ drawnV ns k many ∧ drawnV ns k many < many := by
  unfold drawnV
  split
  · exact ⟨Int.fmod_nonneg_of_pos _ (by omega), Int.fmod_lt_of_pos _ (by omega)⟩
  · exact ⟨Int.fmod_nonneg_of_pos _ (by omega), Int.fmod_lt_of_pos _ (by omega)⟩
abbrev boxO (lc : Addr) (k : Int) (t : Tok) (nb : Nat) : Obj := listOf #[.ref lc, .int k t] nb
theorem sub_rot {α : Type} {x y z : α} {r : List α} : ∀ q ∈ y :: z :: x :: r, q ∈ x :: y :: z :: r := (by lcg_sub)
theorem sub_tor {α : Type} {x y z : α} {r : List α} : ∀ q ∈ x :: y :: z :: r, q ∈ y :: z :: x :: r := (by lcg_sub)
theorem sub_rot2 {α : Type} {x y z u : α} {r : List α} : ∀ q ∈ y :: z :: x :: u :: r, q ∈ x :: u :: y :: z :: r := (by lcg_sub)
theorem sub_tor2 {α : Type} {x y z u : α} {r : List α} : ∀ q ∈ x :: u :: y :: z :: r, q ∈ y :: z :: x :: u :: r := (by lcg_sub)
set_option maxHeartbeats 4000000 in
theorem law_b {H : Heap} (X : (hd.heap_1 w.params).In H) (T : Top hd.view_1 (looseW hd.view_1 []) mean mg mb H) {L : Addr} {m : Str → Option Value} {hp : Heap} {tk0 : Tok} {body : List Stmt} {env : Addr → Env} (hb : LawBody w body env) {ns : List Int} {b lc : Addr} {nb nlc : Nat} {cs : List Value} {k : Int} {t : Tok} {rest : List (Addr × Obj)} {mm : Str → Option Value} (hi : IntsAre cs ns) (hlen : ns.length ≤ 24) (hk0 : 0 ≤ k) (hk1 : k < 90)
  (F : Fr H L hp (fun y => if y = Str.ofString "box" then some (.ref b) else mm y)) (N : News H L hp ((b, boxO lc k t nb) :: (lc, listOf cs.toArray nlc) :: rest)) (nd : Nd ((b, boxO lc k t nb) :: (lc, listOf cs.toArray nlc) :: rest))
  {JJ : Flow → Shared → Prop} (hJ : ∀ h tk cl mp mostv tp t', IsOpt mostv mp → ((mp = some 3 ∨ mp = none)) → (Fr H L h (fun y => if y = Str.ofString "peer" then some (.str (pS cl) tp) else if y = Str.ofString "most" then some mostv else if y = Str.ofString "box" then some (.ref b) else mm y)) → News H L h ((b, boxO lc (k + 2) t' nb) :: (lc, listOf cs.toArray nlc) :: rest) → JJ .next {s with heap := h, toks := tk }) :
  wpN (model PySem.Challenge.rw_sj0117_01.row.prog w) (callerA.deeper (env L)) (execs ((body.drop 1).take 1) (env L)) JJ (fun _ _ => False) {s with heap := hp, toks := tk0} := by
  obtain ⟨rfl, rfl⟩ := lawIs hb
  dsimp only [lawB, lawE, lawSub]
  try simp only [List.drop_succ_cons, List.drop_zero, List.take_succ_cons, List.take_zero]
  have nb1 := Nd.head nd
  have hlb : lc ≠ b := nb1 _ (.head _)
  have hrb : ∀ q ∈ rest, q.1 ≠ b := fun q hq => nb1 q (.tail _ hq)
  clear nb1 nd
  refine wpN_any ?_
  w_strict k_steps
  rename_i a1 g1 F2 N2 q1
  have q1b := q1.1
  refine wp_at (f := by exact ⟨rfl, Nat.le_of_ble_eq_true rfl, Nat.le_of_ble_eq_true rfl⟩) (drawn (many := 2) X T F2 (newsSub N2 sub_rot) (List.forall_mem_cons.mpr ⟨Nat.ne_of_gt q1b, hrb⟩) hlb hi hlen hk0 (by omega) (by decide) (by decide) ?_)
  intro v tv h1 tk1 t1 hv F3 N3
  clear F2 N2
  obtain ⟨v0, v1⟩ : 0 ≤ v ∧ v < 2 := by rw [hv]; exact drawnV_range _ _ _ (by decide)
  clear hv
  replace N3 := newsSub N3 sub_tor
  have hv01 : v = 0 ∨ v = 1 := by omega
  rcases hv01 with rfl | rfl
  · w_strict k_steps
    rename_i a2 g2 F2 N2 q2
    have q2b := q2.2.1
    refine wp_at (f := by exact ⟨rfl, Nat.le_of_ble_eq_true rfl, Nat.le_of_ble_eq_true rfl⟩) (drawn (many := 2) X T F2 (newsSub N2 sub_rot2) (List.forall_mem_cons.mpr ⟨Nat.ne_of_gt q2b, List.forall_mem_cons.mpr ⟨Nat.ne_of_gt q1b, hrb⟩⟩) hlb hi hlen (by omega) (by omega) (by decide) (by decide) ?_)
    intro v2 tv2 h2 tk2 t2 hv F3 N3
    clear F2 N2
    obtain ⟨v0, v1⟩ : 0 ≤ v2 ∧ v2 < 2 := by rw [hv]; exact drawnV_range _ _ _ (by decide)
    clear hv
    replace N3 := newsSub N3 sub_tor2
    have hv01 : v2 = 0 ∨ v2 = 1 := by omega
    rcases hv01 with rfl | rfl
    all_goals
      w_strict k_steps
      rename Fr _ _ _ _ => F4
      rename News _ _ _ _ => N4
      replace N4 := newsSub N4 (sub_skip (sub_skip (sub_skip sub_all)))
    · refine hJ _ _ false (some 3) _ _ _ (⟨_, rfl⟩) (.inl rfl) F4 (by rw [show k + 2 = k + 1 + 1 by omega]; exact N4)
    · refine hJ _ _ false none _ _ _ rfl (.inr rfl) F4 (by rw [show k + 2 = k + 1 + 1 by omega]; exact N4)
  · w_strict k_steps
    rename_i a2 g2 F2 N2 q2
    have q2b := q2.2.1
    refine wp_at (f := by exact ⟨rfl, Nat.le_of_ble_eq_true rfl, Nat.le_of_ble_eq_true rfl⟩) (drawn (many := 2) X T F2 (newsSub N2 sub_rot2) (List.forall_mem_cons.mpr ⟨Nat.ne_of_gt q2b, List.forall_mem_cons.mpr ⟨Nat.ne_of_gt q1b, hrb⟩⟩) hlb hi hlen (by omega) (by omega) (by decide) (by decide) ?_)
    intro v2 tv2 h2 tk2 t2 hv F3 N3
    clear F2 N2
    obtain ⟨v0, v1⟩ : 0 ≤ v2 ∧ v2 < 2 := by rw [hv]; exact drawnV_range _ _ _ (by decide)
    clear hv
    replace N3 := newsSub N3 sub_tor2
    have hv01 : v2 = 0 ∨ v2 = 1 := by omega
    rcases hv01 with rfl | rfl
    all_goals
      w_strict k_steps
      rename Fr _ _ _ _ => F4
      rename News _ _ _ _ => N4
      replace N4 := newsSub N4 (sub_skip (sub_skip (sub_skip sub_all)))
    · refine hJ _ _ true (some 3) _ _ _ (⟨_, rfl⟩) (.inl rfl) F4 (by rw [show k + 2 = k + 1 + 1 by omega]; exact N4)
    · refine hJ _ _ true none _ _ _ rfl (.inr rfl) F4 (by rw [show k + 2 = k + 1 + 1 by omega]; exact N4)

end
section
example : True := by w_top off; exact trivial
/-- the rows' ledger: the box, its copy, the list of rows, all else -/
structure Rw (b lc r : Addr) (more : List (Addr × Obj)) : Prop where
  cb : @Ne Nat lc b
  cr : @Ne Nat lc r
  br : @Ne Nat b r
  all : ∀ q ∈ more, @Ne Nat q.1 b ∧ @Ne Nat q.1 r
set_option maxHeartbeats 4000000 in
theorem law_c {H : Heap} (X : (hd.heap_1 w.params).In H) (T : Top hd.view_1 (looseW hd.view_1 []) mean mg mb H) {L : Addr} {m : Str → Option Value} {hp : Heap} {tk0 : Tok} {body : List Stmt} {env : Addr → Env} (hb : LawBody w body env) {ns : List Int} {b lc : Addr} {nb nlc : Nat} {cs : List Value} {k : Int} {t : Tok} {rest : List (Addr × Obj)} {mm : Str → Option Value} {pv mv : Option Value} (hi : IntsAre cs ns) (hlen : ns.length ≤ 24) (hk0 : 0 ≤ k) (hk1 : k < 90)
  (F : Fr H L hp (fun y => if y = Str.ofString "peer" then pv else if y = Str.ofString "most" then mv else if y = Str.ofString "box" then some (.ref b) else mm y)) (N : News H L hp ((b, boxO lc k t nb) :: (lc, listOf cs.toArray nlc) :: rest)) (nd : Nd ((b, boxO lc k t nb) :: (lc, listOf cs.toArray nlc) :: rest))
  {JJ : Flow → Shared → Prop} (hJ : ∀ h tk z tz r nr v more t', 1 ≤ z → z ≤ 4 → IsFm more v .sett → (∀ q ∈ rest, q ∈ more) → Rw b lc r more → (Fr H L h (fun y => if y = Str.ofString "size" then some (.int z tz) else if y = Str.ofString "rows" then some (.ref r) else if y = Str.ofString "peer" then pv else if y = Str.ofString "most" then mv else if y = Str.ofString "box" then some (.ref b) else mm y)) → News H L h ((b, boxO lc (k + 1) t' nb) :: (lc, listOf cs.toArray nlc) :: (r, listOf #[v] nr) :: more) → JJ .next {s with heap := h, toks := tk }) :
  wpN (model PySem.Challenge.rw_sj0117_01.row.prog w) (callerA.deeper (env L)) (execs ((body.drop 2).take 1) (env L)) JJ (fun _ _ => False) {s with heap := hp, toks := tk0} := by
  obtain ⟨rfl, rfl⟩ := lawIs hb
  dsimp only [lawB, lawE, lawSub]
  try simp only [List.drop_succ_cons, List.drop_zero, List.take_succ_cons, List.take_zero]
  have nb1 := Nd.head nd
  have hlb : lc ≠ b := nb1 _ (.head _)
  have hrb : ∀ q ∈ rest, q.1 ≠ b := fun q hq => nb1 q (.tail _ hq)
  clear nb1 nd
  refine wpN_any ?_
  w_strict k_steps
  refine wp_at (f := by exact ⟨rfl, Nat.le_of_ble_eq_true rfl, Nat.le_of_ble_eq_true rfl⟩) (drawn (many := 4) X T F N hrb hlb hi hlen hk0 (by omega) (by decide) (by decide) ?_)
  intro v tv h1 tk1 t1 hv F3 N3
  clear F N
  obtain ⟨v0, v1⟩ : 0 ≤ v ∧ v < 4 := by rw [hv]; exact drawnV_range _ _ _ (by decide)
  clear hv
  w_strict k_steps
  rename_i d2 _ q2 l1 _ q1 d1 _ qd l0 _ q0 d0 _ _ h7 h8 h9 F9 N9
  have hl0 := of_allLt q0.2.2.2.2.2
  refine hJ h9 tk (1 + v) _ l0 _ (.ref d1) (_ :: _ :: _ :: rest) _ (by omega) (by omega) (⟨d1, _, l1, _, d2, _, _, rfl, .head _, .tail _ (.head _), .tail _ (.tail _ (.head _))⟩) (sub_skip (sub_skip (sub_skip sub_all))) (⟨hlb, by have := q0.2.2.2.2.1; exact Nat.ne_of_lt this, by have := q0.2.2.2.1; exact Nat.ne_of_lt this, fun q hq => ?_⟩) F9 (newsSub N9 (sub_mem (by k_mem) (sub_mem (by k_mem) (sub_mem (by k_mem) (sub_mem (by k_mem) (sub_mem (by k_mem) (sub_mem (by k_mem) fun q hq => by simp only [List.mem_cons, hq, or_true])))))))
  simp only [List.mem_cons] at hq
  rcases hq with rfl | rfl | rfl | hq
  · exact ⟨Nat.ne_of_gt (by omega), Nat.ne_of_lt (by omega)⟩
  · exact ⟨Nat.ne_of_gt (by omega), Nat.ne_of_lt (by omega)⟩
  · exact ⟨Nat.ne_of_gt (by omega), Nat.ne_of_lt (by omega)⟩
  · exact ⟨hrb q hq, Nat.ne_of_lt (hl0 q hq)⟩

end
section
example : True := by w_top off; exact trivial
def Made (f : Fm) : Prop := ∃ form number, f = formFrame form number ∧ 0 ≤ form ∧ form < 6 ∧ 0 ≤ number ∧ number < 20
/-- the loop's ledger and map behind i turns -/
inductive TurnP (b lc r : Addr) (cs : List Value) (nb nlc : Nat) (k : Int) (rest : List (Addr × Obj)) (v0 : Value) (mm : Str → Option Value) (i : Nat) (m : Str → Option Value) (news : List (Addr × Obj)) : Prop
  | mk (o1 o2 o3 : Option Value) (t' : Tok) (nr : Nat) (rv : List Value) (gs : List Fm) (more : List (Addr × Obj)) (em : m = (fun y => if y = Str.ofString "turn" then o1 else if y = Str.ofString "form" then o2 else if y = Str.ofString "number" then o3 else mm y)) (en : news = (b, boxO lc (k + 2 * i) t' nb) :: (lc, listOf cs.toArray nlc) :: (r, listOf (v0 :: rv).toArray nr) :: more)
    (hl : gs.length = i) (hF : FmsIn more (v0 :: rv) (.sett :: gs)) (hM : ∀ g ∈ gs, Made g) (hs : ∀ q ∈ rest, q ∈ more) (hR : Rw b lc r more)
theorem map3 (m : Str → Option Value) (a b c : Str) : m = fun y => if y = a then m a else if y = b then m b else if y = c then m c else m y := by
  funext y
  by_cases e1 : y = a
  · subst e1; simp
  by_cases e2 : y = b
  · subst e2; simp [e1]
  by_cases e3 : y = c
  · subst e3; simp [e1, e2]
  simp only [e1, e2, e3, if_false]
theorem map4 (m : Str → Option Value) {a b c d : Str} {u v w x : Option Value} (h1 : m a = u) (h2 : m b = v) (h3 : m c = w) (h4 : m d = x) (y : Str) : m y = if y = a then u else if y = b then v else if y = c then w else if y = d then x else m y := by
  by_cases e1 : y = a
  · subst e1; rw [if_pos rfl]; exact h1
  by_cases e2 : y = b
  · subst e2; rw [if_neg e1, if_pos rfl]; exact h2
  by_cases e3 : y = c
  · subst e3; rw [if_neg e1, if_neg e2, if_pos rfl]; exact h3
  by_cases e4 : y = d
  · subst e4; rw [if_neg e1, if_neg e2, if_neg e3, if_pos rfl]; exact h4
  simp only [e1, e2, e3, e4, if_false]
set_option maxHeartbeats 4000000 in
theorem law_d {H : Heap} (X : (hd.heap_1 w.params).In H) (T : Top hd.view_1 (looseW hd.view_1 []) mean mg mb H) {L : Addr} {m : Str → Option Value} {hp : Heap} {tk0 : Tok} {body : List Stmt} {env : Addr → Env} (hb : LawBody w body env) {ns : List Int} {b lc r : Addr} {nb nlc nr : Nat} {cs : List Value} {k : Int} {t : Tok} {rest : List (Addr × Obj)} {mm : Str → Option Value} {v0_ : Value} {pv mv sv : Option Value} (hi : IntsAre cs ns) (hlen : ns.length ≤ 24) (hk0 : 0 ≤ k) (hk1 : k < 50)
  (F : Fr H L hp (fun y => if y = Str.ofString "size" then sv else if y = Str.ofString "rows" then some (.ref r) else if y = Str.ofString "peer" then pv else if y = Str.ofString "most" then mv else if y = Str.ofString "box" then some (.ref b) else mm y)) (N : News H L hp ((b, boxO lc k t nb) :: (lc, listOf cs.toArray nlc) :: (r, listOf #[v0_] nr) :: rest)) (rw_ : Rw b lc r rest) (hv0 : IsFm rest v0_ .sett)
  {JJ : Flow → Shared → Prop} (hJ : ∀ h tk nr rv gs more (mm' : Str → Option Value), 3 ≤ gs.length → gs.length ≤ 8 → FmsIn more (v0_ :: rv) (.sett :: gs) → (∀ g ∈ gs, Made g) → (∀ q ∈ rest, q ∈ more) → (∀ q ∈ more, @Ne Nat q.1 r) → (Fr H L h (fun y => if y = Str.ofString "size" then sv else if y = Str.ofString "rows" then some (.ref r) else if y = Str.ofString "peer" then pv else if y = Str.ofString "most" then mv else mm' y)) → News H L h ((r, listOf (v0_ :: rv).toArray nr) :: more) → JJ .next {s with heap := h, toks := tk }) :
  wpN (model PySem.Challenge.rw_sj0117_01.row.prog w) (callerA.deeper (env L)) (execs ((body.drop 3).take 1) (env L)) JJ (fun _ _ => False) {s with heap := hp, toks := tk0} := by
  obtain ⟨rfl, rfl⟩ := lawIs hb
  dsimp only [lawB, lawE, lawSub]
  try simp only [List.drop_succ_cons, List.drop_zero, List.take_succ_cons, List.take_zero]
  refine wpN_execs (ForN (stopT ?_))
  w_strict k_steps
  have hoff : ∀ q ∈ (r, listOf #[v0_] nr) :: rest, q.1 ≠ b := List.forall_mem_cons.mpr ⟨rw_.br.symm, fun q hq => (rw_.all q hq).1⟩
  refine wp_at (f := by exact ⟨rfl, Nat.le_of_ble_eq_true rfl, Nat.le_of_ble_eq_true rfl⟩) (drawn (many := 6) X T F N hoff rw_.cb hi hlen hk0 (by omega) (by decide) (by decide) ?_)
  intro v tv h1 tk1 t1 hv F3 N3
  clear F N
  obtain ⟨v0, v1⟩ : 0 ≤ v ∧ v < 6 := by rw [hv]; exact drawnV_range _ _ _ (by decide)
  clear hv
  w_strict k_steps
  rename IsRange _ _ _ _ _ _ _ _ => hr
  rename Fr _ _ _ _ => F5
  rename News _ _ _ _ => N5
  obtain ⟨n, hn⟩ : ∃ n : Nat, 3 + v = n := ⟨(3 + v).toNat, by omega⟩
  rw [hn] at hr
  have hsz : Builtin.Range.rangeSize 0 (n : Int) 1 = (n : Int) := by unfold Builtin.Range.rangeSize; split <;> omega
  have hsm : Builtin.Range.small 0 (n : Int) 1 = true := small_one (by decide) (by decide) (by omega) (by omega)
  refine unstop (iterR F5 N5 hr hsm fun I h' F6 N6 hI => ?_)
  rw [hsz] at N6
  rw [show rIt 0 (n : Int) 1 = rIt (0 + ((0 : Nat) : Int) * 1) ((n : Int) - ((0 : Nat) : Int)) 1 by simp] at N6
  refine forRangeN (H := H) (L := L) (a := 0) (c := 1) (n := n) (s0 := s) (TurnP b lc r cs nb nlc (k + 1) rest v0_ (fun y => if y = Str.ofString "size" then sv else if y = Str.ofString "rows" then some (.ref r) else if y = Str.ofString "peer" then pv else if y = Str.ofString "most" then mv else if y = Str.ofString "box" then some (.ref b) else mm y)) rfl rfl rfl rfl ?step ?done n 0 _ (by omega) ⟨h', _, _, _, rfl, F6, N6, fun q hq => Nat.ne_of_lt (hI q hq), _, _, _, t1, nr, [], [], rest, map3 _ _ _ _, by simp, rfl, (FmsIn.nil _).snoc hv0, fun g hg => absurd hg List.not_mem_nil, sub_all, rw_⟩
  case done =>
    rintro h tk m news ⟨o1, o2, o3, t', nr, rv, gs, more, rfl, rfl, hg, hF, hM, hs, hR⟩ F7 N7
    refine wpN_any (wpAny_execs_nil ?_)
    refine hJ h tk nr rv gs more _ (by omega) (by omega) hF hM hs (fun q hq => (hR.all q hq).2) (frEq F7 (map4 _ (by rfl) (by rfl) (by rfl) (by rfl))) (newsSub N7 (sub_skip (sub_skip sub_all)))
  case step =>
    intro i h tk m news t hlt hPP F7 N7 hI
    refine postVar fun J2 hJ2 => ?_
    obtain ⟨o1, o2, o3, t', nr, rv, gs, more, rfl, rfl, hg, hF, hM, hs, hR⟩ := hPP
    replace F7 := frEq (m' := (fun y => if y = Str.ofString "turn" then some (.int (0 + i * 1) t) else if y = Str.ofString "form" then o2 else if y = Str.ofString "number" then o3 else (fun y => if y = Str.ofString "size" then sv else if y = Str.ofString "rows" then some (.ref r) else if y = Str.ofString "peer" then pv else if y = Str.ofString "most" then mv else if y = Str.ofString "box" then some (.ref b) else mm y) y)) F7 fun y => by by_cases e : y = Str.ofString "turn" <;> simp [e]
    dsimp only at F7
    refine wpN_any ?_
    w_strict k_steps
    have hIb : b ≠ I := hI _ (.head _)
    have hIr : r ≠ I := hI _ (.tail _ (.tail _ (.head _)))
    have hoff2 : ∀ q ∈ (I, rIt (0 + (i + 1 : Nat) * 1) (n - (i + 1 : Nat)) 1) :: (r, listOf (v0_ :: rv).toArray nr) :: more, q.1 ≠ b := List.forall_mem_cons.mpr ⟨hIb.symm, List.forall_mem_cons.mpr ⟨hR.br.symm, fun q hq => (hR.all q hq).1⟩⟩
    refine wp_at (f := by exact ⟨rfl, Nat.le_of_ble_eq_true rfl, Nat.le_of_ble_eq_true rfl⟩) (drawn (many := 6) X T F7 (newsSub N7 sub_rot) hoff2 hR.cb hi hlen (by omega) (by omega) (by decide) (by decide) ?_)
    intro u tu h2 tk2 t2 hu F8 N8
    clear F7 N7
    obtain ⟨u0, u1⟩ : 0 ≤ u ∧ u < 6 := by rw [hu]; exact drawnV_range _ _ _ (by decide)
    clear hu
    w_strict k_steps
    refine wp_at (f := by exact ⟨rfl, Nat.le_of_ble_eq_true rfl, Nat.le_of_ble_eq_true rfl⟩) (drawn (many := 20) X T F8 N8 hoff2 hR.cb hi hlen (by omega) (by omega) (by decide) (by decide) ?_)
    intro z tz h3 tk3 t3 hz F9 N9
    clear F8 N8
    obtain ⟨z0, z1⟩ : 0 ≤ z ∧ z < 20 := by rw [hz]; exact drawnV_range _ _ _ (by decide)
    clear hz
    w_strict k_steps
    rename Fr _ _ _ _ => F10
    rename News _ _ _ _ => N10
    refine wp_at (f := by exact ⟨rfl, Nat.le_of_ble_eq_true rfl, Nat.le_of_ble_eq_true rfl⟩) (lawframe X T F10 N10 u0 u1 z0 z1 ?_)
    intro fv tl h4 tk4 hfv hsep F11 N11
    clear F10 N10
    obtain ⟨fa, rfl⟩ := fm_ref hfv
    replace N11 := newsSub (b := (b, boxO lc (k + 1 + 2 * i + 1 + 1) t3 nb) :: (lc, listOf cs.toArray nlc) :: (I, rIt (0 + (i + 1 : Nat) * 1) (n - (i + 1 : Nat)) 1) :: (r, listOf (v0_ :: rv).toArray nr) :: (tl ++ more)) N11 (by lcg_sub)
    have hR2 : Rw b lc r (tl ++ more) := ⟨hR.cb, hR.cr, hR.br, fun q hq => (List.mem_append.mp hq).elim (fun h => ⟨(hsep q h _ (.tail _ (.head _))).symm, (hsep q h _ (.tail _ (.tail _ (.tail _ (.tail _ (.head _)))))).symm⟩) fun h => hR.all q h⟩
    have hI2 : ∀ q ∈ tl ++ more, q.1 ≠ I := fun q hq => (List.mem_append.mp hq).elim (fun h => (hsep q h _ (.tail _ (.tail _ (.tail _ (.head _))))).symm) fun h => hI _ (.tail _ (.tail _ (.tail _ h)))
    have hfv2 := hfv.mono (b := tl ++ more) fun q hq => List.mem_append_left _ hq
    have hF2 := hF.mono (b := tl ++ more) fun q hq => List.mem_append_right _ hq
    have hs2 : ∀ q ∈ rest, q ∈ tl ++ more := fun q hq => List.mem_append_right _ (hs q hq)
    clear hsep hfv
    generalize tl ++ more = more2 at *
    w_strict k_steps
    have hlen2 : (v0_ :: rv).length = i + 1 := by have := hF.1; simp only [List.length_cons] at this ⊢; omega
    have N12 := newsSub (b := (r, listOf (v0_ :: rv).toArray nr) :: (I, rIt (0 + (i + 1 : Nat) * 1) (n - (i + 1 : Nat)) 1) :: (b, boxO lc (k + 1 + 2 * i + 1 + 1) t3 nb) :: (lc, listOf cs.toArray nlc) :: more2) N11 (by lcg_sub)
    refine append_at (hsz := by rw [List.size_toArray, hlen2]; show i + 1 ≤ 2 ^ 24; omega) (N12 _ (.head _)).1 fun h5 hs5 ho5 => ?_
    have F13 := frBut F11 N12 hs5.extBut
    have N13 := newsBut N12 hs5 ho5 (List.forall_mem_cons.mpr ⟨hIr.symm, List.forall_mem_cons.mpr ⟨hR2.br, List.forall_mem_cons.mpr ⟨hR2.cr, fun q hq => (hR2.all q hq).2⟩⟩⟩)
    clear F11 N11 N12
    w_strict k_steps
    refine hJ2 _ _ ⟨rfl, h5, tk4, (fun y => if y = Str.ofString "turn" then some (.int (0 + i * 1) t) else if y = Str.ofString "form" then some (.int u tu) else if y = Str.ofString "number" then some (.int z tz) else (fun y => if y = Str.ofString "size" then sv else if y = Str.ofString "rows" then some (.ref r) else if y = Str.ofString "peer" then pv else if y = Str.ofString "most" then mv else if y = Str.ofString "box" then some (.ref b) else mm y) y), (b, boxO lc (k + 1 + 2 * (i + 1 : Nat)) t3 nb) :: (lc, listOf cs.toArray nlc) :: (r, listOf (v0_ :: (rv ++ [.ref fa])).toArray (nr + 1)) :: more2, rfl, frEq F13 fun y => ?_, fun q hq => ?_, ?_, _, _, _, t3, nr + 1, rv ++ [Value.ref fa], gs ++ [formFrame u z], more2, rfl, rfl, ?_, (show FmsIn more2 (v0_ :: (rv ++ [Value.ref fa])) (.sett :: (gs ++ [formFrame u z])) from hF2.snoc hfv2), ?_, hs2, hR2⟩
    · by_cases e1 : y = Str.ofString "form"
      · subst e1; rfl
      by_cases e2 : y = Str.ofString "number"
      · subst e2; rfl
      simp only [e1, e2, if_false]
    · have e1 : k + 1 + 2 * ((i + 1 : Nat) : Int) = k + 1 + 2 * i + 1 + 1 := by omega
      have e2 : listOf (v0_ :: (rv ++ [.ref fa])).toArray (nr + 1) = ({ cls := .type "list", data := .seq ((v0_ :: rv).toArray.push (.ref fa)) (nr + 1) } : Obj) := by rw [List.push_toArray]; rfl
      rw [e1, e2] at hq
      refine N13 q ?_
      revert q; lcg_sub
    · exact List.forall_mem_cons.mpr ⟨hIb, List.forall_mem_cons.mpr ⟨hI _ (.tail _ (.head _)), List.forall_mem_cons.mpr ⟨hIr, hI2⟩⟩⟩
    · rw [List.length_append, hg]; rfl
    · intro g hg
      rcases List.mem_append.mp hg with hg | hg
      · exact hM g hg
      · rw [List.mem_singleton.mp hg]
        exact ⟨u, z, rfl, u0, u1, z0, z1⟩

end
section
theorem by_slot_join : Slot "bytes" "join" "bytes.join" :=
  .of (owner := "bytes") (n := "join") (by rw [typeLookup_type, builtinLookup_eq_fast]; kernel_rfl) (by decide +kernel) (by decide +kernel) (by decide +kernel)
    (by first | exact .inl (by decide +kernel) | exact .inr (by decide +kernel)) (by rw [isSubtype_type]; kernel_rfl)
theorem by_type_join : typeOf (.builtin "bytes.join") = pure (.type "method_descriptor") := by show builtinType _ = _; rw [builtinType_eq_fast]; kernel_rfl
theorem by_entry_join : entryFor table "bytes.join" = some Builtin.«bytes.join» := by first | exact entryFor_of_fast (by kernel_rfl) | exact entryFor_of_tree (by kernel_rfl)
theorem by_args_join (a b : Value) : argsOk "bytes.join" ⟨[a, b], []⟩ := by unfold argsOk; kernel_rfl
theorem by_quiet (b : Array UInt8) (t : Tok) : Builtin.Bytes.takeBufferQuiet? "bytes.join" (.bytes b t) 0 = pure (some (b, none)) := by
  have e : typeLookup (.type "bytes") "__buffer__" = pure (some (.builtin "bytes.__buffer__")) := by rw [typeLookup_type, builtinLookup_eq_fast]; kernel_rfl
  unfold Builtin.Bytes.takeBufferQuiet? Builtin.Bytes.takeBuffer? Builtin.Bytes.buffer? Builtin.Bytes.slotIsOwn Builtin.Bytes.ownRelease
  kernel_rfl
/-- the values of bytes, each with its token -/
abbrev bvs (l : List (Array UInt8 × Tok)) : List Value := l.map fun x => .bytes x.1 x.2
abbrev takenOf (l : List (Array UInt8 × Tok)) : List (Value × Option Value) := l.map fun x => (.bytes x.1 x.2, none)
section
variable {prog : Program} {w : World} {A : Around} {E : Value → Shared → Prop} {s : Shared}
theorem letGo_taken (l : List (Array UInt8 × Tok)) (keep : List Value) {Q : Unit → Shared → Prop} (h : Q () s) : wpAny (model prog w) A (Builtin.Bytes.joinLetGo (takenOf l) keep) Q E s := by
  induction l with
  | nil => exact wpAny_pure h
  | cons x rest ih =>
    show wpAny _ _ (Builtin.Bytes.joinLetGo ((.bytes x.1 x.2, none) :: takenOf rest) keep) _ _ _
    unfold Builtin.Bytes.joinLetGo
    try dsimp only
    refine wpAny_bind ?_
    show wpAny _ _ (letGo [.bytes x.1 x.2] _) _ _ _
    unfold letGo
    refine wpAny_bind (wpAny_holding (wpAny_point ?_))
    unfold letGo
    exact wpAny_pure ih
theorem joined_nil (ps : List (Array UInt8)) : Builtin.Bytes.joined #[] ps = ps.foldl (· ++ ·) #[] := by
  unfold Builtin.Bytes.joined
  have key : ∀ (ps : List (Array UInt8)) (n : Nat) (acc : Array UInt8), (ps.zipIdx n).foldl (fun out (x : Array UInt8 × Nat) => (if x.2 > 0 then out ++ #[] else out) ++ x.1) acc = ps.foldl (· ++ ·) acc := by
    intro ps
    induction ps with
    | nil => intro n acc; rfl
    | cons p rest ih =>
      intro n acc
      rw [List.zipIdx_cons, List.foldl_cons, List.foldl_cons, ih]
      congr 1
      split <;> simp
  exact key ps 0 #[]
theorem join_m1 {α : Type} {xs : Array Value} {x : Value → α} {y : Array Value → α} (h : xs.size ≠ 1) : Builtin.Bytes.joinM.match_1 (fun _ => α) xs x y = y xs := by
  unfold Builtin.Bytes.joinM.match_1
  rw [dif_neg h]
def JoinAt (s : Shared) (l : List (Array UInt8 × Tok)) (rest : List Nat) (st : Array (Array UInt8) × List (Value × Option Value)) (s' : Shared) : Prop :=
  s' = s ∧ ∃ i, i ≤ l.length ∧ rest = List.range' i (l.length - i) ∧ st = (((l.take i).map (·.1)).toArray, takenOf (l.take i))
theorem joinB {l : List (Array UInt8 × Tok)} {a : Addr} {n : Nat} {t : Tok} {Q : Value → Shared → Prop} (ha : s.heap.get? a = some (listOf (bvs l).toArray n)) (hl : 2 ≤ l.length) (hsz : (l.map (·.1.size)).sum ≤ sizeLine)
    (hQ : ∀ t k, Q (.bytes ((l.map (·.1)).foldl (· ++ ·) #[]) t) { s with toks := k }) :
    wpAny (model prog w) A (call (.builtin "bytes.join") [.bytes #[] t, .ref a]) Q E s := by
  have hT : s.TypeIs (.ref a) "list" := ⟨_, ha, rfl⟩
  refine wpAny_call (codeAny_call_builtin by_slot_join.plain by_entry_join (by_slot_join.check _ _ _ _ _ _ _ _ (PySem.W.typeIs_bytes _ _ _) (by_args_join _ _) ?_))
  unfold Builtin.«bytes.join» Builtin.Bytes.joinM
  refine wpAny_bind (wpAny_pure ?_)
  refine wpAny_bind ?_
  show wpAny _ _ (Builtin.Bytes.joinItems (.ref a)) _ _ _
  unfold Builtin.Bytes.joinItems
  refine wpAny_bind (wpAny_typeOf hT ?_)
  refine wpAny_pure ?_
  refine wpAny_bind ?_
  show wpAny _ _ (load a >>= _) _ _ _
  refine wpAny_bind (wpAny_load ha (wpAny_pure ?_))
  obtain ⟨x0, y0, r0, rfl⟩ : ∃ x y r, l = x :: y :: r := by
    match l, hl with
    | x :: y :: r, _ => exact ⟨x, y, r, rfl⟩
  generalize hxs : (bvs (x0 :: y0 :: r0)).toArray = xs at ha
  have hxs2 : xs.size = (x0 :: y0 :: r0).length := by rw [← hxs]; simp [bvs]
  have hget : ∀ i (h : i < (x0 :: y0 :: r0).length), xs.getD i .none = .bytes ((x0 :: y0 :: r0)[i]).1 ((x0 :: y0 :: r0)[i]).2 := by
    intro i h
    rw [← hxs]
    have h2 : i < (bvs (x0 :: y0 :: r0)).toArray.size := by simpa using h
    rw [Array.getD, dif_pos h2]
    simp only [Array.getInternal_eq_getElem, List.getElem_toArray, bvs, List.getElem_map]
  generalize x0 :: y0 :: r0 = l at *
  refine bm_if_true rfl ?_
  rw [join_m1 (xs := xs) (by omega)]
  try dsimp only
  rw [Std.Legacy.Range.forIn_eq_forIn_range']
  refine wpAny_bind (wpAny_forIn_list _ (JoinAt s l) _ ?turn ?fin _ _ ?kinit)
  case kinit =>
    refine ⟨rfl, 0, Nat.zero_le _, ?_, ?_⟩
    · simp [Std.Legacy.Range.size, hxs2]
    · simp [takenOf]
  case turn =>
    rintro x rest st s' ⟨rfl, i, hi, e1, rfl⟩
    have hlt : i < l.length := by
      apply Classical.byContradiction
      intro hn
      rw [show l.length - i = 0 from Nat.sub_eq_zero_of_le (Nat.le_of_not_lt hn)] at e1
      simp at e1
    rw [show l.length - i = (l.length - (i + 1)) + 1 from (Nat.succ_pred_eq_of_pos (Nat.sub_pos_of_lt hlt)).symm, List.range'_succ] at e1
    obtain ⟨rfl, rfl⟩ := List.cons.inj e1
    try dsimp only
    refine wpAny_bind (wpAny_bind (wpAny_load ha (wpAny_pure ?_)))
    try dsimp only
    refine bm_if_false ?_ ?_
    · have z : ∀ (r : List (Array UInt8 × Tok)), (takenOf r).any (fun y => y.1.onHeap) = false := by
        intro r
        rw [List.any_eq_false]
        intro y hy
        obtain ⟨q, _, rfl⟩ := List.mem_map.mp hy
        exact Bool.false_ne_true
      rw [z]
      rfl
    rw [hget x hlt]
    refine wpAny_bind (wpAny_holding (wpAny_of_eq (by_quiet _ _) ?_))
    try dsimp only
    refine wpAny_bind (wpAny_bind (wpAny_load ha (wpAny_pure ?_)))
    try dsimp only
    refine bm_if_false (by simp) (wpAny_pure ?_)
    refine ⟨rfl, x + 1, hlt, rfl, ?_⟩
    rw [List.take_succ_eq_append_getElem hlt]
    simp only [takenOf, List.map_append, List.map_cons, List.map_nil, List.push_toArray]
  case fin =>
    rintro st s' ⟨rfl, i, hi, e1, rfl⟩
    obtain rfl : i = l.length := by
      have := congrArg List.length e1
      simp at this
      omega
    rw [List.take_length]
    refine wpAny_bind (wpAny_of_eq (a := #[]) rfl ?_)
    try dsimp only
    rw [← Array.foldl_toList, joined_nil]
    have e2 : ∀ (r : List (Array UInt8 × Tok)) (n : Nat), (r.map (·.1)).foldl (fun x y => x + y.size) n = n + (r.map (·.1.size)).sum := by
      intro r
      induction r with
      | nil => intro n; rfl
      | cons x r ih => intro n; rw [List.map_cons, List.foldl_cons, ih, List.map_cons, List.sum_cons]; omega
    have e3 : ∀ (r : List (Array UInt8 × Tok)) (b : Array UInt8), ((r.map (·.1)).foldl (· ++ ·) b).size = b.size + (r.map (·.1.size)).sum := by
      intro r
      induction r with
      | nil => intro n; rfl
      | cons x r ih => intro n; rw [List.map_cons, List.foldl_cons, ih, List.map_cons, List.sum_cons, Array.size_append]; omega
    refine bm_if_false ?_ ?_
    · rw [e2]
      exact decide_eq_false (by simp; exact hsz)
    refine wpAny_bind (wpAny_mkBytes ?_ (hb := ?_))
    · refine wpAny_bind (wpAny_holding (wpAny_point ?_))
      refine wpAny_bind (letGo_taken _ _ ?_)
      exact wpAny_pure (hQ _ _)
    · rw [e3]
      simpa using hsz
end

end
section
section
variable {M : Model} {A : Around} {E : Value → Shared → Prop} {s : Shared} {env : Env}
theorem wpN_runCode {c : Code} {Q : Flow → Shared → Prop} (hc : codeN M A c (fun r s' => match r with | .ok f => Q f s' | .error e => E e s') s) : wpN M A (run c) Q E s := fun Γ p h1 h2 h3 => by
  rw [Sem.wp_run]
  exact hc _ p rfl (h1.enter c none p (by intro x; cases x)) (fun x hx => (List.mem_cons.mp hx).elim (fun e => by rw [e]; exact h2) (h3 x))
theorem wpN_attempt {α : Type} {m : Sem α} {Q : Except Value α → Shared → Prop} (h : wpN M A m (fun a => Q (.ok a)) (fun e => Q (.error e)) s) : wpN M A m.attempt Q E s := fun Γ p h1 h2 h3 => by
  rw [Sem.wp_attempt]; exact h Γ p h1 h2 h3
/-- a list's comprehension of clean contexts, that raises nothing -/
theorem ListCompN {elt target iter : Expr} {rest : List Comprehension} {ifs : List Expr} {scope : Scope} {pos : Pos} {Q : Value → Shared → Prop}
    (hfree : ∀ x ∈ scope.names, x.2 ≠ .free) (hkind : scope.kind = .function) (hnames : ∀ x ∈ scope.names, x.2 = .local → scope.names.lookup x.1 = some .local)
    (h : wpAny M A (eval iter env) (fun x s₁ => wpAny M A (pyIter x) (fun it s₂ => wpAny M A (newList []) (fun acc s₃ =>
      wpAny M A (newFunctionEnv scope env.globals [] [] env.qual none .none (some env)) (fun cenv s₄ =>
        codeN M A (.compStart (.ListComp elt (⟨target, iter, ifs, 0⟩ :: rest) scope pos) 0 it acc { cenv with scope := scope })
          (fun r s' => r = .ok .next ∧ ∃ m, s'.heap.Ns cenv.locals m ∧ ∀ h', Heap.SameBut cenv.locals s'.heap h' → Q acc { s' with heap := h' }) s₄) E s₃) E s₂) E s₁) E s)
    (hs : ∀ x, foldedSetIterable iter env x = pure x := by intro _; rfl) :
    wpN M A (eval (.ListComp elt (⟨target, iter, ifs, 0⟩ :: rest) scope pos) env) Q E s := by
  rw [eval_ListComp]
  unfold comprehension
  rw [closureFor_none hfree, show clausesOf (.ListComp elt (⟨target, iter, ifs, 0⟩ :: rest) scope pos) = ⟨target, iter, ifs, 0⟩ :: rest from rfl]
  refine wpN_bind (wpN_mono (wpN_any h) (fun x s₁ h₁ => ?_) fun _ _ h' => h')
  refine wpN_bind (wpN_any (wpAny_standAt ?_))
  refine wpN_bind (wpN_eq (hs x) ?_)
  refine wpN_bind (wpN_holding (wpN_mono (wpN_any h₁) (fun it s₂ h₂ => ?_) fun _ _ h' => h'))
  refine wpN_bind (wpN_mono (wpN_any h₂) (fun acc s₃ h₃ => ?_) fun _ _ h' => h')
  refine wpN_bind (wpN_pure ?_)
  refine wpN_bind (wpN_mono (wpN_any h₃) (fun cenv s₄ h₄ => ?_) fun _ _ h' => h')
  try dsimp only
  rw [map_eq_self (l := scope.names) (fun x hx => by
    obtain ⟨n, k⟩ := x
    have : (k == NameKind.free) = false := by simpa using hfree _ hx
    simp [this])]
  have hv : ∀ x ∈ (scope.names.filter fun x => (x.2 == .local || x.2 == .cell) && x.1 != (".0" : Str)).reverse, x.2 = .local →
      Env.kindOf { cenv with scope := scope } x.1 = some .local := fun x hx hl => hnames x (List.mem_filter.mp (List.mem_reverse.mp hx)).1 hl
  refine wpN_holding (wpN_bind (wpN_attempt (wpN_holding (wpN_runCode (codeN_mono h₄ fun r s' hr => ?_)))))
  obtain ⟨rfl, m, hn, hr⟩ := hr
  exact wpN_any (wpAny_bind (wpAny_holding (wpAny_comp_letGo (cenv := { cenv with scope := scope }) hkind _ s' m hv hn fun h' m' _ hs' => wpAny_pure (hr h' hs'))))
end
section
variable {prog : Program} {w : World} {A : Around} {E : Value → Shared → Prop} {s s0 : Shared} {env : Env} {R : Result → Shared → Prop}
theorem codeN_compStart {elt target iter ifs rest scope pos it acc env}
    (h0 : codeN (model prog w) A (.compLoop (.ListComp elt (⟨target, iter, ifs, 0⟩ :: rest) scope pos) 0 it acc env) R s)
    (h : wpAny (model prog w) A (pyIter it) (fun it' s' => codeN (model prog w) A (.compLoop (.ListComp elt (⟨target, iter, ifs, 0⟩ :: rest) scope pos) 0 it' acc env) R s') (fun _ _ => False) s) :
    codeN (model prog w) A (.compStart (.ListComp elt (⟨target, iter, ifs, 0⟩ :: rest) scope pos) 0 it acc env) R s := by
  refine codeN_tree trivial ?_
  show wpN _ _ ((compStart (.ListComp elt (⟨target, iter, ifs, 0⟩ :: rest) scope pos) 0 it acc env).onRaise (fun x => do noteFrame x env; standAt theWindowsPlace)) _ _ s
  refine wpN_onRaise (wpN_any ?_)
  unfold compStart
  show wpAny _ _ (ask >>= _) _ _ s
  refine wpAny_bind (wpAny_askSetting (wpAny_ite ?_))
  split
  · first
      | exact wpAny_bind (wpAny_pure (wpAny_pure (And.intro rfl h0)))
      | exact wpAny_pure (And.intro rfl h0)
  · first
      | exact wpAny_bind (wpAny_rule (wpAny_bind (wpAny_standAt (wpAny_bind (wpAny_mono h (fun it' s' h' => wpAny_pure (And.intro rfl h')) fun _ _ x => x)))))
      | (refine wpAny_bind (wpAny_rule ?_); show wpAny _ _ (standAt iter.pos >>= _) _ _ s; exact wpAny_bind (wpAny_standAt (wpAny_bind (wpAny_mono h (fun it' s' h' => wpAny_pure (And.intro rfl h')) fun _ _ x => x))))
theorem compN_turn {elt target iter : Expr} {scope : Scope} {pos : Pos} {it acc : Value} {env : Env}
    (h : wpAny (model prog w) A (pyNext it) (fun r s₁ => match r with
      | none => R (.ok .next) s₁
      | some v => wpAny (model prog w) A (assign target env v) (fun _ s₂ => wpN (model prog w) A (eval elt env) (fun x s₃ =>
          wpAny (model prog w) A (call (.builtin "list.append") [acc, x]) (fun _ s₄ => codeN (model prog w) A (.compLoop (.ListComp elt [⟨target, iter, [], 0⟩] scope pos) 0 it acc env) R s₄) (fun _ _ => False) s₃)
          (fun _ _ => False) s₂) (fun _ _ => False) s₁) (fun _ _ => False) s)
    (ht : ∀ v, letOwnedTupleGo target it v = pure () := by intro _; rfl) :
    codeN (model prog w) A (.compLoop (.ListComp elt [⟨target, iter, [], 0⟩] scope pos) 0 it acc env) R s := by
  refine codeN_tree trivial ?_
  show wpN _ _ ((compTurn (.ListComp elt [⟨target, iter, [], 0⟩] scope pos) 0 it acc env).onRaise (fun x => do noteFrame x env; theTreesLotGoes x)) _ _ s
  refine wpN_onRaise ?_
  rw [compTurn_list1]
  refine wpN_bind (wpN_any (wpAny_standAt ?_))
  refine wpN_bind (wpN_mono (wpN_any h) (fun r s₁ h₁ => ?_) fun _ _ h' => h')
  cases r with
  | none => exact wpN_pure h₁
  | some v =>
    refine wpN_bind (wpN_eq (ht v) ?_)
    refine wpN_bind (wpN_mono (wpN_any h₁) (fun _ s₂ h₂ => ?_) fun _ _ h' => h')
    refine wpN_bind (wpN_bind (wpN_mono h₂ (fun x s₃ h₃ => ?_) fun _ _ h' => h'))
    exact wpN_bind (wpN_any (wpAny_mono h₃ (fun _ s₄ h₄ => wpN_pure (wpN_pure ⟨rfl, h₄⟩)) fun _ _ h' => h'))
open LCg in
/-- a list's comprehension whose elements are made in clean contexts and leave the ledger as it was -/
theorem compMapN {elt iter : Expr} {x : Str} {px : Pos} {scope : Scope} {pos : Pos} {H : Heap} {L : Addr} {m : Str → Option Value} {news : List (Addr × Obj)} {ax : Addr} {items : List Value} {n : Nat} (P : Nat → Value → Prop) {Q : Value → Shared → Prop}
    (hh : A.handled = none) (F : Fr H L s.heap m) (N : News H L s.heap news) (hm : (ax, listOf items.toArray n) ∈ news) (hsz : items.length ≤ sizeLine)
    (hfree : ∀ x ∈ scope.names, x.2 ≠ .free) (hcell : ∀ y ∈ scope.names, y.2 ≠ .cell) (hkind : scope.kind = .function) (hnames : ∀ x ∈ scope.names, x.2 = .local → scope.names.lookup x.1 = some .local) (hx : scope.names.lookup x = some .local)
    (hi : wpAny (model prog w) A (eval iter env) (fun v s₁ => v = .ref ax ∧ s₁ = s) E s)
    (turn : ∀ i v C oC m₂ h tk led, items[i]? = some v → NsObj oC m₂ → m₂ x = some v → Fr H L h m → News H L h ((C, oC) :: led) → (∀ q ∈ news, q ∈ led) → (∀ q ∈ led, q.1 ≠ C) →
      wpN (model prog w) A (eval elt (compEnvC scope [] C env)) (fun y s₂ => P i y ∧ ∃ h' tk', s₂ = { s with heap := h', toks := tk' } ∧ Fr H L h' m ∧ News H L h' ((C, oC) :: led)) (fun _ _ => False) { s with heap := h, toks := tk })
    (ret : ∀ D h tk (ys : List Value), Fr H L h m → News H L h ((D, listOf ys.toArray ys.length) :: news) → (∀ q ∈ news, q.1 ≠ D) → ys.length = items.length → (∀ i y, ys[i]? = some y → P i y) → Q (.ref D) { s with heap := h, toks := tk })
    (hs : ∀ x, foldedSetIterable iter env x = pure x := by intro _; rfl) :
    wpN (model prog w) A (eval (.ListComp elt [⟨.Name x px, iter, [], 0⟩] scope pos) env) Q E s := by
  refine ListCompN hfree hkind hnames (wpAny_mono hi (fun v s₁ h₁ => ?_) fun _ _ h' => h') hs
  obtain ⟨rfl, rfl⟩ := h₁
  refine iterL F N (lstAt (N _ hm).1) fun I h1 F1 N1 hI _ => ?_
  refine wpAny_newObj_type (wpAny_newFunctionEnv hcell (by intro y hy; simp at hy) (fun h₁ hns₁ hsb₁ => ?_) hkind)
  dsimp only at hns₁ hsb₁ ⊢
  generalize hH2 : h1.push { cls := .type "list", dict := none, data := .seq ([] : List Value).toArray } = H2 at hns₁ hsb₁ ⊢
  have hC : H2.objs.size = h1.objs.size + 1 := by rw [← hH2, Heap.size_push]
  have hDC : h1.objs.size ≠ H2.objs.size := by rw [hC]; exact Nat.ne_of_lt (Nat.lt_succ_self _)
  have below : ∀ b, b < h1.objs.size → b ≠ H2.objs.size ∧ b ≠ h1.objs.size := fun b hb => ⟨by rw [hC]; exact Nat.ne_of_lt (Nat.lt_succ_of_lt hb), Nat.ne_of_lt hb⟩
  have old : ∀ b o, h1.get? b = some o → h₁.get? b = some o := fun b o e => hsb₁.extBut b o (below b (Heap.lt_size e)).1 (Heap.get?_push_of_some _ (hH2 ▸ Heap.get?_push_of_some _ e))
  have hacc : h₁.get? h1.objs.size = some (listOf #[] 0) := hsb₁.extBut _ _ hDC (Heap.get?_push_of_some _ (hH2 ▸ Heap.get?_push_size _ rfl))
  have fresh₀ : ∀ a, h1.objs.size ≤ a → H.get? a = none := fun a ha => by
    cases e : H.get? a with
    | none => rfl
    | some o' => have := F1.keep a o' e; exact absurd (Heap.lt_size this) (Nat.not_lt.mpr ha)
  have hD₀ : H.get? h1.objs.size = none := fresh₀ _ (Nat.le_refl _)
  have hC₀ : H.get? H2.objs.size = none := fresh₀ _ (by rw [hC]; exact Nat.le_succ _)
  have hLlt : L < h1.objs.size := F1.ns.lt
  have hDL : h1.objs.size ≠ L := Ne.symm (below L hLlt).2
  have hCL : H2.objs.size ≠ L := Ne.symm (below L hLlt).1
  have N1' : ∀ q ∈ (I, itO ax 0) :: news, q.1 < h1.objs.size := fun q hq => Heap.lt_size (N1 q hq).1
  obtain ⟨oC, heC, hoC⟩ := ns_obj hns₁
  generalize h1.objs.size = D at *
  generalize H2.objs.size = C at *
  have off : ∀ q ∈ (I, itO ax 0) :: news, q.1 ≠ C ∧ q.1 ≠ D := fun q hq => below _ (N1' q hq)
  have hIne : ∀ q ∈ news, q.1 ≠ I := fun q hq => Nat.ne_of_lt (hI q hq)
  have hIC : I ≠ C := (off _ (.head _)).1
  have hID : I ≠ D := (off _ (.head _)).2
  have hrel : relabel scope env = scope := by
    unfold relabel
    rw [map_eq_self (l := scope.names) (fun x hx => by
      obtain ⟨n, k⟩ := x
      have : (k == NameKind.free) = false := by simpa using hfree _ hx
      simp [this])]
  have henv : compEnvC scope [] C env = { scope := scope, locals := C, globals := env.globals, cells := [], qual := env.qual, func := none, code := env.code, frame := env.frame, builtins := env.builtins } := by unfold compEnvC; rw [hrel]
  have hkd : (compEnvC scope [] C env).kindOf x = some .local := by rw [henv]; exact hx
  have loop : ∀ (k i : Nat) (s' : Shared), i + k = items.length → (∃ (h : Heap) (tk : Nat) (oI oC : Obj) (m' : Str → Option Value) (ys : List Value), s' = { s₁ with heap := h, toks := tk } ∧ LI "list_iterator" oI ax i ∧ NsObj oC m' ∧ Fr H L h m ∧ News H L h ((I, oI) :: (C, oC) :: (D, listOf ys.toArray ys.length) :: news) ∧ ys.length = i ∧ ∀ i y, ys[i]? = some y → P i y) →
      codeN (model prog w) A (.compLoop (.ListComp elt [⟨.Name x px, iter, [], 0⟩] scope pos) 0 (.ref I) (.ref D) (compEnvC scope [] C env)) (fun r s' => r = .ok .next ∧ ∃ m, s'.heap.Ns C m ∧ ∀ h', Heap.SameBut C s'.heap h' → Q (.ref D) { s' with heap := h' }) s' := by
    intro k
    induction k with
    | zero =>
      rintro i s' e ⟨h, tk, oI, oC, m', ys, rfl, hLI, hoC', Fi, Ni, hys, hP⟩
      obtain rfl : i = items.length := by omega
      refine compN_turn (nextLend hh Fi Ni hLI (lstAt (Ni _ (.tail _ (.tail _ (.tail _ hm)))).1) (by simp) ?_ fun h' F' N' => ?_)
      · intro r hr
        rcases List.mem_cons.mp hr with rfl | hr
        · exact hIC.symm
        · rcases List.mem_cons.mp hr with rfl | hr
          · exact hID.symm
          · exact hIne r hr
      · refine ⟨rfl, m', hoC'.ns (N' _ (.head _)).1, fun h'' hs'' => ret D h'' tk ys (F'.change hs'' hCL hC₀) (fun q hq => ?_) (fun q hq => (off q (.tail _ hq)).2) hys hP⟩
        refine ⟨hs''.extBut _ _ ?_ (N' q (.tail _ hq)).1, (N' q (.tail _ hq)).2⟩
        rcases List.mem_cons.mp hq with rfl | hq
        · exact hDC
        · exact (off q (.tail _ hq)).1
    | succ k ih =>
      rintro i s' e ⟨h, tk, oI, oC, m', ys, rfl, hLI, hoC', Fi, Ni, hys, hP⟩
      have hv : items[i]? = some (items[i]'(by omega)) := List.getElem?_eq_getElem (by omega)
      generalize items[i]'(by omega) = v at hv
      refine compN_turn (nextL (x := v) Fi Ni hLI (lstAt (Ni _ (.tail _ (.tail _ (.tail _ hm)))).1) ?_ (by simpa using hv) fun o' h' ho' F' N' hl' => ?_)
      · intro r hr
        rcases List.mem_cons.mp hr with rfl | hr
        · exact hIC.symm
        · rcases List.mem_cons.mp hr with rfl | hr
          · exact hID.symm
          · exact hIne r hr
      · dsimp only
        refine wpAny_assign_Name (wpAny_storeName_local hkd (hoC'.ns (N' _ (.tail _ (.head _))).1) (fun h₂ hn₂ hs₂ => ?_) ?_)
        · obtain ⟨oC2, heC2, hoC2⟩ := ns_obj hn₂
          have F2 : Fr H L h₂ m := F'.change hs₂ hCL hC₀
          have N2 : News H L h₂ ((C, oC2) :: (I, o') :: (D, listOf ys.toArray ys.length) :: news) := fun q hq => by
            rcases List.mem_cons.mp hq with rfl | hq
            · exact ⟨heC2, hCL, hC₀⟩
            · rcases List.mem_cons.mp hq with rfl | hq
              · exact ⟨hs₂.extBut _ _ hIC (N' _ (.head _)).1, (N' _ (.head _)).2⟩
              · have z := N' q (.tail _ (.tail _ hq))
                refine ⟨hs₂.extBut _ _ ?_ z.1, z.2⟩
                rcases List.mem_cons.mp hq with rfl | hq
                · exact hDC
                · exact (off q (.tail _ hq)).1
          refine wpN_mono (turn i v C oC2 _ h₂ _ _ hv hoC2 (by simp) F2 N2 (fun q hq => .tail _ (.tail _ hq)) ?_) (fun y s₂ q => ?_) fun _ _ h => h
          · intro q hq
            rcases List.mem_cons.mp hq with rfl | hq
            · exact hIC
            · rcases List.mem_cons.mp hq with rfl | hq
              · exact hDC
              · exact (off q (.tail _ hq)).1
          · obtain ⟨hy, h3, tk3, rfl, F3, N3⟩ := q
            refine append_at (hsz := by rw [List.size_toArray, hys]; omega) (N3 _ (.tail _ (.tail _ (.head _)))).1 fun h4 hs4 hD4 => ?_
            refine ih (i + 1) _ (by omega) ⟨h4, tk3, o', oC2, _, ys ++ [y], rfl, ho', hoC2, F3.change hs4 hDL hD₀, fun q hq => ?_, by simp [hys], fun j y' hj => ?_⟩
            · rcases List.mem_cons.mp hq with rfl | hq
              · exact ⟨hs4.extBut _ _ hID (N3 _ (.tail _ (.head _))).1, (N3 _ (.tail _ (.head _))).2⟩
              · rcases List.mem_cons.mp hq with rfl | hq
                · exact ⟨hs4.extBut _ _ hDC.symm (N3 _ (.head _)).1, (N3 _ (.head _)).2⟩
                · rcases List.mem_cons.mp hq with rfl | hq
                  · exact ⟨hD4.trans (congrArg some (lst_snoc ys y)), hDL, hD₀⟩
                  · exact ⟨hs4.extBut _ _ (off q (.tail _ hq)).2 (N3 q (.tail _ (.tail _ (.tail _ hq)))).1, (N3 q (.tail _ (.tail _ (.tail _ hq)))).2⟩
            · rcases Nat.lt_or_ge j ys.length with q | q
              · rw [List.getElem?_append_left q] at hj
                exact hP j y' hj
              · rw [List.getElem?_append_right q] at hj
                have hi : j - ys.length = 0 := by have := (List.getElem?_eq_some_iff.mp hj).1; simp at this; omega
                rw [hi] at hj
                cases hj
                obtain rfl : j = i := by omega
                exact hy
        · rw [henv]; simp [hkind]
  suffices start : codeN (model prog w) A (.compLoop (.ListComp elt [⟨.Name x px, iter, [], 0⟩] scope pos) 0 (.ref I) (.ref D) (compEnvC scope [] C env)) (fun r s' => r = .ok .next ∧ ∃ m, s'.heap.Ns C m ∧ ∀ h', Heap.SameBut C s'.heap h' → Q (.ref D) { s' with heap := h' }) { s₁ with heap := h₁, toks := s₁.toks + ([] : List (Str × Value)).length } by
    rw [henv] at start
    exact codeN_compStart start (wpAny_pyIter_listiter (it := I) (l := ax) (i := 0) ⟨itO ax 0, old _ _ (N1 _ (.head _)).1, rfl, rfl⟩ start)
  refine loop items.length 0 { s₁ with heap := h₁, toks := s₁.toks + ([] : List (Str × Value)).length } (by omega) ⟨h₁, _, itO ax 0, oC, _, [], rfl, ⟨rfl, rfl⟩, hoC, F1.keeps old, fun q hq => ?_, rfl, fun i y h => by simp at h⟩
  · rcases List.mem_cons.mp hq with rfl | hq
    · exact ⟨old _ _ (N1 _ (.head _)).1, (N1 _ (.head _)).2⟩
    · rcases List.mem_cons.mp hq with rfl | hq
      · exact ⟨heC, hCL, hC₀⟩
      · rcases List.mem_cons.mp hq with rfl | hq
        · exact ⟨hacc, hDL, hD₀⟩
        · exact ⟨old _ _ (N1 _ (.tail _ hq)).1, (N1 _ (.tail _ hq)).2⟩
end

end
section
example : True := by w_top off; exact trivial
section
variable {M : Model} {A : Around} {E : Value → Shared → Prop} {s : Shared} {env : Env}
/-- a method's call of clean contexts -/
theorem MethN {o : Expr} {name : Str} {apos pos : Pos} {args : List Expr} {l : List (Bool × Sem Value)} {Q : Value → Shared → Prop} (hbase : attributeBase o name env (eval o env) = eval o env) (he : backTo pos (starEach args env) = l) (hform : methodCallForm args.length l [] = true) (hline : (apos.endLine == pos.line) = true)
    (h : wpAny M A (eval o env) (fun ov s₁ => ∀ pl, wpAny M A (getMethod ov name pl) (fun fm s₂ => wpN M A (callWith pos fm.1 fm.2 l []) Q E s₂) E s₁) E s) :
    wpN M A (eval (.Call (.Attribute o name apos) args [] pos) env) Q E s := by
  rw [arm_eval_Call, hbase, he]
  refine wpN_bind (wpN_mono (wpN_any h) (fun ov s₁ h₁ => ?_) fun _ _ x => x)
  refine wpN_bind (wpN_any (wpAny_standAt ?_))
  unfold methodCall
  rw [show args.length + ([] : List Keyword).length = args.length from rfl, show backToKw pos (keywordEach [] env) = [] from rfl, hform]
  refine wpN_bind (wpN_holding (wpN_mono (wpN_any (show wpAny M A (calleeOf true o env ov name) _ E s₁ from h₁ _)) (fun fm s₂ h₂ => ?_) fun _ _ x => x))
  obtain ⟨f, first⟩ := fm
  refine wpN_bind (wpN_eq (a := pos) ?_ h₂)
  unfold methodCallPos
  rw [hline]
  rfl
end
section
variable {M : Model} {A : Around} {E : Value → Shared → Prop} {s : Shared} {env : Env} {pos : Pos} {first : List Value} {Q : Value → Shared → Prop}
theorem gm_join {b : Array UInt8} {t : Tok} {pl : Sem Bool} {Q : Value × List Value → Shared → Prop} (h : Q (.builtin "bytes.join", [.bytes b t]) s) : wpAny M A (getMethod (.bytes b t) (Str.ofString "join") pl) Q E s :=
  getMethod_builtin (PySem.W.typeIs_bytes _ _ _) FB.plainAttrs_bytes by_slot_join by_type_join (fun a e => nomatch e) h
theorem callWithN_builtin {T : String} {args : List (Bool × Sem Value)} (hplain : args.any (·.1) = false)
    (h : wpN M A (evalArgs (.builtin T) true args []) (fun a s₁ => wpN M A (call (.builtin T) (first ++ a.pos) a.kw) Q E s₁) E s) : wpN M A (callWith pos (.builtin T) first args []) Q E s := by
  unfold callWith
  refine wpN_bind (wpN_holding (wpN_mono h (fun a s₁ h₁ => wpN_bind (wpN_any (wpAny_standAt ?_))) fun _ _ x => x))
  simp only [hplain, List.any_nil, Bool.or_false]
  refine wpN_bind (wpN_pure ?_)
  exact wpN_bind (wpN_mono h₁ (fun r s₂ hr => wpN_any (wpAny_bind (wpAny_holding (wpAny_point (wpAny_pure hr))))) fun _ _ x => x)
end
theorem join_of (fs : List Fm) : ∀ (ys : List Value), ys.length = fs.length → (∀ (i : Nat) (y : Value), ys[i]? = some y → ∃ b t f, y = Value.bytes b t ∧ fs[i]? = some f ∧ KBw.bInts b = enc f) →
    ∃ l, ys = bvs l ∧ l.length = fs.length ∧ (∀ acc, KBw.bInts ((l.map (·.1)).foldl (· ++ ·) acc) = KBw.bInts acc ++ encs fs) ∧ (l.map (·.1.size)).sum = (encs fs).length := by
  induction fs with
  | nil =>
    intro ys h _
    rw [List.length_eq_zero_iff.mp h]
    exact ⟨[], rfl, rfl, fun acc => (List.append_nil _).symm, rfl⟩
  | cons f fs ih =>
    intro ys h hP
    cases ys with
    | nil => cases h
    | cons y ys =>
      obtain ⟨l, rfl, hl, hj, hz⟩ := ih ys (Nat.succ.inj h) fun i y' e => hP (i + 1) y' e
      obtain ⟨b, t, g, rfl, hg, hb⟩ := hP 0 y rfl
      cases hg
      refine ⟨(b, t) :: l, rfl, by rw [List.length_cons, List.length_cons, hl], fun acc => ?_, ?_⟩
      · rw [List.map_cons, List.foldl_cons, hj, KBw.ints_app rfl hb, List.append_assoc]
        rfl
      · rw [List.map_cons, List.sum_cons, hz, ← KBw.ints_length, hb]
        show _ = (enc f ++ encs fs).length
        rw [List.length_append]
theorem encs_bound (fs : List Fm) : (encs fs).length ≤ 6 * fs.length := by
  induction fs with
  | nil => exact Nat.le_refl _
  | cons f fs ih =>
    have z : (enc f).length ≤ 6 := by cases f <;> simp [enc, payF]
    show (enc f ++ encs fs).length ≤ _
    rw [List.length_append, List.length_cons]
    omega
set_option maxHeartbeats 4000000 in
theorem law_e {H : Heap} (X : (hd.heap_1 w.params).In H) (T : Top hd.view_1 (looseW hd.view_1 []) mean mg mb H) {L : Addr} {m : Str → Option Value} {hp : Heap} {tk0 : Tok} {body : List Stmt} {env : Addr → Env} (hb : LawBody w body env) {r : Addr} {nr : Nat} {rv : List Value} {fs : List Fm} {more : List (Addr × Obj)} {mm : Str → Option Value} {pv mv sv : Option Value}
  (F : Fr H L hp (fun y => if y = Str.ofString "size" then sv else if y = Str.ofString "rows" then some (.ref r) else if y = Str.ofString "peer" then pv else if y = Str.ofString "most" then mv else mm y)) (N : News H L hp ((r, listOf rv.toArray nr) :: more)) (hF : FmsIn more rv fs) (hsm : ∀ f ∈ fs, fsmall f) (hl0 : 2 ≤ fs.length) (hl1 : fs.length ≤ 9)
  {JJ : Flow → Shared → Prop} (hJ : ∀ h tk b tb, (KBw.bInts b = encs fs) → (Fr H L h (fun y => if y = Str.ofString "octets" then some (.bytes b tb) else if y = Str.ofString "size" then sv else if y = Str.ofString "rows" then some (.ref r) else if y = Str.ofString "peer" then pv else if y = Str.ofString "most" then mv else mm y)) → News H L h ((r, listOf rv.toArray nr) :: more) → JJ .next {s with heap := h, toks := tk }) :
  wpN (model PySem.Challenge.rw_sj0117_01.row.prog w) (callerA.deeper (env L)) (execs ((body.drop 4).take 1) (env L)) JJ (fun _ _ => False) {s with heap := hp, toks := tk0} := by
  obtain ⟨rfl, rfl⟩ := lawIs hb
  dsimp only [lawB, lawE, lawSub]
  try simp only [List.drop_succ_cons, List.drop_zero, List.take_succ_cons, List.take_zero]
  refine wpN_execs (AssignN1 ?g1 ?g2 ?g3)
  case g2 => exact rfl
  case g3 => exact rfl
  refine MethN (l := ?l) ?base ?he ?form ?line ?_
  case he => exact rfl
  case base => exact rfl
  case line => exact rfl
  case form => dsimp only [backTo, starEach, List.map]; exact rfl
  w_strict k_steps
  refine gm_join ?_
  dsimp only [backTo, starEach, List.map]
  simp only [Bool.false_eq_true, if_false]
  refine callWithN_builtin ?pl ?_
  case pl => exact rfl
  refine argsN (splN_cons ?_)
  refine compMapN (P := fun i y => ∃ b t f, y = .bytes b t ∧ fs[i]? = some f ∧ KBw.bInts b = enc f) rfl F N (.head _) ?sz ?f1 ?f2 rfl ?f3 rfl ?hi ?turn ?ret
  case sz => rw [hF.1]; show fs.length ≤ 2 ^ 24; omega
  case f1 => decide
  case f2 => decide
  case f3 => decide
  case hi =>
    w_strict k_steps
  case turn =>
    intro i v C oC m₂ h tk led hv hoC hm F2 N2 hled hne
    have hli : i < fs.length := by rw [← hF.1]; exact (List.getElem?_eq_some_iff.mp hv).1
    have hf : fs[i]? = some fs[i] := List.getElem?_eq_getElem hli
    have hfs := hsm _ (List.getElem_mem hli)
    generalize fs[i] = f at *
    have hvf := ((hF.2 i v f hv hf).mono (b := (C, oC) :: led) fun q hq => .tail _ (hled q (.tail _ hq))).at N2
    obtain ⟨va, rfl⟩ := fm_ref (hF.2 i v f hv hf)
    refine CallN rfl (wpN_any ?_)
    w_strict k_steps
    dsimp only [backTo, starEach, List.map]
    simp only [Bool.false_eq_true, if_false]
    refine callWithN (P := fun h => (hd.heap_1 w.params).In h) rfl (keeps_K (by k_is)) (argsN (splN_cons (wpN_any ?_)))
    w_strict k_steps
    refine splN_nil ⟨X.keeps F2.keep, ?_⟩
    refine wpN_at (f := by exact ⟨rfl, Nat.le_of_ble_eq_true rfl, Nat.le_of_ble_eq_true rfl⟩) (puth3 (E := fun _ _ => False) X T F2 N2 hvf hfs fun b t h3 tk3 hb F3 N3 => ?_)
    exact ⟨⟨b, t, f, rfl, hf, hb⟩, h3, tk3, rfl, F3, N3⟩
  case ret =>
    intro D h tk ys F2 N2 hne hlen hP
    obtain ⟨l, rfl, hl, hj, hz⟩ := join_of fs ys (hlen.trans hF.1) hP
    refine splN_nil ?_
    have hbd := encs_bound fs
    refine wpN_any (joinB (l := l) (N2 _ (.head _)).1 (by omega) (by rw [hz]; show _ ≤ 2 ^ 24; omega) fun t k => ?_)
    have hj0 := hj #[]
    generalize (l.map (·.1)).foldl (· ++ ·) #[] = b at hj0 ⊢
    w_strict k_steps
    rename Fr _ _ _ _ => F3
    rename News _ _ _ _ => N3
    exact wpN_any (wpAny_execs_nil <| hJ _ _ b t hj0 F3 (newsSub N3 (sub_skip sub_all)))

end
section
example : True := by w_top off; exact trivial
/-- a ledger of what may be written and of what is not -/
structure Lg (wr more : List (Addr × Obj)) : Prop where
  nd : Nd wr
  off : ∀ q ∈ more, ∀ p ∈ wr, @Ne Nat q.1 p.1
set_option maxHeartbeats 4000000 in
theorem law_f {H : Heap} (X : (hd.heap_1 w.params).In H) (T : Top hd.view_1 (looseW hd.view_1 []) mean mg mb H) {L : Addr} {m : Str → Option Value} {hp : Heap} {tk0 : Tok} {body : List Stmt} {env : Addr → Env} (hb : LawBody w body env) {cl : Bool} {tp : Tok} {mv : Value} {mp : Option Int} {oc : Obj} {more : List (Addr × Obj)} {mm : Str → Option Value} (hm : IsOpt mv mp) (hcd : oc.data = .cell none) (hne : ∀ q ∈ more, @Ne Nat q.1 (L + 1))
  (F : Fr H L hp (fun y => if y = Str.ofString "peer" then some (.str (pS cl) tp) else if y = Str.ofString "most" then some mv else mm y)) (N : News H L hp ((L + 1, oc) :: more))
  {JJ : Flow → Shared → Prop} (hJ : ∀ h tk x1 d1 t1 x2 d2 t2 tb cm n1 tn n2 oc' more', (oc'.data = .cell (some (.ref x1))) → (x2, instObj 201 d2) ∈ more' → (L + 1, oc') ∈ more' → (tn, listOf #[] n2) ∈ more' → (∀ q ∈ more, q ∈ more') → @Ne Nat x2 d2 → Lg [(x1, instObj 258 d1), (d1, crDict w.params t1 (.str (pS cl) tp) mv .none .none .none), (d2, fsDict w.params t2 (.bytes #[] tb)), (cm, listOf #[] n1)] more' → (Fr H L h (fun y => if y = Str.ofString "taken" then some (.ref tn) else if y = Str.ofString "came" then some (.ref cm) else if y = Str.ofString "stream" then some (.ref x2) else if y = Str.ofString "peer" then some (.str (pS cl) tp) else if y = Str.ofString "most" then some mv else mm y)) → News H L h ((x1, instObj 258 d1) :: (d1, crDict w.params t1 (.str (pS cl) tp) mv .none .none .none) :: (d2, fsDict w.params t2 (.bytes #[] tb)) :: (cm, listOf #[] n1) :: more') → JJ .next {s with heap := h, toks := tk }) :
  wpN (model PySem.Challenge.rw_sj0117_01.row.prog w) (callerA.deeper (env L)) (execs ((body.drop 5).take 1) (env L)) JJ (fun _ _ => False) {s with heap := hp, toks := tk0} := by
  obtain ⟨rfl, rfl⟩ := lawIs hb
  dsimp only [lawB, lawE, lawSub]
  try simp only [List.drop_succ_cons, List.drop_zero, List.take_succ_cons, List.take_zero]
  have hmv : handedIn mv = true := by cases mp with | none => cases hm; rfl | some g => obtain ⟨_, rfl⟩ := hm; rfl
  refine wpN_any ?_
  w_strict k_steps
  refine wp_at (f := by exact ⟨rfl, Nat.le_of_ble_eq_true rfl, Nat.le_of_ble_eq_true rfl⟩) (crinit X T F N ?_)
  intro x1 d1 t1 h1 tk1 hxd1 hap1 F2 N2
  clear F N
  have hcr : ∀ q ∈ more, @Ne Nat q.1 x1 ∧ @Ne Nat q.1 d1 := fun q hq => hap1 q (.tail _ hq)
  have hc1 : @Ne Nat (L + 1) x1 ∧ @Ne Nat (L + 1) d1 := hap1 _ (.head _)
  clear hap1
  w_strict k_steps
  refine wp_at (f := by exact ⟨rfl, Nat.le_of_ble_eq_true rfl, Nat.le_of_ble_eq_true rfl⟩) (fsinit X T F2 N2 ?_)
  intro x2 d2 t2 tb h2 tk2 hxd2 hap2 F3 N3
  clear F2 N2
  dsimp only [fsLed, List.cons_append, List.nil_append] at N3
  w_strict k_steps
  rename_i cm _ q1 tn _ q2 D _ q3 h4 F4 N4
  have hDc : @Ne Nat D (L + 1) := Nat.ne_of_gt q3.2.2.2.2.2.2.1
  have hTc : @Ne Nat tn (L + 1) := Nat.ne_of_gt q2.2.2.2.2.2.1
  have hCc : @Ne Nat cm (L + 1) := Nat.ne_of_gt q1.2.2.2.2.1
  have hc2 : @Ne Nat (L + 1) x2 ∧ @Ne Nat (L + 1) d2 := hap2 _ (.tail _ (.tail _ (.head _)))
  replace N4 := newsSub (b := (L + 1, oc) :: (tn, listOf #[] 0) :: (cm, listOf #[] 0) :: (x2, instObj 201 d2) :: (d2, fsDict w.params t2 (.bytes #[] tb)) :: (x1, instObj 258 d1) :: (d1, crDict w.params t1 (.str (pS cl) tp) mv .none .none .none) :: more) N4 (by lcg_sub)
  refine wpAny_storeName_cell (c := L + 1) rfl rfl rfl ⟨oc, (N4 _ (.head _)).1, hcd⟩ fun h' hv hs => ?_
  obtain ⟨oc', hoc, hdc'⟩ := hv
  have F5 := frBut F4 N4 hs.extBut
  have N5 := newsBut N4 hs hoc (List.forall_mem_cons.mpr ⟨hTc, List.forall_mem_cons.mpr ⟨hCc, List.forall_mem_cons.mpr ⟨hc2.1.symm, List.forall_mem_cons.mpr ⟨hc2.2.symm, List.forall_mem_cons.mpr ⟨hc1.1.symm, List.forall_mem_cons.mpr ⟨hc1.2.symm, hne⟩⟩⟩⟩⟩⟩)
  clear F4 N4
  w_strict k_steps
  rename Fr _ _ _ _ => F6
  rename News _ _ _ _ => N6
  have hd12 : @Ne Nat d1 d2 := (hap2 _ (.tail _ (.head _))).2
  have hx12 : @Ne Nat x1 x2 := (hap2 _ (.head _)).1
  have hx1d2 : @Ne Nat x1 d2 := (hap2 _ (.head _)).2
  have hd1x2 : @Ne Nat d1 x2 := (hap2 _ (.tail _ (.head _))).1
  have hm2 : ∀ q ∈ more, @Ne Nat q.1 d2 := fun q hq => (hap2 _ (.tail _ (.tail _ (.tail _ hq)))).2
  have hmc := of_allLt q1.2.2.2.2.2
  have qd2 : @LT.lt Nat _ d2 cm := q1.2.1
  have qx2 : @LT.lt Nat _ x2 cm := q1.1
  have qx1 : @LT.lt Nat _ x1 cm := q1.2.2.1
  have qd1 : @LT.lt Nat _ d1 cm := q1.2.2.2.1
  have qtc : @LT.lt Nat _ cm tn := q2.1
  refine hJ _ _ x1 d1 t1 x2 d2 t2 tb cm 0 tn 0 oc' ((L + 1, oc') :: (tn, listOf #[] 0) :: (x2, instObj 201 d2) :: more) hdc' (by k_mem) (.head _) (.tail _ (.head _)) (sub_skip (sub_skip (sub_skip sub_all))) hxd2 (⟨?_, ?_⟩) F6 (newsSub N6 fun q hq => ?_)
  · refine Nd.cons (Nd.cons (Nd.cons (Nd.cons List.nodup_nil (fun q hq => absurd hq List.not_mem_nil)) (List.forall_mem_cons.mpr ⟨Nat.ne_of_gt qd2, fun q hq => absurd hq List.not_mem_nil⟩)) (List.forall_mem_cons.mpr ⟨hd12.symm, List.forall_mem_cons.mpr ⟨Nat.ne_of_gt qd1, fun q hq => absurd hq List.not_mem_nil⟩⟩)) (List.forall_mem_cons.mpr ⟨hxd1.symm, List.forall_mem_cons.mpr ⟨hx1d2.symm, List.forall_mem_cons.mpr ⟨Nat.ne_of_gt qx1, fun q hq => absurd hq List.not_mem_nil⟩⟩⟩)
  · have four : ∀ a : Nat, @Ne Nat a x1 → @Ne Nat a d1 → @Ne Nat a d2 → @Ne Nat a cm → ∀ p ∈ ([(x1, instObj 258 d1), (d1, crDict w.params t1 (.str (pS cl) tp) mv .none .none .none), (d2, fsDict w.params t2 (.bytes #[] tb)), (cm, listOf #[] 0)] : List (Addr × Obj)), @Ne Nat a p.1 := fun a e0 e1 e2 e3 =>
      List.forall_mem_cons.mpr ⟨e0, List.forall_mem_cons.mpr ⟨e1, List.forall_mem_cons.mpr ⟨e2, List.forall_mem_cons.mpr ⟨e3, fun q hq => absurd hq List.not_mem_nil⟩⟩⟩⟩
    refine List.forall_mem_cons.mpr ⟨four _ hc1.1 hc1.2 hc2.2 hCc.symm, List.forall_mem_cons.mpr ⟨four _ (Nat.ne_of_gt (by omega)) (Nat.ne_of_gt (by omega)) (Nat.ne_of_gt (by omega)) (Nat.ne_of_gt qtc), List.forall_mem_cons.mpr ⟨four _ hx12.symm hd1x2.symm hxd2 (Nat.ne_of_lt qx2), fun q hq => four _ (hcr q hq).1 (hcr q hq).2 (hm2 q hq) (Nat.ne_of_lt (hmc q hq))⟩⟩⟩
  · revert q; lcg_sub

end
section
theorem leastF_eq {l : List Int} : ∀ {M : Int}, leastF l = some M ↔ M ∈ l ∧ ∀ a ∈ l, M ≤ a := by
  intro M
  constructor
  · intro h
    cases l with
    | nil => cases h
    | cons a r =>
      cases h
      obtain ⟨h1, h2, h3⟩ := foldl_min_le r a
      refine ⟨?_, fun b hb => ?_⟩
      · rcases h3 with h3 | h3
        · rw [h3]; exact .head _
        · exact .tail _ h3
      · rcases List.mem_cons.mp hb with rfl | hb
        · exact h1
        · exact h2 b hb
  · rintro ⟨h1, h2⟩
    exact leastF_of h1 h2
theorem greatestF_eq {l : List Int} : ∀ {M : Int}, greatestF l = some M ↔ M ∈ l ∧ ∀ a ∈ l, a ≤ M := by
  intro M
  constructor
  · intro h
    cases l with
    | nil => cases h
    | cons a r =>
      cases h
      obtain ⟨h1, h2, h3⟩ := foldl_max_le r a
      refine ⟨?_, fun b hb => ?_⟩
      · rcases h3 with h3 | h3
        · rw [h3]; exact .head _
        · exact .tail _ h3
      · rcases List.mem_cons.mp hb with rfl | hb
        · exact h1
        · exact h2 b hb
  · rintro ⟨h1, h2⟩
    exact greatestF_of h1 h2
theorem leastF_none {l : List Int} : leastF l = none ↔ l = [] := by cases l <;> simp [leastF]
theorem greatestF_none {l : List Int} : greatestF l = none ↔ l = [] := by cases l <;> simp [greatestF]
theorem leastF_lt {l : List Int} {n : Int} : (∃ k ∈ l, k < n) ↔ ∃ g, leastF l = some g ∧ g < n := by
  constructor
  · rintro ⟨k, hk, hl⟩
    cases h : leastF l with
    | none => rw [leastF_none.mp h] at hk; cases hk
    | some g => exact ⟨g, rfl, Int.lt_of_le_of_lt ((leastF_eq.mp h).2 k hk) hl⟩
  · rintro ⟨g, h, hl⟩
    exact ⟨g, (leastF_eq.mp h).1, hl⟩
theorem greatestF_lt {l : List Int} {n : Int} : (∃ k ∈ l, n < k) ↔ ∃ g, greatestF l = some g ∧ n < g := by
  constructor
  · rintro ⟨k, hk, hl⟩
    cases h : greatestF l with
    | none => rw [greatestF_none.mp h] at hk; cases hk
    | some g => exact ⟨g, rfl, Int.lt_of_lt_of_le hl ((greatestF_eq.mp h).2 k hk)⟩
  · rintro ⟨g, h, hl⟩
    exact ⟨g, (greatestF_eq.mp h).1, hl⟩
theorem greatestF_le {l : List Int} {n : Int} : (∃ k ∈ l, n ≤ k) ↔ ∃ g, greatestF l = some g ∧ n ≤ g := by
  constructor
  · rintro ⟨k, hk, hl⟩
    cases h : greatestF l with
    | none => rw [greatestF_none.mp h] at hk; cases hk
    | some g => exact ⟨g, rfl, Int.le_trans hl ((greatestF_eq.mp h).2 k hk)⟩
  · rintro ⟨g, h, hl⟩
    exact ⟨g, (greatestF_eq.mp h).1, hl⟩
/-- the state that all that came makes due -/
abbrev goOf (cl : Bool) (came : List Fm) : Option Int := leastF (cntF cl true came)
abbrev toldOf (cl : Bool) (came : List Fm) : Option Int := greatestF (cntF cl false came)
theorem code_due (cl : Bool) (mp : Option Int) (came : List Fm) (f : Fm) : codeF cl mp (goOf cl came) (toldOf cl came) f = dueF cl mp came f := by
  unfold goOf toldOf
  cases f with
  | sett => rfl
  | sett2 => rfl
  | unk => rfl
  | hdr => rfl
  | dat => rfl
  | goaway n =>
    have hp : 0 < Int.fmod n 4 ↔ Int.fmod n 4 ≠ 0 := by have := Int.fmod_nonneg_of_pos n (show (0 : Int) < 4 by decide); omega
    simp only [codeF, dueF, leastF_lt, hp]
    cases h : leastF (cntF cl true came) with
    | none => simp
    | some g =>
      by_cases h1 : cl = false ∧ Int.fmod n 4 ≠ 0
      · simp [h1]
      · simp only [h1, if_false, false_or]
        congr 1
        simp
  | maxp n =>
    simp only [codeF, dueF, greatestF_lt]
    cases h : greatestF (cntF cl false came) with
    | none => simp
    | some g => simp
  | canc n =>
    simp only [codeF, dueF, greatestF_le]
    cases cl with
    | true =>
      have e : boundsF true mp came = cntF true false came := by simp [boundsF]
      rw [e]
      simp only [if_true]
      cases h : greatestF (cntF true false came) with
      | none => simp
      | some g =>
        simp only [Option.some.injEq, exists_eq_left']
        by_cases h1 : g < n
        · rw [if_pos h1, if_neg (by omega)]
        · rw [if_neg h1, if_pos (by omega)]
    | false =>
      have e : boundsF false mp came = mp.toList := by cases mp <;> simp [boundsF, cntF]
      rw [e]
      simp only [Bool.false_eq_true, if_false]
      cases mp with
      | none => simp [greatestF]
      | some g =>
        simp only [Option.toList, greatestF, List.foldl_nil, Option.some.injEq, exists_eq_left']
        by_cases h1 : g < n
        · rw [if_pos h1, if_neg (by omega)]
        · rw [if_neg h1, if_pos (by omega)]
theorem numsK_app {g : Bool} {a b : List Fm} : numsK g (a ++ b) = numsK g a ++ numsK g b := by unfold numsK; rw [List.filterMap_append]
theorem cntF_app {cl g : Bool} {a b : List Fm} : cntF cl g (a ++ b) = cntF cl g a ++ cntF cl g b := by
  unfold cntF
  cases g with
  | true => simp only [if_true, numsK_app, List.filter_append]
  | false =>
    cases cl with
    | true => simp only [Bool.false_eq_true, if_false, if_true, numsK_app]
    | false => rfl
theorem leastF_snoc {l : List Int} {n : Int} : leastF (l ++ [n]) = some (match leastF l with | none => n | some g => min g n) := by
  cases l with
  | nil => rfl
  | cons a r =>
    show some ((r ++ [n]).foldl min a) = _
    rw [List.foldl_append]
    rfl
theorem greatestF_snoc {l : List Int} {n : Int} : greatestF (l ++ [n]) = some (match greatestF l with | none => n | some g => max g n) := by
  cases l with
  | nil => rfl
  | cons a r =>
    show some ((r ++ [n]).foldl max a) = _
    rw [List.foldl_append]
    rfl
theorem go1 (G : Option Int) (n c : Int) (hc : c = match (generalizing := false) G with | none => 0 | some g => if g < n then 264 else 0) : (if c = 0 then some n else G) = some (match (generalizing := false) G with | none => n | some g => min g n) := by
  cases G with
  | none => rw [if_pos hc]
  | some g =>
    dsimp only at hc ⊢
    by_cases h2 : g < n
    · rw [if_pos h2] at hc
      rw [if_neg (by omega)]
      congr 1
      omega
    · rw [if_neg h2] at hc
      rw [if_pos hc]
      congr 1
      omega
theorem told1 (G : Option Int) (n c : Int) (hc : c = match (generalizing := false) G with | none => 0 | some g => if n < g then 264 else 0) : (if c = 0 then some n else G) = some (match (generalizing := false) G with | none => n | some g => max g n) := by
  cases G with
  | none => rw [if_pos hc]
  | some g =>
    dsimp only at hc ⊢
    by_cases h2 : n < g
    · rw [if_pos h2] at hc
      rw [if_neg (by omega)]
      congr 1
      omega
    · rw [if_neg h2] at hc
      rw [if_pos hc]
      congr 1
      omega
theorem go_step (cl : Bool) (mp : Option Int) (came : List Fm) (f : Fm) : goF cl mp (goOf cl came) (toldOf cl came) f = goOf cl (came ++ [f]) := by
  unfold goOf toldOf
  rw [cntF_app]
  cases f with
  | goaway n =>
    simp only [goF]
    by_cases h1 : cl = false ∧ Int.fmod n 4 ≠ 0
    · have e : cntF cl true [.goaway n] = [] := by
        obtain ⟨rfl, h2⟩ := h1
        simp [cntF, numsK, numK, h2]
      have hc : codeF cl mp (leastF (cntF cl true came)) (greatestF (cntF cl false came)) (.goaway n) = 264 := by
        exact if_pos h1
      rw [e, List.append_nil, hc, if_neg (by decide)]
    · have e : cntF cl true [.goaway n] = [n] := by
        simp only [cntF, numsK, numK, List.filterMap, if_true, List.filter]
        cases cl with
        | true => rfl
        | false =>
          have h2 : Int.fmod n 4 = 0 := Classical.byContradiction fun h => h1 ⟨rfl, h⟩
          simp [h2]
      rw [e, leastF_snoc]
      exact go1 _ n _ (if_neg h1)
  | maxp n => rw [show cntF cl true [.maxp n] = [] from rfl, List.append_nil]; rfl
  | canc n => rw [show cntF cl true [.canc n] = [] from rfl, List.append_nil]; rfl
  | sett => rw [show cntF cl true [.sett] = [] from rfl, List.append_nil]; rfl
  | sett2 => rw [show cntF cl true [.sett2] = [] from rfl, List.append_nil]; rfl
  | unk => rw [show cntF cl true [.unk] = [] from rfl, List.append_nil]; rfl
  | hdr => rw [show cntF cl true [.hdr] = [] from rfl, List.append_nil]; rfl
  | dat => rw [show cntF cl true [.dat] = [] from rfl, List.append_nil]; rfl
theorem told_step (cl : Bool) (mp : Option Int) (came : List Fm) (f : Fm) : toldF cl mp (goOf cl came) (toldOf cl came) f = toldOf cl (came ++ [f]) := by
  unfold goOf toldOf
  rw [cntF_app]
  cases f with
  | maxp n =>
    simp only [toldF]
    cases cl with
    | false =>
      have hc : codeF false mp (leastF (cntF false true came)) (greatestF (cntF false false came)) (.maxp n) = 261 := rfl
      rw [hc, if_neg (by decide)]
      rfl
    | true =>
      have e : cntF true false [.maxp n] = [n] := rfl
      rw [e, greatestF_snoc]
      exact told1 _ n _ rfl
  | goaway n => rw [show cntF cl false [.goaway n] = [] by cases cl <;> rfl, List.append_nil]; rfl
  | canc n => rw [show cntF cl false [.canc n] = [] by cases cl <;> rfl, List.append_nil]; rfl
  | sett => rw [show cntF cl false [.sett] = [] by cases cl <;> rfl, List.append_nil]; rfl
  | sett2 => rw [show cntF cl false [.sett2] = [] by cases cl <;> rfl, List.append_nil]; rfl
  | unk => rw [show cntF cl false [.unk] = [] by cases cl <;> rfl, List.append_nil]; rfl
  | hdr => rw [show cntF cl false [.hdr] = [] by cases cl <;> rfl, List.append_nil]; rfl
  | dat => rw [show cntF cl false [.dat] = [] by cases cl <;> rfl, List.append_nil]; rfl
/-- what is refused changes nothing -/
theorem go_refused {cl : Bool} {mp go told : Option Int} {f : Fm} (h : codeF cl mp go told f ≠ 0) : goF cl mp go told f = go := by
  cases f <;> simp_all [goF]
theorem told_refused {cl : Bool} {mp go told : Option Int} {f : Fm} (h : codeF cl mp go told f ≠ 0) : toldF cl mp go told f = told := by
  cases f <;> simp_all [toldF]
/-- the order is none of theirs -/
theorem leastF_mem {a b : List Int} (h : ∀ x, x ∈ a ↔ x ∈ b) : leastF a = leastF b := by
  cases e : leastF a with
  | none =>
    rw [leastF_none] at e
    subst e
    symm
    rw [leastF_none]
    exact List.eq_nil_iff_forall_not_mem.mpr fun x hx => absurd ((h x).mpr hx) List.not_mem_nil
  | some M =>
    obtain ⟨h1, h2⟩ := leastF_eq.mp e
    exact (leastF_eq.mpr ⟨(h M).mp h1, fun x hx => h2 x ((h x).mpr hx)⟩).symm
theorem greatestF_mem {a b : List Int} (h : ∀ x, x ∈ a ↔ x ∈ b) : greatestF a = greatestF b := by
  cases e : greatestF a with
  | none =>
    rw [greatestF_none] at e
    subst e
    symm
    rw [greatestF_none]
    exact List.eq_nil_iff_forall_not_mem.mpr fun x hx => absurd ((h x).mpr hx) List.not_mem_nil
  | some M =>
    obtain ⟨h1, h2⟩ := greatestF_eq.mp e
    exact (greatestF_eq.mpr ⟨(h M).mp h1, fun x hx => h2 x ((h x).mpr hx)⟩).symm
theorem cntF_mem {cl g : Bool} {a b : List Fm} (h : ∀ f, f ∈ a ↔ f ∈ b) (x : Int) : x ∈ cntF cl g a ↔ x ∈ cntF cl g b := by
  unfold cntF numsK
  cases g with
  | true => simp only [if_true, List.mem_filter, List.mem_filterMap, h]
  | false =>
    cases cl with
    | true => simp only [Bool.false_eq_true, if_false, if_true, List.mem_filterMap, h]
    | false => exact Iff.rfl
theorem goOf_mem {cl : Bool} {a b : List Fm} (h : ∀ f, f ∈ a ↔ f ∈ b) : goOf cl a = goOf cl b := leastF_mem (cntF_mem h)
theorem toldOf_mem {cl : Bool} {a b : List Fm} (h : ∀ f, f ∈ a ↔ f ∈ b) : toldOf cl a = toldOf cl b := greatestF_mem (cntF_mem h)
/-- the frames of rest that are taken, behind what came -/
def takenF (cl : Bool) (mp : Option Int) : List Fm → List Fm → List Fm
  | _, [] => []
  | came, f :: r => (if dueF cl mp came f = 0 then [f] else []) ++ takenF cl mp (came ++ [f]) r
theorem takenF_app (cl : Bool) (mp : Option Int) : ∀ (r came : List Fm) (f : Fm), takenF cl mp came (r ++ [f]) = takenF cl mp came r ++ (if dueF cl mp (came ++ r) f = 0 then [f] else [])
  | [], came, f => by simp [takenF]
  | g :: r, came, f => by
    rw [List.cons_append, takenF, takenF, takenF_app cl mp r (came ++ [g]) f, List.append_assoc, List.append_assoc]
    rfl
/-- those that were taken lead to the same, and are taken -/
theorem goOf_refused {cl : Bool} {mp : Option Int} {came : List Fm} {f : Fm} (h : dueF cl mp came f ≠ 0) : goOf cl (came ++ [f]) = goOf cl came ∧ toldOf cl (came ++ [f]) = toldOf cl came := by
  rw [← code_due] at h
  rw [← go_step cl mp, ← told_step cl mp]
  exact ⟨go_refused h, told_refused h⟩
theorem letF_nat : ∀ m : Fin 22, letF (some ((m.val : Nat) : Int)) = intsTo m.val := by decide +kernel
theorem letF_due {go : Option Int} (h : ∀ g, go = some g → 0 ≤ g ∧ g < 22) : letF go = intsTo (lessN go) := by
  cases go with
  | none => rfl
  | some g =>
    obtain ⟨h0, h1⟩ := h g rfl
    obtain ⟨m, rfl⟩ := Int.eq_ofNat_of_zero_le h0
    exact letF_nat ⟨m, Int.ofNat_lt.mp h1⟩
theorem isNone {v : Value} {o : Option Int} (h : o = none) (x : IsOpt v o) : v = .none := by rw [h] at x; exact x
theorem goNil (cl : Bool) : goOf cl [] = none := by cases cl <;> rfl
theorem toldNil (cl : Bool) : toldOf cl [] = none := by cases cl <;> rfl
theorem goSett (cl : Bool) : IsOpt .none (goOf cl ([] ++ [Fm.sett])) := by cases cl <;> rfl
theorem toldSett (cl : Bool) : IsOpt .none (toldOf cl ([] ++ [Fm.sett])) := by cases cl <;> rfl

end
section
example : True := by w_top off; exact trivial
def optD : Option Int → PyData
  | none => .none
  | some n => .int n
/-- what the law's state reads as -/
def stD (go told : Option Int) (ns : List Int) : PyData := .tuple [.list [.tuple [.int 6, .int 70]], optD go, optD told, .list (ns.map .int)]
theorem eqvAll_ints : ∀ ns : List Int, PyData.eqvAll (ns.map .int) (ns.map .int) = true
  | [] => rfl
  | n :: r => by
    show ((n == n) && PyData.eqvAll (r.map .int) (r.map .int)) = true
    rw [eqvAll_ints r, beq_self_eq_true]; rfl
theorem eqv_optD (o : Option Int) : PyData.eqv (optD o) (optD o) = true := by
  cases o with
  | none => rfl
  | some n => exact beq_self_eq_true n
theorem eqv_stD (go told : Option Int) (ns : List Int) : PyData.eqv (stD go told ns) (stD go told ns) = true := by
  show (true && (PyData.eqv (optD go) (optD go) && (PyData.eqv (optD told) (optD told) && (PyData.eqvAll (ns.map .int) (ns.map .int) && true)))) = true
  rw [eqv_optD, eqv_optD, eqvAll_ints]
  rfl
theorem canLay_ints : ∀ ns : List Int, PyData.canLayAll0 (ns.map .int) = true
  | [] => rfl
  | n :: r => by
    show (true && PyData.canLayAll0 (r.map .int)) = true
    rw [canLay_ints r]; rfl
theorem canLay_stD (go told : Option Int) (ns : List Int) : (stD go told ns).canLay0 = true := by
  have e : ∀ o, (optD o).canLay0 = true := fun o => by cases o <;> rfl
  show (true && ((optD go).canLay0 && ((optD told).canLay0 && (PyData.canLayAll0 (ns.map .int) && true)))) = true
  rw [e, e, canLay_ints]
  rfl
theorem depth_ints : ∀ ns : List Int, PyData.depthAll (ns.map .int) = 0
  | [] => rfl
  | n :: r => by
    show max 0 (PyData.depthAll (r.map .int)) = 0
    rw [depth_ints r]; rfl
theorem depth_stD (go told : Option Int) (ns : List Int) : (stD go told ns).depth = 3 := by
  have e : ∀ o, (optD o).depth = 0 := fun o => by cases o <;> rfl
  show max 2 (max (optD go).depth (max (optD told).depth (max (PyData.depthAll (ns.map .int) + 1) 0))) + 1 = 3
  rw [e, e, depth_ints]
  rfl
def IsOptV (v : Value) : Option Int → Prop
  | none => v = .none
  | some n => ∃ t, v = .int n t
theorem reads_opt (h : Heap) {v : Value} {o : Option Int} (x : IsOptV v o) : Reads h v (optD o) [] := by
  cases o with
  | none => cases x; exact .none
  | some n => obtain ⟨t, rfl⟩ := x; exact .int _ _
theorem reads_state {h : Heap} {a l p D : Addr} {gov tdv : Value} {go told : Option Int} {zs : List Value} {ns : List Int} {nl n : Nat} {t u : Tok} (ha : h.get? a = some { cls := .type "tuple", data := .seq [.ref l, gov, tdv, .ref D].toArray }) (hl : h.get? l = some (listOf #[.ref p] nl)) (hp : h.get? p = some { cls := .type "tuple", data := .seq [.int 6 t, .int 70 u].toArray })
    (hD : h.get? D = some (listOf zs.toArray n)) (hg : IsOptV gov go) (ht : IsOptV tdv told) (hz : IntsAre zs ns) : ∃ as, Reads h (.ref a) (stD go told ns) as :=
  ⟨_, .tuple ha rfl rfl (.cons (.list hl rfl rfl (.cons (.tuple hp rfl rfl (.cons (.int _ _) (.cons (.int _ _) .nil))) .nil)) (.cons (reads_opt h hg) (.cons (reads_opt h ht) (.cons (.list hD rfl rfl (IntsAre.reads h hz)) .nil))))⟩
/-- two states that are the same -/
theorem ne_states {prog : Program} {w : World} {A : Around} {E : Value → Shared → Prop} {s : Shared} {a b : Value} {go told : Option Int} {ns : List Int} {Q : Value → Shared → Prop} (ra : ∃ as, Reads s.heap a (stD go told ns) as) (rb : ∃ as, Reads s.heap b (stD go told ns) as) (hu : A.units < 9000) (h : Q (.bool false) s) :
    wpAny (model prog w) A (compareOp .NotEq a b) Q E s := by
  obtain ⟨as, ra⟩ := ra
  obtain ⟨bs, rb⟩ := rb
  refine SeqAt.compareNe_reads ra rb (canLay_stD _ _ _) (canLay_stD _ _ _) ?_ ?_
  · rw [depth_stD]; show _ + 3 < 9900; omega
  · rw [eqv_stD]; exact h
theorem eq_states {prog : Program} {w : World} {A : Around} {E : Value → Shared → Prop} {s : Shared} {a b : Value} {go told : Option Int} {ns : List Int} {Q : Value → Shared → Prop} (ra : ∃ as, Reads s.heap a (stD go told ns) as) (rb : ∃ as, Reads s.heap b (stD go told ns) as) (hu : A.units < 9000) (h : Q (.bool true) s) :
    wpAny (model prog w) A (compareOp .Eq a b) Q E s := by
  obtain ⟨as, ra⟩ := ra
  obtain ⟨bs, rb⟩ := rb
  refine SeqAt.rcAt_reads ra rb (canLay_stD _ _ _) (canLay_stD _ _ _) ?_ prog w E Q ?_
  · rw [depth_stD]; show _ + 3 < 9900; omega
  · rw [eqv_stD]; exact h
theorem addL {prog : Program} {w : World} {A : Around} {E : Value → Shared → Prop} {s : Shared} {h₀ : Heap} {L a b : Addr} {m : Str → Option Value} {news : List (Addr × Obj)} {vs ws : List Value} {Q : Value → Shared → Prop} (F : Fr h₀ L s.heap m) (N : News h₀ L s.heap news) (ha : s.heap.IsList a vs.toArray) (hb : s.heap.IsList b ws.toArray) (hz : vs.length + ws.length ≤ 100)
    (h : ∀ D h', Fr h₀ L h' m → News h₀ L h' ((D, listOf (vs ++ ws).toArray 0) :: news) → (∀ p ∈ news, p.1 < D) → Q (.ref D) { s with heap := h' }) : wpAny (model prog w) A (binaryOp .Add (.ref a) (.ref b)) Q E s :=
  kmk_add_lit F N ha hb rfl h (Nat.le_trans hz (by decide))

end
section
open SeqAt
section
variable {A : Around} {s : Shared}
theorem eqBytes (b : Array UInt8) (t u : Tok) : EqAt A s (.bytes b t) (.bytes b u) true := fun prog w E Q h => by
  unfold eqBool
  refine wpAny_holding ?_
  refine wpAny_ite_split (fun _ => ?_) (fun _ => ?_)
  · exact wpAny_bind (wpAny_rule (wpAny_pure h))
  · refine wpAny_bind ?_
    show wpAny _ _ (compareOp .Eq (.bytes b t) (.bytes b u)) _ _ _
    refine PySem.W.eq_bytes ?_
    rw [beq_self_eq_true]
    exact wpAny_truthy_bool h
def EqAll (A : Around) (s : Shared) : List Value → List Value → Prop
  | [], [] => True
  | x :: xs, y :: ys => EqAt A s x y true ∧ EqAll A s xs ys
  | _, _ => False
theorem EqAll.size : ∀ {xs ys : List Value}, EqAll A s xs ys → xs.length = ys.length
  | [], [], _ => rfl
  | x :: xs, y :: ys, h => by rw [List.length_cons, List.length_cons, EqAll.size h.2]
  | [], _ :: _, h => h.elim
  | _ :: _, [], h => h.elim
theorem EqAll.get : ∀ {xs ys : List Value}, EqAll A s xs ys → ∀ (j : Nat) (h1 : j < xs.length) (h2 : j < ys.length), EqAt A s xs[j] ys[j] true
  | [], [], _, j, h1, _ => absurd h1 (Nat.not_lt_zero _)
  | x :: xs, y :: ys, h, j, h1, h2 => by
    cases j with
    | zero => exact h.1
    | succ j => exact EqAll.get h.2 j (Nat.lt_of_succ_lt_succ h1) (Nat.lt_of_succ_lt_succ h2)
  | [], _ :: _, h, _, _, _ => h.elim
  | _ :: _, [], h, _, _, _ => h.elim
theorem eqTup {a b : Addr} {vs us : List Value} (ha : s.heap.get? a = some (tupO vs)) (hb : s.heap.get? b = some (tupO us)) (hu : A.units < 9000) (h : EqAll A.in1 s vs us) : EqAt A s (.ref a) (.ref b) true := by
  by_cases e : a = b
  · subst e; exact EqAt.same _
  · refine EqAt.of_refs e ?_
    have z := RcAt.tuples (A := A) (e := fun _ => true) (tupAt ha) (tupAt hb) (Nat.lt_trans hu (by decide)) (fun j h1 h2 => by
      have := h.get j (by simpa using h1) (by simpa using h2)
      simpa using this)
    rw [show ((List.range (min vs.toArray.size us.toArray.size)).all (fun _ => true) && vs.toArray.size == us.toArray.size) = true by simp [h.size]] at z
    exact z
theorem eqLst {a b : Addr} {vs us : List Value} {n k : Nat} (ha : s.heap.get? a = some (listOf vs.toArray n)) (hb : s.heap.get? b = some (listOf us.toArray k)) (hu : A.units < 9000) (h : EqAll A.in1 s vs us) : EqAt A s (.ref a) (.ref b) true := by
  by_cases e : a = b
  · subst e; exact EqAt.same _
  · refine EqAt.of_refs e ?_
    have z := RcAt.lists (A := A) (e := fun _ => true) (lstAt ha) (lstAt hb) (by simp [h.size]) (Nat.lt_trans hu (by decide)) (fun j h1 h2 => by
      have := h.get j (by simpa using h1) (by simpa using h2)
      simpa using this)
    rw [show (List.range vs.toArray.size).all (fun _ => true) = true by simp] at z
    exact z
theorem eqStr (x : Str) (t u : Tok) : EqAt A s (.str x t) (.str x u) true := by have z := EqAt.str_str (A := A) (s := s) x t x u; rw [beq_self_eq_true] at z; exact z
theorem eqInt (x : Int) (t u : Tok) : EqAt A s (.int x t) (.int x u) true := by have z := EqAt.int_int (A := A) (s := s) x t x u; rw [beq_self_eq_true] at z; exact z
/-- two that bear the same frame are equal -/
theorem eq_fm {v v' : Value} {f : Fm} (hv : FmAt s.heap v f) (hv' : FmAt s.heap v' f) (hu : A.units < 8000) : EqAt A s v v' true := by
  have u1 : A.units < 9000 := by omega
  have u2 : A.in1.units < 9000 := by show A.units + _ < 9000; omega
  have u3 : A.in1.in1.units < 9000 := by show A.in1.units + _ < 9000; show A.units + _ + _ < 9000; omega
  cases f with
  | goaway n =>
    obtain ⟨a, t1, t2, rfl, h1⟩ := hv
    obtain ⟨a', t1', t2', rfl, h1'⟩ := hv'
    exact eqTup h1 h1' u1 ⟨eqStr _ _ _, eqInt _ _ _, trivial⟩
  | maxp n =>
    obtain ⟨a, t1, t2, rfl, h1⟩ := hv
    obtain ⟨a', t1', t2', rfl, h1'⟩ := hv'
    exact eqTup h1 h1' u1 ⟨eqStr _ _ _, eqInt _ _ _, trivial⟩
  | canc n =>
    obtain ⟨a, t1, t2, rfl, h1⟩ := hv
    obtain ⟨a', t1', t2', rfl, h1'⟩ := hv'
    exact eqTup h1 h1' u1 ⟨eqStr _ _ _, eqInt _ _ _, trivial⟩
  | unk =>
    obtain ⟨a, t1, t2, t3, rfl, h1⟩ := hv
    obtain ⟨a', t1', t2', t3', rfl, h1'⟩ := hv'
    exact eqTup h1 h1' u1 ⟨eqStr _ _ _, eqInt _ _ _, eqBytes _ _ _, trivial⟩
  | hdr =>
    obtain ⟨a, t1, t2, rfl, h1⟩ := hv
    obtain ⟨a', t1', t2', rfl, h1'⟩ := hv'
    exact eqTup h1 h1' u1 ⟨eqStr _ _ _, eqBytes _ _ _, trivial⟩
  | dat =>
    obtain ⟨a, t1, t2, rfl, h1⟩ := hv
    obtain ⟨a', t1', t2', rfl, h1'⟩ := hv'
    exact eqTup h1 h1' u1 ⟨eqStr _ _ _, eqBytes _ _ _, trivial⟩
  | sett =>
    obtain ⟨a, t1, l, nl, p, t2, t3, rfl, h1, h2, h3⟩ := hv
    obtain ⟨a', t1', l', nl', p', t2', t3', rfl, h1', h2', h3'⟩ := hv'
    exact eqTup h1 h1' u1 ⟨eqStr _ _ _, eqLst (vs := [_]) (us := [_]) h2 h2' u2 ⟨eqTup h3 h3' u3 ⟨eqInt _ _ _, eqInt _ _ _, trivial⟩, trivial⟩, trivial⟩
  | sett2 =>
    obtain ⟨a, t1, l, nl, p, t2, t3, rfl, h1, h2, h3⟩ := hv
    obtain ⟨a', t1', l', nl', p', t2', t3', rfl, h1', h2', h3'⟩ := hv'
    exact eqTup h1 h1' u1 ⟨eqStr _ _ _, eqLst (vs := [_]) (us := [_]) h2 h2' u2 ⟨eqTup h3 h3' u3 ⟨eqInt _ _ _, eqInt _ _ _, trivial⟩, trivial⟩, trivial⟩
/-- two lists of the same frames are not unequal -/
theorem ne_frames {prog : Program} {w : World} {E : Value → Shared → Prop} {a b : Addr} {vs us : List Value} {fs : List Fm} {n k : Nat} {Q : Value → Shared → Prop} (ha : s.heap.get? a = some (listOf vs.toArray n)) (hb : s.heap.get? b = some (listOf us.toArray k))
    (h1 : ∀ (i : Nat) (v : Value) (f : Fm), vs[i]? = some v → fs[i]? = some f → FmAt s.heap v f) (h2 : ∀ (i : Nat) (v : Value) (f : Fm), us[i]? = some v → fs[i]? = some f → FmAt s.heap v f) (hl1 : vs.length = fs.length) (hl2 : us.length = fs.length) (hu : A.units < 7000) (h : Q (.bool false) s) :
    wpAny (model prog w) A (compareOp .NotEq (.ref a) (.ref b)) Q E s := by
  have z := RcNeAt.lists (A := A) (e := fun _ => true) (lstAt ha) (lstAt hb) (by simp [hl1, hl2]) (Nat.lt_trans hu (by decide)) (fun j j1 j2 => by
    have e1 : j < vs.length := by simpa using j1
    have e2 : j < us.length := by simpa using j2
    have e3 : j < fs.length := by omega
    simp only [List.getElem_toArray]
    exact eq_fm (h1 j _ _ (List.getElem?_eq_getElem e1) (List.getElem?_eq_getElem e3)) (h2 j _ _ (List.getElem?_eq_getElem e2) (List.getElem?_eq_getElem e3)) (by show A.units + _ < 8000; omega))
  rw [show (!(List.range vs.toArray.size).all (fun _ => true)) = false by simp] at z
  exact z prog w E Q h
end

end
section
theorem inc_take (f : Fm) (n : Nat) (h : n < (enc f).length) (hs : fsmall f) : Inc ((enc f).take n) := by
  unfold enc at h ⊢
  rcases n with _ | _ | n
  · exact .inl rfl
  · refine .inr (.inl ⟨kindF f, rfl, ?_⟩)
    cases f <;> simp [kindF]
  · refine .inr (.inr ⟨kindF f, _, (payF f).take n, rfl, ?_⟩)
    have hl : ((payF f).take n).length < (payF f).length := by
      simp only [List.length_cons] at h
      rw [List.length_take]
      omega
    have hp : (payF f).length ≤ 20 := by cases f <;> simp [payF]
    have hk : 0 ≤ kindF f ∧ kindF f < 64 ∧ kindF f ∉ [2, 6, 8, 9] := by cases f <;> simp [kindF]
    exact ⟨hk.1, hk.2.1, by omega, by omega, by omega, hk.2.2⟩
/-- any piece of the octets is whole frames and an unfinished rest -/
theorem cut_frames : ∀ (todo : List Fm) (n : Nat), (∀ f ∈ todo, fsmall f) → ∃ k r, k ≤ todo.length ∧ (encs todo).take n = encs (todo.take k) ++ r ∧ Inc r ∧ r ++ (encs todo).drop n = encs (todo.drop k)
  | [], n, _ => ⟨0, [], Nat.le_refl _, by simp [encs], .inl rfl, by simp [encs]⟩
  | f :: fs, n, hs => by
    have e : encs (f :: fs) = enc f ++ encs fs := rfl
    rcases Nat.lt_or_ge n (enc f).length with h | h
    · refine ⟨0, (enc f).take n, Nat.zero_le _, ?_, inc_take f n h (hs f (.head _)), ?_⟩
      · rw [e, List.take_append_of_le_length (Nat.le_of_lt h)]
        rfl
      · rw [e, List.drop_append_of_le_length (Nat.le_of_lt h), ← List.append_assoc, List.take_append_drop]
        rfl
    · obtain ⟨k, r, hk, h1, h2, h3⟩ := cut_frames fs (n - (enc f).length) fun g hg => hs g (.tail _ hg)
      refine ⟨k + 1, r, Nat.succ_le_succ hk, ?_, h2, ?_⟩
      · rw [e, List.take_append, List.take_of_length_le h, h1, List.take_succ_cons]
        show _ = (enc f ++ encs (fs.take k)) ++ r
        rw [List.append_assoc]
      · rw [e, List.drop_append, List.drop_of_length_le h, List.nil_append, List.drop_succ_cons]
        exact h3
/-- an unfinished rest that is whole frames is none -/
theorem inc_none {todo : List Fm} (h : Inc (encs todo)) : todo = [] := by
  cases todo with
  | nil => rfl
  | cons f fs =>
    exfalso
    have e : encs (f :: fs) = kindF f :: ((payF f).length : Int) :: (payF f ++ encs fs) := rfl
    rw [e] at h
    rcases h with h | ⟨k, h, _⟩ | ⟨k, j, p, h, _, _, _, _, h5, _⟩
    · cases h
    · cases h
    · cases h
      rw [List.length_append] at h5
      omega

end
section
example : True := by w_top off; exact trivial
/-- the inner loop's body -/
def inB (body : List Stmt) : List Stmt := match body.drop 6 with
  | .For _ _ (.For _ _ b _ _ :: _) _ _ :: _ => b
  | _ => []
theorem awayLed {H h h' : Heap} {L d : Addr} {m : Str → Option Value} {o o' : Obj} {others : List (Addr × Obj)} (F : Fr H L h m) (N : News H L h ((d, o) :: others)) (a : Away [L] [d] h h') (hd : h'.get? d = some o') (hne : ∀ q ∈ others, @Ne Nat q.1 d) :
    Fr H L h' m ∧ News H L h' ((d, o') :: others) := by
  have hd0 := (N _ (.head _)).2
  refine ⟨frAway F a (fun b o e => ⟨fun q => ?_, fun q => ?_⟩) (fun q => hd0.1 (List.mem_singleton.mp q).symm), fun q hq => ?_⟩
  · rw [List.mem_singleton.mp q] at e
    exact Nat.lt_irrefl _ (Nat.lt_of_lt_of_le (Heap.lt_size e) F.above)
  · rw [List.mem_singleton.mp q, hd0.2] at e
    cases e
  · rcases List.mem_cons.mp hq with rfl | hq'
    · exact ⟨hd, hd0⟩
    · exact newsAway (newsSub N (sub_skip sub_all)) a (fun q hq => ⟨fun e => (N _ (.tail _ hq)).2.1 (List.mem_singleton.mp e), fun e => hne q hq (List.mem_singleton.mp e)⟩) q hq'
def takF (cl : Bool) (mp : Option Int) : List Fm → List Fm
  | [] => []
  | f :: r => f :: takenF cl mp [f] r
theorem takF_snoc (cl : Bool) (mp : Option Int) (f0 : Fm) (r : List Fm) (f : Fm) : takF cl mp (f0 :: r ++ [f]) = takF cl mp (f0 :: r) ++ (if dueF cl mp (f0 :: r) f = 0 then [f] else []) := by
  show f0 :: takenF cl mp [f0] (r ++ [f]) = _
  rw [takenF_app]
  rfl
/-- the settings that the rules hold -/
def SettP (sv : Value) (done : List Fm) (more : List (Addr × Obj)) : Prop := (done = [] ∧ sv = .none) ∨ done ≠ [] ∧ ∃ l nl p t u, sv = .ref l ∧ (l, listOf #[.ref p] nl) ∈ more ∧ (p, tupO [.int 6 t, .int 70 u]) ∈ more
/-- what the loops hold of the rules, the stream and the frames that came -/
inductive CoreP (P : Params) (x1 d1 d2 cm : Addr) (t1 t2 : Nat → Tok) (cl : Bool) (tp : Tok) (mv : Value) (mp : Option Int) (rest : List (Addr × Obj)) (b : Array UInt8) (tb : Tok) (done : List Fm) (tn : Addr) (news : List (Addr × Obj)) : Prop
  | mk (sv gov tdv : Value) (vs : List Value) (n1 : Nat) (tvs : List Value) (n2 : Nat) (more : List (Addr × Obj)) (e : news = (x1, instObj 258 d1) :: (d1, crDict P t1 (.str (pS cl) tp) mv sv gov tdv) :: (d2, fsDict P t2 (.bytes b tb)) :: (cm, listOf vs.toArray n1) :: more)
    (hL : Lg [(x1, instObj 258 d1), (d1, crDict P t1 (.str (pS cl) tp) mv sv gov tdv), (d2, fsDict P t2 (.bytes b tb)), (cm, listOf vs.toArray n1)] more)
    (hvs : FmsIn more vs done) (hg : IsOpt gov (goOf cl done)) (ht : IsOpt tdv (toldOf cl done)) (hS : SettP sv done more) (htn : (tn, listOf tvs.toArray n2) ∈ more) (htv : FmsIn more tvs (takF cl mp done)) (hsub : ∀ q ∈ rest, q ∈ more)
set_option maxHeartbeats 4000000 in
/-- a frame is taken or refused, and the code looked at: the first frame -/
theorem law_g1 {H : Heap} (X : (hd.heap_1 w.params).In H) (T : Top hd.view_1 (looseW hd.view_1 []) mean mg mb H) {L : Addr} {m : Str → Option Value} {hp : Heap} {tk0 : Tok} {body : List Stmt} {env : Addr → Env} (hb : LawBody w body env) {x1 d1 cm tn : Addr} {t1 : Nat → Tok} {cl : Bool} {tp : Tok} {mv : Value} {mp : Option Int} {oc : Obj} {more : List (Addr × Obj)} {mm : Str → Option Value} {fa : Addr} {n1 : Nat} {cv : Option Value} {src : List (Addr × Obj)}
  (hcd : oc.data = .cell (some (.ref x1))) (hxd : @Ne Nat x1 d1) (hm : IsOpt mv mp) (hfv : IsFm src (.ref fa) .sett) (hsrc : ∀ q ∈ src, q ∈ more) (hne : ∀ q ∈ more, @Ne Nat q.1 d1)
  (F : Fr H L hp (fun y => if y = Str.ofString "frame" then some (.ref fa) else if y = Str.ofString "code" then cv else if y = Str.ofString "taken" then some (.ref tn) else if y = Str.ofString "came" then some (.ref cm) else if y = Str.ofString "peer" then some (.str (pS cl) tp) else if y = Str.ofString "most" then some mv else mm y))
  (N : News H L hp ((d1, crDict w.params t1 (.str (pS cl) tp) mv .none .none .none) :: (cm, listOf #[] n1) :: (L + 1, oc) :: (x1, instObj 258 d1) :: more)) (hnd : @Ne Nat cm d1 ∧ @Ne Nat (L + 1) d1)
  {JJ : Flow → Shared → Prop} (hJ : ∀ h tk tv l nl p t u more2, (Fr H L h (fun y => if y = Str.ofString "frame" then some (.ref fa) else if y = Str.ofString "code" then some (.int 0 tv) else if y = Str.ofString "taken" then some (.ref tn) else if y = Str.ofString "came" then some (.ref cm) else if y = Str.ofString "peer" then some (.str (pS cl) tp) else if y = Str.ofString "most" then some mv else mm y)) → (l, listOf #[.ref p] nl) ∈ more2 → (p, tupO [.int 6 t, .int 70 u]) ∈ src → (∀ q ∈ more, q ∈ more2) → (hp.get? l = none) → News H L h ((d1, crDict w.params t1 (.str (pS cl) tp) mv (.ref l) .none .none) :: (cm, listOf #[] n1) :: (L + 1, oc) :: (x1, instObj 258 d1) :: more2) → JJ .next {s with heap := h, toks := tk }) :
  wpN (model PySem.Challenge.rw_sj0117_01.row.prog w) (callerA.deeper (env L)) (execs ((inB body).take 2) (env L)) JJ (fun _ _ => False) {s with heap := hp, toks := tk0} := by
  obtain ⟨rfl, rfl⟩ := lawIs hb
  dsimp only [lawB, lawE, lawSub]
  try simp only [List.drop_succ_cons, List.drop_zero, List.take_succ_cons, List.take_zero]
  dsimp only [inB]
  obtain ⟨_, ft, lf, nlf, p, t, u, e, m1, m2, m3⟩ := hfv
  cases e
  have inm : ∀ q ∈ more, hp.get? q.1 = some q.2 := fun q hq => (N _ (.tail _ (.tail _ (.tail _ (.tail _ hq))))).1
  have hsa : SettAt hp (.ref fa) p t u := ⟨fa, ft, lf, nlf, rfl, inm _ (hsrc _ m1), inm _ (hsrc _ m2), inm _ (hsrc _ m3)⟩
  refine wpN_any ?_
  w_strict k_steps
  refine wp_atF (f := by exact ⟨rfl, Nat.le_of_ble_eq_true rfl, Nat.le_of_ble_eq_true rfl⟩) (hf := by rfl) (refused_sett (fr := []) (outer := []) X T F (newsSub N (b := [(x1, instObj 258 d1), (d1, crDict w.params t1 (.str (pS cl) tp) mv .none .none .none)] ++ []) (sub_mem (by k_mem) (sub_mem (by k_mem) sub_nil))) trivial rfl ?hke (fun _ _ => List.not_mem_nil) hxd hsa fun h' tk' tv l nl a hd' hl0 hl1 hpz => ?_)
  case hke => exact funK rfl
  obtain ⟨F2, N2⟩ := awayLed F N a hd' (List.forall_mem_cons.mpr ⟨hnd.1, List.forall_mem_cons.mpr ⟨hnd.2, List.forall_mem_cons.mpr ⟨hxd, hne⟩⟩⟩)
  have hlL : @Ne Nat l L := fun e => by
    obtain ⟨o, _, _, e2, _⟩ := F.ns
    rw [← e, hl0] at e2
    cases e2
  have hlH : H.get? l = none := by
    cases e : H.get? l with
    | none => rfl
    | some o => have z := F.keep _ _ e; rw [hl0] at z; cases z
  replace N2 : News H L h' ((d1, crDict w.params t1 (.str (pS cl) tp) mv (.ref l) .none .none) :: (cm, listOf #[] n1) :: (L + 1, oc) :: (x1, instObj 258 d1) :: (l, listOf #[.ref p] nl) :: more) := fun q hq => by
    by_cases e : q = (l, listOf #[.ref p] nl)
    · rw [e]; exact ⟨hl1, hlL, hlH⟩
    · refine N2 q ?_
      simp only [List.mem_cons] at hq ⊢
      rcases hq with h | h | h | h | h | h <;> first | exact absurd h e | simp only [h, true_or, or_true]
  generalize hm2 : (l, listOf #[.ref p] nl) :: more = more2 at N2
  clear F N
  w_strict k_steps
  try dsimp only
  refine wpAny_execs_nil ?_
  rename Fr _ _ _ _ => F3
  rename News _ _ _ _ => N3
  refine hJ _ _ tv l nl p t u more2 ?_ (by rw [← hm2]; exact .head _) m3 (fun q hq => by rw [← hm2]; exact .tail _ hq) hl0 (newsSub N3 (sub_skip sub_all))
  · refine frEq F3 ?_
    intro y
    by_cases e0 : y = Str.ofString "code"
    · subst e0; rfl
    by_cases e1 : y = Str.ofString "frame"
    · subst e1; rfl
    simp only [e0, e1, if_false]

end
section
example : True := by w_top off; exact trivial
set_option maxHeartbeats 4000000 in
/-- a frame is taken or refused, and the code looked at: a later frame -/
theorem law_g2 {H : Heap} (X : (hd.heap_1 w.params).In H) (T : Top hd.view_1 (looseW hd.view_1 []) mean mg mb H) {L : Addr} {m : Str → Option Value} {hp : Heap} {tk0 : Tok} {body : List Stmt} {env : Addr → Env} (hb : LawBody w body env) {x1 d1 cm tn l0 : Addr} {t1 : Nat → Tok} {cl : Bool} {tp : Tok} {mv gov tdv : Value} {mp : Option Int} {oc : Obj} {more : List (Addr × Obj)} {mm : Str → Option Value} {fa : Addr} {n1 : Nat} {cv : Option Value} {vs : List Value} {done : List Fm} {f : Fm}
  (hcd : oc.data = .cell (some (.ref x1))) (hxd : @Ne Nat x1 d1) (hm : IsOpt mv mp) (hfv : IsFm more (.ref fa) f) (hne : ∀ q ∈ more, @Ne Nat q.1 d1) (hvs : FmsIn more vs done) (h0 : 0 < done.length) (h20 : done.length ≤ 20)
  (hg : IsOpt gov (goOf cl done)) (ht : IsOpt tdv (toldOf cl done))
  (F : Fr H L hp (fun y => if y = Str.ofString "frame" then some (.ref fa) else if y = Str.ofString "code" then cv else if y = Str.ofString "taken" then some (.ref tn) else if y = Str.ofString "came" then some (.ref cm) else if y = Str.ofString "peer" then some (.str (pS cl) tp) else if y = Str.ofString "most" then some mv else mm y))
  (N : News H L hp ((d1, crDict w.params t1 (.str (pS cl) tp) mv (.ref l0) gov tdv) :: (cm, listOf vs.toArray n1) :: (L + 1, oc) :: (x1, instObj 258 d1) :: more)) (hnd : @Ne Nat cm d1 ∧ @Ne Nat (L + 1) d1)
  {JJ : Flow → Shared → Prop} (hJ : ∀ h tk tv gov' tdv', IsOpt gov' (goOf cl (done ++ [f])) → IsOpt tdv' (toldOf cl (done ++ [f])) → (Fr H L h (fun y => if y = Str.ofString "frame" then some (.ref fa) else if y = Str.ofString "code" then some (.int (dueF cl mp done f) tv) else if y = Str.ofString "taken" then some (.ref tn) else if y = Str.ofString "came" then some (.ref cm) else if y = Str.ofString "peer" then some (.str (pS cl) tp) else if y = Str.ofString "most" then some mv else mm y)) → News H L h ((d1, crDict w.params t1 (.str (pS cl) tp) mv (.ref l0) gov' tdv') :: (cm, listOf vs.toArray n1) :: (L + 1, oc) :: (x1, instObj 258 d1) :: more) → JJ .next {s with heap := h, toks := tk }) :
  wpN (model PySem.Challenge.rw_sj0117_01.row.prog w) (callerA.deeper (env L)) (execs ((inB body).take 2) (env L)) JJ (fun _ _ => False) {s with heap := hp, toks := tk0} := by
  obtain ⟨rfl, rfl⟩ := lawIs hb
  dsimp only [lawB, lawE, lawSub]
  try simp only [List.drop_succ_cons, List.drop_zero, List.take_succ_cons, List.take_zero]
  dsimp only [inB]
  have inm : ∀ q ∈ more, hp.get? q.1 = some q.2 := fun q hq => (N _ (.tail _ (.tail _ (.tail _ (.tail _ hq))))).1
  have hmv : handedIn mv = true := by cases mp with | none => cases hm; rfl | some g => obtain ⟨_, rfl⟩ := hm; rfl
  refine wpN_any ?_
  w_strict k_steps
  refine wp_atF (f := by exact ⟨rfl, Nat.le_of_ble_eq_true rfl, Nat.le_of_ble_eq_true rfl⟩) (hf := by rfl) (refused (fr := []) (outer := []) X T F (newsSub N (b := [(x1, instObj 258 d1), (d1, crDict w.params t1 (.str (pS cl) tp) mv (.ref l0) gov tdv)] ++ []) (sub_mem (by k_mem) (sub_mem (by k_mem) sub_nil))) trivial rfl (funK rfl) (fun _ _ => List.not_mem_nil) hxd (hfv.at (newsSub N (sub_skip (sub_skip (sub_skip (sub_skip sub_all)))))) hm hg ht fun h' tk' tv gov' tdv' hg' ht' a hd' => ?_)
  rw [go_step] at hg'
  rw [told_step] at ht'
  rw [code_due]
  obtain ⟨F2, N2⟩ := awayLed F N a hd' (List.forall_mem_cons.mpr ⟨hnd.1, List.forall_mem_cons.mpr ⟨hnd.2, List.forall_mem_cons.mpr ⟨hxd, hne⟩⟩⟩)
  clear F N inm hg ht
  w_strict k_steps
  rename Fr _ _ _ _ => F3
  rename News _ _ _ _ => N3
  refine SeqAt.eq_list_lengthsAt (lstAt (N3 _ (.tail _ (.tail _ (.head _)))).1) (lstAt (N3 _ (.head _)).1) ?_ (by show 7 < 9900; decide) ?_
  · have : vs.length ≠ 0 := by rw [hvs.1]; omega
    simp [this]
  w_strict k_steps
  have hfm : FmsAt _ vs done := ⟨hvs.1, fun i v g e1 e2 => (hvs.2 i v g e1 e2).at (newsSub N3 fun q hq => .tail _ (.tail _ (.tail _ (.tail _ (.tail _ hq)))))⟩
  refine wp_at (f := by exact ⟨rfl, Nat.le_of_ble_eq_true rfl, Nat.le_of_ble_eq_true rfl⟩) (due X T F3 N3 (N3 _ (.tail _ (.tail _ (.head _)))).1 hfm (by rw [hvs.1]; exact h20) hm (hfv.at (newsSub N3 fun q hq => .tail _ (.tail _ (.tail _ (.tail _ (.tail _ hq)))))) fun tu h4 tk4 F4 N4 => ?_)
  clear F3 N3 hfm hfv hvs
  generalize hdue : dueF cl mp done f = c at *
  w_strict k_steps
  all_goals first
    | exact absurd rfl (by assumption)
    | skip
  try dsimp only
  refine wpAny_execs_nil ?_
  refine hJ _ _ tv gov' tdv' hg' ht' ?_ (newsSub N4 (sub_skip sub_all))
  refine frEq F4 ?_
  intro y
  by_cases e0 : y = Str.ofString "code"
  · subst e0; rfl
  by_cases e1 : y = Str.ofString "frame"
  · subst e1; rfl
  simp only [e0, e1, if_false]

end
local macro_rules | `(tactic| walk_at "binaryOp Add ref ref") => `(tactic| (k_here; (refine' addL ?F ?N ?a ?b ?z ?_; (case F => k_asm); (case N => k_asm); (case a => kmk_list); (case b => kmk_list); (case z => ((try simp only [List.length_cons, List.length_nil, List.length_reverse]); omega))); intro D' h' F' N' l1; (try k_lt l1)))
section
example : True := by w_top off; exact trivial
set_option maxHeartbeats 4000000 in
/-- the frame came; it is taken where its code is 0 -/
theorem law_g3 {H : Heap} (X : (hd.heap_1 w.params).In H) (T : Top hd.view_1 (looseW hd.view_1 []) mean mg mb H) {L : Addr} {m : Str → Option Value} {hp : Heap} {tk0 : Tok} {body : List Stmt} {env : Addr → Env} (hb : LawBody w body env) {cm tn fa : Addr} {n1 n2 : Nat} {vs tvs : List Value} {c : Int} {tv : Tok} {more : List (Addr × Obj)} {mm : Str → Option Value}
  (F : Fr H L hp (fun y => if y = Str.ofString "frame" then some (.ref fa) else if y = Str.ofString "code" then some (.int c tv) else if y = Str.ofString "taken" then some (.ref tn) else if y = Str.ofString "came" then some (.ref cm) else mm y)) (N : News H L hp ((cm, listOf vs.toArray n1) :: (tn, listOf tvs.toArray n2) :: more)) (hne : ∀ q ∈ more, @Ne Nat q.1 cm) (htn : @Ne Nat tn cm) (hl1 : vs.length ≤ 20) (hl2 : tvs.length ≤ 20)
  {JJ : Flow → Shared → Prop} (hJ : ∀ h tk tn' n2', (∀ q ∈ (cm, listOf vs.toArray n1) :: (tn, listOf tvs.toArray n2) :: more, @Ne Nat q.1 tn') → (Fr H L h (fun y => if y = Str.ofString "frame" then some (.ref fa) else if y = Str.ofString "code" then some (.int c tv) else if y = Str.ofString "taken" then some (.ref tn') else if y = Str.ofString "came" then some (.ref cm) else mm y)) → (News H L h ((cm, listOf (vs ++ [Value.ref fa]).toArray (n1 + 1)) :: (tn', listOf (tvs ++ if c = 0 then [Value.ref fa] else []).toArray n2') :: (tn, listOf tvs.toArray n2) :: more)) → JJ .next {s with heap := h, toks := tk }) :
  wpN (model PySem.Challenge.rw_sj0117_01.row.prog w) (callerA.deeper (env L)) (execs (((inB body).drop 2).take 2) (env L)) JJ (fun _ _ => False) {s with heap := hp, toks := tk0} := by
  obtain ⟨rfl, rfl⟩ := lawIs hb
  dsimp only [lawB, lawE, lawSub]
  try simp only [List.drop_succ_cons, List.drop_zero, List.take_succ_cons, List.take_zero]
  dsimp only [inB, List.drop_succ_cons, List.drop_zero, List.take_succ_cons, List.take_zero]
  refine wpN_any ?_
  w_strict k_steps
  all_goals
    rename Fr _ _ _ _ => F1
    rename News _ _ _ _ => N1
    refine wpAny_execs_nil ?_
    rename _ ∧ _ ∧ _ ∧ AllLt _ _ => q1
    obtain ⟨_, qc, qt, qm⟩ := q1
    have hm := of_allLt qm
    refine hJ _ _ _ 0 (List.forall_mem_cons.mpr ⟨Nat.ne_of_lt qc, List.forall_mem_cons.mpr ⟨Nat.ne_of_lt qt, fun q hq => Nat.ne_of_lt (hm q hq)⟩⟩) (frEq F1 ?_) (fun q hq => ?_)
  ·
    intro y
    by_cases e0 : y = Str.ofString "taken"
    · subst e0; rfl
    by_cases e1 : y = Str.ofString "frame"
    · subst e1; rfl
    by_cases e2 : y = Str.ofString "code"
    · subst e2; rfl
    simp only [e0, e1, e2, if_false]
  · rename c = 0 => hc
    rw [if_pos hc] at hq
    refine N1 q ?_
    rw [List.push_toArray]
    revert q; lcg_sub
  ·
    intro y
    by_cases e0 : y = Str.ofString "taken"
    · subst e0; rfl
    by_cases e1 : y = Str.ofString "frame"
    · subst e1; rfl
    by_cases e2 : y = Str.ofString "code"
    · subst e2; rfl
    simp only [e0, e1, e2, if_false]
  · rename c ≠ 0 => hc
    rw [if_neg hc] at hq
    refine N1 q ?_
    rw [List.push_toArray]
    revert q; lcg_sub
theorem isOptV {v : Value} {o : Option Int} (h : IsOpt v o) : IsOptV v o := by cases o <;> exact h
set_option maxHeartbeats 4000000 in
/-- the states are the same -/
theorem law_g4 {H : Heap} (X : (hd.heap_1 w.params).In H) (T : Top hd.view_1 (looseW hd.view_1 []) mean mg mb H) {L : Addr} {m : Str → Option Value} {hp : Heap} {tk0 : Tok} {body : List Stmt} {env : Addr → Env} (hb : LawBody w body env) {x1 d1 cm l0 p : Addr} {t1 : Nat → Tok} {cl : Bool} {tp t u : Tok} {mv gov tdv : Value} {oc : Obj} {more : List (Addr × Obj)} {mm : Str → Option Value} {n1 nl : Nat} {vs : List Value} {done : List Fm}
  (hcd : oc.data = .cell (some (.ref x1))) (hxd : @Ne Nat x1 d1) (hvs : FmsIn more vs done) (h20 : done.length ≤ 20) (hn : ∀ n ∈ cntF cl true done, 0 ≤ n ∧ n < 22)
  (hg : IsOpt gov (goOf cl done)) (ht : IsOpt tdv (toldOf cl done)) (hl : (l0, listOf #[.ref p] nl) ∈ more) (hpz : (p, tupO [.int 6 t, .int 70 u]) ∈ more)
  (hne : ∀ q ∈ (cm, listOf vs.toArray n1) :: (L + 1, oc) :: more, @Ne Nat q.1 x1 ∧ @Ne Nat q.1 d1)
  (F : Fr H L hp (fun y => if y = Str.ofString "came" then some (.ref cm) else if y = Str.ofString "peer" then some (.str (pS cl) tp) else mm y))
  (N : News H L hp ((x1, instObj 258 d1) :: (d1, crDict w.params t1 (.str (pS cl) tp) mv (.ref l0) gov tdv) :: (cm, listOf vs.toArray n1) :: (L + 1, oc) :: more))
  {JJ : Flow → Shared → Prop} (hJ : ∀ h tk, (Fr H L h (fun y => if y = Str.ofString "came" then some (.ref cm) else if y = Str.ofString "peer" then some (.str (pS cl) tp) else mm y)) → News H L h ((x1, instObj 258 d1) :: (d1, crDict w.params t1 (.str (pS cl) tp) mv (.ref l0) gov tdv) :: (cm, listOf vs.toArray n1) :: (L + 1, oc) :: more) → JJ .next {s with heap := h, toks := tk }) :
  wpN (model PySem.Challenge.rw_sj0117_01.row.prog w) (callerA.deeper (env L)) (execs ((inB body).drop 4) (env L)) JJ (fun _ _ => False) {s with heap := hp, toks := tk0} := by
  have hlet : letF (goOf cl done) = intsTo (lessN (goOf cl done)) := letF_due fun g h => hn g (leastF_eq.mp h).1
  obtain ⟨rfl, rfl⟩ := lawIs hb
  dsimp only [lawB, lawE, lawSub]
  try simp only [List.drop_succ_cons, List.drop_zero, List.take_succ_cons, List.take_zero]
  dsimp only [inB, List.drop_succ_cons, List.drop_zero]
  refine wpN_any ?_
  w_strict k_steps
  refine wp_at (f := by exact ⟨rfl, Nat.le_of_ble_eq_true rfl, Nat.le_of_ble_eq_true rfl⟩) (lawstate X T F (news := (cm, listOf vs.toArray n1) :: (L + 1, oc) :: more) N (fun q hq r hr => ?_) hxd hg ht ?_)
  · rcases List.mem_cons.mp hq with rfl | hq
    · exact (hne r hr).1
    · rw [List.mem_singleton.mp hq]; exact (hne r hr).2
  intro a D zs nz h1 tk1 hz hap hD F2 N2
  rw [hlet] at hz
  dsimp only [List.cons_append, List.nil_append] at N2
  clear F N hap
  w_strict k_steps
  refine wp_at (f := by exact ⟨rfl, Nat.le_of_ble_eq_true rfl, Nat.le_of_ble_eq_true rfl⟩) (duestate X T F2 N2 (N2 _ (.tail _ (.tail _ (.tail _ (.tail _ (.head _)))))).1 ((fun x => ⟨x.1, fun i v f e1 e2 => (x.2 i v f e1 e2).at (newsSub N2 fun q hq => .tail _ (.tail _ (.tail _ (.tail _ (.tail _ (.tail _ hq))))))⟩ : FmsIn more vs done → FmsAt _ vs done) hvs) (by rw [hvs.1]; exact h20) hn ?_)
  intro a2 SL nS p2 t2 t3 lv gv RL ys nR h2 tk2 hlv hgv hys hap2 F3 N3
  clear F2 N2
  w_strict k_steps
  have g3 : ∀ q ∈ more, h2.get? q.1 = some q.2 := fun q hq => (N3 _ (.tail _ (.tail _ (.tail _ (.tail _ (.tail _ (.tail _ (.tail _ (.tail _ (.tail _ (.tail _ hq))))))))))).1
  refine ne_states (go := goOf cl done) (told := toldOf cl done) (ns := intsTo (lessN (goOf cl done)))
    (reads_state (N3 _ (.tail _ (.tail _ (.tail _ (.tail _ (.head _)))))).1 (g3 _ hl) (g3 _ hpz) (N3 _ (.tail _ (.tail _ (.tail _ (.tail _ (.tail _ (.head _))))))).1 (isOptV hg) (isOptV ht) hz)
    (reads_state (N3 _ (.head _)).1 (N3 _ (.tail _ (.tail _ (.head _)))).1 (N3 _ (.tail _ (.tail _ (.tail _ (.head _))))).1 (N3 _ (.tail _ (.head _))).1 (isOptV hlv) (isOptV hgv) hys) (by show 7 < 9000; decide) ?_
  w_strict k_steps
  exact hJ _ _ F3 (newsSub N3 (sub_skip (sub_skip (sub_skip (sub_skip (sub_skip (sub_skip sub_all)))))))

end
section
/-- the ledger ahead of the core: iterators -/
def Ahead (extra core : List (Addr × Obj)) : Prop := ∀ r ∈ core, ∀ q ∈ extra, @Ne Nat r.1 q.1
theorem splitC {M : Model} {A : Around} {E : Value → Shared → Prop} {env : Env} {Q : Flow → Shared → Prop} {s : Shared} (n : Nat) (body : List Stmt) (h1 : ∀ J : Flow → Shared → Prop, (∀ s', wpN M A (execs (body.drop n) env) Q E s' → J .next s') → wpN M A (execs (body.take n) env) J E s) : wpN M A (execs body env) Q E s :=
  execs_split (fun s' => wpN M A (execs (body.drop n) env) Q E s') n body (h1 _ fun s' q => ⟨rfl, q⟩) fun s' q => q
theorem takenF_len (cl : Bool) (mp : Option Int) : ∀ (r came : List Fm), (takenF cl mp came r).length ≤ r.length
  | [], _ => Nat.le_refl _
  | f :: r, came => by
    have := takenF_len cl mp r (came ++ [f])
    rw [takenF, List.length_append, List.length_cons]
    split
    · rw [List.length_singleton]; omega
    · rw [List.length_nil]; omega
theorem takF_len (cl : Bool) (mp : Option Int) : ∀ r : List Fm, (takF cl mp r).length ≤ r.length
  | [] => Nat.le_refl _
  | f :: r => by
    have := takenF_len cl mp r [f]
    rw [takF, List.length_cons, List.length_cons]; omega
theorem takF_next (cl : Bool) (mp : Option Int) (done : List Fm) (f : Fm) : takF cl mp (done ++ [f]) = takF cl mp done ++ (if (if done = [] then (0 : Int) else dueF cl mp done f) = 0 then [f] else []) := by
  cases done with
  | nil => simp [takF, takenF]
  | cons g r => rw [takF_snoc, if_neg (List.cons_ne_nil g r)]
set_option maxHeartbeats 4000000 in
/-- a turn of the inner loop -/
theorem law_turn {H : Heap} (X : (hd.heap_1 w.params).In H) (T : Top hd.view_1 (looseW hd.view_1 []) mean mg mb H) {L : Addr} {m : Str → Option Value} {hp : Heap} {tk0 : Tok} {body : List Stmt} {env : Addr → Env} (hb : LawBody w body env) {x1 d1 d2 cm tn fa : Addr} {t1 t2 : Nat → Tok} {cl : Bool} {tp : Tok} {mv : Value} {mp : Option Int} {oc : Obj} {rest extra core : List (Addr × Obj)} {b : Array UInt8} {tb : Tok} {done : List Fm} {f : Fm} {cv : Option Value} {mm : Str → Option Value}
  (hm : IsOpt mv mp) (hcd : oc.data = .cell (some (.ref x1))) (hcell : (L + 1, oc) ∈ rest) (hfv : IsFm rest (.ref fa) f) (hf0 : done = [] → f = .sett) (h20 : done.length < 20) (hn : ∀ n ∈ cntF cl true (done ++ [f]), 0 ≤ n ∧ n < 22)
  (C : CoreP w.params x1 d1 d2 cm t1 t2 cl tp mv mp rest b tb done tn core) (hA : Ahead extra core)
  (F : Fr H L hp (fun y => if y = Str.ofString "frame" then some (.ref fa) else if y = Str.ofString "code" then cv else if y = Str.ofString "taken" then some (.ref tn) else if y = Str.ofString "came" then some (.ref cm) else if y = Str.ofString "peer" then some (.str (pS cl) tp) else if y = Str.ofString "most" then some mv else mm y)) (N : News H L hp (extra ++ core))
  {JJ : Flow → Shared → Prop} (hJ : ∀ h tk tn' cv' core', CoreP w.params x1 d1 d2 cm t1 t2 cl tp mv mp rest b tb (done ++ [f]) tn' core' → Ahead extra core' → (Fr H L h (fun y => if y = Str.ofString "frame" then some (.ref fa) else if y = Str.ofString "code" then cv' else if y = Str.ofString "taken" then some (.ref tn') else if y = Str.ofString "came" then some (.ref cm) else if y = Str.ofString "peer" then some (.str (pS cl) tp) else if y = Str.ofString "most" then some mv else mm y)) → News H L h (extra ++ core') → JJ .next {s with heap := h, toks := tk }) :
  wpN (model PySem.Challenge.rw_sj0117_01.row.prog w) (callerA.deeper (env L)) (execs (inB body) (env L)) JJ (fun _ _ => False) {s with heap := hp, toks := tk0} := by
  obtain ⟨sv_, gov, tdv, vs, n1, tvs, n2, more, rfl, hL, hvs, hg, ht, hS, htn, htv, hsub⟩ := C
  have q1 : ∀ q ∈ more, @Ne Nat q.1 x1 := fun q hq => hL.off q hq _ (.head _)
  have q2 : ∀ q ∈ more, @Ne Nat q.1 d1 := fun q hq => hL.off q hq _ (.tail _ (.head _))
  have q3 : ∀ q ∈ more, @Ne Nat q.1 d2 := fun q hq => hL.off q hq _ (.tail _ (.tail _ (.head _)))
  have q4 : ∀ q ∈ more, @Ne Nat q.1 cm := fun q hq => hL.off q hq _ (.tail _ (.tail _ (.tail _ (.head _))))
  have a1 := Nd.head hL.nd
  have a2 := Nd.head (Nd.tail hL.nd)
  have a3 := Nd.head (Nd.tail (Nd.tail hL.nd))
  have d1x : @Ne Nat d1 x1 := a1 _ (.head _)
  have d2x : @Ne Nat d2 x1 := a1 _ (.tail _ (.head _))
  have cmx : @Ne Nat cm x1 := a1 _ (.tail _ (.tail _ (.head _)))
  have d2d : @Ne Nat d2 d1 := a2 _ (.head _)
  have cmd : @Ne Nat cm d1 := a2 _ (.tail _ (.head _))
  have cmd2 : @Ne Nat cm d2 := a3 _ (.head _)
  clear a1 a2 a3
  have hX : ∀ q ∈ extra ++ (d2, fsDict w.params t2 (.bytes b tb)) :: more, @Ne Nat q.1 d1 := fun q hq => (List.mem_append.mp hq).elim (fun h => (hA _ (.tail _ (.head _)) q h).symm) fun h => (List.mem_cons.mp h).elim (fun e => by rw [e]; exact d2d) fun h => q2 q h
  have hcc := hsub _ hcell
  have hcd1 : @Ne Nat (L + 1) d1 := q2 _ hcc
  have tvl : tvs.length ≤ done.length := by rw [htv.1]; exact takF_len _ _ _
  obtain ⟨c, hc⟩ : ∃ c, (if done = [] then (0 : Int) else dueF cl mp done f) = c := ⟨_, rfl⟩
  have htk := takF_next cl mp done f
  rw [hc] at htk
  have rest2 : ∀ h tk tv l nl p t u gov' tdv' more' tn' n2', (l, listOf #[.ref p] nl) ∈ more' → (p, tupO [.int 6 t, .int 70 u]) ∈ more' → (∀ q ∈ more, q ∈ more') → (∀ q ∈ more', @Ne Nat q.1 x1 ∧ @Ne Nat q.1 d1 ∧ @Ne Nat q.1 d2 ∧ @Ne Nat q.1 cm) → Ahead extra more' → IsOpt gov' (goOf cl (done ++ [f])) → IsOpt tdv' (toldOf cl (done ++ [f])) → (∀ q ∈ extra ++ (x1, instObj 258 d1) :: (d1, crDict w.params t1 (.str (pS cl) tp) mv (.ref l) gov' tdv') :: (d2, fsDict w.params t2 (.bytes b tb)) :: (cm, listOf vs.toArray n1) :: more', @Ne Nat q.1 tn') → (Fr H L h (fun y => if y = Str.ofString "frame" then some (.ref fa) else if y = Str.ofString "code" then some (.int c tv) else if y = Str.ofString "taken" then some (.ref tn') else if y = Str.ofString "came" then some (.ref cm) else if y = Str.ofString "peer" then some (.str (pS cl) tp) else if y = Str.ofString "most" then some mv else mm y)) → News H L h ((cm, listOf (vs ++ [Value.ref fa]).toArray (n1 + 1)) :: (tn', listOf (tvs ++ if c = 0 then [Value.ref fa] else []).toArray n2') :: (d1, crDict w.params t1 (.str (pS cl) tp) mv (.ref l) gov' tdv') :: (L + 1, oc) :: (x1, instObj 258 d1) :: (extra ++ (d2, fsDict w.params t2 (.bytes b tb)) :: more')) → wpN (model PySem.Challenge.rw_sj0117_01.row.prog w) (callerA.deeper (env L)) (execs (((inB body).drop 2).drop 2) (env L)) JJ (fun _ _ => False) {s with heap := h, toks := tk } := by
    intro h tk tv l nl p t u gov' tdv' more' tn' n2' hl1 hp1 hsm hne hA' hg' ht' hfr F2 N2
    rw [List.drop_drop]
    have sub' : ∀ q ∈ more', q ∈ (tn', listOf (tvs ++ if c = 0 then [Value.ref fa] else []).toArray n2') :: more' := sub_skip sub_all
    have hvs' : FmsIn ((tn', listOf (tvs ++ if c = 0 then [Value.ref fa] else []).toArray n2') :: more') (vs ++ [Value.ref fa]) (done ++ [f]) := (hvs.mono fun q hq => sub' q (hsm q hq)).snoc (hfv.mono fun q hq => sub' q (hsm q (hsub q hq)))
    have hvs4 : FmsIn ((tn', listOf (tvs ++ if c = 0 then [Value.ref fa] else []).toArray n2') :: (extra ++ (d2, fsDict w.params t2 (.bytes b tb)) :: more')) (vs ++ [Value.ref fa]) (done ++ [f]) := hvs'.mono fun q hq => (List.mem_cons.mp hq).elim (fun e => e ▸ .head _) fun h => .tail _ (List.mem_append_right _ (.tail _ h))
    have htv' : FmsIn ((tn', listOf (tvs ++ if c = 0 then [Value.ref fa] else []).toArray n2') :: more') (tvs ++ if c = 0 then [Value.ref fa] else []) (takF cl mp (done ++ [f])) := by
      rw [htk]
      have z := htv.mono fun q hq => sub' q (hsm q hq)
      by_cases hc0 : c = 0
      · rw [if_pos hc0] at z ⊢
        rw [if_pos hc0]
        exact z.snoc (hfv.mono fun q hq => by have y := sub' q (hsm q (hsub q hq)); rw [if_pos hc0] at y; exact y)
      · rw [if_neg hc0] at z ⊢
        rw [if_neg hc0, List.append_nil, List.append_nil]
        rw [List.append_nil] at z
        exact z
    have hne2 : ∀ q ∈ (cm, listOf (vs ++ [Value.ref fa]).toArray (n1 + 1)) :: (L + 1, oc) :: (tn', listOf (tvs ++ if c = 0 then [Value.ref fa] else []).toArray n2') :: (extra ++ (d2, fsDict w.params t2 (.bytes b tb)) :: more'), @Ne Nat q.1 x1 ∧ @Ne Nat q.1 d1 :=
      List.forall_mem_cons.mpr ⟨⟨cmx, cmd⟩, List.forall_mem_cons.mpr ⟨⟨q1 _ (hsub _ hcell), hcd1⟩, List.forall_mem_cons.mpr ⟨⟨(hfr _ (List.mem_append_right _ (.head _))).symm, (hfr _ (List.mem_append_right _ (.tail _ (.head _)))).symm⟩, fun q hq => (List.mem_append.mp hq).elim (fun h => ⟨(hA _ (.head _) q h).symm, (hA _ (.tail _ (.head _)) q h).symm⟩) fun h => (List.mem_cons.mp h).elim (fun e => by rw [e]; exact ⟨d2x, d2d⟩) fun h => ⟨(hne q h).1, (hne q h).2.1⟩⟩⟩⟩
    have F2' : Fr H L h (fun y => if y = Str.ofString "came" then some (.ref cm) else if y = Str.ofString "peer" then some (.str (pS cl) tp) else (fun y => if y = Str.ofString "frame" then some (.ref fa) else if y = Str.ofString "code" then some (.int c tv) else if y = Str.ofString "taken" then some (.ref tn') else if y = Str.ofString "came" then some (.ref cm) else if y = Str.ofString "peer" then some (.str (pS cl) tp) else if y = Str.ofString "most" then some mv else mm y) y) := frEq F2 fun y => by
      by_cases e1 : y = Str.ofString "came"
      · subst e1; rfl
      by_cases e2 : y = Str.ofString "peer"
      · subst e2; rfl
      simp only [e1, e2, if_false]
    refine law_g4 (m := m) (t1 := t1) (oc := oc) (done := done ++ [f]) (vs := vs ++ [Value.ref fa]) (mv := mv) (n1 := n1 + 1) X T hb hcd d1x.symm hvs4 (by rw [List.length_append, List.length_singleton]; omega) hn hg' ht' (.tail _ (List.mem_append_right _ (.tail _ hl1))) (.tail _ (List.mem_append_right _ (.tail _ hp1))) hne2 F2' (newsSub N2 (by lcg_sub)) fun h2 tk2 F3 N3 => ?_
    refine hJ h2 tk2 tn' (some (.int c tv)) ((x1, instObj 258 d1) :: (d1, crDict w.params t1 (.str (pS cl) tp) mv (.ref l) gov' tdv') :: (d2, fsDict w.params t2 (.bytes b tb)) :: (cm, listOf (vs ++ [Value.ref fa]).toArray (n1 + 1)) :: (tn', listOf (tvs ++ if c = 0 then [Value.ref fa] else []).toArray n2') :: more') (⟨.ref l, gov', tdv', vs ++ [Value.ref fa], n1 + 1, (tvs ++ if c = 0 then [Value.ref fa] else []), n2', (tn', listOf (tvs ++ if c = 0 then [Value.ref fa] else []).toArray n2') :: more', rfl, ⟨hL.nd, ?_⟩, hvs', hg', ht', .inr ⟨by simp, l, nl, p, t, u, rfl, .tail _ hl1, .tail _ hp1⟩, .head _, htv', fun q hq => .tail _ (hsm q (hsub q hq))⟩) ?_ (frEq F3 ?_) (newsSub N3 fun q hq => ?_)
    · refine List.forall_mem_cons.mpr ⟨?_, fun q hq => ?_⟩
      · exact List.forall_mem_cons.mpr ⟨(hfr _ (List.mem_append_right _ (.head _))).symm, List.forall_mem_cons.mpr ⟨(hfr _ (List.mem_append_right _ (.tail _ (.head _)))).symm, List.forall_mem_cons.mpr ⟨(hfr _ (List.mem_append_right _ (.tail _ (.tail _ (.head _))))).symm, List.forall_mem_cons.mpr ⟨(hfr _ (List.mem_append_right _ (.tail _ (.tail _ (.tail _ (.head _)))))).symm, fun q hq => absurd hq List.not_mem_nil⟩⟩⟩⟩
      · exact List.forall_mem_cons.mpr ⟨(hne q hq).1, List.forall_mem_cons.mpr ⟨(hne q hq).2.1, List.forall_mem_cons.mpr ⟨(hne q hq).2.2.1, List.forall_mem_cons.mpr ⟨(hne q hq).2.2.2, fun q hq => absurd hq List.not_mem_nil⟩⟩⟩⟩
    · exact List.forall_mem_cons.mpr ⟨hA _ (.head _), List.forall_mem_cons.mpr ⟨fun q hq => hA (d1, crDict w.params t1 (.str (pS cl) tp) mv sv_ gov tdv) (.tail _ (.head _)) q hq, List.forall_mem_cons.mpr ⟨hA _ (.tail _ (.tail _ (.head _))), List.forall_mem_cons.mpr ⟨fun q hq => hA (cm, listOf vs.toArray n1) (.tail _ (.tail _ (.tail _ (.head _)))) q hq, List.forall_mem_cons.mpr ⟨fun q hq => (hfr q (List.mem_append_left _ hq)).symm, hA'⟩⟩⟩⟩⟩
    · intro y
      by_cases e1 : y = Str.ofString "came"
      · subst e1; rfl
      by_cases e2 : y = Str.ofString "peer"
      · subst e2; rfl
      simp only [e1, e2, if_false]
    · revert q; lcg_sub
  have rest1 : ∀ h tk tv l nl p t u gov' tdv' more', (l, listOf #[.ref p] nl) ∈ more' → (p, tupO [.int 6 t, .int 70 u]) ∈ more' → (∀ q ∈ more, q ∈ more') → (∀ q ∈ more', @Ne Nat q.1 x1 ∧ @Ne Nat q.1 d1 ∧ @Ne Nat q.1 d2 ∧ @Ne Nat q.1 cm) → Ahead extra more' → IsOpt gov' (goOf cl (done ++ [f])) → IsOpt tdv' (toldOf cl (done ++ [f])) → (Fr H L h (fun y => if y = Str.ofString "frame" then some (.ref fa) else if y = Str.ofString "code" then some (.int c tv) else if y = Str.ofString "taken" then some (.ref tn) else if y = Str.ofString "came" then some (.ref cm) else if y = Str.ofString "peer" then some (.str (pS cl) tp) else if y = Str.ofString "most" then some mv else mm y)) → News H L h ((d1, crDict w.params t1 (.str (pS cl) tp) mv (.ref l) gov' tdv') :: (cm, listOf vs.toArray n1) :: (L + 1, oc) :: (x1, instObj 258 d1) :: (extra ++ (d2, fsDict w.params t2 (.bytes b tb)) :: more')) → wpN (model PySem.Challenge.rw_sj0117_01.row.prog w) (callerA.deeper (env L)) (execs ((inB body).drop 2) (env L)) JJ (fun _ _ => False) {s with heap := h, toks := tk } := by
    intro h tk tv l nl p t u gov' tdv' more' hl1 hp1 hsm hne hA' hg' ht' F2 N2
    have htn'' := hsm _ htn
    have hcmX : ∀ q ∈ (d1, crDict w.params t1 (.str (pS cl) tp) mv (.ref l) gov' tdv') :: (L + 1, oc) :: (x1, instObj 258 d1) :: (extra ++ (d2, fsDict w.params t2 (.bytes b tb)) :: more'), @Ne Nat q.1 cm :=
      List.forall_mem_cons.mpr ⟨cmd.symm, List.forall_mem_cons.mpr ⟨q4 _ (hsub _ hcell), List.forall_mem_cons.mpr ⟨cmx.symm, fun q hq => (List.mem_append.mp hq).elim (fun h => (hA _ (.tail _ (.tail _ (.tail _ (.head _)))) q h).symm) fun h => (List.mem_cons.mp h).elim (fun e => by rw [e]; exact cmd2.symm) fun h => (hne q h).2.2.2⟩⟩⟩
    refine splitC 2 _ fun J2 hJ2 => law_g3 (m := m) (vs := vs) (n1 := n1) (mm := (fun y => if y = Str.ofString "peer" then some (.str (pS cl) tp) else if y = Str.ofString "most" then some mv else mm y)) (n2 := n2) (tvs := tvs) X T hb F2 (newsSub N2 (by lcg_sub)) hcmX (q4 _ htn) (by rw [hvs.1]; omega) (by omega) fun h2 tk2 tn' n2' hfr F3 N3 => hJ2 _ (rest2 h2 tk2 tv l nl p t u gov' tdv' more' tn' n2' hl1 hp1 hsm hne hA' hg' ht' (fun q hq => hfr q ?_) F3 (newsSub N3 (by lcg_sub)))
    revert q; lcg_sub
  refine splitC 2 (inB body) fun J1 hJ1 => ?_
  have hN : News H L hp ((d1, crDict w.params t1 (.str (pS cl) tp) mv sv_ gov tdv) :: (cm, listOf vs.toArray n1) :: (L + 1, oc) :: (x1, instObj 258 d1) :: (extra ++ (d2, fsDict w.params t2 (.bytes b tb)) :: more)) := newsSub N (by lcg_sub)
  by_cases hd0 : done = []
  · have e1 : f = .sett := hf0 hd0
    have hvs0 : vs = [] := List.length_eq_zero_iff.mp (by rw [hvs.1, hd0]; rfl)
    have hsv : sv_ = .none := hS.elim (fun h => h.2) (fun h => absurd hd0 h.1)
    have hgo : gov = .none := by rw [hd0] at hg; exact isNone (goNil cl) hg
    have hto : tdv = .none := by rw [hd0] at ht; exact isNone (toldNil cl) ht
    have hc0 : c = 0 := by rw [← hc, if_pos hd0]
    have hN0 : News H L hp ((d1, crDict w.params t1 (.str (pS cl) tp) mv .none .none .none) :: (cm, listOf ([] : List Value).toArray n1) :: (L + 1, oc) :: (x1, instObj 258 d1) :: (extra ++ (d2, fsDict w.params t2 (.bytes b tb)) :: more)) := by rw [hsv, hgo, hto, hvs0] at hN; exact hN
    clear hN
    refine law_g1 (m := m) X T hb hcd d1x.symm hm (e1 ▸ hfv) (fun q hq => List.mem_append_right _ (.tail _ (hsub q hq))) hX F hN0 ⟨cmd, hcd1⟩ fun h tk tv l nl p t u more2 F2 ml mp2 msub hl0 N2 => ?_
    have hll : ∀ q ∈ extra ++ (x1, instObj 258 d1) :: (d1, crDict w.params t1 (.str (pS cl) tp) mv sv_ gov tdv) :: (d2, fsDict w.params t2 (.bytes b tb)) :: (cm, listOf vs.toArray n1) :: more, @Ne Nat l q.1 := fun q hq e => by
      have z := (N q hq).1
      rw [← e, hl0] at z
      cases z
    refine hJ1 _ (rest1 h tk tv l nl p t u .none .none ((l, listOf #[.ref p] nl) :: more) (.head _) (.tail _ (hsub _ mp2)) (sub_skip sub_all) (List.forall_mem_cons.mpr ⟨⟨hll _ (List.mem_append_right _ (.head _)), hll _ (List.mem_append_right _ (.tail _ (.head _))), hll _ (List.mem_append_right _ (.tail _ (.tail _ (.head _)))), hll _ (List.mem_append_right _ (.tail _ (.tail _ (.tail _ (.head _)))))⟩, fun q hq => ⟨q1 q hq, q2 q hq, q3 q hq, q4 q hq⟩⟩) ?_ ?_ ?_ (by rw [hc0]; exact F2) (by rw [hvs0]; exact newsSub N2 (sub_keep (sub_keep (sub_keep (sub_keep (sub_app (fun q hq => msub _ (List.mem_append_left _ hq)) (sub_mem (msub _ (List.mem_append_right _ (.head _))) (sub_mem ml fun q hq => msub _ (List.mem_append_right _ (.tail _ hq)))))))))))
    · intro r hr q hq
      rcases List.mem_cons.mp hr with e | hr
      · rw [e]; exact hll q (List.mem_append_left _ hq)
      · exact hA r (.tail _ (.tail _ (.tail _ (.tail _ hr)))) q hq
    · rw [hd0, e1]; exact goSett cl
    · rw [hd0, e1]; exact toldSett cl
  · have hd1 : 0 < done.length := List.length_pos_iff.mpr hd0
    obtain ⟨_, l, nl, p, t, u, hsv, hl1, hp1⟩ := hS.elim (fun h => absurd h.1 hd0) id
    rw [if_neg hd0] at hc
    rw [hsv] at hN
    refine law_g2 (m := m) X T hb hcd d1x.symm hm (hfv.mono fun q hq => List.mem_append_right _ (.tail _ (hsub q hq))) hX (hvs.mono fun q hq => List.mem_append_right _ (.tail _ hq)) hd1 (Nat.le_of_lt h20) hg ht F hN ⟨cmd, hcd1⟩ fun h tk tv gov' tdv' hg' ht' F2 N2 => ?_
    exact hJ1 _ (rest1 h tk tv l nl p t u gov' tdv' more hl1 hp1 sub_all (fun q hq => ⟨q1 q hq, q2 q hq, q3 q hq, q4 q hq⟩) (fun r hr q hq => hA r (.tail _ (.tail _ (.tail _ (.tail _ hr)))) q hq) hg' ht' (by rw [← hc]; exact F2) N2)

end
section
theorem cntF_go {cl : Bool} {n : Int} : ∀ {l : List Fm}, n ∈ cntF cl true l → Fm.goaway n ∈ l := by
  intro l h
  simp only [cntF, if_true, List.mem_filter, numsK, List.mem_filterMap] at h
  obtain ⟨⟨f, hf, e⟩, _⟩ := h
  cases f <;> simp [numK] at e
  rw [← e]; exact hf
/-- what has come and what comes still, at a place in the octets -/
structure CutAt (rows : List Fm) (a : Nat) (done todo : List Fm) (r : List Int) : Prop where
  app : done ++ todo = rows
  inc : Inc r
  eq : r ++ (encs rows).drop a = encs todo
theorem CutAt.start (rows : List Fm) : CutAt rows 0 [] rows [] := ⟨rfl, .inl rfl, rfl⟩
theorem CutAt.ends {rows : List Fm} {a : Nat} {done todo : List Fm} {r : List Int} (c : CutAt rows a done todo r) (h : (encs rows).length ≤ a) : done = rows := by
  have e := c.eq
  rw [List.drop_of_length_le h, List.append_nil] at e
  have i := c.inc
  rw [e] at i
  have z := c.app
  rw [inc_none i, List.append_nil] at z
  exact z
theorem CutAt.step {rows : List Fm} {a : Nat} {done todo : List Fm} {r : List Int} (c : CutAt rows a done todo r) (hs : ∀ f ∈ rows, fsmall f) (n : Nat) :
    ∃ fs todo' r', todo = fs ++ todo' ∧ r ++ ((encs rows).drop a).take n = encs fs ++ r' ∧ CutAt rows (a + n) (done ++ fs) todo' r' := by
  obtain ⟨k, r', _, h1, h2, h3⟩ := cut_frames todo (r.length + n) fun f hf => hs f (by rw [← c.app]; exact List.mem_append_right _ hf)
  refine ⟨todo.take k, todo.drop k, r', (List.take_append_drop _ _).symm, ?_, ⟨?_, h2, ?_⟩⟩
  · rw [← h1, ← c.eq, List.take_append, List.take_of_length_le (Nat.le_add_right _ _), Nat.add_sub_cancel_left]
  · rw [List.append_assoc, List.take_append_drop, c.app]
  · rw [← h3, ← c.eq, List.drop_append, List.drop_of_length_le (Nat.le_add_right _ _), List.nil_append, Nat.add_sub_cancel_left, List.drop_drop]
theorem CoreP.weak {P : Params} {x1 d1 d2 cm : Addr} {t1 t2 : Nat → Tok} {cl : Bool} {tp : Tok} {mv : Value} {mp : Option Int} {rest rest' : List (Addr × Obj)} {b : Array UInt8} {tb : Tok} {done : List Fm} {tn : Addr} {news : List (Addr × Obj)}
    (C : CoreP P x1 d1 d2 cm t1 t2 cl tp mv mp rest b tb done tn news) (h : ∀ q ∈ rest', q ∈ rest) : CoreP P x1 d1 d2 cm t1 t2 cl tp mv mp rest' b tb done tn news := by
  obtain ⟨sv, gov, tdv, vs, n1, tvs, n2, more, e, hL, hvs, hg, ht, hS, htn, htv, hsub⟩ := C
  exact ⟨sv, gov, tdv, vs, n1, tvs, n2, more, e, hL, hvs, hg, ht, hS, htn, htv, fun q hq => hsub q (h q hq)⟩
theorem CoreP.rest {P : Params} {x1 d1 d2 cm : Addr} {t1 t2 : Nat → Tok} {cl : Bool} {tp : Tok} {mv : Value} {mp : Option Int} {rest : List (Addr × Obj)} {b : Array UInt8} {tb : Tok} {done : List Fm} {tn : Addr} {news : List (Addr × Obj)}
    (C : CoreP P x1 d1 d2 cm t1 t2 cl tp mv mp rest b tb done tn news) : ∀ q ∈ rest, q ∈ news := by
  obtain ⟨sv, gov, tdv, vs, n1, tvs, n2, more, rfl, hL, hvs, hg, ht, hS, htn, htv, hsub⟩ := C
  exact fun q hq => .tail _ (.tail _ (.tail _ (.tail _ (hsub q hq))))
set_option maxHeartbeats 4000000 in
/-- the inner loop -/
theorem law_inner {H : Heap} (X : (hd.heap_1 w.params).In H) (T : Top hd.view_1 (looseW hd.view_1 []) mean mg mb H) {L : Addr} {m : Str → Option Value} {hp : Heap} {tk0 : Tok} {body : List Stmt} {env : Addr → Env} (hb : LawBody w body env) {px : Pos} {x1 d1 d2 cm tn l I J : Addr} {t1 t2 : Nat → Tok} {cl : Bool} {tp : Tok} {mv : Value} {mp : Option Int} {oc oI oJ : Obj} {rest core : List (Addr × Obj)} {b : Array UInt8} {tb : Tok} {done fs : List Fm} {vs : List Value} {nl : Nat} {cv fo : Option Value} {mm : Str → Option Value} {R : Result → Shared → Prop}
  (hm : IsOpt mv mp) (hcd : oc.data = .cell (some (.ref x1))) (hcell : (L + 1, oc) ∈ rest) (hl : (l, listOf vs.toArray nl) ∈ rest) (hvs : FmsIn rest vs fs) (hf0 : ∀ f r, done ++ fs = f :: r → f = .sett) (h20 : (done ++ fs).length ≤ 20) (hn : ∀ n, Fm.goaway n ∈ done ++ fs → 0 ≤ n ∧ n < 22)
  (C : CoreP w.params x1 d1 d2 cm t1 t2 cl tp mv mp rest b tb done tn core) (hA : Ahead [(I, oI), (J, oJ)] core) (hIJ : @Ne Nat J I) (hI : LI "list_iterator" oI l 0)
  (F : Fr H L hp (fun y => if y = Str.ofString "frame" then fo else if y = Str.ofString "code" then cv else if y = Str.ofString "taken" then some (.ref tn) else if y = Str.ofString "came" then some (.ref cm) else if y = Str.ofString "peer" then some (.str (pS cl) tp) else if y = Str.ofString "most" then some mv else mm y)) (N : News H L hp ((I, oI) :: (J, oJ) :: core))
  (ret : ∀ h tk tn' cv' fo' core', CoreP w.params x1 d1 d2 cm t1 t2 cl tp mv mp rest b tb (done ++ fs) tn' core' → Ahead [(J, oJ)] core' →
    Fr H L h (fun y => if y = Str.ofString "frame" then fo' else if y = Str.ofString "code" then cv' else if y = Str.ofString "taken" then some (.ref tn') else if y = Str.ofString "came" then some (.ref cm) else if y = Str.ofString "peer" then some (.str (pS cl) tp) else if y = Str.ofString "most" then some mv else mm y) → News H L h ((J, oJ) :: core') → R (.ok .next) {s with heap := h, toks := tk}) :
  codeN (model PySem.Challenge.rw_sj0117_01.row.prog w) (callerA.deeper (env L)) (.forLoop (.Name (Str.ofString "frame") px) (.ref I) (inB body) [] (env L)) R {s with heap := hp, toks := tk0} := by
  have hk1 : (env L).kindOf (Str.ofString "frame") = some .local := by
    obtain ⟨rfl, rfl⟩ := lawIs hb
    dsimp only [lawB, lawE, lawSub]
    try simp only [List.drop_succ_cons, List.drop_zero, List.take_succ_cons, List.take_zero]
    exact rfl
  have hk2 : ((env L).scope.kind == .class || ((env L).scope.kind == .module && (env L).locals != (env L).globals)) = false := by
    obtain ⟨rfl, rfl⟩ := lawIs hb
    dsimp only [lawB, lawE, lawSub]
    try simp only [List.drop_succ_cons, List.drop_zero, List.take_succ_cons, List.take_zero]
    exact rfl
  have hk3 : (env L).locals = L := by
    obtain ⟨rfl, rfl⟩ := lawIs hb
    dsimp only [lawB, lawE, lawSub]
    try simp only [List.drop_succ_cons, List.drop_zero, List.take_succ_cons, List.take_zero]
    exact rfl
  refine forListN (H := H) (L := L) (s0 := s) (items := vs) (fun j m news => ∃ tn' cv' fo' core', m = (fun y => if y = Str.ofString "frame" then fo' else if y = Str.ofString "code" then cv' else if y = Str.ofString "taken" then some (.ref tn') else if y = Str.ofString "came" then some (.ref cm) else if y = Str.ofString "peer" then some (.str (pS cl) tp) else if y = Str.ofString "most" then some mv else mm y) ∧ news = (J, oJ) :: core' ∧ CoreP w.params x1 d1 d2 cm t1 t2 cl tp mv mp rest b tb (done ++ fs.take j) tn' core' ∧ Ahead [(J, oJ)] core')
    rfl hk1 hk2 hk3 ?mem ?step ?done vs.length 0 {s with heap := hp, toks := tk0} oI (Nat.zero_add _) hI ⟨hp, tk0, _, (J, oJ) :: core, rfl, F, N, List.forall_mem_cons.mpr ⟨hIJ, fun q hq => hA q hq _ (.head _)⟩, tn, cv, fo, core, rfl, rfl, by rw [List.take_zero, List.append_nil]; exact C, fun r hr q hq => hA r hr q (.tail _ hq)⟩
  case mem =>
    rintro i m news ⟨tn', cv', fo', core', _, rfl, C', _⟩
    exact ⟨nl, .tail _ (C'.rest _ hl)⟩
  case done =>
    rintro h tk m news ⟨tn', cv', fo', core', rfl, rfl, C', A'⟩ F' N'
    rw [hvs.1, List.take_length] at C'
    exact ret h tk tn' cv' fo' core' C' A' F' N'
  case step =>
    intro i h tk m news v o hv hPP ho F' N' hI'
    refine postVar fun J2 hJ2 => ?_
    obtain ⟨tn', cv', fo', core', rfl, rfl, C', A'⟩ := hPP
    have hli : i < fs.length := by rw [← hvs.1]; exact (List.getElem?_eq_some_iff.mp hv).1
    have hf : fs[i]? = some fs[i] := List.getElem?_eq_getElem hli
    have hdrop := List.drop_eq_getElem_cons hli
    have htake : fs.take (i + 1) = fs.take i ++ [fs[i]] := (List.take_append_getElem hli).symm
    generalize fs[i] = f at *
    have hall : done ++ fs.take i ++ f :: fs.drop (i + 1) = done ++ fs := by rw [List.append_assoc, ← hdrop, List.take_append_drop]
    have hvf := hvs.2 i v f hv hf
    obtain ⟨fa, rfl⟩ := fm_ref hvf
    have F2 : Fr H L h (fun y => if y = Str.ofString "frame" then some (.ref fa) else if y = Str.ofString "code" then cv' else if y = Str.ofString "taken" then some (.ref tn') else if y = Str.ofString "came" then some (.ref cm) else if y = Str.ofString "peer" then some (.str (pS cl) tp) else if y = Str.ofString "most" then some mv else mm y) := frEq F' fun y => by
      by_cases e : y = Str.ofString "frame" <;> simp only [e, if_true, if_false]
    have hl20 : (done ++ fs.take i).length < 20 := by
      have z := congrArg List.length hall
      rw [List.length_append, List.length_cons] at z
      omega
    refine law_turn (m := m) (extra := [(I, o), (J, oJ)]) X T hb hm hcd hcell hvf (fun e => hf0 f (fs.drop (i + 1)) (by rw [← hall, e]; rfl)) hl20 (fun n hn' => hn n (by
        have z := cntF_go hn'
        rw [← hall]
        rcases List.mem_append.mp z with z | z
        · exact List.mem_append_left _ z
        · rw [List.mem_singleton.mp z]; exact List.mem_append_right _ (.head _))) C' (fun r hr q hq => ?_) F2 N' fun h2 tk2 tn2 cv2 core2 C2 A2 F3 N3 => ?_
    · rcases List.mem_cons.mp hq with rfl | hq
      · exact hI' r (.tail _ hr)
      · exact A' r hr q hq
    · rw [List.append_assoc, ← htake] at C2
      exact hJ2 _ _ ⟨rfl, h2, tk2, _, (J, oJ) :: core2, rfl, F3, N3, List.forall_mem_cons.mpr ⟨hI' _ (.head _), fun q hq => A2 q hq _ (.head _)⟩, tn2, cv2, _, core2, rfl, rfl, C2, fun r hr q hq => A2 r hr q (.tail _ hq)⟩

end
section
example : True := by w_top off; exact trivial
theorem pick_first (v0 : Value) (rv : List Value) : (slicePick (v0 :: rv).toArray none (some 1) none).toList = [v0] := by
  have e : sliceBounds none (some 1) none (v0 :: rv).toArray.size = (((0 : Nat) : Int), ((1 : Nat) : Int), 1) := by
    simp only [sliceBounds, Option.getD_none, show (1 : Int) > 0 by decide, if_true, if_neg (show ¬ ((1 : Int) < 0) by decide), List.size_toArray, List.length_cons]
    have z : (1 : Int) ≤ ((rv.length + 1 : Nat) : Int) := Int.ofNat_le.mpr (Nat.le_add_left 1 _)
    rw [Int.min_eq_left z]
    rfl
  rw [kmk_pick_nat _ e]
  rfl
theorem pick_back (v0 : Value) (rv : List Value) : (slicePick (v0 :: rv).toArray none (some 0) (some (-1))).toList = rv.reverse := by
  have e : sliceBounds none (some 0) (some (-1)) (v0 :: rv).toArray.size = ((rv.length : Int), 0, -1) := by
    simp only [sliceBounds, Option.getD_some, show ¬ ((-1 : Int) > 0) by decide, if_false, if_neg (show ¬ ((0 : Int) < 0) by decide), List.size_toArray, List.length_cons]
    congr 1
    · omega
    · congr 1
      omega
  unfold slicePick
  rw [e]
  show (sliceRange (rv.length : Int) 0 (-1)).filterMap ((v0 :: rv).toArray[·]?) = _
  have e2 : sliceRange (rv.length : Int) 0 (-1) = ((List.range rv.length).reverse).map (· + 1) := by
    rw [← krv_range, List.map_map]
    unfold sliceRange
    have e3 : (if (-1 : Int) > 0 then (if (rv.length : Int) < 0 then (0 - (rv.length : Int) + -1 - 1) / -1 else 0) else (if (rv.length : Int) > 0 then ((rv.length : Int) - 0 - -1 - 1) / (- -1) else 0)).toNat = rv.length := by
      rw [if_neg (by decide)]
      split
      · rw [show (- -1 : Int) = 1 by decide, Int.ediv_one]; omega
      · omega
    try dsimp only
    rw [e3]
    refine List.map_congr_left fun k hk => ?_
    have := List.mem_range.mp hk
    show ((rv.length : Int) + -1 * (k : Int)).toNat = rv.length - 1 - k + 1
    omega
  rw [e2, List.filterMap_map, List.filterMap_reverse]
  have e4 : ((fun i => (v0 :: rv).toArray[i]?) ∘ fun x => x + 1) = fun i => rv.toArray[i]? := by funext i; simp
  rw [e4]
  have := krv_all rv.toArray
  rw [List.size_toArray] at this
  rw [this]
theorem newsAdd {H h : Heap} {L : Addr} {a b : List (Addr × Obj)} (ha : News H L h a) (hb : News H L h b) : News H L h (a ++ b) := fun q hq => (List.mem_append.mp hq).elim (ha q) (hb q)
theorem newsNew {H h0 h : Heap} {L : Addr} {m : Str → Option Value} {a : List (Addr × Obj)} (F : Fr H L h0 m) (hn : ∀ q ∈ a, h0.get? q.1 = none ∧ h.get? q.1 = some q.2) : News H L h a := fun q hq => by
  obtain ⟨h1, h2⟩ := hn q hq
  refine ⟨h2, fun e => ?_, ?_⟩
  · obtain ⟨o, _, _, e2, _⟩ := F.ns
    rw [← e, h1] at e2
    cases e2
  · cases e : H.get? q.1 with
    | none => rfl
    | some o => have z := F.keep _ _ e; rw [h1] at z; cases z
theorem newOff {H h0 : Heap} {L : Addr} {b : List (Addr × Obj)} {x : Addr} {o : Obj} (N : News H L h0 b) (hm : (x, o) ∈ b) {q : Addr × Obj} (h1 : h0.get? q.1 = none) : @Ne Nat q.1 x := fun e => by
  have z := (N _ hm).1
  rw [← e, h1] at z
  cases z

end
section
example : True := by w_top off; exact trivial
/-- the main loop's body -/
def outB (body : List Stmt) : List Stmt := match body.drop 6 with
  | .For _ _ b _ _ :: _ => b
  | _ => []
theorem piece_at {ks : List Int} {a z : Nat} : List.take (clipAt ks.length ((a : Int) + (z : Int)) - clipAt ks.length (a : Int)) (List.drop (clipAt ks.length (a : Int)) ks) = (ks.drop a).take z := by
  rcases Nat.le_total a ks.length with h | h
  · have e1 : clipAt ks.length (a : Int) = a := clip_le (Int.natCast_nonneg a) (Int.ofNat_le.mpr h)
    rw [e1]
    rcases Nat.le_total (a + z) ks.length with h2 | h2
    · have e2 : clipAt ks.length ((a : Int) + (z : Int)) = a + z := clip_le (i := ((a + z : Nat) : Int)) (Int.natCast_nonneg _) (Int.ofNat_le.mpr h2)
      rw [e2, Nat.add_sub_cancel_left]
    · have e2 : clipAt ks.length ((a : Int) + (z : Int)) = ks.length := clip_ge (i := ((a + z : Nat) : Int)) (Int.ofNat_le.mpr h2)
      rw [e2, List.take_of_length_le (Nat.le_of_eq List.length_drop), List.take_of_length_le (by rw [List.length_drop]; omega)]
  · have e1 : clipAt ks.length (a : Int) = ks.length := clip_ge (Int.ofNat_le.mpr h)
    rw [e1, List.drop_of_length_le (Nat.le_refl _), List.drop_of_length_le h, List.take_nil, List.take_nil]
set_option maxHeartbeats 4000000 in
/-- a turn of the main loop -/
theorem law_oturn {H : Heap} (X : (hd.heap_1 w.params).In H) (T : Top hd.view_1 (looseW hd.view_1 []) mean mg mb H) {L : Addr} {m : Str → Option Value} {hp : Heap} {tk0 : Tok} {body : List Stmt} {env : Addr → Env} (hb : LawBody w body env) {x1 d1 x2 d2 cm tn J : Addr} {t1 t2 : Nat → Tok} {cl : Bool} {tp : Tok} {mv : Value} {mp : Option Int} {oc oJ : Obj} {rest core : List (Addr × Obj)} {b ob : Array UInt8} {tb tob : Tok} {rows done todo : List Fm} {r : List Int} {cv fo : Option Value} {mm : Str → Option Value} {av : Int} {a z : Nat} {ta tz : Tok}
  (hm : IsOpt mv mp) (hcd : oc.data = .cell (some (.ref x1))) (hcell : (L + 1, oc) ∈ rest) (hx2 : (x2, instObj 201 d2) ∈ rest) (hxd2 : @Ne Nat x2 d2) (hob : KBw.bInts ob = encs rows) (hr : KBw.bInts b = r) (c : CutAt rows a done todo r) (hav : av = (a : Int)) (hz4 : z ≤ 4)
  (hf0 : ∀ f r, rows = f :: r → f = .sett) (h9 : rows.length ≤ 9) (hsm : ∀ f ∈ rows, fsmall f) (hn : ∀ n, Fm.goaway n ∈ rows → 0 ≤ n ∧ n < 22)
  (C : CoreP w.params x1 d1 d2 cm t1 t2 cl tp mv mp rest b tb done tn core) (hA : Ahead [(J, oJ)] core)
  (F : Fr H L hp (fun y => if y = Str.ofString "frame" then fo else if y = Str.ofString "code" then cv else if y = Str.ofString "taken" then some (.ref tn) else if y = Str.ofString "came" then some (.ref cm) else if y = Str.ofString "peer" then some (.str (pS cl) tp) else if y = Str.ofString "most" then some mv else if y = Str.ofString "at" then some (.int av ta) else if y = Str.ofString "octets" then some (.bytes ob tob) else if y = Str.ofString "size" then some (.int z tz) else if y = Str.ofString "stream" then some (.ref x2) else mm y)) (N : News H L hp ((J, oJ) :: core))
  {JJ : Flow → Shared → Prop} (hJ : ∀ h tk tn' cv' fo' core' b' tb' done' todo', CutAt rows (a + z) done' todo' (KBw.bInts b') → CoreP w.params x1 d1 d2 cm t1 t2 cl tp mv mp rest b' tb' done' tn' core' → Ahead [(J, oJ)] core' → (Fr H L h (fun y => if y = Str.ofString "frame" then fo' else if y = Str.ofString "code" then cv' else if y = Str.ofString "taken" then some (.ref tn') else if y = Str.ofString "came" then some (.ref cm) else if y = Str.ofString "peer" then some (.str (pS cl) tp) else if y = Str.ofString "most" then some mv else if y = Str.ofString "at" then some (.int av ta) else if y = Str.ofString "octets" then some (.bytes ob tob) else if y = Str.ofString "size" then some (.int z tz) else if y = Str.ofString "stream" then some (.ref x2) else mm y)) → News H L h ((J, oJ) :: core') → JJ .next {s with heap := h, toks := tk }) :
  wpN (model PySem.Challenge.rw_sj0117_01.row.prog w) (callerA.deeper (env L)) (execs (outB body) (env L)) JJ (fun _ _ => False) {s with heap := hp, toks := tk0} := by
  have hbb := hb
  obtain ⟨sv, gov, tdv, vs0, n1, tvs, n2, more, rfl, hL, hvs0, hg, ht, hS, htn, htv, hsub⟩ := C
  obtain ⟨fs, todo', r', rfl, hcut, c'⟩ := c.step hsm z
  have q3 : ∀ q ∈ more, @Ne Nat q.1 d2 := fun q hq => hL.off q hq _ (.tail _ (.tail _ (.head _)))
  have a1 := Nd.head hL.nd
  have a2 := Nd.head (Nd.tail hL.nd)
  have a3 := Nd.head (Nd.tail (Nd.tail hL.nd))
  have d2x : @Ne Nat d2 x1 := a1 _ (.tail _ (.head _))
  have d2d : @Ne Nat d2 d1 := a2 _ (.head _)
  have cmd2 : @Ne Nat cm d2 := a3 _ (.head _)
  have Jd2 : @Ne Nat J d2 := (hA _ (.tail _ (.tail _ (.head _))) _ (.head _)).symm
  clear a1 a2 a3
  have hbd : (encs rows).length < 100 := by have := encs_bound rows; omega
  have hrl : r.length ≤ (encs rows).length := by
    have e := congrArg List.length c.eq
    have e2 : (encs (done ++ (fs ++ todo'))).length = (encs rows).length := by rw [c.app]
    have e3 : (encs (done ++ (fs ++ todo'))).length = (encs done).length + (encs (fs ++ todo')).length := by unfold encs; rw [List.flatMap_append, List.length_append]
    rw [List.length_append] at e
    omega
  have hx2m := hsub _ hx2
  replace N := newsSub N (b := (x2, instObj 201 d2) :: (d2, fsDict w.params t2 (.bytes b tb)) :: (J, oJ) :: (x1, instObj 258 d1) :: (d1, crDict w.params t1 (.str (pS cl) tp) mv sv gov tdv) :: (cm, listOf vs0.toArray n1) :: more) (by lcg_sub)
  obtain ⟨rfl, rfl⟩ := lawIs hb
  dsimp only [lawB, lawE, lawSub]
  try simp only [List.drop_succ_cons, List.drop_zero, List.take_succ_cons, List.take_zero]
  refine wpN_execs (ForN (stopT ?_))
  w_strict k_steps
  rename Fr _ _ _ _ => F1
  rename News _ _ _ _ => N1
  rename KBw.bInts (KBy.picked _ _ _) = _ => hpk
  subst hav
  rw [piece_at] at hpk
  have hfsm : ∀ f ∈ fs, fsmall f := fun f hf => hsm f (by rw [← c.app]; exact List.mem_append_right _ (List.mem_append_left _ hf))
  refine wp_atF (f := by exact ⟨rfl, Nat.le_of_ble_eq_true rfl, Nat.le_of_ble_eq_true rfl⟩) (hf := by rfl) (fstake (outer := []) (fr := []) (r := r') X T F1 (newsSub N1 (b := fsLed w.params x2 d2 t2 (.bytes b tb) ++ []) (sub_mem (by k_mem) (sub_mem (by k_mem) sub_nil))) trivial rfl ?hke (fun _ _ => List.not_mem_nil) hxd2 hr hpk hcut (by omega) ?hdl c'.inc hfsm fun l vs nl tl b2 tb2 h' tk' hb2 hv hnew htl aw hd' => ?_)
  case hke => exact funK rfl
  case hdl => exact Nat.lt_of_le_of_lt (List.length_take_le _ _) (by omega)
  obtain ⟨F2, N2⟩ := awayLed (d := d2) F1 (newsSub N1 (b := (d2, fsDict w.params t2 (.bytes b tb)) :: (x2, instObj 201 d2) :: (J, oJ) :: (x1, instObj 258 d1) :: (d1, crDict w.params t1 (.str (pS cl) tp) mv sv gov tdv) :: (cm, listOf vs0.toArray n1) :: more) (by lcg_sub)) aw hd' (List.forall_mem_cons.mpr ⟨hxd2, List.forall_mem_cons.mpr ⟨Jd2, List.forall_mem_cons.mpr ⟨d2x.symm, List.forall_mem_cons.mpr ⟨d2d.symm, List.forall_mem_cons.mpr ⟨cmd2, q3⟩⟩⟩⟩⟩)
  have N3 := newsAdd (newsNew F1 hnew) N2
  have hoff : ∀ q ∈ (l, listOf vs.toArray nl) :: tl, ∀ p ∈ (x2, instObj 201 d2) :: (d2, fsDict w.params t2 (.bytes b tb)) :: (J, oJ) :: (x1, instObj 258 d1) :: (d1, crDict w.params t1 (.str (pS cl) tp) mv sv gov tdv) :: (cm, listOf vs0.toArray n1) :: more, @Ne Nat q.1 p.1 := fun q hq p hp => newOff N1 hp (hnew q hq).1
  clear F1 N1 N2 hnew aw
  refine unstop (iterL F2 N3 (lstAt (N3 _ (.head _)).1) fun I h2 F4 N4 hI _ => ?_)
  refine law_inner (m := m) (rest := (l, listOf vs.toArray nl) :: tl ++ rest) (core := (x1, instObj 258 d1) :: (d1, crDict w.params t1 (.str (pS cl) tp) mv sv gov tdv) :: (d2, fsDict w.params t2 (.bytes b2 tb2)) :: (cm, listOf vs0.toArray n1) :: ((l, listOf vs.toArray nl) :: tl ++ more)) (oI := itO l 0) (J := J) (oJ := oJ) (fs := fs) (done := done) X T hbb hm hcd (List.mem_append_right _ hcell) (.head _) (hv.mono fun q hq => .tail _ (List.mem_append_left _ hq)) ?hf0 ?h20 ?hn
    ⟨sv, gov, tdv, vs0, n1, tvs, n2, (l, listOf vs.toArray nl) :: tl ++ more, rfl, ⟨hL.nd, fun q hq => ?off⟩, hvs0.mono fun q hq => List.mem_append_right _ hq, hg, ht, ?sett, List.mem_append_right _ htn, htv.mono fun q hq => List.mem_append_right _ hq, ?sub⟩ ?ahead ?ji ⟨rfl, rfl⟩ F4 (newsSub N4 ?nsub) ?ret
  case hf0 => exact fun f g e => hf0 f (g ++ todo') (by rw [← c'.app, e]; rfl)
  case h20 => have z := congrArg List.length c'.app; rw [List.length_append] at z; omega
  case hn => exact fun n hn' => hn n (by rw [← c'.app]; exact List.mem_append_left _ hn')
  case off =>
    rcases List.mem_append.mp hq with hq | hq
    · exact List.forall_mem_cons.mpr ⟨hoff q hq (x1, instObj 258 d1) (.tail _ (.tail _ (.tail _ (.head _)))), List.forall_mem_cons.mpr ⟨hoff q hq (d1, crDict w.params t1 (.str (pS cl) tp) mv sv gov tdv) (.tail _ (.tail _ (.tail _ (.tail _ (.head _))))), List.forall_mem_cons.mpr ⟨hoff q hq (d2, fsDict w.params t2 (.bytes b tb)) (.tail _ (.head _)), List.forall_mem_cons.mpr ⟨hoff q hq (cm, listOf vs0.toArray n1) (.tail _ (.tail _ (.tail _ (.tail _ (.tail _ (.head _)))))), fun q hq => absurd hq List.not_mem_nil⟩⟩⟩⟩
    · have z := hL.off q hq
      exact List.forall_mem_cons.mpr ⟨z (x1, instObj 258 d1) (.head _), List.forall_mem_cons.mpr ⟨z (d1, crDict w.params t1 (.str (pS cl) tp) mv sv gov tdv) (.tail _ (.head _)), List.forall_mem_cons.mpr ⟨z (d2, fsDict w.params t2 (.bytes b tb)) (.tail _ (.tail _ (.head _))), List.forall_mem_cons.mpr ⟨z (cm, listOf vs0.toArray n1) (.tail _ (.tail _ (.tail _ (.head _)))), fun q hq => absurd hq List.not_mem_nil⟩⟩⟩⟩
  case sett =>
    rcases hS with h | ⟨h, l', nl', p', t', u', e, h1, h2⟩
    · exact .inl h
    · exact .inr ⟨h, l', nl', p', t', u', e, List.mem_append_right _ h1, List.mem_append_right _ h2⟩
  case sub =>
    intro q hq
    rcases List.mem_append.mp hq with hq | hq
    · exact List.mem_append_left _ hq
    · exact List.mem_append_right _ (hsub q hq)
  case ji => exact Nat.ne_of_lt (hI (J, oJ) (List.mem_append_right _ (.tail _ (.tail _ (.head _)))))
  case ahead =>
    intro r hr q hq
    rcases List.mem_cons.mp hq with rfl | hq
    · have subC : ∀ q ∈ (x1, instObj 258 d1) :: (d1, crDict w.params t1 (.str (pS cl) tp) mv sv gov tdv) :: (d2, fsDict w.params t2 (.bytes b2 tb2)) :: (cm, listOf vs0.toArray n1) :: ((l, listOf vs.toArray nl) :: tl ++ more), q ∈ (l, listOf vs.toArray nl) :: tl ++ (d2, fsDict w.params t2 (.bytes b2 tb2)) :: (x2, instObj 201 d2) :: (J, oJ) :: (x1, instObj 258 d1) :: (d1, crDict w.params t1 (.str (pS cl) tp) mv sv gov tdv) :: (cm, listOf vs0.toArray n1) :: more := by lcg_sub
      exact Nat.ne_of_lt (hI r (subC r hr))
    · rw [List.mem_singleton.mp hq]
      simp only [List.mem_cons, List.mem_append] at hr
      rcases hr with h | h | h | h | h | h
      · rw [h]; exact hA _ (.head _) _ (.head _)
      · rw [h]; exact hA (d1, crDict w.params t1 (.str (pS cl) tp) mv sv gov tdv) (.tail _ (.head _)) _ (.head _)
      · rw [h]; exact Jd2.symm
      · rw [h]; exact hA (cm, listOf vs0.toArray n1) (.tail _ (.tail _ (.tail _ (.head _)))) _ (.head _)
      · exact hoff r (List.mem_cons.mpr h) (J, oJ) (.tail _ (.tail _ (.head _)))
      · exact hA r (.tail _ (.tail _ (.tail _ (.tail _ h)))) _ (.head _)
  case nsub =>
    lcg_sub
  case ret =>
    intro h3 tk3 tn' cv' fo' core' C' A' F5 N5
    refine wpN_any (wpAny_execs_nil <| hJ h3 tk3 tn' cv' fo' core' b2 tb2 (done ++ fs) todo' ?_ (C'.weak fun q hq => List.mem_append_right _ hq) A' F5 N5)
    rw [hb2]
    exact c'

end
section
example : True := by w_top off; exact trivial
set_option maxHeartbeats 4000000 in
/-- two further rules are made -/
theorem law_h {H : Heap} (X : (hd.heap_1 w.params).In H) (T : Top hd.view_1 (looseW hd.view_1 []) mean mg mb H) {L : Addr} {m : Str → Option Value} {hp : Heap} {tk0 : Tok} {body : List Stmt} {env : Addr → Env} (hb : LawBody w body env) {cl : Bool} {tp : Tok} {mv : Value} {mp : Option Int} {o4 : Obj} {more : List (Addr × Obj)} {mm : Str → Option Value} (hm : IsOpt mv mp) (hcd : o4.data = .cell none) (hne : ∀ q ∈ more, @Ne Nat q.1 (L + 1 + 1))
  (F : Fr H L hp (fun y => if y = Str.ofString "peer" then some (.str (pS cl) tp) else if y = Str.ofString "most" then some mv else mm y)) (N : News H L hp ((L + 1 + 1, o4) :: more))
  {JJ : Flow → Shared → Prop} (hJ : ∀ h tk x3 d3 t3 x4 d4 t4 o4', (o4'.data = .cell (some (.ref x4))) → Lg [(x3, instObj 258 d3), (d3, crDict w.params t3 (.str (pS cl) tp) mv .none .none .none), (x4, instObj 258 d4), (d4, crDict w.params t4 (.str (pS cl) tp) mv .none .none .none)] ((L + 1 + 1, o4') :: more) → (Fr H L h (fun y => if y = Str.ofString "other" then some (.ref x3) else if y = Str.ofString "peer" then some (.str (pS cl) tp) else if y = Str.ofString "most" then some mv else mm y)) → News H L h ((x3, instObj 258 d3) :: (d3, crDict w.params t3 (.str (pS cl) tp) mv .none .none .none) :: (x4, instObj 258 d4) :: (d4, crDict w.params t4 (.str (pS cl) tp) mv .none .none .none) :: (L + 1 + 1, o4') :: more) → JJ .next {s with heap := h, toks := tk }) :
  wpN (model PySem.Challenge.rw_sj0117_01.row.prog w) (callerA.deeper (env L)) (execs ((body.drop 7).take 1) (env L)) JJ (fun _ _ => False) {s with heap := hp, toks := tk0} := by
  obtain ⟨rfl, rfl⟩ := lawIs hb
  dsimp only [lawB, lawE, lawSub]
  try simp only [List.drop_succ_cons, List.drop_zero, List.take_succ_cons, List.take_zero]
  have hmv : handedIn mv = true := by cases mp with | none => cases hm; rfl | some g => obtain ⟨_, rfl⟩ := hm; rfl
  refine wpN_any ?_
  w_strict k_steps
  refine wp_at (f := by exact ⟨rfl, Nat.le_of_ble_eq_true rfl, Nat.le_of_ble_eq_true rfl⟩) (crinit X T F N ?_)
  intro x3 d3 t3 h1 tk1 hxd1 hap1 F2 N2
  clear F N
  w_strict k_steps
  refine wp_at (f := by exact ⟨rfl, Nat.le_of_ble_eq_true rfl, Nat.le_of_ble_eq_true rfl⟩) (crinit X T F2 N2 ?_)
  intro x4 d4 t4 h2 tk2 hxd2 hap2 F3 N3
  clear F2 N2
  w_strict k_steps
  rename_i D _ q4 _ h4 F4 N4
  obtain ⟨q40, q41, q42, q43, q44, q45⟩ := q4
  have hD2 : @Ne Nat D (L + 1 + 1) := Nat.ne_of_gt q44
  replace N4 := newsSub (b := (L + 1 + 1, o4) :: (x4, instObj 258 d4) :: (d4, crDict w.params t4 (.str (pS cl) tp) mv .none .none .none) :: (x3, instObj 258 d3) :: (d3, crDict w.params t3 (.str (pS cl) tp) mv .none .none .none) :: more) N4 (by lcg_sub)
  have hc3 : @Ne Nat (L + 1 + 1) x3 ∧ @Ne Nat (L + 1 + 1) d3 := hap1 _ (.head _)
  have hc4 : @Ne Nat (L + 1 + 1) x4 ∧ @Ne Nat (L + 1 + 1) d4 := hap2 _ (.tail _ (.tail _ (.head _)))
  have h3 : ∀ q ∈ more, @Ne Nat q.1 x3 ∧ @Ne Nat q.1 d3 := fun q hq => hap1 q (.tail _ hq)
  have h4' : ∀ q ∈ more, @Ne Nat q.1 x4 ∧ @Ne Nat q.1 d4 := fun q hq => hap2 q (.tail _ (.tail _ (.tail _ hq)))
  have hx34 : @Ne Nat x3 x4 ∧ @Ne Nat x3 d4 := hap2 _ (.head _)
  have hd34 : @Ne Nat d3 x4 ∧ @Ne Nat d3 d4 := hap2 _ (.tail _ (.head _))
  refine wpAny_storeName_cell (c := L + 1 + 1) rfl rfl rfl ⟨o4, (N4 _ (.head _)).1, hcd⟩ fun h' hv hs => ?_
  obtain ⟨o4', hoc, hdc'⟩ := hv
  have F5 := frBut F4 N4 hs.extBut
  have N5 := newsBut N4 hs hoc (List.forall_mem_cons.mpr ⟨hc4.1.symm, List.forall_mem_cons.mpr ⟨hc4.2.symm, List.forall_mem_cons.mpr ⟨hc3.1.symm, List.forall_mem_cons.mpr ⟨hc3.2.symm, hne⟩⟩⟩⟩)
  clear F4 N4
  w_strict k_steps
  rename Fr _ _ _ _ => F6
  rename News _ _ _ _ => N6
  refine hJ _ _ x3 d3 t3 x4 d4 t4 o4' hdc' (⟨?_, ?_⟩) F6 (newsSub N6 fun q hq => ?_)
  · refine Nd.cons (Nd.cons (Nd.cons (Nd.cons List.nodup_nil (fun q hq => absurd hq List.not_mem_nil)) (List.forall_mem_cons.mpr ⟨hxd2.symm, fun q hq => absurd hq List.not_mem_nil⟩)) (List.forall_mem_cons.mpr ⟨hd34.1.symm, List.forall_mem_cons.mpr ⟨hd34.2.symm, fun q hq => absurd hq List.not_mem_nil⟩⟩)) (List.forall_mem_cons.mpr ⟨hxd1.symm, List.forall_mem_cons.mpr ⟨hx34.1.symm, List.forall_mem_cons.mpr ⟨hx34.2.symm, fun q hq => absurd hq List.not_mem_nil⟩⟩⟩)
  · have four : ∀ a : Nat, @Ne Nat a x3 → @Ne Nat a d3 → @Ne Nat a x4 → @Ne Nat a d4 → ∀ p ∈ ([(x3, instObj 258 d3), (d3, crDict w.params t3 (.str (pS cl) tp) mv .none .none .none), (x4, instObj 258 d4), (d4, crDict w.params t4 (.str (pS cl) tp) mv .none .none .none)] : List (Addr × Obj)), @Ne Nat a p.1 := fun a e0 e1 e2 e3 =>
      List.forall_mem_cons.mpr ⟨e0, List.forall_mem_cons.mpr ⟨e1, List.forall_mem_cons.mpr ⟨e2, List.forall_mem_cons.mpr ⟨e3, fun q hq => absurd hq List.not_mem_nil⟩⟩⟩⟩
    exact List.forall_mem_cons.mpr ⟨four _ hc3.1 hc3.2 hc4.1 hc4.2, fun q hq => four _ (h3 q hq).1 (h3 q hq).2 (h4' q hq).1 (h4' q hq).2⟩
  · revert q; lcg_sub

end
section
example : True := by w_top off; exact trivial
local macro_rules | `(tactic| walk_at "subscriptTail Name Slice ref ref") => `(tactic| (k_here; refine ofStop ?_))
/-- what the loop over the frames in the other sequence holds behind i turns -/
inductive OtherP (P : Params) (x3 d3 r D : Addr) (t3 : Nat → Tok) (cl : Bool) (tp : Tok) (mv : Value) (items : List Value) (T : List Fm) (old more : List (Addr × Obj)) (mm : Str → Option Value) (i : Nat) (m : Str → Option Value) (news : List (Addr × Obj)) : Prop
  | mk (fo : Option Value) (sv gov tdv : Value) (new : List (Addr × Obj)) (em : m = (fun y => if y = Str.ofString "frame" then fo else if y = Str.ofString "other" then some (.ref x3) else if y = Str.ofString "rows" then some (.ref r) else mm y)) (en : news = (x3, instObj 258 d3) :: (d3, crDict P t3 (.str (pS cl) tp) mv sv gov tdv) :: (D, listOf items.toArray 0) :: (new ++ more))
    (hnew : ∀ q ∈ new, ∀ r ∈ old, @Ne Nat q.1 r.1) (hg : IsOpt gov (goOf cl (T.take i))) (ht : IsOpt tdv (toldOf cl (T.take i))) (hS : SettP sv (T.take i) (new ++ more))
set_option maxHeartbeats 4000000 in
/-- the frames in the other sequence -/
theorem law_i {H : Heap} (X : (hd.heap_1 w.params).In H) (T : Top hd.view_1 (looseW hd.view_1 []) mean mg mb H) {L : Addr} {m : Str → Option Value} {hp : Heap} {tk0 : Tok} {body : List Stmt} {env : Addr → Env} (hb : LawBody w body env) {x3 d3 r : Addr} {t3 : Nat → Tok} {cl : Bool} {tp : Tok} {mv v0 : Value} {mp : Option Int} {more : List (Addr × Obj)} {mm : Str → Option Value} {fo : Option Value} {rv : List Value} {gs : List Fm} {nr : Nat}
  (hm : IsOpt mv mp) (hxd : @Ne Nat x3 d3) (hne : ∀ q ∈ more, @Ne Nat q.1 x3 ∧ @Ne Nat q.1 d3) (hr : (r, listOf (v0 :: rv).toArray nr) ∈ more) (hF : FmsIn more (v0 :: rv) (.sett :: gs)) (hlen : gs.length ≤ 10)
  (F : Fr H L hp (fun y => if y = Str.ofString "frame" then fo else if y = Str.ofString "other" then some (.ref x3) else if y = Str.ofString "rows" then some (.ref r) else mm y)) (N : News H L hp ((x3, instObj 258 d3) :: (d3, crDict w.params t3 (.str (pS cl) tp) mv .none .none .none) :: more))
  {JJ : Flow → Shared → Prop} (hJ : ∀ h tk new l nl p t u gov tdv fo', (∀ q ∈ new, ∀ r ∈ (x3, instObj 258 d3) :: (d3, crDict w.params t3 (.str (pS cl) tp) mv .none .none .none) :: more, @Ne Nat q.1 r.1) → (l, listOf #[.ref p] nl) ∈ new ++ more → (p, tupO [.int 6 t, .int 70 u]) ∈ new ++ more → IsOpt gov (goOf cl (.sett :: gs)) → IsOpt tdv (toldOf cl (.sett :: gs)) → (Fr H L h (fun y => if y = Str.ofString "frame" then fo' else if y = Str.ofString "other" then some (.ref x3) else if y = Str.ofString "rows" then some (.ref r) else mm y)) → News H L h ((x3, instObj 258 d3) :: (d3, crDict w.params t3 (.str (pS cl) tp) mv (.ref l) gov tdv) :: (new ++ more)) → JJ .next {s with heap := h, toks := tk }) :
  wpN (model PySem.Challenge.rw_sj0117_01.row.prog w) (callerA.deeper (env L)) (execs ((body.drop 8).take 1) (env L)) JJ (fun _ _ => False) {s with heap := hp, toks := tk0} := by
  have hb2 := hb
  have hrl : rv.length = gs.length := by have := hF.1; simpa using this
  have hsz : (v0 :: rv).toArray.size ≤ sizeLine := by rw [List.size_toArray, List.length_cons, hrl]; show gs.length + 1 ≤ 2 ^ 24; omega
  have hord : FmsIn more (v0 :: rv.reverse) (.sett :: gs.reverse) := by
    refine ⟨by simp [hrl], fun i v f e1 e2 => ?_⟩
    cases i with
    | zero => exact hF.2 0 v f e1 e2
    | succ i =>
      have f1 : rv.reverse[i]? = some v := e1
      have f2 : gs.reverse[i]? = some f := e2
      have hi : i < rv.length := by have := (List.getElem?_eq_some_iff.mp f1).1; simpa using this
      rw [List.getElem?_reverse hi] at f1
      rw [List.getElem?_reverse (by omega)] at f2
      rw [hrl] at f1
      exact hF.2 (gs.length - 1 - i + 1) v f f1 f2
  have hgo : goOf cl (.sett :: gs.reverse) = goOf cl (.sett :: gs) := goOf_mem fun f => by simp
  have hto : toldOf cl (.sett :: gs.reverse) = toldOf cl (.sett :: gs) := toldOf_mem fun f => by simp
  replace N := newsSub N (b := (r, listOf (v0 :: rv).toArray nr) :: (x3, instObj 258 d3) :: (d3, crDict w.params t3 (.str (pS cl) tp) mv .none .none .none) :: more) (by lcg_sub)
  have dx3 : @Ne Nat d3 x3 := hxd.symm
  obtain ⟨rfl, rfl⟩ := lawIs hb
  dsimp only [lawB, lawE, lawSub]
  try simp only [List.drop_succ_cons, List.drop_zero, List.take_succ_cons, List.take_zero]
  refine wpN_execs (ForN (stopT ?_))
  w_strict k_steps
  refine unstop ?_
  (with_reducible show wpAny _ _ (subscriptTail _ (PySem.Expr.Slice _ _ none _) (Value.ref _) (Value.ref _)) _ _ _)
  k_dflt (refine' kmk_slice_lit ?yaF ?yaN ?yal ?yap ?yaq ?yae ?_ ?yas ?yat ?yaz; (case yaF => k_asm); (case yaN => k_asm); (case yal => kmk_list); (case yap => kmk_part); (case yaq => kmk_part); (case yae => exact pick_first _ _); (case yas => with_unfolding_all rfl); (case yat => kmk_pure); (case yaz => assumption))
  intro Da h' F' N' qa
  try k_lt qa
  w_strict k_steps
  refine unstop ?_
  (with_reducible show wpAny _ _ (subscriptTail _ (PySem.Expr.Slice _ _ (some _) _) (Value.ref _) (Value.ref _)) _ _ _)
  k_dflt (refine' kmk_slice3_lit ?ybF ?ybN ?ybl ?ybp ?ybq ?ybk ?ybo ?ybe ?_ ?ybs ?ybt ?ybz; (case ybF => k_asm); (case ybN => k_asm); (case ybl => kmk_list); (case ybp => kmk_part); (case ybq => kmk_part); (case ybk => kmk_part); (case ybo => decide); (case ybe => exact pick_back _ _); (case ybs => with_unfolding_all rfl); (case ybt => kmk_pure); (case ybz => assumption))
  intro Db h' F' N' qb
  try k_lt qb
  w_strict k_steps
  rename_i D h0 FD ND qD
  simp only [List.cons_append, List.nil_append] at ND
  have qm := of_allLt qD.2.2.2.2.2
  have qx : @LT.lt Nat _ x3 D := qD.2.2.2.1
  have qd : @LT.lt Nat _ d3 D := qD.2.2.2.2.1
  replace ND := newsSub ND (b := (x3, instObj 258 d3) :: (d3, crDict w.params t3 (.str (pS cl) tp) mv .none .none .none) :: (D, listOf (v0 :: rv.reverse).toArray 0) :: ([] ++ more)) (by lcg_sub)
  have hDo : ∀ q ∈ (x3, instObj 258 d3) :: (d3, crDict w.params t3 (.str (pS cl) tp) mv .none .none .none) :: more, @Ne Nat D q.1 := List.forall_mem_cons.mpr ⟨Nat.ne_of_gt qx, List.forall_mem_cons.mpr ⟨Nat.ne_of_gt qd, fun q hq => Nat.ne_of_gt (qm q hq)⟩⟩
  refine unstop (iterL FD ND (lstAt (ND _ (.tail _ (.tail _ (.head _)))).1) fun I h1 F1 N1 hI _ => ?_)
  refine forListN (H := H) (L := L) (s0 := s) (items := v0 :: rv.reverse) (OtherP w.params x3 d3 r D t3 cl tp mv (v0 :: rv.reverse) (.sett :: gs.reverse) ((x3, instObj 258 d3) :: (d3, crDict w.params t3 (.str (pS cl) tp) mv .none .none .none) :: more) more mm)
    rfl rfl rfl rfl ?mem ?step ?done (v0 :: rv.reverse).length 0 _ (itO D 0) (Nat.zero_add _) ⟨rfl, rfl⟩ ⟨_, _, _, _, rfl, F1, N1, fun q hq => Nat.ne_of_lt (hI q hq), fo, .none, .none, .none, [], rfl, rfl, fun q hq => absurd hq List.not_mem_nil, rfl, ?t0, .inl ⟨rfl, rfl⟩⟩
  case t0 => cases cl <;> rfl
  case mem =>
    rintro i m news ⟨fo, sv, gov, tdv, new, _, rfl, _⟩
    exact ⟨0, .tail _ (.tail _ (.head _))⟩
  case done =>
    rintro h tk m news ⟨fo, sv, gov, tdv, new, rfl, rfl, hnew, hg, ht, hS⟩ F2 N2
    rw [hord.1, List.take_length] at hg ht hS
    rw [hgo] at hg
    rw [hto] at ht
    obtain ⟨l, nl, p, t, u, rfl, h1, h2⟩ := hS.elim (fun h => absurd h.1 (List.cons_ne_nil _ _)) (fun h => h.2)
    exact wpN_any (wpAny_execs_nil <| hJ h tk new l nl p t u gov tdv fo hnew h1 h2 hg ht F2 (newsSub N2 (by lcg_sub)))
  case step =>
    intro i h tk m news v o hv hPP ho F2 N2 hI'
    refine postVar fun J2 hJ2 => ?_
    obtain ⟨fo, sv, gov, tdv, new, rfl, rfl, hnew, hg, ht, hS⟩ := hPP
    have hli : i < (Fm.sett :: gs.reverse).length := by rw [← hord.1]; exact (List.getElem?_eq_some_iff.mp hv).1
    have hf : (Fm.sett :: gs.reverse)[i]? = some (Fm.sett :: gs.reverse)[i] := List.getElem?_eq_getElem hli
    have htake : (Fm.sett :: gs.reverse).take (i + 1) = (Fm.sett :: gs.reverse).take i ++ [(Fm.sett :: gs.reverse)[i]] := (List.take_append_getElem hli).symm
    have hvf := hord.2 i v _ hv hf
    obtain ⟨fa, rfl⟩ := fm_ref hvf
    have hvm := hvf
    replace F2 := frEq (m' := (fun y => if y = Str.ofString "frame" then some (.ref fa) else if y = Str.ofString "other" then some (.ref x3) else if y = Str.ofString "rows" then some (.ref r) else mm y)) F2 fun y => by by_cases e : y = Str.ofString "frame" <;> simp only [e, if_true, if_false]
    replace hvf := hvf.mono (b := (I, o) :: (x3, instObj 258 d3) :: (D, listOf (v0 :: rv.reverse).toArray 0) :: (new ++ more)) fun q hq => .tail _ (.tail _ (.tail _ (List.mem_append_right _ hq)))
    refine wpN_any ?_
    w_strict k_steps
    have hcore : ∀ q ∈ (I, o) :: (x3, instObj 258 d3) :: (D, listOf (v0 :: rv.reverse).toArray 0) :: (new ++ more), @Ne Nat q.1 d3 := List.forall_mem_cons.mpr ⟨(hI' _ (.tail _ (.head _))).symm, List.forall_mem_cons.mpr ⟨hxd, List.forall_mem_cons.mpr ⟨Nat.ne_of_gt qd, fun q hq => (List.mem_append.mp hq).elim (fun h => hnew q h (d3, crDict w.params t3 (.str (pS cl) tp) mv .none .none .none) (.tail _ (.head _))) fun h => (hne q h).2⟩⟩⟩
    have NN := newsSub N2 (b := (d3, crDict w.params t3 (.str (pS cl) tp) mv sv gov tdv) :: (I, o) :: (x3, instObj 258 d3) :: (D, listOf (v0 :: rv.reverse).toArray 0) :: (new ++ more)) (by lcg_sub)
    rcases Nat.eq_zero_or_pos i with hi0 | hi
    · have hsv : sv = .none := hS.elim (fun h => h.2) (fun h => absurd (by rw [hi0, List.take_zero]) h.1)
      have hgv : gov = .none := isNone (by rw [hi0, List.take_zero]; exact goNil cl) hg
      have htw : tdv = .none := isNone (by rw [hi0, List.take_zero]; exact toldNil cl) ht
      have hf0 : (Fm.sett :: gs.reverse)[i]? = some Fm.sett := by rw [hi0]; rfl
      have hTi := Option.some.inj (hf.symm.trans hf0)
      rw [hTi] at hvm
      obtain ⟨_, ft, lf, nlf, p, t, u, e, m1, m2, m3⟩ := hvm
      cases e
      have N20 : News H L h ((I, o) :: (x3, instObj 258 d3) :: (d3, crDict w.params t3 (.str (pS cl) tp) mv .none .none .none) :: (D, listOf (v0 :: rv.reverse).toArray 0) :: (new ++ more)) := by rw [hsv, hgv, htw] at N2; exact N2
      have NN0 : News H L h ((d3, crDict w.params t3 (.str (pS cl) tp) mv .none .none .none) :: (I, o) :: (x3, instObj 258 d3) :: (D, listOf (v0 :: rv.reverse).toArray 0) :: (new ++ more)) := by rw [hsv, hgv, htw] at NN; exact NN
      clear NN N2 hsv hgv htw hg ht hS
      have inm : ∀ q ∈ more, h.get? q.1 = some q.2 := fun q hq => (N20 _ (.tail _ (.tail _ (.tail _ (.tail _ (List.mem_append_right _ hq)))))).1
      have hsa : SettAt h (.ref fa) p t u := ⟨fa, ft, lf, nlf, rfl, inm _ m1, inm _ m2, inm _ m3⟩
      refine wp_atF (f := by exact ⟨rfl, Nat.le_of_ble_eq_true rfl, Nat.le_of_ble_eq_true rfl⟩) (hf := by rfl) (refused_sett (fr := []) (outer := []) X T F2 (newsSub N20 (b := [(x3, instObj 258 d3), (d3, crDict w.params t3 (.str (pS cl) tp) mv .none .none .none)] ++ []) (sub_mem (by k_mem) (sub_mem (by k_mem) sub_nil))) trivial rfl ?hke (fun _ _ => List.not_mem_nil) hxd hsa fun h' tk' tv l nl a hd' hl0 hl1 hpz => ?_)
      case hke => exact funK rfl
      obtain ⟨F3, N3⟩ := awayLed F2 NN0 a hd' hcore
      have Nl := newsNew (h0 := h) (a := [(l, listOf #[.ref p] nl)]) F2 (List.forall_mem_cons.mpr ⟨⟨hl0, hl1⟩, fun q hq => absurd hq List.not_mem_nil⟩)
      have N4 := newsAdd Nl N3
      have hll : ∀ q ∈ (I, o) :: (x3, instObj 258 d3) :: (d3, crDict w.params t3 (.str (pS cl) tp) mv .none .none .none) :: (D, listOf (v0 :: rv.reverse).toArray 0) :: (new ++ more), @Ne Nat l q.1 := fun q hq => newOff (q := (l, listOf #[.ref p] nl)) N20 hq hl0
      clear N20 NN0 F2 N3
      w_strict k_steps
      refine hJ2 _ _ ⟨rfl, h', tk', (fun y => if y = Str.ofString "frame" then some (.ref fa) else if y = Str.ofString "other" then some (.ref x3) else if y = Str.ofString "rows" then some (.ref r) else mm y), (x3, instObj 258 d3) :: (d3, crDict w.params t3 (.str (pS cl) tp) mv (.ref l) .none .none) :: (D, listOf (v0 :: rv.reverse).toArray 0) :: ((l, listOf #[.ref p] nl) :: new ++ more), rfl, F3, newsSub N4 fun q hq => ?_, ?_, some (.ref fa), .ref l, .none, .none, (l, listOf #[.ref p] nl) :: new, rfl, rfl, ?_, ?_, ?_, .inr ⟨by rw [htake]; exact List.append_ne_nil_of_right_ne_nil _ (List.cons_ne_nil _ _), l, nl, p, t, u, rfl, .head _, List.mem_append_right _ m3⟩⟩
      · revert q; lcg_sub
      · exact List.forall_mem_cons.mpr ⟨hI' _ (.head _), List.forall_mem_cons.mpr ⟨hI' (d3, crDict w.params t3 (.str (pS cl) tp) mv sv gov tdv) (.tail _ (.head _)), List.forall_mem_cons.mpr ⟨hI' _ (.tail _ (.tail _ (.head _))), List.forall_mem_cons.mpr ⟨hll _ (.head _), fun q hq => hI' q (.tail _ (.tail _ (.tail _ hq)))⟩⟩⟩⟩
      · refine List.forall_mem_cons.mpr ⟨fun q hq => hll q ?_, hnew⟩
        revert q; lcg_sub
      · rw [htake, hTi, hi0, List.take_zero]; exact goSett cl
      · rw [htake, hTi, hi0, List.take_zero]; exact toldSett cl
    · have hnn : (Fm.sett :: gs.reverse).take i ≠ [] := by
        obtain ⟨j, rfl⟩ : ∃ j, i = j + 1 := ⟨i - 1, by omega⟩
        exact List.cons_ne_nil _ _
      obtain ⟨l, nl, p, t, u, rfl, h1, h2⟩ := hS.elim (fun h => absurd h.1 hnn) (fun h => h.2)
      generalize hff : (Fm.sett :: gs.reverse)[i] = f at *
      have hvat := hvm.at (newsSub N2 fun q hq => .tail _ (.tail _ (.tail _ (.tail _ (List.mem_append_right _ hq)))))
      refine wp_atF (f := by exact ⟨rfl, Nat.le_of_ble_eq_true rfl, Nat.le_of_ble_eq_true rfl⟩) (hf := by rfl) (refused (fr := []) (outer := []) X T F2 (newsSub N2 (b := [(x3, instObj 258 d3), (d3, crDict w.params t3 (.str (pS cl) tp) mv (.ref l) gov tdv)] ++ []) (sub_mem (by k_mem) (sub_mem (by k_mem) sub_nil))) trivial rfl ?hke (fun _ _ => List.not_mem_nil) hxd hvat hm hg ht fun h' tk' tv gov' tdv' hg' ht' a hd' => ?_)
      case hke => exact funK rfl
      rw [go_step, ← htake] at hg'
      rw [told_step, ← htake] at ht'
      obtain ⟨F3, N3⟩ := awayLed F2 NN a hd' hcore
      clear N2 NN F2
      w_strict k_steps
      refine hJ2 _ _ ⟨rfl, h', tk', (fun y => if y = Str.ofString "frame" then some (.ref fa) else if y = Str.ofString "other" then some (.ref x3) else if y = Str.ofString "rows" then some (.ref r) else mm y), (x3, instObj 258 d3) :: (d3, crDict w.params t3 (.str (pS cl) tp) mv (.ref l) gov' tdv') :: (D, listOf (v0 :: rv.reverse).toArray 0) :: (new ++ more), rfl, F3, newsSub N3 fun q hq => ?_, ?_, some (.ref fa), .ref l, gov', tdv', new, rfl, rfl, hnew, hg', ht', .inr ⟨List.cons_ne_nil _ _, l, nl, p, t, u, rfl, h1, h2⟩⟩
      · revert q; lcg_sub
      · exact List.forall_mem_cons.mpr ⟨hI' _ (.head _), List.forall_mem_cons.mpr ⟨hI' (d3, crDict w.params t3 (.str (pS cl) tp) mv (.ref l) gov tdv) (.tail _ (.head _)), List.forall_mem_cons.mpr ⟨hI' _ (.tail _ (.tail _ (.head _))), fun q hq => hI' q (.tail _ (.tail _ (.tail _ hq)))⟩⟩⟩

end
section
example : True := by w_top off; exact trivial
theorem range_all : ∀ z : Fin 4, ∀ len : Fin 100, Builtin.Range.rangeSize 0 (len.val : Int) ((z.val + 1 : Nat) : Int) = (((Builtin.Range.rangeSize 0 (len.val : Int) ((z.val + 1 : Nat) : Int)).toNat : Nat) : Int) ∧ len.val ≤ (Builtin.Range.rangeSize 0 (len.val : Int) ((z.val + 1 : Nat) : Int)).toNat * (z.val + 1) ∧ Builtin.Range.small 0 (len.val : Int) ((z.val + 1 : Nat) : Int) = true := by decide +kernel
theorem range_cut {len z : Nat} (h1 : 1 ≤ z) (h4 : z ≤ 4) (hl : len < 100) : ∃ n : Nat, Builtin.Range.rangeSize 0 (len : Int) (z : Int) = (n : Int) ∧ len ≤ n * z ∧ Builtin.Range.small 0 (len : Int) (z : Int) = true := by
  cases z with
  | zero => exact absurd h1 (by decide)
  | succ z => exact ⟨_, range_all ⟨z, h4⟩ ⟨len, hl⟩⟩
theorem mapX (m : Str → Option Value) : ∀ (l : List (Str × Option Value)) , (∀ p ∈ l, m p.1 = p.2) → ∀ y, m y = (l.foldr (fun p g => fun y => if y = p.1 then p.2 else g y) m) y
  | [], _, _ => rfl
  | p :: l, h, y => by
    show m y = if y = p.1 then p.2 else _
    by_cases e : y = p.1
    · rw [if_pos e, e]; exact h p (.head _)
    · rw [if_neg e]; exact mapX m l (fun q hq => h q (.tail _ hq)) y
set_option maxHeartbeats 4000000 in
/-- the main loop -/
theorem law_g {H : Heap} (X : (hd.heap_1 w.params).In H) (T : Top hd.view_1 (looseW hd.view_1 []) mean mg mb H) {L : Addr} {m : Str → Option Value} {hp : Heap} {tk0 : Tok} {body : List Stmt} {env : Addr → Env} (hb : LawBody w body env) {x1 d1 x2 d2 cm tn : Addr} {t1 t2 : Nat → Tok} {cl : Bool} {tp : Tok} {mv : Value} {mp : Option Int} {oc : Obj} {rest core : List (Addr × Obj)} {ob : Array UInt8} {tb tob : Tok} {rows : List Fm} {mm : Str → Option Value} {z : Nat} {tz : Tok}
  (hm : IsOpt mv mp) (hcd : oc.data = .cell (some (.ref x1))) (hcell : (L + 1, oc) ∈ rest) (hx2 : (x2, instObj 201 d2) ∈ rest) (hxd2 : @Ne Nat x2 d2) (hob : KBw.bInts ob = encs rows) (hz1 : 1 ≤ z) (hz4 : z ≤ 4)
  (hf0 : ∀ f r, rows = f :: r → f = .sett) (h9 : rows.length ≤ 9) (hsm : ∀ f ∈ rows, fsmall f) (hn : ∀ n, Fm.goaway n ∈ rows → 0 ≤ n ∧ n < 22)
  (C : CoreP w.params x1 d1 d2 cm t1 t2 cl tp mv mp rest #[] tb [] tn core)
  (F : Fr H L hp mm) (N : News H L hp core)
  (k1 : mm (Str.ofString "taken") = some (.ref tn)) (k2 : mm (Str.ofString "came") = some (.ref cm)) (k3 : mm (Str.ofString "peer") = some (.str (pS cl) tp)) (k4 : mm (Str.ofString "most") = some mv) (k5 : mm (Str.ofString "octets") = some (.bytes ob tob)) (k6 : mm (Str.ofString "size") = some (.int z tz)) (k7 : mm (Str.ofString "stream") = some (.ref x2))
  {JJ : Flow → Shared → Prop} (hJ : ∀ h tk tn' cv' fo' av' core' b' tb', CoreP w.params x1 d1 d2 cm t1 t2 cl tp mv mp rest b' tb' rows tn' core' → (Fr H L h (fun y => if y = Str.ofString "frame" then fo' else if y = Str.ofString "code" then cv' else if y = Str.ofString "taken" then some (.ref tn') else if y = Str.ofString "came" then some (.ref cm) else if y = Str.ofString "peer" then some (.str (pS cl) tp) else if y = Str.ofString "most" then some mv else if y = Str.ofString "at" then av' else if y = Str.ofString "octets" then some (.bytes ob tob) else if y = Str.ofString "size" then some (.int z tz) else if y = Str.ofString "stream" then some (.ref x2) else mm y)) → News H L h core' → JJ .next {s with heap := h, toks := tk }) :
  wpN (model PySem.Challenge.rw_sj0117_01.row.prog w) (callerA.deeper (env L)) (execs ((body.drop 6).take 1) (env L)) JJ (fun _ _ => False) {s with heap := hp, toks := tk0} := by
  have hbb := hb
  have hbd : (encs rows).length < 100 := by have := encs_bound rows; omega
  obtain ⟨n, hn1, hn2, hn3⟩ := range_cut hz1 hz4 hbd
  replace F := frEq F (mapX mm [(Str.ofString "frame", mm (Str.ofString "frame")), (Str.ofString "code", mm (Str.ofString "code")), (Str.ofString "taken", some (.ref tn)), (Str.ofString "came", some (.ref cm)), (Str.ofString "peer", some (.str (pS cl) tp)), (Str.ofString "most", some mv), (Str.ofString "at", mm (Str.ofString "at")), (Str.ofString "octets", some (.bytes ob tob)), (Str.ofString "size", some (.int z tz)), (Str.ofString "stream", some (.ref x2))] (by
    refine List.forall_mem_cons.mpr ⟨rfl, List.forall_mem_cons.mpr ⟨rfl, List.forall_mem_cons.mpr ⟨k1, List.forall_mem_cons.mpr ⟨k2, List.forall_mem_cons.mpr ⟨k3, List.forall_mem_cons.mpr ⟨k4, List.forall_mem_cons.mpr ⟨rfl, List.forall_mem_cons.mpr ⟨k5, List.forall_mem_cons.mpr ⟨k6, List.forall_mem_cons.mpr ⟨k7, fun q hq => absurd hq List.not_mem_nil⟩⟩⟩⟩⟩⟩⟩⟩⟩⟩))
  dsimp only [List.foldr] at F
  obtain ⟨rfl, rfl⟩ := lawIs hb
  dsimp only [lawB, lawE, lawSub]
  try simp only [List.drop_succ_cons, List.drop_zero, List.take_succ_cons, List.take_zero]
  refine wpN_execs (ForN (stopT ?_))
  w_strict k_steps
  rename IsRange _ _ _ _ _ _ _ _ => hr
  rename Fr _ _ _ _ => F1
  rename News _ _ _ _ => N1
  refine unstop (iterR F1 N1 hr hn3 fun I h' F2 N2 hI => ?_)
  rw [hn1] at N2
  rw [show rIt 0 (n : Int) (z : Int) = rIt (0 + ((0 : Nat) : Int) * (z : Int)) ((n : Int) - ((0 : Nat) : Int)) (z : Int) by simp] at N2
  refine forRangeN (H := H) (L := L) (a := 0) (c := (z : Int)) (n := n) (s0 := s) (fun i m news => ∃ fo cv av tn' b' tb' done todo, m = (fun y => if y = Str.ofString "frame" then fo else if y = Str.ofString "code" then cv else if y = Str.ofString "taken" then some (.ref tn') else if y = Str.ofString "came" then some (.ref cm) else if y = Str.ofString "peer" then some (.str (pS cl) tp) else if y = Str.ofString "most" then some mv else if y = Str.ofString "at" then av else if y = Str.ofString "octets" then some (.bytes ob tob) else if y = Str.ofString "size" then some (.int z tz) else if y = Str.ofString "stream" then some (.ref x2) else mm y) ∧
      CoreP w.params x1 d1 d2 cm t1 t2 cl tp mv mp rest b' tb' done tn' news ∧ CutAt rows (i * z) done todo (KBw.bInts b')) rfl rfl rfl rfl ?step ?done n 0 _ (by omega) ⟨h', _, _, core, rfl, F2, N2, fun q hq => Nat.ne_of_lt (hI q hq), _, _, _, tn, #[], tb, [], rows, rfl, C, by rw [Nat.zero_mul]; exact CutAt.start rows⟩
  case done =>
    rintro h tk m news ⟨fo, cv, av, tn', b', tb', done, todo, rfl, C', c'⟩ F3 N3
    obtain rfl := c'.ends hn2
    exact wpN_any (wpAny_execs_nil <| hJ h tk tn' cv fo av news b' tb' C' F3 N3)
  case step =>
    intro i h tk m news t hlt hPP F3 N3 hI'
    refine postVar fun J2 hJ2 => ?_
    obtain ⟨fo, cv, av, tn', b', tb', done, todo, rfl, C', c'⟩ := hPP
    replace F3 := frEq (m' := (fun y => if y = Str.ofString "frame" then fo else if y = Str.ofString "code" then cv else if y = Str.ofString "taken" then some (.ref tn') else if y = Str.ofString "came" then some (.ref cm) else if y = Str.ofString "peer" then some (.str (pS cl) tp) else if y = Str.ofString "most" then some mv else if y = Str.ofString "at" then some (.int (0 + (i : Int) * (z : Int)) t) else if y = Str.ofString "octets" then some (.bytes ob tob) else if y = Str.ofString "size" then some (.int z tz) else if y = Str.ofString "stream" then some (.ref x2) else mm y)) F3 fun y => by
      by_cases e : y = Str.ofString "at"
      · subst e; rfl
      · simp only [e, if_false]
    refine law_oturn (m := m) X T hbb hm hcd hcell hx2 hxd2 hob rfl c' (by rw [Int.zero_add]; exact (Int.natCast_mul i z).symm) hz4 hf0 h9 hsm hn C' (fun r hr q hq => by rw [List.mem_singleton.mp hq]; exact hI' r hr) F3 N3 fun h2 tk2 tn2 cv2 fo2 core2 b2 tb2 done2 todo2 c2 C2 A2 F4 N4 => ?_
    exact hJ2 _ _ ⟨rfl, h2, tk2, _, core2, rfl, F4, N4, fun q hq => A2 q hq _ (.head _), fo2, cv2, _, tn2, b2, tb2, done2, todo2, rfl, C2, by rw [Nat.succ_mul]; exact c2⟩

end
section
example : True := by w_top off; exact trivial
/-- each of them, but the first, is taken behind those ahead of it -/
def Okc (cl : Bool) (mp : Option Int) (T : List Fm) : Prop := ∀ (i : Nat) (f : Fm), 0 < i → T[i]? = some f → codeF cl mp (goOf cl (T.take i)) (toldOf cl (T.take i)) f = 0
theorem Okc.snoc {cl : Bool} {mp : Option Int} {T : List Fm} {f : Fm} (h : Okc cl mp T) (hf : codeF cl mp (goOf cl T) (toldOf cl T) f = 0) : Okc cl mp (T ++ [f]) := fun i g hi hg => by
  rcases Nat.lt_or_ge i T.length with q | q
  · rw [List.getElem?_append_left q] at hg
    rw [List.take_append_of_le_length (Nat.le_of_lt q)]
    exact h i g hi hg
  · rw [List.getElem?_append_right q] at hg
    have hz : i - T.length = 0 := by have := (List.getElem?_eq_some_iff.mp hg).1; simp at this; omega
    rw [hz] at hg
    cases hg
    rw [show i = T.length by omega, List.take_append_of_le_length (Nat.le_refl _), List.take_length]
    exact hf
theorem tak_ok (cl : Bool) (mp : Option Int) : ∀ (r done T : List Fm), goOf cl T = goOf cl done → toldOf cl T = toldOf cl done → Okc cl mp T →
    goOf cl (T ++ takenF cl mp done r) = goOf cl (done ++ r) ∧ toldOf cl (T ++ takenF cl mp done r) = toldOf cl (done ++ r) ∧ Okc cl mp (T ++ takenF cl mp done r)
  | [], done, T, h1, h2, h3 => by
    rw [takenF, List.append_nil, List.append_nil]
    exact ⟨h1, h2, h3⟩
  | f :: r, done, T, h1, h2, h3 => by
    rw [takenF, ← List.append_assoc, show done ++ f :: r = done ++ [f] ++ r by simp]
    by_cases hd : dueF cl mp done f = 0
    · rw [if_pos hd]
      have hc : codeF cl mp (goOf cl T) (toldOf cl T) f = 0 := by rw [h1, h2, code_due]; exact hd
      refine tak_ok cl mp r (done ++ [f]) (T ++ [f]) ?_ ?_ (h3.snoc hc)
      · rw [← go_step cl mp, ← go_step cl mp, h1, h2]
      · rw [← told_step cl mp, ← told_step cl mp, h1, h2]
    · rw [if_neg hd, List.append_nil]
      obtain ⟨e1, e2⟩ := goOf_refused hd
      exact tak_ok cl mp r (done ++ [f]) T (h1.trans e1.symm) (h2.trans e2.symm) h3
theorem takF_ok (cl : Bool) (mp : Option Int) (f : Fm) (r : List Fm) : goOf cl (takF cl mp (f :: r)) = goOf cl (f :: r) ∧ toldOf cl (takF cl mp (f :: r)) = toldOf cl (f :: r) ∧ Okc cl mp (takF cl mp (f :: r)) :=
  tak_ok cl mp r [f] [f] rfl rfl fun i g hi hg => by
    have := (List.getElem?_eq_some_iff.mp hg).1
    simp at this
    omega
/-- the pushes that can be cancelled -/
theorem let_bounds {bs : List Int} (h : ∀ b ∈ bs, 0 ≤ b ∧ b < 21) {M : Int} (hM : M ∈ bs ++ [-1]) (hl : ∀ a ∈ bs ++ [-1], a ≤ M) :
    -1 ≤ M ∧ M < 21 ∧ ∀ p : Int → Bool, (∀ n, p n = true ↔ ∃ k ∈ bs, n ≤ k) → (intsTo 22).filter p = intsTo (M + 1).toNat := by
  have h0 : -1 ≤ M := hl _ (List.mem_append_right _ (.head _))
  have h1 : M < 21 := by
    rcases List.mem_append.mp hM with hM | hM
    · exact (h M hM).2
    · rw [List.mem_singleton.mp hM]; decide
  refine ⟨h0, h1, fun p hp => ?_⟩
  have e := letF_due (go := some (M + 1)) fun g hg => by cases hg; omega
  show _ = intsTo (lessN (some (M + 1)))
  rw [← e]
  refine List.filter_congr fun n hn => ?_
  have hn0 : 0 ≤ n := by
    obtain ⟨k, _, rfl⟩ := List.mem_map.mp hn
    exact Int.natCast_nonneg k
  rw [Bool.eq_iff_iff, hp]
  show _ ↔ decide (n < M + 1) = true
  rw [decide_eq_true_iff]
  constructor
  · rintro ⟨k, hk, hle⟩
    have := hl k (List.mem_append_left _ hk)
    omega
  · intro hlt
    rcases List.mem_append.mp hM with hM | hM
    · exact ⟨M, hM, by omega⟩
    · have := List.mem_singleton.mp hM
      omega
theorem canc_code {cl : Bool} {mp : Option Int} {came : List Fm} (n : Int) : codeF cl mp (goOf cl came) (toldOf cl came) (.canc n) = 0 ↔ ∃ k ∈ boundsF cl mp came, n ≤ k := by
  rw [code_due]
  show (if ∃ k ∈ boundsF cl mp came, n ≤ k then (0 : Int) else 264) = 0 ↔ _
  by_cases h : ∃ k ∈ boundsF cl mp came, n ≤ k
  · rw [if_pos h]; exact ⟨fun _ => h, fun _ => rfl⟩
  · rw [if_neg h]; exact ⟨fun e => absurd e (by decide), fun e => absurd e h⟩
theorem boundsF_lt {cl : Bool} {mp : Option Int} {came : List Fm} (hmp : mp = some 3 ∨ mp = none) (h : ∀ n, Fm.maxp n ∈ came → 0 ≤ n ∧ n < 21) : ∀ b ∈ boundsF cl mp came, 0 ≤ b ∧ b < 21 := fun b hb => by
  unfold boundsF at hb
  rcases List.mem_append.mp hb with hb | hb
  · unfold cntF at hb
    rw [if_neg (by decide)] at hb
    cases cl with
    | false => exact absurd hb List.not_mem_nil
    | true =>
      simp only [if_true, numsK, List.mem_filterMap] at hb
      obtain ⟨f, hf, e⟩ := hb
      cases f <;> simp [numK] at e
      rw [← e]
      exact h _ hf
  · rcases hmp with rfl | rfl <;> cases cl <;> simp at hb
    subst hb
    decide
theorem made_nums {f : Fm} (h : Made f) : fsmall f ∧ (∀ n, f = .goaway n → 0 ≤ n ∧ n < 20) ∧ ∀ n, f = .maxp n → 0 ≤ n ∧ n < 20 := by
  obtain ⟨form, number, rfl, h0, h1, h2, h3⟩ := h
  have hm0 := Int.fmod_nonneg_of_pos number (show (0 : Int) < 4 by decide)
  have hm1 := Int.fmod_lt_of_pos number (show (0 : Int) < 4 by decide)
  have hle : Int.fmod number 4 ≤ number := by
    have := Int.fmod_eq_emod_of_nonneg number (show (0 : Int) ≤ 4 by decide)
    omega
  unfold formFrame
  split
  · exact ⟨by simp only [fsmall]; omega, fun n e => by cases e; omega, fun n e => (nomatch e)⟩
  · split
    · exact ⟨by simp only [fsmall]; omega, fun n e => by cases e; omega, fun n e => (nomatch e)⟩
    · split
      · exact ⟨by simp only [fsmall]; omega, fun n e => (nomatch e), fun n e => by cases e; omega⟩
      · split
        · exact ⟨by simp only [fsmall]; omega, fun n e => (nomatch e), fun n e => (nomatch e)⟩
        · split
          · exact ⟨trivial, fun n e => (nomatch e), fun n e => (nomatch e)⟩
          · split
            · exact ⟨trivial, fun n e => (nomatch e), fun n e => (nomatch e)⟩
            · split
              · exact ⟨trivial, fun n e => (nomatch e), fun n e => (nomatch e)⟩
              · exact ⟨trivial, fun n e => (nomatch e), fun n e => (nomatch e)⟩

end
section
example : True := by w_top off; exact trivial
/-- a comprehension whose turns change the ledger -/
theorem turnsU {prog : Program} {w : World} {A : Around} {h₀ : Heap} {L : Addr} {m : Str → Option Value} {env : Env} {elt : Expr} {x : Str} {scope : Scope} {cl : List (Str × Addr)} {s : Shared} {S : List (Addr × Obj) → Prop} {P : Nat → Value → Prop} {Fin : List Value → List (Addr × Obj) → Prop}
    (nw : Value → Value → Value → List (Addr × Obj) → List (Addr × Obj)) (Inv : Nat → List Value → Value → Value → Value → List (Addr × Obj) → Prop) (n : Nat) {a b c : Value} {new : List (Addr × Obj)} (h0 : Inv 0 [] a b c new)
    (step : ∀ i ys a b c new v I oI C oC D m₂ h tk (E' : Value → Shared → Prop) (J1 : Value → Shared → Prop), i < n → Inv i ys a b c new → P i v → LCg.NsObj oC m₂ → m₂ x = some v → Fr h₀ L h m → News h₀ L h ((I, oI) :: (C, oC) :: (D, LCg.lst ys) :: nw a b c new) → LCg.Off3 I C D (nw a b c new) → ((@Ne Nat I C) ∧ (@Ne Nat I D) ∧ (@Ne Nat C D)) →
      (∀ y h' tk' a b c new, Fr h₀ L h' m → News h₀ L h' ((I, oI) :: (C, oC) :: (D, LCg.lst ys) :: nw a b c new) → LCg.Off3 I C D (nw a b c new) → S (nw a b c new) → Inv (i + 1) (ys ++ [y]) a b c new → J1 y { s with heap := h', toks := tk' }) →
      wpAny (model prog w) A (eval elt (compEnvC scope cl C env)) J1 E' { s with heap := h, toks := tk })
    (fin : ∀ ys a b c new, Inv n ys a b c new → Fin ys (nw a b c new)) : LCg.CompRest prog w A h₀ L m env elt x scope cl s S P Fin n 0 [] (nw a b c new) := by
  have key : ∀ k i ys a b c new, i + k = n → Inv i ys a b c new → LCg.CompRest prog w A h₀ L m env elt x scope cl s S P Fin k i ys (nw a b c new) := by
    intro k
    induction k with
    | zero => intro i ys a b c new e h; obtain rfl : i = n := e
              exact LCg.CompRest.zero (fin ys _ _ _ _ h)
    | succ k ih =>
      intro i ys a b c new e hi v I oI C oC D m₂ h tk E' hv hC hx F N off ne
      exact step i ys a b c new v I oI C oC D m₂ h tk E' _ (e ▸ Nat.lt_add_of_pos_right (Nat.succ_pos k)) hi hv hC hx F N off ne fun y h' tk' a b c new F' N' off' hs hi' => ⟨h', tk', _, rfl, F', N', off', hs, ih _ _ _ _ _ _ ((Nat.succ_add i k).trans e) hi'⟩
  exact key n 0 [] _ _ _ _ (Nat.zero_add n) h0
theorem ne_ints {prog : Program} {w : World} {A : Around} {s : Shared} {E : Value → Shared → Prop} {a b : Addr} {vs us : List Value} {ns : List Int} {n k : Nat} {Q : Value → Shared → Prop} (ha : s.heap.get? a = some (listOf vs.toArray n)) (hb : s.heap.get? b = some (listOf us.toArray k))
    (h1 : IntsAre vs ns) (h2 : IntsAre us ns) (hu : A.units < 7000) (h : Q (.bool false) s) :
    wpAny (model prog w) A (compareOp .NotEq (.ref a) (.ref b)) Q E s := by
  have hl1 := h1.length
  have hl2 := h2.length
  have z := SeqAt.RcNeAt.lists (A := A) (e := fun _ => true) (lstAt ha) (lstAt hb) (by simp [hl1, hl2]) (Nat.lt_trans hu (by decide)) (fun j j1 j2 => by
    have e1 : j < vs.length := by simpa using j1
    have e2 : j < us.length := by simpa using j2
    simp only [List.getElem_toArray]
    obtain ⟨x, t, ex, hx⟩ := IntsAre.at h1 j _ (List.getElem?_eq_getElem e1)
    obtain ⟨y, u, ey, hy⟩ := IntsAre.at h2 j _ (List.getElem?_eq_getElem e2)
    rw [hx] at hy
    cases hy
    rw [ex, ey]
    exact eqInt _ _ _)
  rw [show (!(List.range vs.toArray.size).all (fun _ => true)) = false by simp] at z
  exact z prog w E Q h
/-- what holds between the turns -/
def JInv (cl : Bool) (T : List Fm) (more old : List (Addr × Obj)) (i : Nat) (ys : List Value) (sv gov tdv : Value) (new : List (Addr × Obj)) : Prop :=
  (∀ q ∈ new, ∀ r ∈ old, @Ne Nat q.1 r.1) ∧ IsOpt gov (goOf cl (T.take i)) ∧ IsOpt tdv (toldOf cl (T.take i)) ∧ SettP sv (T.take i) (new ++ more) ∧ IntsAre ys (List.replicate i 0)
local macro_rules | `(tactic| walk_at "compareOp NotEq ref ref") => `(tactic| (k_here; k_dflt (refine ofStop ?_)))
set_option maxHeartbeats 4000000 in
/-- all frames came, and those that were taken are taken again -/
theorem law_j {H : Heap} (X : (hd.heap_1 w.params).In H) (T : Top hd.view_1 (looseW hd.view_1 []) mean mg mb H) {L : Addr} {m : Str → Option Value} {hp : Heap} {tk0 : Tok} {body : List Stmt} {env : Addr → Env} (hb : LawBody w body env) {x4 d4 cm r tn : Addr} {t4 : Nat → Tok} {cl : Bool} {tp : Tok} {mv : Value} {mp : Option Int} {o4 : Obj} {more : List (Addr × Obj)} {mm : Str → Option Value} {rv vs tvs : List Value} {gs : List Fm} {nr n1 n2 : Nat}
  (hm : IsOpt mv mp) (hxd : @Ne Nat x4 d4) (hcd : o4.data = .cell (some (.ref x4))) (hne : ∀ q ∈ (L + 1 + 1, o4) :: more, @Ne Nat q.1 x4 ∧ @Ne Nat q.1 d4)
  (hcm : (cm, listOf vs.toArray n1) ∈ more) (hvs : FmsIn more vs (.sett :: gs)) (hr : (r, listOf rv.toArray nr) ∈ more) (hrv : FmsIn more rv (.sett :: gs)) (htn : (tn, listOf tvs.toArray n2) ∈ more) (htv : FmsIn more tvs (takF cl mp (.sett :: gs))) (hlen : gs.length ≤ 10)
  (F : Fr H L hp (fun y => if y = Str.ofString "came" then some (.ref cm) else if y = Str.ofString "rows" then some (.ref r) else if y = Str.ofString "taken" then some (.ref tn) else mm y)) (N : News H L hp ((L + 1 + 1, o4) :: (x4, instObj 258 d4) :: (d4, crDict w.params t4 (.str (pS cl) tp) mv .none .none .none) :: more))
  {JJ : Flow → Shared → Prop} (hJ : ∀ h tk new l nl p t u gov tdv, (∀ q ∈ new, ∀ r ∈ (L + 1 + 1, o4) :: (x4, instObj 258 d4) :: (d4, crDict w.params t4 (.str (pS cl) tp) mv .none .none .none) :: more, @Ne Nat q.1 r.1) → (l, listOf #[.ref p] nl) ∈ new ++ more → (p, tupO [.int 6 t, .int 70 u]) ∈ new ++ more → IsOpt gov (goOf cl (.sett :: gs)) → IsOpt tdv (toldOf cl (.sett :: gs)) → (Fr H L h (fun y => if y = Str.ofString "came" then some (.ref cm) else if y = Str.ofString "rows" then some (.ref r) else if y = Str.ofString "taken" then some (.ref tn) else mm y)) → News H L h ((L + 1 + 1, o4) :: (x4, instObj 258 d4) :: (d4, crDict w.params t4 (.str (pS cl) tp) mv (.ref l) gov tdv) :: (new ++ more)) → JJ .next {s with heap := h, toks := tk }) :
  wpN (model PySem.Challenge.rw_sj0117_01.row.prog w) (callerA.deeper (env L)) (execs ((body.drop 9).take 1) (env L)) JJ (fun _ _ => False) {s with heap := hp, toks := tk0} := by
  obtain ⟨hgo, hto, hok⟩ := takF_ok cl mp .sett gs
  have htl : (takF cl mp (.sett :: gs)).length ≤ 11 := by have := takF_len cl mp (.sett :: gs); rw [List.length_cons] at this; omega
  have dx4 : @Ne Nat d4 x4 := hxd.symm
  have inm : ∀ q ∈ more, hp.get? q.1 = some q.2 := fun q hq => (N q (.tail _ (.tail _ (.tail _ hq)))).1
  have hsz : tvs.toArray.size ≤ sizeLine := by rw [List.size_toArray, htv.1]; show _ ≤ 2 ^ 24; omega
  replace N := newsSub N (b := (tn, listOf tvs.toArray n2) :: (cm, listOf vs.toArray n1) :: (r, listOf rv.toArray nr) :: (L + 1 + 1, o4) :: (x4, instObj 258 d4) :: (d4, crDict w.params t4 (.str (pS cl) tp) mv .none .none .none) :: more) (by lcg_sub)
  obtain ⟨rfl, rfl⟩ := lawIs hb
  dsimp only [lawB, lawE, lawSub]
  try simp only [List.drop_succ_cons, List.drop_zero, List.take_succ_cons, List.take_zero]
  refine wpN_any ?_
  w_strict k_steps
  have at_ : ∀ {us : List Value} {fs : List Fm}, FmsIn more us fs → ∀ (i : Nat) (v : Value) (f : Fm), us[i]? = some v → fs[i]? = some f → FmAt hp v f := fun x i v f e1 e2 => (x.2 i v f e1 e2).at (newsSub N fun q hq => .tail _ (.tail _ (.tail _ (.tail _ (.tail _ (.tail _ hq))))))
  refine unstop (ne_frames (fs := .sett :: gs) (N _ (.tail _ (.head _))).1 (N _ (.tail _ (.tail _ (.head _)))).1 (at_ hvs) (at_ hrv) hvs.1 hrv.1 (by show 7 < 7000; decide) ?_)
  clear at_
  w_strict k_steps
  have hne4 := hne _ (.head _)
  generalize htk : takF cl mp (.sett :: gs) = T at *
  have hT0 : ∃ T', T = .sett :: T' := ⟨_, htk.symm⟩
  refine LCg.CompSrc.ledger (by rfl) (by k_asm) (newsSub N (b := (tn, listOf tvs.toArray n2) :: (L + 1 + 1, o4) :: (x4, instObj 258 d4) :: (d4, crDict w.params t4 (.str (pS cl) tp) mv .none .none .none) :: ([] ++ more)) ((by lcg_sub))) (.head _) hsz ?_
  intro gh
  refine turnsU (fun sv gov tdv new => (tn, listOf tvs.toArray n2) :: (L + 1 + 1, o4) :: (x4, instObj 258 d4) :: (d4, crDict w.params t4 (.str (pS cl) tp) mv sv gov tdv) :: (new ++ more)) (JInv cl T more ((L + 1 + 1, o4) :: (x4, instObj 258 d4) :: (d4, crDict w.params t4 (.str (pS cl) tp) mv .none .none .none) :: more)) tvs.length
    ⟨fun q hq => absurd hq List.not_mem_nil, by cases cl <;> rfl, by cases cl <;> rfl, .inl ⟨rfl, rfl⟩, .nil⟩ ?_ ?_
  · clear hJ
    intro i ys sv gov tdv new v I oI C oC D m₂ h tk E' J1 hk hI hv hC hx F' N' off ne hJ1
    have hnew := hI.1
    have hg := hI.2.1
    have ht := hI.2.2.1
    have hS := hI.2.2.2.1
    have hi := hI.2.2.2.2
    clear hI
    have off3 := off.mem
    have hli : i < T.length := htv.1 ▸ hk
    have hv' : tvs[i]? = some v := by simpa using hv
    have hf : T[i]? = some T[i] := List.getElem?_eq_getElem hli
    have htake : T.take (i + 1) = T.take i ++ [T[i]] := (List.take_append_getElem hli).symm
    have hvm := htv.2 i v _ hv' hf
    obtain ⟨fa, rfl⟩ := fm_ref hvm
    have hcore : ∀ q ∈ (I, oI) :: (C, oC) :: (D, LCg.lst ys) :: (tn, listOf tvs.toArray n2) :: (L + 1 + 1, o4) :: (x4, instObj 258 d4) :: (new ++ more), @Ne Nat q.1 d4 :=
      have z := off3 (d4, crDict w.params t4 (.str (pS cl) tp) mv sv gov tdv) (.tail _ (.tail _ (.tail _ (.head _))))
      List.forall_mem_cons.mpr ⟨z.1.symm, List.forall_mem_cons.mpr ⟨z.2.1.symm, List.forall_mem_cons.mpr ⟨z.2.2.symm, List.forall_mem_cons.mpr ⟨(hne _ (.tail _ htn)).2, List.forall_mem_cons.mpr ⟨hne4.2, List.forall_mem_cons.mpr ⟨hxd, fun q hq => (List.mem_append.mp hq).elim (fun h => hnew q h (d4, crDict w.params t4 (.str (pS cl) tp) mv .none .none .none) (.tail _ (.tail _ (.head _)))) fun h => (hne q (.tail _ h)).2⟩⟩⟩⟩⟩⟩
    have NN := newsSub N' (b := (d4, crDict w.params t4 (.str (pS cl) tp) mv sv gov tdv) :: (I, oI) :: (C, oC) :: (D, LCg.lst ys) :: (tn, listOf tvs.toArray n2) :: (L + 1 + 1, o4) :: (x4, instObj 258 d4) :: (new ++ more)) (by lcg_sub)
    have N2 := N'
    w_strict k_steps
    rcases Nat.eq_zero_or_pos i with hi0 | hi0
    · have hsv : sv = .none := hS.elim (fun h => h.2) (fun h => absurd (by rw [hi0, List.take_zero]) h.1)
      have hgv : gov = .none := isNone (by rw [hi0, List.take_zero]; exact goNil cl) hg
      have htw : tdv = .none := isNone (by rw [hi0, List.take_zero]; exact toldNil cl) ht
      have hf0 : T[i]? = some Fm.sett := by
        obtain ⟨T', e⟩ := hT0
        rw [hi0, e]; rfl
      have hTi := Option.some.inj (hf.symm.trans hf0)
      rw [hTi] at hvm
      obtain ⟨_, ft, lf, nlf, p, t, u, e, m1, m2, m3⟩ := hvm
      cases e
      have NN0 : News H L h ((d4, crDict w.params t4 (.str (pS cl) tp) mv .none .none .none) :: (I, oI) :: (C, oC) :: (D, LCg.lst ys) :: (tn, listOf tvs.toArray n2) :: (L + 1 + 1, o4) :: (x4, instObj 258 d4) :: (new ++ more)) := by rw [hsv, hgv, htw] at NN; exact NN
      have N20 : News H L h ((I, oI) :: (C, oC) :: (D, LCg.lst ys) :: (tn, listOf tvs.toArray n2) :: (L + 1 + 1, o4) :: (x4, instObj 258 d4) :: (d4, crDict w.params t4 (.str (pS cl) tp) mv .none .none .none) :: (new ++ more)) := by rw [hsv, hgv, htw] at N2; exact N2
      clear NN N2 hsv hgv htw hg ht hS
      have inm : ∀ q ∈ more, h.get? q.1 = some q.2 := fun q hq => (NN0 _ (.tail _ (.tail _ (.tail _ (.tail _ (.tail _ (.tail _ (.tail _ (List.mem_append_right _ hq))))))))).1
      have hsa : SettAt h (.ref fa) p t u := ⟨fa, ft, lf, nlf, rfl, inm _ m1, inm _ m2, inm _ m3⟩
      refine wp_atF (f := by exact ⟨rfl, Nat.le_of_ble_eq_true rfl, Nat.le_of_ble_eq_true rfl⟩) (hf := by rfl) (refused_sett (fr := []) (outer := []) X (by assumption) F' (newsSub NN0 (b := [(x4, instObj 258 d4), (d4, crDict w.params t4 (.str (pS cl) tp) mv .none .none .none)] ++ []) (sub_mem (by k_mem) (sub_mem (by k_mem) sub_nil))) trivial rfl ?hke (fun _ _ => List.not_mem_nil) hxd hsa fun h' tk' tv l nl a hd' hl0 hl1 hpz => ?_)
      case hke => exact funK rfl
      obtain ⟨F3, N3⟩ := awayLed F' NN0 a hd' hcore
      have Nl := newsNew (h0 := h) (a := [(l, listOf #[.ref p] nl)]) F' (List.forall_mem_cons.mpr ⟨⟨hl0, hl1⟩, fun q hq => absurd hq List.not_mem_nil⟩)
      have N4 := newsAdd Nl N3
      have hll : ∀ q ∈ (I, oI) :: (C, oC) :: (D, LCg.lst ys) :: (tn, listOf tvs.toArray n2) :: (L + 1 + 1, o4) :: (x4, instObj 258 d4) :: (d4, crDict w.params t4 (.str (pS cl) tp) mv .none .none .none) :: (new ++ more), @Ne Nat l q.1 := fun q hq => newOff (q := (l, listOf #[.ref p] nl)) N20 hq hl0
      refine hJ1 _ h' tk' (.ref l) .none .none ((l, listOf #[.ref p] nl) :: new) F3 (newsSub N4 fun q hq => ?_) (LCg.Off3.of ?_) (.inr ⟨_, .head _, rfl, _, rfl⟩) ⟨?_, ?_, ?_, .inr ⟨by rw [htake]; exact List.append_ne_nil_of_right_ne_nil _ (List.cons_ne_nil _ _), l, nl, p, t, u, rfl, .head _, List.mem_append_right _ m3⟩, ?_⟩
      · revert q; lcg_sub
      · refine List.forall_mem_cons.mpr ⟨off3 _ (.head _), List.forall_mem_cons.mpr ⟨off3 _ (.tail _ (.head _)), List.forall_mem_cons.mpr ⟨off3 _ (.tail _ (.tail _ (.head _))), List.forall_mem_cons.mpr ⟨off3 (d4, crDict w.params t4 (.str (pS cl) tp) mv sv gov tdv) (.tail _ (.tail _ (.tail _ (.head _)))), List.forall_mem_cons.mpr ⟨⟨hll _ (.head _), hll _ (.tail _ (.head _)), hll _ (.tail _ (.tail _ (.head _)))⟩, fun q hq => off3 q (.tail _ (.tail _ (.tail _ (.tail _ hq))))⟩⟩⟩⟩⟩
      · refine List.forall_mem_cons.mpr ⟨fun q hq => hll q ?_, hnew⟩
        revert q; lcg_sub
      · rw [htake, hTi, hi0, List.take_zero]; exact goSett cl
      · rw [htake, hTi, hi0, List.take_zero]; exact toldSett cl
      · rw [List.replicate_succ']; exact ints_snoc hi
    · have hnn : T.take i ≠ [] := fun e => by
        have z := congrArg List.length e
        rw [List.length_take, List.length_nil] at z
        omega
      obtain ⟨l, nl, p, t, u, rfl, h1, h2⟩ := hS.elim (fun h => absurd h.1 hnn) (fun h => h.2)
      have hcode := hok i _ hi0 hf
      generalize hff : T[i] = f at *
      have hvat := hvm.at (newsSub NN fun q hq => .tail _ (.tail _ (.tail _ (.tail _ (.tail _ (.tail _ (.tail _ (List.mem_append_right _ hq))))))))
      refine wp_atF (f := by exact ⟨rfl, Nat.le_of_ble_eq_true rfl, Nat.le_of_ble_eq_true rfl⟩) (hf := by rfl) (refused (fr := []) (outer := []) X (by assumption) F' (newsSub NN (b := [(x4, instObj 258 d4), (d4, crDict w.params t4 (.str (pS cl) tp) mv (.ref l) gov tdv)] ++ []) (sub_mem (by k_mem) (sub_mem (by k_mem) sub_nil))) trivial rfl ?hke (fun _ _ => List.not_mem_nil) hxd hvat hm hg ht fun h' tk' tv gov' tdv' hg' ht' a hd' => ?_)
      case hke => exact funK rfl
      rw [go_step, ← htake] at hg'
      rw [told_step, ← htake] at ht'
      rw [hcode]
      obtain ⟨F3, N3⟩ := awayLed F' NN a hd' hcore
      refine hJ1 _ h' tk' (.ref l) gov' tdv' new F3 (newsSub N3 fun q hq => ?_) (LCg.Off3.of ?_) (.inr ⟨_, .head _, rfl, _, rfl⟩) ⟨hnew, hg', ht', .inr ⟨?_, l, nl, p, t, u, rfl, h1, h2⟩, ?_⟩
      · revert q; lcg_sub
      · exact List.forall_mem_cons.mpr ⟨off3 _ (.head _), List.forall_mem_cons.mpr ⟨off3 _ (.tail _ (.head _)), List.forall_mem_cons.mpr ⟨off3 _ (.tail _ (.tail _ (.head _))), List.forall_mem_cons.mpr ⟨off3 (d4, crDict w.params t4 (.str (pS cl) tp) mv (.ref l) gov tdv) (.tail _ (.tail _ (.tail _ (.head _)))), fun q hq => off3 q (.tail _ (.tail _ (.tail _ (.tail _ hq))))⟩⟩⟩⟩
      · rw [htake]; exact List.append_ne_nil_of_right_ne_nil _ (List.cons_ne_nil _ _)
      · rw [List.replicate_succ']; exact ints_snoc hi
  · intro ys sv gov tdv new hI D h tk F3 N3 off
    have hnew := hI.1
    have hg := hI.2.1
    have ht := hI.2.2.1
    have hS := hI.2.2.2.1
    have hi := hI.2.2.2.2
    clear hI
    rw [htv.1, List.take_length] at hg ht hS
    rw [htv.1] at hi
    rw [hgo] at hg
    rw [hto] at ht
    obtain ⟨T', hT'⟩ := hT0
    obtain ⟨l, nl, p, t, u, rfl, h1, h2⟩ := hS.elim (fun h => absurd h.1 (by rw [hT']; exact List.cons_ne_nil _ _)) (fun h => h.2)
    w_strict k_steps
    rename Fr _ _ _ _ => F4
    rename News _ _ _ _ => N4
    refine len_list (lstAt (N4 _ (.tail _ (.tail _ (.head _)))).1) (by rw [List.size_toArray, htv.1]; omega) ?_
    rw [List.size_toArray, htv.1]
    refine KM.mul (ns := [0]) (vs := [_]) F4 N4 (lstAt (N4 _ (.head _)).1) (.cons _ _ .nil) (by omega) (by omega) (by simp only [List.length_cons, List.length_nil]; omega) fun D2 h2' F5 N5 l5 hi5 _ _ _ _ _ => ?_
    simp only [Int.toNat_natCast, List.flatten_replicate_singleton] at hi5 N5
    refine ne_ints (N5 _ (.tail _ (.tail _ (.head _)))).1 (N5 _ (.head _)).1 hi hi5 (by show 7 < 7000; decide) ?_
    w_strict k_steps
    exact hJ _ _ new l nl p t u gov tdv hnew h1 h2 hg ht F5 (newsSub N5 (by lcg_sub))

end
section
example : True := by w_top off; exact trivial
theorem sepOf {P : Params} {x d : Addr} {t : Nat → Tok} {cl : Bool} {tp : Tok} {mv sv gv uv : Value} {rest : List (Addr × Obj)} (h : ∀ r ∈ rest, @Ne Nat r.1 x ∧ @Ne Nat r.1 d) : ∀ q ∈ crLed P x d t cl tp mv sv gv uv, ∀ r ∈ rest, r.1 ≠ q.1 := fun q hq r hr => by
  rcases List.mem_cons.mp hq with rfl | hq
  · exact (h r hr).1
  · rw [List.mem_singleton.mp hq]; exact (h r hr).2
/-- the settings that a rule holds lie there -/
def SetAt (l : Addr) (more : List (Addr × Obj)) : Prop := ∃ nl p t u, (l, listOf #[.ref p] nl) ∈ more ∧ (p, tupO [.int 6 t, .int 70 u]) ∈ more
theorem reads_of {H h : Heap} {L : Addr} {more led : List (Addr × Obj)} {a l D : Addr} {gov tdv : Value} {go told : Option Int} {zs : List Value} {ns : List Int} {n : Nat} (N : News H L h led) (hs : ∀ q ∈ more, q ∈ led) (ha : (a, tupO [.ref l, gov, tdv, .ref D]) ∈ led) (hl : SetAt l more) (hD : (D, listOf zs.toArray n) ∈ led) (hg : IsOpt gov go) (ht : IsOpt tdv told) (hz : IntsAre zs ns) :
    ∃ as, Reads h (.ref a) (stD go told ns) as := by
  obtain ⟨nl, p, t, u, h1, h2⟩ := hl
  exact reads_state (N _ ha).1 (N _ (hs _ h1)).1 (N _ (hs _ h2)).1 (N _ hD).1 (isOptV hg) (isOptV ht) hz
set_option maxHeartbeats 4000000 in
/-- the other sequence, and those that were taken, lead to the same -/
theorem law_k {H : Heap} (X : (hd.heap_1 w.params).In H) (T : Top hd.view_1 (looseW hd.view_1 []) mean mg mb H) {L : Addr} {m : Str → Option Value} {hp : Heap} {tk0 : Tok} {body : List Stmt} {env : Addr → Env} (hb : LawBody w body env) {x1 d1 x3 d3 x4 d4 l1 l3 l4 : Addr} {t1 t3 t4 : Nat → Tok} {cl : Bool} {tp : Tok} {mv g1 u1 g3 u3 g4 u4 : Value} {go told : Option Int} {oc o4 : Obj} {more : List (Addr × Obj)} {mm : Str → Option Value}
  (hc1 : oc.data = .cell (some (.ref x1))) (hc4 : o4.data = .cell (some (.ref x4)))
  (hL : Lg [(x3, instObj 258 d3), (d3, crDict w.params t3 (.str (pS cl) tp) mv (.ref l3) g3 u3), (x4, instObj 258 d4), (d4, crDict w.params t4 (.str (pS cl) tp) mv (.ref l4) g4 u4), (x1, instObj 258 d1), (d1, crDict w.params t1 (.str (pS cl) tp) mv (.ref l1) g1 u1)] ((L + 1, oc) :: (L + 1 + 1, o4) :: more))
  (hg1 : IsOpt g1 go) (hu1 : IsOpt u1 told) (hg3 : IsOpt g3 go) (hu3 : IsOpt u3 told) (hg4 : IsOpt g4 go) (hu4 : IsOpt u4 told) (hs1 : SetAt l1 more) (hs3 : SetAt l3 more) (hs4 : SetAt l4 more)
  (F : Fr H L hp (fun y => if y = Str.ofString "other" then some (.ref x3) else mm y)) (N : News H L hp ((x3, instObj 258 d3) :: (d3, crDict w.params t3 (.str (pS cl) tp) mv (.ref l3) g3 u3) :: (x4, instObj 258 d4) :: (d4, crDict w.params t4 (.str (pS cl) tp) mv (.ref l4) g4 u4) :: (x1, instObj 258 d1) :: (d1, crDict w.params t1 (.str (pS cl) tp) mv (.ref l1) g1 u1) :: (L + 1, oc) :: (L + 1 + 1, o4) :: more))
  {JJ : Flow → Shared → Prop} (hJ : ∀ h tk, (Fr H L h (fun y => if y = Str.ofString "other" then some (.ref x3) else mm y)) → News H L h ((x3, instObj 258 d3) :: (d3, crDict w.params t3 (.str (pS cl) tp) mv (.ref l3) g3 u3) :: (x4, instObj 258 d4) :: (d4, crDict w.params t4 (.str (pS cl) tp) mv (.ref l4) g4 u4) :: (x1, instObj 258 d1) :: (d1, crDict w.params t1 (.str (pS cl) tp) mv (.ref l1) g1 u1) :: (L + 1, oc) :: (L + 1 + 1, o4) :: more) → JJ .next {s with heap := h, toks := tk }) :
  wpN (model PySem.Challenge.rw_sj0117_01.row.prog w) (callerA.deeper (env L)) (execs ((body.drop 10).take 1) (env L)) JJ (fun _ _ => False) {s with heap := hp, toks := tk0} := by
  have b1 := Nd.head hL.nd
  have b2 := Nd.head (Nd.tail hL.nd)
  have b3 := Nd.head (Nd.tail (Nd.tail hL.nd))
  have b4 := Nd.head (Nd.tail (Nd.tail (Nd.tail hL.nd)))
  have b5 := Nd.head (Nd.tail (Nd.tail (Nd.tail (Nd.tail hL.nd))))
  have d3x : @Ne Nat d3 x3 := b1 _ (.head _)
  have x4x3 : @Ne Nat x4 x3 := b1 _ (.tail _ (.head _))
  have d4x3 : @Ne Nat d4 x3 := b1 _ (.tail _ (.tail _ (.head _)))
  have x1x3 : @Ne Nat x1 x3 := b1 _ (.tail _ (.tail _ (.tail _ (.head _))))
  have d1x3 : @Ne Nat d1 x3 := b1 _ (.tail _ (.tail _ (.tail _ (.tail _ (.head _)))))
  have x4d3 : @Ne Nat x4 d3 := b2 _ (.head _)
  have d4d3 : @Ne Nat d4 d3 := b2 _ (.tail _ (.head _))
  have x1d3 : @Ne Nat x1 d3 := b2 _ (.tail _ (.tail _ (.head _)))
  have d1d3 : @Ne Nat d1 d3 := b2 _ (.tail _ (.tail _ (.tail _ (.head _))))
  have d4x4 : @Ne Nat d4 x4 := b3 _ (.head _)
  have x1x4 : @Ne Nat x1 x4 := b3 _ (.tail _ (.head _))
  have d1x4 : @Ne Nat d1 x4 := b3 _ (.tail _ (.tail _ (.head _)))
  have x1d4 : @Ne Nat x1 d4 := b4 _ (.head _)
  have d1d4 : @Ne Nat d1 d4 := b4 _ (.tail _ (.head _))
  have d1x1 : @Ne Nat d1 x1 := b5 _ (.head _)
  clear b1 b2 b3 b4 b5
  have o3 : ∀ q ∈ (L + 1, oc) :: (L + 1 + 1, o4) :: more, @Ne Nat q.1 x3 ∧ @Ne Nat q.1 d3 := fun q hq => ⟨hL.off q hq _ (.head _), hL.off q hq _ (.tail _ (.head _))⟩
  have o4' : ∀ q ∈ (L + 1, oc) :: (L + 1 + 1, o4) :: more, @Ne Nat q.1 x4 ∧ @Ne Nat q.1 d4 := fun q hq => ⟨hL.off q hq _ (.tail _ (.tail _ (.head _))), hL.off q hq _ (.tail _ (.tail _ (.tail _ (.head _))))⟩
  have o1 : ∀ q ∈ (L + 1, oc) :: (L + 1 + 1, o4) :: more, @Ne Nat q.1 x1 ∧ @Ne Nat q.1 d1 := fun q hq => ⟨hL.off q hq _ (.tail _ (.tail _ (.tail _ (.tail _ (.head _))))), hL.off q hq _ (.tail _ (.tail _ (.tail _ (.tail _ (.tail _ (.head _))))))⟩
  obtain ⟨rfl, rfl⟩ := lawIs hb
  dsimp only [lawB, lawE, lawSub]
  try simp only [List.drop_succ_cons, List.drop_zero, List.take_succ_cons, List.take_zero]
  refine wpN_any ?_
  w_strict k_steps
  refine wp_at (f := by exact ⟨rfl, Nat.le_of_ble_eq_true rfl, Nat.le_of_ble_eq_true rfl⟩) (lawstate X T F (news := (x4, instObj 258 d4) :: (d4, crDict w.params t4 (.str (pS cl) tp) mv (.ref l4) g4 u4) :: (x1, instObj 258 d1) :: (d1, crDict w.params t1 (.str (pS cl) tp) mv (.ref l1) g1 u1) :: (L + 1, oc) :: (L + 1 + 1, o4) :: more) N (sepOf (List.forall_mem_cons.mpr ⟨⟨x4x3, x4d3⟩, List.forall_mem_cons.mpr ⟨⟨d4x3, d4d3⟩, List.forall_mem_cons.mpr ⟨⟨x1x3, x1d3⟩, List.forall_mem_cons.mpr ⟨⟨d1x3, d1d3⟩, o3⟩⟩⟩⟩)) d3x.symm hg3 hu3 ?_)
  intro a3 D3 zs3 nz3 h1 tk1 hz3 hap3 hD3 F2 N2
  dsimp only [List.cons_append, List.nil_append] at N2 hap3
  clear F N
  w_strict k_steps
  have ap3 := fun q hq => hap3 q hq
  refine wp_at (f := by exact ⟨rfl, Nat.le_of_ble_eq_true rfl, Nat.le_of_ble_eq_true rfl⟩) (lawstate X T F2 (news := (a3, tupO [.ref l3, g3, u3, .ref D3]) :: (D3, listOf zs3.toArray nz3) :: (x3, instObj 258 d3) :: (d3, crDict w.params t3 (.str (pS cl) tp) mv (.ref l3) g3 u3) :: (x4, instObj 258 d4) :: (d4, crDict w.params t4 (.str (pS cl) tp) mv (.ref l4) g4 u4) :: (L + 1, oc) :: (L + 1 + 1, o4) :: more) (t := t1) (cl := cl) (tp := tp) (most := mv) (l0 := l1) (go := g1) (told := u1) (newsSub N2 fun q hq => ?_) (sepOf (List.forall_mem_cons.mpr ⟨⟨(hap3 (x1, instObj 258 d1) (.tail _ (.tail _ (.tail _ (.tail _ (.head _)))))).1.symm, (hap3 (d1, crDict w.params t1 (.str (pS cl) tp) mv (.ref l1) g1 u1) (.tail _ (.tail _ (.tail _ (.tail _ (.tail _ (.head _))))))).1.symm⟩, List.forall_mem_cons.mpr ⟨⟨(hap3 (x1, instObj 258 d1) (.tail _ (.tail _ (.tail _ (.tail _ (.head _)))))).2.symm, (hap3 (d1, crDict w.params t1 (.str (pS cl) tp) mv (.ref l1) g1 u1) (.tail _ (.tail _ (.tail _ (.tail _ (.tail _ (.head _))))))).2.symm⟩, List.forall_mem_cons.mpr ⟨⟨x1x3.symm, d1x3.symm⟩, List.forall_mem_cons.mpr ⟨⟨x1d3.symm, d1d3.symm⟩, List.forall_mem_cons.mpr ⟨⟨x1x4.symm, d1x4.symm⟩, List.forall_mem_cons.mpr ⟨⟨x1d4.symm, d1d4.symm⟩, o1⟩⟩⟩⟩⟩⟩)) d1x1.symm hg1 hu1 ?_)
  · revert q; lcg_sub
  intro a1 D1 zs1 nz1 h2 tk2 hz1 hap1 hD1 F3 N3
  dsimp only [List.cons_append, List.nil_append] at N3 hap1
  have m3 : ∀ q ∈ more, q ∈ (a1, tupO [.ref l1, g1, u1, .ref D1]) :: (D1, listOf zs1.toArray nz1) :: (x1, instObj 258 d1) :: (d1, crDict w.params t1 (.str (pS cl) tp) mv (.ref l1) g1 u1) :: (a3, tupO [.ref l3, g3, u3, .ref D3]) :: (D3, listOf zs3.toArray nz3) :: (x3, instObj 258 d3) :: (d3, crDict w.params t3 (.str (pS cl) tp) mv (.ref l3) g3 u3) :: (x4, instObj 258 d4) :: (d4, crDict w.params t4 (.str (pS cl) tp) mv (.ref l4) g4 u4) :: (L + 1, oc) :: (L + 1 + 1, o4) :: more := fun q hq => by
    simp only [List.mem_cons, hq, or_true]
  clear F2 N2
  w_strict k_steps
  refine ne_states (go := go) (told := told) (ns := letF go) (reads_of N3 m3 (by k_mem) hs3 (by k_mem) hg3 hu3 hz3) (reads_of N3 m3 (.head _) hs1 (.tail _ (.head _)) hg1 hu1 hz1) (by show 7 < 9000; decide) ?_
  w_strict k_steps
  clear hap3 hap1 hD1 hD3 hz1 hz3 ap3 m3
  refine wp_at (f := by exact ⟨rfl, Nat.le_of_ble_eq_true rfl, Nat.le_of_ble_eq_true rfl⟩) (lawstate X T F3 (news := (x1, instObj 258 d1) :: (d1, crDict w.params t1 (.str (pS cl) tp) mv (.ref l1) g1 u1) :: (x3, instObj 258 d3) :: (d3, crDict w.params t3 (.str (pS cl) tp) mv (.ref l3) g3 u3) :: (L + 1, oc) :: (L + 1 + 1, o4) :: more) (t := t4) (cl := cl) (tp := tp) (most := mv) (l0 := l4) (go := g4) (told := u4) (newsSub N3 fun q hq => ?_) (sepOf (List.forall_mem_cons.mpr ⟨⟨x1x4, x1d4⟩, List.forall_mem_cons.mpr ⟨⟨d1x4, d1d4⟩, List.forall_mem_cons.mpr ⟨⟨x4x3.symm, d4x3.symm⟩, List.forall_mem_cons.mpr ⟨⟨x4d3.symm, d4d3.symm⟩, o4'⟩⟩⟩⟩)) d4x4.symm hg4 hu4 ?_)
  · revert q; lcg_sub
  intro a4 D4 zs4 nz4 h4 tk4 hz4 hap4 hD4 F4 N4
  dsimp only [List.cons_append, List.nil_append] at N4 hap4
  clear F3 N3
  w_strict k_steps
  refine wp_at (f := by exact ⟨rfl, Nat.le_of_ble_eq_true rfl, Nat.le_of_ble_eq_true rfl⟩) (lawstate X T F4 (news := (a4, tupO [.ref l4, g4, u4, .ref D4]) :: (D4, listOf zs4.toArray nz4) :: (x4, instObj 258 d4) :: (d4, crDict w.params t4 (.str (pS cl) tp) mv (.ref l4) g4 u4) :: (x3, instObj 258 d3) :: (d3, crDict w.params t3 (.str (pS cl) tp) mv (.ref l3) g3 u3) :: (L + 1, oc) :: (L + 1 + 1, o4) :: more) (t := t1) (cl := cl) (tp := tp) (most := mv) (l0 := l1) (go := g1) (told := u1) (newsSub N4 fun q hq => ?_) (sepOf (List.forall_mem_cons.mpr ⟨⟨(hap4 (x1, instObj 258 d1) (.tail _ (.tail _ (.head _)))).1.symm, (hap4 (d1, crDict w.params t1 (.str (pS cl) tp) mv (.ref l1) g1 u1) (.tail _ (.tail _ (.tail _ (.head _))))).1.symm⟩, List.forall_mem_cons.mpr ⟨⟨(hap4 (x1, instObj 258 d1) (.tail _ (.tail _ (.head _)))).2.symm, (hap4 (d1, crDict w.params t1 (.str (pS cl) tp) mv (.ref l1) g1 u1) (.tail _ (.tail _ (.tail _ (.head _))))).2.symm⟩, List.forall_mem_cons.mpr ⟨⟨x1x4.symm, d1x4.symm⟩, List.forall_mem_cons.mpr ⟨⟨x1d4.symm, d1d4.symm⟩, List.forall_mem_cons.mpr ⟨⟨x1x3.symm, d1x3.symm⟩, List.forall_mem_cons.mpr ⟨⟨x1d3.symm, d1d3.symm⟩, o1⟩⟩⟩⟩⟩⟩)) d1x1.symm hg1 hu1 ?_)
  · revert q; lcg_sub
  intro a5 D5 zs5 nz5 h5 tk5 hz5 hap5 hD5 F5 N5
  dsimp only [List.cons_append, List.nil_append] at N5 hap5
  have m5 : ∀ q ∈ more, q ∈ (a5, tupO [.ref l1, g1, u1, .ref D5]) :: (D5, listOf zs5.toArray nz5) :: (x1, instObj 258 d1) :: (d1, crDict w.params t1 (.str (pS cl) tp) mv (.ref l1) g1 u1) :: (a4, tupO [.ref l4, g4, u4, .ref D4]) :: (D4, listOf zs4.toArray nz4) :: (x4, instObj 258 d4) :: (d4, crDict w.params t4 (.str (pS cl) tp) mv (.ref l4) g4 u4) :: (x3, instObj 258 d3) :: (d3, crDict w.params t3 (.str (pS cl) tp) mv (.ref l3) g3 u3) :: (L + 1, oc) :: (L + 1 + 1, o4) :: more := fun q hq => by
    simp only [List.mem_cons, hq, or_true]
  clear F4 N4
  w_strict k_steps
  refine ne_states (go := go) (told := told) (ns := letF go) (reads_of N5 m5 (by k_mem) hs4 (by k_mem) hg4 hu4 hz4) (reads_of N5 m5 (.head _) hs1 (.tail _ (.head _)) hg1 hu1 hz5) (by show 7 < 9000; decide) ?_
  w_strict k_steps
  exact hJ _ _ F5 (newsSub N5 (by lcg_sub))

end
section
example : True := by w_top off; exact trivial
/-- a comprehension with a test whose turns change the ledger -/
theorem turnsT {prog : Program} {w : World} {A : Around} {h₀ : Heap} {L : Addr} {m : Str → Option Value} {env : Env} {ct elt : Expr} {x : Str} {scope : Scope} {cl : List (Str × Addr)} {s : Shared} {S : List (Addr × Obj) → Prop} {P : Nat → Value → Prop} {Fin : List Value → List (Addr × Obj) → Prop}
    (nw : Value → Value → List (Addr × Obj)) (Inv : Nat → List Value → Value → Value → Prop) (n : Nat) {a b : Value} (h0 : Inv 0 [] a b)
    (step : ∀ i ys a b v I oI C oC D m₂ h tk (E' : Value → Shared → Prop) (J1 : Value → Shared → Prop) (J2 : Shared → Prop), i < n → Inv i ys a b → P i v → LCg.NsObj oC m₂ → m₂ x = some v → Fr h₀ L h m → News h₀ L h ((I, oI) :: (C, oC) :: (D, LCg.lst ys) :: nw a b) → LCg.Off3 I C D (nw a b) → ((@Ne Nat I C) ∧ (@Ne Nat I D) ∧ (@Ne Nat C D)) →
      (∀ y h' tk' a b, Fr h₀ L h' m → News h₀ L h' ((I, oI) :: (C, oC) :: (D, LCg.lst ys) :: nw a b) → LCg.Off3 I C D (nw a b) → S (nw a b) → Inv (i + 1) (ys ++ [y]) a b → J1 y { s with heap := h', toks := tk' }) →
      (∀ h' tk' a b, Fr h₀ L h' m → News h₀ L h' ((I, oI) :: (C, oC) :: (D, LCg.lst ys) :: nw a b) → LCg.Off3 I C D (nw a b) → S (nw a b) → Inv (i + 1) ys a b → J2 { s with heap := h', toks := tk' }) →
      wpAny (model prog w) A (isTrue ct (compEnvC scope cl C env) (eval ct (compEnvC scope cl C env))) (fun ok s' => if ok = true then wpAny (model prog w) A (eval elt (compEnvC scope cl C env)) J1 E' s' else J2 s') E' { s with heap := h, toks := tk })
    (fin : ∀ ys a b, Inv n ys a b → Fin ys (nw a b)) : LCt.CompRestT prog w A h₀ L m env ct elt x scope cl s S P Fin n 0 [] (nw a b) := by
  have key : ∀ k i ys a b, i + k = n → Inv i ys a b → LCt.CompRestT prog w A h₀ L m env ct elt x scope cl s S P Fin k i ys (nw a b) := by
    intro k
    induction k with
    | zero => intro i ys a b e h; obtain rfl : i = n := e
              exact LCt.CompRestT.zero (fin ys _ _ h)
    | succ k ih =>
      intro i ys a b e hi v I oI C oC D m₂ h tk E' hv hC hx F N off ne
      exact step i ys a b v I oI C oC D m₂ h tk E' _ _ (e ▸ Nat.lt_add_of_pos_right (Nat.succ_pos k)) hi hv hC hx F N off ne (fun y h' tk' a b F' N' off' hs hi' => ⟨h', tk', _, rfl, F', N', off', hs, ih _ _ _ _ ((Nat.succ_add i k).trans e) hi'⟩) (fun h' tk' a b F' N' off' hs hi' => ⟨h', tk', _, rfl, F', N', off', hs, ih _ _ _ _ ((Nat.succ_add i k).trans e) hi'⟩)
  exact key n 0 [] _ _ (Nat.zero_add n) h0
theorem off1_mem {D : Addr} : ∀ {l : List (Addr × Obj)}, LCg.Off1 D l → ∀ p ∈ l, @Ne Nat p.1 D
  | [], _, _, h => nomatch h
  | _ :: _, x, p, h => by
    rcases List.mem_cons.mp h with rfl | h
    · exact x.1
    · exact off1_mem x.2 p h
def cancF (cl : Bool) (mp go told : Option Int) (n : Int) : Bool := decide (codeF cl mp go told (.canc n) = 0)
def LInv (cl : Bool) (mp go told : Option Int) (i : Nat) (zs : List Value) (g u : Value) : Prop := IsOpt g go ∧ IsOpt u told ∧ IntsAre zs (((intsTo 22).take i).filter (cancF cl mp go told))
set_option maxHeartbeats 4000000 in
/-- the pushes that can be cancelled -/
theorem law_l {H : Heap} (X : (hd.heap_1 w.params).In H) (T : Top hd.view_1 (looseW hd.view_1 []) mean mg mb H) {L : Addr} {m : Str → Option Value} {hp : Heap} {tk0 : Tok} {body : List Stmt} {env : Addr → Env} (hb : LawBody w body env) {x1 d1 l1 : Addr} {t1 : Nat → Tok} {cl : Bool} {tp : Tok} {mv g1 u1 : Value} {mp go told : Option Int} {oc : Obj} {more : List (Addr × Obj)} {mm : Str → Option Value}
  (hm : IsOpt mv mp) (hxd : @Ne Nat x1 d1) (hcd : oc.data = .cell (some (.ref x1))) (hne : ∀ q ∈ (L + 1, oc) :: more, @Ne Nat q.1 x1 ∧ @Ne Nat q.1 d1) (hg1 : IsOpt g1 go) (hu1 : IsOpt u1 told)
  (F : Fr H L hp mm) (N : News H L hp ((x1, instObj 258 d1) :: (d1, crDict w.params t1 (.str (pS cl) tp) mv (.ref l1) g1 u1) :: (L + 1, oc) :: more))
  {JJ : Flow → Shared → Prop} (hJ : ∀ h tk D ys n g1' u1', IsOpt g1' go → IsOpt u1' told → IntsAre ys ((intsTo 22).filter (cancF cl mp go told)) → (∀ q ∈ (x1, instObj 258 d1) :: (d1, crDict w.params t1 (.str (pS cl) tp) mv (.ref l1) g1 u1) :: (L + 1, oc) :: more, @Ne Nat q.1 D) → (Fr H L h (fun y => if y = Str.ofString "let" then some (.ref D) else mm y)) → News H L h ((D, listOf ys.toArray n) :: (x1, instObj 258 d1) :: (d1, crDict w.params t1 (.str (pS cl) tp) mv (.ref l1) g1' u1') :: (L + 1, oc) :: more) → JJ .next {s with heap := h, toks := tk }) :
  wpN (model PySem.Challenge.rw_sj0117_01.row.prog w) (callerA.deeper (env L)) (execs ((body.drop 11).take 1) (env L)) JJ (fun _ _ => False) {s with heap := hp, toks := tk0} := by
  have dx1 : @Ne Nat d1 x1 := hxd.symm
  have hne1 := hne _ (.head _)
  obtain ⟨rfl, rfl⟩ := lawIs hb
  dsimp only [lawB, lawE, lawSub]
  try simp only [List.drop_succ_cons, List.drop_zero, List.take_succ_cons, List.take_zero]
  refine wpN_any ?_
  w_strict k_steps
  refine unstop (LCt.CompSrcT.range (n := 22) (by rfl) (by k_asm) (by k_asm) (by assumption) (by decide) (by rfl) (by decide) ?_)
  intro gh
  refine turnsT (fun g u => (x1, instObj 258 d1) :: (d1, crDict w.params t1 (.str (pS cl) tp) mv (.ref l1) g u) :: (L + 1, oc) :: more) (LInv cl mp go told) 22 ⟨hg1, hu1, .nil⟩ ?_ ?_
  · clear hJ
    intro i zs g1' u1' v I oI C oC D m₂ h tk E' J1 J2 hk hI hv hC hx F' N' off ne hJ1 hJ2
    have hg := hI.1
    have hu := hI.2.1
    have hi := hI.2.2
    clear hI
    obtain ⟨tn, rfl⟩ := hv
    have off3 := off.mem
    have hz := take_succ_of (intsTo_at (n := 22) (i := i) hk)
    rw [show (0 : Int) + (i : Int) = (i : Int) by omega] at *
    w_strict k_steps
    rename_i Tt h2 F2 N2 lT
    have hcore : ∀ q ∈ (I, oI) :: (C, oC) :: (D, LCg.lst zs) :: (x1, instObj 258 d1) :: (L + 1, oc) :: more, @Ne Nat q.1 d1 :=
      have z := off3 (d1, crDict w.params t1 (.str (pS cl) tp) mv (.ref l1) g1' u1') (.tail _ (.head _))
      List.forall_mem_cons.mpr ⟨z.1.symm, List.forall_mem_cons.mpr ⟨z.2.1.symm, List.forall_mem_cons.mpr ⟨z.2.2.symm, List.forall_mem_cons.mpr ⟨hxd, fun q hq => (hne q hq).2⟩⟩⟩⟩
    have NN := newsSub N2 (b := (d1, crDict w.params t1 (.str (pS cl) tp) mv (.ref l1) g1' u1') :: (I, oI) :: (C, oC) :: (D, LCg.lst zs) :: (x1, instObj 258 d1) :: (L + 1, oc) :: more) (by lcg_sub)
    refine wp_atF (f := by exact ⟨rfl, Nat.le_of_ble_eq_true rfl, Nat.le_of_ble_eq_true rfl⟩) (hf := by rfl) (refused (fr := []) (outer := []) (v := .ref Tt) (f := .canc i) X (by assumption) F2 (newsSub N2 (b := [(x1, instObj 258 d1), (d1, crDict w.params t1 (.str (pS cl) tp) mv (.ref l1) g1' u1')] ++ []) (sub_mem (by k_mem) (sub_mem (by k_mem) sub_nil))) trivial rfl ?hke (fun _ _ => List.not_mem_nil) hxd ⟨Tt, _, _, rfl, (N2 _ (.head _)).1⟩ hm hg hu fun h' tk' tv gov' tdv' hg' ht' a hd' => ?_)
    case hke => exact funK rfl
    replace hg' : IsOpt gov' go := hg'
    replace ht' : IsOpt tdv' told := ht'
    have hcc : cancF cl mp go told (i : Int) = decide (codeF cl mp go told (.canc i) = 0) := rfl
    generalize codeF cl mp go told (.canc (i : Int)) = c at *
    obtain ⟨F3, N3⟩ := awayLed F2 NN a hd' hcore
    replace N3 := newsSub N3 (b := (I, oI) :: (C, oC) :: (D, LCg.lst zs) :: (x1, instObj 258 d1) :: (d1, crDict w.params t1 (.str (pS cl) tp) mv (.ref l1) gov' tdv') :: (L + 1, oc) :: more) (by lcg_sub)
    clear N2 NN F2
    w_strict k_steps
    · rename c = 0 => h0
      refine hJ1 _ h' _ gov' tdv' F3 N3 off trivial ⟨hg', ht', ?_⟩
      have e : List.filter (cancF cl mp go told) [(i : Int)] = [(i : Int)] := by simp only [List.filter, hcc, h0, decide_true]
      rw [hz, List.filter_append, e]
      exact ints_snoc hi
    · rename c ≠ 0 => h0
      refine hJ2 h' _ gov' tdv' F3 N3 off trivial ⟨hg', ht', ?_⟩
      have e : List.filter (cancF cl mp go told) [(i : Int)] = [] := by simp only [List.filter, hcc, h0, decide_false]
      rw [hz, List.filter_append, e, List.append_nil]
      exact hi
  · intro zs g1' u1' hI
    have hg := hI.1
    have hu := hI.2.1
    have hi := hI.2.2
    clear hI
    rw [show (intsTo 22).take 22 = intsTo 22 from rfl] at hi
    intro D h tk F3 N3 off
    w_strict k_steps
    refine hJ h _ D zs _ g1' u1' hg hu hi ?_ F3 N3
    have z := off1_mem off
    exact List.forall_mem_cons.mpr ⟨z _ (.head _), List.forall_mem_cons.mpr ⟨z (d1, crDict w.params t1 (.str (pS cl) tp) mv (.ref l1) g1' u1') (.tail _ (.head _)), fun q hq => z q (.tail _ (.tail _ hq))⟩⟩

end
section
example : True := by w_top off; exact trivial
theorem eq_ints {prog : Program} {w : World} {A : Around} {s : Shared} {E : Value → Shared → Prop} {a b : Addr} {vs us : List Value} {ns : List Int} {n k : Nat} {Q : Value → Shared → Prop} (ha : s.heap.get? a = some (listOf vs.toArray n)) (hb : s.heap.get? b = some (listOf us.toArray k))
    (h1 : IntsAre vs ns) (h2 : IntsAre us ns) (hu : A.units < 7000) (h : Q (.bool true) s) :
    wpAny (model prog w) A (compareOp .Eq (.ref a) (.ref b)) Q E s := by
  have hl1 := h1.length
  have hl2 := h2.length
  have z := SeqAt.RcAt.lists (A := A) (e := fun _ => true) (lstAt ha) (lstAt hb) (by simp [hl1, hl2]) (Nat.lt_trans hu (by decide)) (fun j j1 j2 => by
    have e1 : j < vs.length := by simpa using j1
    have e2 : j < us.length := by simpa using j2
    simp only [List.getElem_toArray]
    obtain ⟨x, t, ex, hx⟩ := IntsAre.at h1 j _ (List.getElem?_eq_getElem e1)
    obtain ⟨y, u, ey, hy⟩ := IntsAre.at h2 j _ (List.getElem?_eq_getElem e2)
    rw [hx] at hy
    cases hy
    rw [ex, ey]
    exact eqInt _ _ _)
  rw [show (List.range vs.toArray.size).all (fun _ => true) = true by simp] at z
  exact z prog w E Q h
local macro_rules | `(tactic| walk_at "compareOp Eq ref ref") => `(tactic| (k_here; k_dflt (refine ofStop ?_)))
set_option maxHeartbeats 4000000 in
/-- what the law gives back -/
theorem law_m {H : Heap} (X : (hd.heap_1 w.params).In H) (T : Top hd.view_1 (looseW hd.view_1 []) mean mg mb H) {L : Addr} {m : Str → Option Value} {hp : Heap} {tk0 : Tok} {body : List Stmt} {env : Addr → Env} (hb : LawBody w body env) {x1 d1 x4 d4 l1 l4 cm D : Addr} {t1 t4 : Nat → Tok} {cl : Bool} {tp : Tok} {mv g1 u1 g4 u4 : Value} {mp : Option Int} {oc o4 : Obj} {more : List (Addr × Obj)} {mm : Str → Option Value} {vs ys : List Value} {rows : List Fm} {n1 n : Nat}
  (hm : IsOpt mv mp) (hmp : mp = some 3 ∨ mp = none) (hc1 : oc.data = .cell (some (.ref x1))) (hc4 : o4.data = .cell (some (.ref x4)))
  (hL : Lg [(x4, instObj 258 d4), (d4, crDict w.params t4 (.str (pS cl) tp) mv (.ref l4) g4 u4), (x1, instObj 258 d1), (d1, crDict w.params t1 (.str (pS cl) tp) mv (.ref l1) g1 u1)] ((L + 1, oc) :: (L + 1 + 1, o4) :: (D, listOf ys.toArray n) :: (cm, listOf vs.toArray n1) :: more))
  (hg1 : IsOpt g1 (goOf cl rows)) (hu1 : IsOpt u1 (toldOf cl rows)) (hg4 : IsOpt g4 (goOf cl rows)) (hu4 : IsOpt u4 (toldOf cl rows)) (hs1 : SetAt l1 more) (hs4 : SetAt l4 more)
  (hvs : FmsIn more vs rows) (h9 : rows.length ≤ 20) (hmx : ∀ n, Fm.maxp n ∈ rows → 0 ≤ n ∧ n < 21) (hys : IntsAre ys ((intsTo 22).filter (cancF cl mp (goOf cl rows) (toldOf cl rows))))
  (F : Fr H L hp (fun y => if y = Str.ofString "let" then some (.ref D) else if y = Str.ofString "peer" then some (.str (pS cl) tp) else if y = Str.ofString "most" then some mv else if y = Str.ofString "came" then some (.ref cm) else mm y)) (N : News H L hp ((x4, instObj 258 d4) :: (d4, crDict w.params t4 (.str (pS cl) tp) mv (.ref l4) g4 u4) :: (x1, instObj 258 d1) :: (d1, crDict w.params t1 (.str (pS cl) tp) mv (.ref l1) g1 u1) :: (L + 1, oc) :: (L + 1 + 1, o4) :: (D, listOf ys.toArray n) :: (cm, listOf vs.toArray n1) :: more)) :
  wpN (model PySem.Challenge.rw_sj0117_01.row.prog w) (callerA.deeper (env L)) (execs (body.drop 12) (env L)) (RetT H L s) (fun _ _ => False) {s with heap := hp, toks := tk0} := by
  refine postVar fun JJ hJ => ?_
  have hmv : handedIn mv = true := by cases mp with | none => cases hm; rfl | some g => obtain ⟨_, rfl⟩ := hm; rfl
  have hbl := boundsF_lt (cl := cl) hmp hmx
  have b1 := Nd.head hL.nd
  have b2 := Nd.head (Nd.tail hL.nd)
  have b3 := Nd.head (Nd.tail (Nd.tail hL.nd))
  have d4x4 : @Ne Nat d4 x4 := b1 _ (.head _)
  have x1x4 : @Ne Nat x1 x4 := b1 _ (.tail _ (.head _))
  have d1x4 : @Ne Nat d1 x4 := b1 _ (.tail _ (.tail _ (.head _)))
  have x1d4 : @Ne Nat x1 d4 := b2 _ (.head _)
  have d1d4 : @Ne Nat d1 d4 := b2 _ (.tail _ (.head _))
  have d1x1 : @Ne Nat d1 x1 := b3 _ (.head _)
  clear b1 b2 b3
  have inC : ∀ q ∈ (L + 1, oc) :: (L + 1 + 1, o4) :: more, q ∈ (L + 1, oc) :: (L + 1 + 1, o4) :: (D, listOf ys.toArray n) :: (cm, listOf vs.toArray n1) :: more := sub_keep (sub_keep (sub_skip (sub_skip sub_all)))
  have o4' : ∀ q ∈ (L + 1, oc) :: (L + 1 + 1, o4) :: more, @Ne Nat q.1 x4 ∧ @Ne Nat q.1 d4 := fun q hq => ⟨hL.off q (inC q hq) _ (.head _), hL.off q (inC q hq) _ (.tail _ (.head _))⟩
  have o1 : ∀ q ∈ (L + 1, oc) :: (L + 1 + 1, o4) :: more, @Ne Nat q.1 x1 ∧ @Ne Nat q.1 d1 := fun q hq => ⟨hL.off q (inC q hq) _ (.tail _ (.tail _ (.head _))), hL.off q (inC q hq) _ (.tail _ (.tail _ (.tail _ (.head _))))⟩
  obtain ⟨rfl, rfl⟩ := lawIs hb
  dsimp only [lawB, lawE, lawSub]
  try simp only [List.drop_succ_cons, List.drop_zero, List.take_succ_cons, List.take_zero]
  refine wpN_any ?_
  w_strict k_steps
  refine wp_at (f := by exact ⟨rfl, Nat.le_of_ble_eq_true rfl, Nat.le_of_ble_eq_true rfl⟩) (bounds X T F N (N _ (.tail _ (.tail _ (.tail _ (.tail _ (.tail _ (.tail _ (.tail _ (.head _))))))))).1 ⟨hvs.1, fun i v f e1 e2 => (hvs.2 i v f e1 e2).at (newsSub N fun q hq => .tail _ (.tail _ (.tail _ (.tail _ (.tail _ (.tail _ (.tail _ (.tail _ hq))))))))⟩ (by rw [hvs.1]; exact h9) hm ?_)
  intro D2 zs n2 h2 tk2 hz hD2 F2 N2
  have hzl : zs.length ≤ 30 := by
    rw [hz.length]
    unfold boundsF cntF numsK
    rw [List.length_append, if_neg (by decide)]
    have z := List.length_filterMap_le (numK false) rows
    cases cl <;> cases mp <;> simp only [Bool.false_eq_true, if_false, if_true, List.length_nil, List.length_cons] <;> omega
  clear F N
  w_strict k_steps
  rename _ ∈ boundsF cl mp rows ++ [-1] => hM
  rename (∀ a : Int, a ∈ boundsF cl mp rows ++ [-1] → _) => hle
  obtain ⟨hM0, hM1, hcut⟩ := let_bounds hbl hM hle
  w_strict k_steps
  rename IntsAre _ (rangeKs 0 _) => hir
  rename News _ _ _ _ => N3
  rename Fr _ _ _ _ => F3
  have hcf := hcut (cancF cl mp (goOf cl rows) (toldOf cl rows)) fun n => decide_eq_true_iff.trans (canc_code n)
  rw [hcf] at hys
  rw [Int.sub_zero, ran_b _ (by omega)] at hir
  refine unstop (eq_ints (N3 _ (.tail _ (.tail _ (.tail _ (.tail _ (.tail _ (.tail _ (.tail _ (.tail _ (.tail _ (.tail _ (.head _)))))))))))).1 (N3 _ (.head _)).1 hys hir (by show 7 < 7000; decide) ?_)
  replace N3 := newsSub N3 (b := (x1, instObj 258 d1) :: (d1, crDict w.params t1 (.str (pS cl) tp) mv (.ref l1) g1 u1) :: (x4, instObj 258 d4) :: (d4, crDict w.params t4 (.str (pS cl) tp) mv (.ref l4) g4 u4) :: (L + 1, oc) :: (L + 1 + 1, o4) :: more) (by lcg_sub)

  w_strict k_steps
  refine wp_at (f := by exact ⟨rfl, Nat.le_of_ble_eq_true rfl, Nat.le_of_ble_eq_true rfl⟩) (lawstate X T F3 (news := (x4, instObj 258 d4) :: (d4, crDict w.params t4 (.str (pS cl) tp) mv (.ref l4) g4 u4) :: (L + 1, oc) :: (L + 1 + 1, o4) :: more) (t := t1) (cl := cl) (tp := tp) (most := mv) (l0 := l1) (go := g1) (told := u1) N3 (sepOf (List.forall_mem_cons.mpr ⟨⟨x1x4.symm, d1x4.symm⟩, List.forall_mem_cons.mpr ⟨⟨x1d4.symm, d1d4.symm⟩, o1⟩⟩)) d1x1.symm hg1 hu1 ?_)
  intro a1 D1 zs1 nz1 h4 tk4 hz1 hap1 hD1 F4 N4
  dsimp only [List.cons_append, List.nil_append] at N4 hap1
  clear F3 N3
  w_strict k_steps
  refine wp_at (f := by exact ⟨rfl, Nat.le_of_ble_eq_true rfl, Nat.le_of_ble_eq_true rfl⟩) (lawstate X T F4 (news := (a1, tupO [.ref l1, g1, u1, .ref D1]) :: (D1, listOf zs1.toArray nz1) :: (x1, instObj 258 d1) :: (d1, crDict w.params t1 (.str (pS cl) tp) mv (.ref l1) g1 u1) :: (L + 1, oc) :: (L + 1 + 1, o4) :: more) (t := t4) (cl := cl) (tp := tp) (most := mv) (l0 := l4) (go := g4) (told := u4) (newsSub N4 fun q hq => ?_) (sepOf (List.forall_mem_cons.mpr ⟨⟨(hap1 (x4, instObj 258 d4) (.tail _ (.tail _ (.head _)))).1.symm, (hap1 (d4, crDict w.params t4 (.str (pS cl) tp) mv (.ref l4) g4 u4) (.tail _ (.tail _ (.tail _ (.head _))))).1.symm⟩, List.forall_mem_cons.mpr ⟨⟨(hap1 (x4, instObj 258 d4) (.tail _ (.tail _ (.head _)))).2.symm, (hap1 (d4, crDict w.params t4 (.str (pS cl) tp) mv (.ref l4) g4 u4) (.tail _ (.tail _ (.tail _ (.head _))))).2.symm⟩, List.forall_mem_cons.mpr ⟨⟨x1x4, x1d4⟩, List.forall_mem_cons.mpr ⟨⟨d1x4, d1d4⟩, o4'⟩⟩⟩⟩)) d4x4.symm hg4 hu4 ?_)
  · revert q; lcg_sub
  intro a5 D5 zs5 nz5 h5 tk5 hz5 hap5 hD5 F5 N5
  dsimp only [List.cons_append, List.nil_append] at N5 hap5
  have m5 : ∀ q ∈ more, q ∈ (a5, tupO [.ref l4, g4, u4, .ref D5]) :: (D5, listOf zs5.toArray nz5) :: (x4, instObj 258 d4) :: (d4, crDict w.params t4 (.str (pS cl) tp) mv (.ref l4) g4 u4) :: (a1, tupO [.ref l1, g1, u1, .ref D1]) :: (D1, listOf zs1.toArray nz1) :: (x1, instObj 258 d1) :: (d1, crDict w.params t1 (.str (pS cl) tp) mv (.ref l1) g1 u1) :: (L + 1, oc) :: (L + 1 + 1, o4) :: more := fun q hq => by
    simp only [List.mem_cons, hq, or_true]
  clear F4 N4
  w_strict k_steps
  refine unstop (eq_states (go := goOf cl rows) (told := toldOf cl rows) (ns := letF (goOf cl rows)) (reads_of N5 m5 (by k_mem) hs1 (by k_mem) hg1 hu1 hz1) (reads_of N5 m5 (.head _) hs4 (.tail _ (.head _)) hg4 hu4 hz5) (by show 7 < 9000; decide) ?_)
  w_strict k_steps
  exact hJ _ _ ⟨rfl, rfl, rfl, _, F5⟩

end
section
/-- on to the next statement -/
theorem nextC {M : Model} {A : Around} {E : Value → Shared → Prop} {s : Shared} {env : Env} {Q : Flow → Shared → Prop} (n : Nat) (body : List Stmt) (h1 : ∀ J : Flow → Shared → Prop, (∀ s', wpN M A (execs (body.drop (n + 1)) env) Q E s' → J .next s') → wpN M A (execs ((body.drop n).take 1) env) J E s) : wpN M A (execs (body.drop n) env) Q E s :=
  splitC 1 (body.drop n) fun J hJ => h1 J fun s' q => hJ s' (by rw [List.drop_drop]; exact q)
/-- the ledger without one cell -/
abbrev but (c : Addr) (led : List (Addr × Obj)) : List (Addr × Obj) := led.filter fun q => decide (@Ne Nat q.1 c)
theorem mem_but {c : Addr} {led : List (Addr × Obj)} {q : Addr × Obj} : q ∈ but c led ↔ q ∈ led ∧ @Ne Nat q.1 c := by rw [List.mem_filter]; simp
theorem cellOff {H h : Heap} {L c : Addr} {led : List (Addr × Obj)} {o o' : Obj} {a : Addr} (N : News H L h led) (hc : (c, o) ∈ led) (hd : o.data = .cell none) (ha : (a, o') ∈ led) (hn : ∀ x, o'.data ≠ .cell x) : (a, o') ∈ but c led :=
  mem_but.mpr ⟨ha, fun e => by
    have e' : a = c := e
    subst e'
    have z := (N _ hc).1
    have y := (N _ ha).1
    have x : some o = some o' := z.symm.trans y
    cases x
    exact hn _ hd⟩
theorem IsFm.but {H h : Heap} {L c : Addr} {led : List (Addr × Obj)} {o : Obj} {v : Value} {f : Fm} (N : News H L h led) (hc : (c, o) ∈ led) (hd : o.data = .cell none) (x : IsFm led v f) : IsFm (but c led) v f := by
  have key : ∀ {a : Addr} {o' : Obj}, (a, o') ∈ led → (∀ x, o'.data ≠ .cell x) → (a, o') ∈ Mine.but c led := fun h1 h2 => cellOff N hc hd h1 h2
  cases f with
  | goaway n => obtain ⟨a, t1, t2, e, h1⟩ := x; exact ⟨a, t1, t2, e, key h1 fun _ q => nomatch q⟩
  | maxp n => obtain ⟨a, t1, t2, e, h1⟩ := x; exact ⟨a, t1, t2, e, key h1 fun _ q => nomatch q⟩
  | canc n => obtain ⟨a, t1, t2, e, h1⟩ := x; exact ⟨a, t1, t2, e, key h1 fun _ q => nomatch q⟩
  | unk => obtain ⟨a, t1, t2, t3, e, h1⟩ := x; exact ⟨a, t1, t2, t3, e, key h1 fun _ q => nomatch q⟩
  | hdr => obtain ⟨a, t1, t2, e, h1⟩ := x; exact ⟨a, t1, t2, e, key h1 fun _ q => nomatch q⟩
  | dat => obtain ⟨a, t1, t2, e, h1⟩ := x; exact ⟨a, t1, t2, e, key h1 fun _ q => nomatch q⟩
  | sett => obtain ⟨a, t1, l, nl, p, t2, t3, e, h1, h2, h3⟩ := x; exact ⟨a, t1, l, nl, p, t2, t3, e, key h1 fun _ q => (nomatch q), key h2 fun _ q => (nomatch q), key h3 fun _ q => (nomatch q)⟩
  | sett2 => obtain ⟨a, t1, l, nl, p, t2, t3, e, h1, h2, h3⟩ := x; exact ⟨a, t1, l, nl, p, t2, t3, e, key h1 fun _ q => (nomatch q), key h2 fun _ q => (nomatch q), key h3 fun _ q => (nomatch q)⟩
theorem FmsIn.but {H h : Heap} {L c : Addr} {led : List (Addr × Obj)} {o : Obj} {vs : List Value} {fs : List Fm} (N : News H L h led) (hc : (c, o) ∈ led) (hd : o.data = .cell none) (x : FmsIn led vs fs) : FmsIn (Mine.but c led) vs fs :=
  ⟨x.1, fun i v f e1 e2 => IsFm.but N hc hd (x.2 i v f e1 e2)⟩
set_option maxHeartbeats 1000000 in
/-- up to the octets -/
theorem part_a {H : Heap} (X : (hd.heap_1 w.params).In H) (T : Top hd.view_1 (looseW hd.view_1 []) mean mg mb H) {L : Addr} {m : Str → Option Value} {hp : Heap} {tk0 : Tok} {body : List Stmt} {env : Addr → Env} (hb : LawBody w body env) {Q : Flow → Shared → Prop} {l : Addr} {vs : List Value} {ns : List Int} (hl : H.IsList l vs.toArray) (hi : IntsAre vs ns) (hlen : ns.length ≤ 63) {o2 o1 : Obj} (h1 : o1.data = .cell none) (h2 : o2.data = .cell none)
  (F : Fr H L hp (fun y => if y = Str.ofString "script" then some (.ref l) else none)) (N : News H L hp [(L + 1 + 1, o1), (L + 1, o2)])
  (k : ∀ h tk cl mp mv tp (z : Nat) tz r nr v0 rv gs b tb M more, IsOpt mv mp → (mp = some 3 ∨ mp = none) → 1 ≤ z → z ≤ 4 → 3 ≤ gs.length → gs.length ≤ 8 → (∀ g ∈ gs, Made g) → FmsIn more (v0 :: rv) (.sett :: gs) → KBw.bInts b = encs (.sett :: gs) →
    (r, listOf (v0 :: rv).toArray nr) ∈ more → (L + 1 + 1, o1) ∈ more → (∀ q ∈ more, @Ne Nat q.1 (L + 1)) → Fr H L h M → News H L h ((L + 1, o2) :: more) → M (Str.ofString "octets") = some (.bytes b tb) → M (Str.ofString "size") = some (.int z tz) → M (Str.ofString "rows") = some (.ref r) → M (Str.ofString "peer") = some (.str (pS cl) tp) → M (Str.ofString "most") = some mv →
    wpN (model PySem.Challenge.rw_sj0117_01.row.prog w) (callerA.deeper (env L)) (execs (body.drop 5) (env L)) Q (fun _ _ => False) {s with heap := h, toks := tk }) :
  wpN (model PySem.Challenge.rw_sj0117_01.row.prog w) (callerA.deeper (env L)) (execs body (env L)) Q (fun _ _ => False) {s with heap := hp, toks := tk0} := by
  have hlen24 : (ns.take 24).length ≤ 24 := List.length_take_le _ _
  refine nextC 0 body fun J hJ => law_a (m := m) X T hb hl hi hlen F N fun h tk b nb lc nlc cs t more hics Fa Na nd => hJ _ ?_
  clear F N
  refine nextC 1 body fun J hJ => law_b (m := m) (k := 0) X T hb hics hlen24 (by decide) (by decide) Fa Na nd fun h tk cl mp mv tp t' hm hmp Fb Nb => hJ _ ?_
  clear Fa Na
  refine nextC 2 body fun J hJ => law_c (m := m) (k := 0 + 2) X T hb hics hlen24 (by decide) (by decide) Fb Nb nd fun h tk z tz r nr v0 more2 t'' hz1 hz4 hv0 hsub hR Fc Nc => hJ _ ?_
  clear Fb Nb
  refine nextC 3 body fun J hJ => law_d (m := m) (k := 0 + 2 + 1) X T hb hics hlen24 (by decide) (by decide) Fc Nc hR hv0 fun h tk nr2 rv gs more3 mm' hg3 hg8 hF hM hsub2 hne Fd Nd_ => hJ _ ?_
  clear Fc Nc
  have hcell : (L + 1, o2) ∈ more3 := hsub2 _ (hsub _ (.tail _ (.head _)))
  have hcell2 : (L + 1 + 1, o1) ∈ more3 := hsub2 _ (hsub _ (.head _))
  refine nextC 4 body fun J hJ => law_e (m := m) X T hb Fd Nd_ hF (fun f hf => ?_) (by rw [List.length_cons]; omega) (by rw [List.length_cons]; omega) fun h tk ob tob hob Fe Ne_ => hJ _ ?_
  · rcases List.mem_cons.mp hf with rfl | hf
    · exact trivial
    · exact (made_nums (hM f hf)).1
  clear Fd Nd_
  obtain ⟨zn, rfl⟩ := Int.eq_ofNat_of_zero_le (show 0 ≤ z by omega)
  have Nm : News H L h more3 := newsSub Ne_ (sub_skip sub_all)
  refine k h tk cl mp mv tp zn tz r nr2 v0 rv gs ob tob _ ((r, listOf (v0 :: rv).toArray nr2) :: but (L + 1) more3) hm hmp (by omega) (by omega) hg3 hg8 hM ((FmsIn.but Nm hcell h2 hF).mono (sub_skip sub_all)) hob (.head _) (.tail _ (mem_but.mpr ⟨hcell2, Nat.succ_ne_self (L + 1)⟩)) ?_ Fe (newsSub Ne_ ?_) rfl rfl rfl rfl rfl
  · exact List.forall_mem_cons.mpr ⟨(hne _ hcell).symm, fun q hq => (mem_but.mp hq).2⟩
  · intro q hq
    simp only [List.mem_cons] at hq ⊢
    rcases hq with h | h | h
    · exact .inr (h ▸ hcell)
    · exact .inl h
    · exact .inr (mem_but.mp h).1

end
section
/-- what the rules, the lists and the frames are behind the main loop -/
structure StB (P : Params) (L x1 d1 x3 d3 x4 d4 cm tn r l1 : Addr) (t1 t3 t4 : Nat → Tok) (cl : Bool) (tp : Tok) (mv g1 u1 v0 : Value) (mp : Option Int) (oc o4 : Obj) (vs tvs rv : List Value) (gs : List Fm) (n1 n2 nr : Nat) (more : List (Addr × Obj)) : Prop where
  c1 : oc.data = .cell (some (.ref x1))
  c4 : o4.data = .cell (some (.ref x4))
  lg : Lg [(x3, instObj 258 d3), (d3, crDict P t3 (.str (pS cl) tp) mv .none .none .none), (x4, instObj 258 d4), (d4, crDict P t4 (.str (pS cl) tp) mv .none .none .none), (x1, instObj 258 d1), (d1, crDict P t1 (.str (pS cl) tp) mv (.ref l1) g1 u1)] ((L + 1, oc) :: (L + 1 + 1, o4) :: more)
  go : IsOpt g1 (goOf cl (.sett :: gs))
  told : IsOpt u1 (toldOf cl (.sett :: gs))
  set : SetAt l1 more
  came : (cm, listOf vs.toArray n1) ∈ more
  vs : FmsIn more vs (.sett :: gs)
  taken : (tn, listOf tvs.toArray n2) ∈ more
  tvs : FmsIn more tvs (takF cl mp (.sett :: gs))
  rows : (r, listOf (v0 :: rv).toArray nr) ∈ more
  rv : FmsIn more (v0 :: rv) (.sett :: gs)
set_option maxHeartbeats 1000000 in
/-- from the octets to the two further rules -/
theorem part_b {H : Heap} (X : (hd.heap_1 w.params).In H) (T : Top hd.view_1 (looseW hd.view_1 []) mean mg mb H) {L : Addr} {m : Str → Option Value} {hp : Heap} {tk0 : Tok} {body : List Stmt} {env : Addr → Env} (hb : LawBody w body env) {Q : Flow → Shared → Prop} {cl : Bool} {mp : Option Int} {mv : Value} {tp tz tb : Tok} {z nr : Nat} {r : Addr} {v0 : Value} {rv : List Value} {gs : List Fm} {b : Array UInt8} {M : Str → Option Value} {more : List (Addr × Obj)} {o2 o1 : Obj} (h1 : o1.data = .cell none) (h2 : o2.data = .cell none)
  (hm : IsOpt mv mp) (hz1 : 1 ≤ z) (hz4 : z ≤ 4) (hg8 : gs.length ≤ 8) (hM : ∀ g ∈ gs, Made g) (hF : FmsIn more (v0 :: rv) (.sett :: gs)) (hob : KBw.bInts b = encs (.sett :: gs))
  (hr : (r, listOf (v0 :: rv).toArray nr) ∈ more) (hc2 : (L + 1 + 1, o1) ∈ more) (hne : ∀ q ∈ more, @Ne Nat q.1 (L + 1)) (F : Fr H L hp M) (N : News H L hp ((L + 1, o2) :: more)) (k1 : M (Str.ofString "octets") = some (.bytes b tb)) (k2 : M (Str.ofString "size") = some (.int z tz)) (k3 : M (Str.ofString "rows") = some (.ref r)) (k4 : M (Str.ofString "peer") = some (.str (pS cl) tp)) (k5 : M (Str.ofString "most") = some mv)
  (k : ∀ h tk x1 d1 x3 d3 x4 d4 cm tn l1 t1 t3 t4 g1 u1 oc o4 vs tvs n1 n2 M more, StB w.params L x1 d1 x3 d3 x4 d4 cm tn r l1 t1 t3 t4 cl tp mv g1 u1 v0 mp oc o4 vs tvs rv gs n1 n2 nr more → Fr H L h M →
    News H L h ((x3, instObj 258 d3) :: (d3, crDict w.params t3 (.str (pS cl) tp) mv .none .none .none) :: (x4, instObj 258 d4) :: (d4, crDict w.params t4 (.str (pS cl) tp) mv .none .none .none) :: (x1, instObj 258 d1) :: (d1, crDict w.params t1 (.str (pS cl) tp) mv (.ref l1) g1 u1) :: (L + 1, oc) :: (L + 1 + 1, o4) :: more) →
    M (Str.ofString "other") = some (.ref x3) → M (Str.ofString "came") = some (.ref cm) → M (Str.ofString "taken") = some (.ref tn) → M (Str.ofString "rows") = some (.ref r) → M (Str.ofString "peer") = some (.str (pS cl) tp) → M (Str.ofString "most") = some mv →
    wpN (model PySem.Challenge.rw_sj0117_01.row.prog w) (callerA.deeper (env L)) (execs (body.drop 8) (env L)) Q (fun _ _ => False) {s with heap := h, toks := tk }) :
  wpN (model PySem.Challenge.rw_sj0117_01.row.prog w) (callerA.deeper (env L)) (execs (body.drop 5) (env L)) Q (fun _ _ => False) {s with heap := hp, toks := tk0} := by
  replace F := frEq F (mapX M [(Str.ofString "peer", some (.str (pS cl) tp)), (Str.ofString "most", some mv)] (List.forall_mem_cons.mpr ⟨k4, List.forall_mem_cons.mpr ⟨k5, fun q hq => absurd hq List.not_mem_nil⟩⟩))
  dsimp only [List.foldr] at F
  refine nextC 5 body fun J hJ => law_f (m := m) X T hb hm h2 hne F N fun h tk x1 d1 t1 x2 d2 t2 tb2 cm n1 tn n2 oc more' hc1 hx2 hcell htn hsub hxd2 hL Ff Nf => hJ _ ?_
  clear F N
  have hgo0 : IsOpt .none (goOf cl []) := by cases cl <;> rfl
  have hto0 : IsOpt .none (toldOf cl []) := by cases cl <;> rfl
  have hsm : ∀ f ∈ Fm.sett :: gs, fsmall f := fun f hf => by
    rcases List.mem_cons.mp hf with rfl | hf
    · exact trivial
    · exact (made_nums (hM f hf)).1
  have hn : ∀ n, Fm.goaway n ∈ Fm.sett :: gs → 0 ≤ n ∧ n < 22 := fun n hn => by
    rcases List.mem_cons.mp hn with hn | hn
    · exact nomatch hn
    · have := (made_nums (hM _ hn)).2.1 n rfl
      omega
  refine nextC 6 body fun J hJ => law_g (m := m) (x2 := x2) (rest := more') (tb := tb2) (ob := b) (tob := tb) (rows := .sett :: gs) (z := z) (tz := tz) X T hb hm hc1 hcell hx2 hxd2 hob hz1 hz4 (fun f g e => by cases e; rfl) (by rw [List.length_cons]; omega) hsm hn ⟨.none, .none, .none, [], n1, [], n2, more', rfl, hL, FmsIn.nil _, hgo0, hto0, .inl ⟨rfl, rfl⟩, htn, FmsIn.nil _, sub_all⟩ Ff Nf (by rfl) (by rfl) (by rfl) (by rfl) (by exact k1) (by exact k2) (by rfl) fun h tk tn' cv' fo' av' core' b' tb' C' Fg Ng => hJ _ ?_
  clear Ff Nf
  obtain ⟨sv, gov, tdv, vs, n1', tvs, n2', more3, rfl, hL', hvs, hg, ht, hS, htn', htv, hsub'⟩ := C'
  obtain ⟨_, l1, nl, p, t, u, rfl, hl1, hp1⟩ := hS.elim (fun h => absurd h.1 (List.cons_ne_nil _ _)) id
  have hc23 : (L + 1 + 1, o1) ∈ more3 := hsub' _ (hsub _ hc2)
  have hc13 : (L + 1, oc) ∈ more3 := hsub' _ hcell
  have hr3 := hsub' _ (hsub _ hr)
  have hF3 := hF.mono fun q hq => hsub' _ (hsub _ hq)
  have Nm : News H L h more3 := newsSub Ng (sub_skip (sub_skip (sub_skip (sub_skip sub_all))))
  have keep : ∀ {a : Addr} {o' : Obj}, (a, o') ∈ more3 → (∀ x, o'.data ≠ .cell x) → (a, o') ∈ but (L + 1 + 1) more3 := fun q1 q2 => cellOff Nm hc23 h1 q1 q2
  have hcm : @Ne Nat cm x1 ∧ @Ne Nat cm d1 := ⟨Nd.head hL'.nd _ (.tail _ (.tail _ (.head _))), Nd.head (Nd.tail hL'.nd) _ (.tail _ (.head _))⟩
  have hd1x1 : @Ne Nat d1 x1 := Nd.head hL'.nd _ (.head _)
  have off3 : ∀ q ∈ more3, @Ne Nat q.1 x1 ∧ @Ne Nat q.1 d1 ∧ @Ne Nat q.1 cm := fun q hq => ⟨hL'.off q hq _ (.head _), hL'.off q hq _ (.tail _ (.head _)), hL'.off q hq _ (.tail _ (.tail _ (.tail _ (.head _))))⟩
  have o23 := off3 _ hc23
  have Fh := frEq Fg (mapX _ [(Str.ofString "peer", some (.str (pS cl) tp)), (Str.ofString "most", some mv)] (List.forall_mem_cons.mpr ⟨by rfl, List.forall_mem_cons.mpr ⟨by rfl, fun q hq => absurd hq List.not_mem_nil⟩⟩))
  simp only [List.foldr] at Fh
  refine nextC 7 body fun J hJ => law_h (m := m) (more := (x1, instObj 258 d1) :: (d1, crDict w.params t1 (.str (pS cl) tp) mv (.ref l1) gov tdv) :: (L + 1, oc) :: (cm, listOf vs.toArray n1') :: but (L + 1 + 1) more3) X T hb hm h1 ?_ Fh (newsSub Ng ?_) fun h' tk' x3 d3 t3 x4 d4 t4 o4 hc4 hLh Fk Nk => hJ _ ?_
  · exact List.forall_mem_cons.mpr ⟨o23.1.symm, List.forall_mem_cons.mpr ⟨o23.2.1.symm, List.forall_mem_cons.mpr ⟨(Nat.succ_ne_self (L + 1)).symm, List.forall_mem_cons.mpr ⟨o23.2.2.symm, fun q hq => (mem_but.mp hq).2⟩⟩⟩⟩
  · intro q hq
    simp only [List.mem_cons] at hq ⊢
    rcases hq with h | h | h | h | h | h
    · rw [h]; exact .inr (.inr (.inr (.inr hc23)))
    · exact .inl h
    · exact .inr (.inl h)
    · rw [h]; exact .inr (.inr (.inr (.inr hc13)))
    · exact .inr (.inr (.inr (.inl h)))
    · exact .inr (.inr (.inr (.inr (mem_but.mp h).1)))
  have e1 : ∀ p ∈ [(x3, instObj 258 d3), (d3, crDict w.params t3 (.str (pS cl) tp) mv .none .none .none), (x4, instObj 258 d4), (d4, crDict w.params t4 (.str (pS cl) tp) mv .none .none .none)], @Ne Nat x1 p.1 := hLh.off _ (.tail _ (.head _))
  have e2 : ∀ p ∈ [(x3, instObj 258 d3), (d3, crDict w.params t3 (.str (pS cl) tp) mv .none .none .none), (x4, instObj 258 d4), (d4, crDict w.params t4 (.str (pS cl) tp) mv .none .none .none)], @Ne Nat d1 p.1 := hLh.off (d1, crDict w.params t1 (.str (pS cl) tp) mv (.ref l1) gov tdv) (.tail _ (.tail _ (.head _)))
  have a1 := Nd.head hLh.nd
  have a2 := Nd.head (Nd.tail hLh.nd)
  have a3 := Nd.head (Nd.tail (Nd.tail hLh.nd))
  refine k h' tk' x1 d1 x3 d3 x4 d4 cm tn' l1 t1 t3 t4 gov tdv oc o4 vs tvs n1' n2' _ ((cm, listOf vs.toArray n1') :: but (L + 1 + 1) more3) ⟨hc1, hc4, ⟨?nd, ?off⟩, hg, ht, ⟨nl, p, t, u, .tail _ (keep hl1 fun _ q => (nomatch q)), .tail _ (keep hp1 fun _ q => (nomatch q))⟩, .head _, (FmsIn.but Nm hc23 h1 hvs).mono (sub_skip sub_all), .tail _ (keep htn' fun _ q => (nomatch q)), (FmsIn.but Nm hc23 h1 htv).mono (sub_skip sub_all), .tail _ (keep hr3 fun _ q => (nomatch q)), (FmsIn.but Nm hc23 h1 hF3).mono (sub_skip sub_all)⟩ Fk (newsSub Nk ?_) rfl rfl rfl ?_ rfl rfl
  case nd =>
    refine Nd.cons (Nd.cons (Nd.cons (Nd.cons (Nd.cons (Nd.cons List.nodup_nil (fun q hq => absurd hq List.not_mem_nil)) (List.forall_mem_cons.mpr ⟨hd1x1, fun q hq => absurd hq List.not_mem_nil⟩)) ?_) ?_) ?_) ?_
    · exact List.forall_mem_cons.mpr ⟨e1 _ (.tail _ (.tail _ (.tail _ (.head _)))), List.forall_mem_cons.mpr ⟨e2 _ (.tail _ (.tail _ (.tail _ (.head _)))), fun q hq => absurd hq List.not_mem_nil⟩⟩
    · exact List.forall_mem_cons.mpr ⟨a3 _ (.head _), List.forall_mem_cons.mpr ⟨e1 _ (.tail _ (.tail _ (.head _))), List.forall_mem_cons.mpr ⟨e2 _ (.tail _ (.tail _ (.head _))), fun q hq => absurd hq List.not_mem_nil⟩⟩⟩
    · exact List.forall_mem_cons.mpr ⟨a2 _ (.head _), List.forall_mem_cons.mpr ⟨a2 _ (.tail _ (.head _)), List.forall_mem_cons.mpr ⟨e1 _ (.tail _ (.head _)), List.forall_mem_cons.mpr ⟨e2 _ (.tail _ (.head _)), fun q hq => absurd hq List.not_mem_nil⟩⟩⟩⟩
    · exact List.forall_mem_cons.mpr ⟨a1 _ (.head _), List.forall_mem_cons.mpr ⟨a1 _ (.tail _ (.head _)), List.forall_mem_cons.mpr ⟨a1 _ (.tail _ (.tail _ (.head _))), List.forall_mem_cons.mpr ⟨e1 _ (.head _), List.forall_mem_cons.mpr ⟨e2 _ (.head _), fun q hq => absurd hq List.not_mem_nil⟩⟩⟩⟩⟩
  case off =>
    have six : ∀ a : Nat, (∀ p ∈ [(x3, instObj 258 d3), (d3, crDict w.params t3 (.str (pS cl) tp) mv .none .none .none), (x4, instObj 258 d4), (d4, crDict w.params t4 (.str (pS cl) tp) mv .none .none .none)], @Ne Nat a p.1) → @Ne Nat a x1 → @Ne Nat a d1 →
        ∀ p ∈ [(x3, instObj 258 d3), (d3, crDict w.params t3 (.str (pS cl) tp) mv .none .none .none), (x4, instObj 258 d4), (d4, crDict w.params t4 (.str (pS cl) tp) mv .none .none .none), (x1, instObj 258 d1), (d1, crDict w.params t1 (.str (pS cl) tp) mv (.ref l1) gov tdv)], @Ne Nat a p.1 := fun a q0 q1 q2 =>
      List.forall_mem_cons.mpr ⟨q0 _ (.head _), List.forall_mem_cons.mpr ⟨q0 _ (.tail _ (.head _)), List.forall_mem_cons.mpr ⟨q0 _ (.tail _ (.tail _ (.head _))), List.forall_mem_cons.mpr ⟨q0 _ (.tail _ (.tail _ (.tail _ (.head _)))), List.forall_mem_cons.mpr ⟨q1, List.forall_mem_cons.mpr ⟨q2, fun q hq => absurd hq List.not_mem_nil⟩⟩⟩⟩⟩⟩
    have o13 := off3 _ hc13
    exact List.forall_mem_cons.mpr ⟨six _ (hLh.off (L + 1, oc) (.tail _ (.tail _ (.tail _ (.head _))))) o13.1 o13.2.1, List.forall_mem_cons.mpr ⟨six _ (hLh.off (L + 1 + 1, o4) (.head _)) o23.1 o23.2.1, List.forall_mem_cons.mpr ⟨six _ (hLh.off (cm, listOf vs.toArray n1') (.tail _ (.tail _ (.tail _ (.tail _ (.head _)))))) hcm.1 hcm.2, fun q hq => six _ (hLh.off q (.tail _ (.tail _ (.tail _ (.tail _ (.tail _ hq)))))) (off3 q (mem_but.mp hq).1).1 (off3 q (mem_but.mp hq).1).2.1⟩⟩⟩
  · lcg_sub
  · exact k3

end
section
theorem SetAt.mono {l : Addr} {a b : List (Addr × Obj)} (x : SetAt l a) (h : ∀ q ∈ a, q ∈ b) : SetAt l b := let ⟨nl, p, t, u, h1, h2⟩ := x; ⟨nl, p, t, u, h _ h1, h _ h2⟩
theorem list_ne_dict : ¬ Value.type "list" = Value.type "dict" := fun e => absurd (Value.type.inj e) (by decide)
theorem tup_ne_dict : ¬ Value.type "tuple" = Value.type "dict" := fun e => absurd (Value.type.inj e) (by decide)
/-- what is a list or a tuple is no rules' object, nor its dict, nor a cell -/
def Plain (o : Obj) : Prop := (∀ d, o ≠ instObj 258 d) ∧ (∀ es n, o ≠ dictOf es n) ∧ ∀ x, o.data ≠ .cell x
theorem plainL (vs : Array Value) (n : Nat) : Plain (listOf vs n) := ⟨fun d e => (nomatch congrArg Obj.cls e), fun es n e => list_ne_dict (congrArg Obj.cls e), fun x e => (nomatch e)⟩
theorem plainT (vs : List Value) : Plain (tupO vs) := ⟨fun d e => (nomatch congrArg Obj.cls e), fun es n e => tup_ne_dict (congrArg Obj.cls e), fun x e => (nomatch e)⟩
theorem Plain.inst {o : Obj} {a x d : Addr} (h : Plain o) : ¬ (a, o) = (x, instObj 258 d) := fun e => h.1 d (congrArg Prod.snd e)
theorem Plain.dict {P : Params} {o : Obj} {a x : Addr} {t : Nat → Tok} {b c d e f : Value} (h : Plain o) : ¬ (a, o) = (x, crDict P t b c d e f) := fun q => h.2.1 _ _ (congrArg Prod.snd q)
theorem Plain.cell {o o' : Obj} {a x : Addr} {v : Option Value} (h : Plain o) (hc : o'.data = .cell v) : ¬ (a, o) = (x, o') := fun e => by
  have z : o = o' := congrArg Prod.snd e
  exact h.2.2 v (z ▸ hc)
set_option maxHeartbeats 1000000 in
/-- from the other sequence to the end -/
theorem part_c {H : Heap} (X : (hd.heap_1 w.params).In H) (T : Top hd.view_1 (looseW hd.view_1 []) mean mg mb H) {L : Addr} {m : Str → Option Value} {hp : Heap} {tk0 : Tok} {body : List Stmt} {env : Addr → Env} (hb : LawBody w body env) {cl : Bool} {mp : Option Int} {mv v0 g1 u1 : Value} {tp : Tok} {n1 n2 nr : Nat} {r x1 d1 x3 d3 x4 d4 cm tn l1 : Addr} {t1 t3 t4 : Nat → Tok} {oc o4 : Obj} {rv vs tvs : List Value} {gs : List Fm} {M : Str → Option Value} {more : List (Addr × Obj)}
  (hm : IsOpt mv mp) (hmp : mp = some 3 ∨ mp = none) (hg8 : gs.length ≤ 8) (hM : ∀ g ∈ gs, Made g)
  (S : StB w.params L x1 d1 x3 d3 x4 d4 cm tn r l1 t1 t3 t4 cl tp mv g1 u1 v0 mp oc o4 vs tvs rv gs n1 n2 nr more) (F : Fr H L hp M)
  (N : News H L hp ((x3, instObj 258 d3) :: (d3, crDict w.params t3 (.str (pS cl) tp) mv .none .none .none) :: (x4, instObj 258 d4) :: (d4, crDict w.params t4 (.str (pS cl) tp) mv .none .none .none) :: (x1, instObj 258 d1) :: (d1, crDict w.params t1 (.str (pS cl) tp) mv (.ref l1) g1 u1) :: (L + 1, oc) :: (L + 1 + 1, o4) :: more))
  (k1 : M (Str.ofString "other") = some (.ref x3)) (k2 : M (Str.ofString "came") = some (.ref cm)) (k3 : M (Str.ofString "taken") = some (.ref tn)) (k4 : M (Str.ofString "rows") = some (.ref r)) (k5 : M (Str.ofString "peer") = some (.str (pS cl) tp)) (k6 : M (Str.ofString "most") = some mv) :
  wpN (model PySem.Challenge.rw_sj0117_01.row.prog w) (callerA.deeper (env L)) (execs (body.drop 8) (env L)) (RetT H L s) (fun _ _ => False) {s with heap := hp, toks := tk0} := by
  obtain ⟨hc1, hc4, hL, hgo, hto, hset, hcm, hvs, htn, htv, hr, hrv⟩ := S
  have b1 := Nd.head hL.nd
  have b2 := Nd.head (Nd.tail hL.nd)
  have b3 := Nd.head (Nd.tail (Nd.tail hL.nd))
  have b4 := Nd.head (Nd.tail (Nd.tail (Nd.tail hL.nd)))
  have b5 := Nd.head (Nd.tail (Nd.tail (Nd.tail (Nd.tail hL.nd))))
  have d3x : @Ne Nat d3 x3 := b1 _ (.head _)
  have x4x3 : @Ne Nat x4 x3 := b1 _ (.tail _ (.head _))
  have d4x3 : @Ne Nat d4 x3 := b1 _ (.tail _ (.tail _ (.head _)))
  have x1x3 : @Ne Nat x1 x3 := b1 _ (.tail _ (.tail _ (.tail _ (.head _))))
  have d1x3 : @Ne Nat d1 x3 := b1 _ (.tail _ (.tail _ (.tail _ (.tail _ (.head _)))))
  have x4d3 : @Ne Nat x4 d3 := b2 _ (.head _)
  have d4d3 : @Ne Nat d4 d3 := b2 _ (.tail _ (.head _))
  have x1d3 : @Ne Nat x1 d3 := b2 _ (.tail _ (.tail _ (.head _)))
  have d1d3 : @Ne Nat d1 d3 := b2 _ (.tail _ (.tail _ (.tail _ (.head _))))
  have d4x4 : @Ne Nat d4 x4 := b3 _ (.head _)
  have x1x4 : @Ne Nat x1 x4 := b3 _ (.tail _ (.head _))
  have d1x4 : @Ne Nat d1 x4 := b3 _ (.tail _ (.tail _ (.head _)))
  have x1d4 : @Ne Nat x1 d4 := b4 _ (.head _)
  have d1d4 : @Ne Nat d1 d4 := b4 _ (.tail _ (.head _))
  have d1x1 : @Ne Nat d1 x1 := b5 _ (.head _)
  clear b1 b2 b3 b4 b5
  have o3 : ∀ q ∈ (L + 1, oc) :: (L + 1 + 1, o4) :: more, @Ne Nat q.1 x3 ∧ @Ne Nat q.1 d3 := fun q hq => ⟨hL.off q hq _ (.head _), hL.off q hq _ (.tail _ (.head _))⟩
  have o4' : ∀ q ∈ (L + 1, oc) :: (L + 1 + 1, o4) :: more, @Ne Nat q.1 x4 ∧ @Ne Nat q.1 d4 := fun q hq => ⟨hL.off q hq _ (.tail _ (.tail _ (.head _))), hL.off q hq _ (.tail _ (.tail _ (.tail _ (.head _))))⟩
  have o1 : ∀ q ∈ (L + 1, oc) :: (L + 1 + 1, o4) :: more, @Ne Nat q.1 x1 ∧ @Ne Nat q.1 d1 := fun q hq => ⟨hL.off q hq _ (.tail _ (.tail _ (.tail _ (.tail _ (.head _))))), hL.off q hq _ (.tail _ (.tail _ (.tail _ (.tail _ (.tail _ (.head _))))))⟩
  -- the other sequence
  have Fi := frEq F (mapX M [(Str.ofString "frame", M (Str.ofString "frame")), (Str.ofString "other", some (.ref x3)), (Str.ofString "rows", some (.ref r))] (List.forall_mem_cons.mpr ⟨rfl, List.forall_mem_cons.mpr ⟨k1, List.forall_mem_cons.mpr ⟨k4, fun q hq => absurd hq List.not_mem_nil⟩⟩⟩))
  simp only [List.foldr] at Fi
  refine nextC 8 body fun J hJ => law_i (m := m) (more := (x4, instObj 258 d4) :: (d4, crDict w.params t4 (.str (pS cl) tp) mv .none .none .none) :: (x1, instObj 258 d1) :: (d1, crDict w.params t1 (.str (pS cl) tp) mv (.ref l1) g1 u1) :: (L + 1, oc) :: (L + 1 + 1, o4) :: more) X T hb hm d3x.symm
    (List.forall_mem_cons.mpr ⟨⟨x4x3, x4d3⟩, List.forall_mem_cons.mpr ⟨⟨d4x3, d4d3⟩, List.forall_mem_cons.mpr ⟨⟨x1x3, x1d3⟩, List.forall_mem_cons.mpr ⟨⟨d1x3, d1d3⟩, o3⟩⟩⟩⟩) (.tail _ (.tail _ (.tail _ (.tail _ (.tail _ (.tail _ hr)))))) (hrv.mono (sub_skip (sub_skip (sub_skip (sub_skip (sub_skip (sub_skip sub_all))))))) (by omega) Fi N fun h tk new5 l3 nl3 p3 t3' u3' g3 u3 fo' hnew5 hl3 hp3 hg3 hu3 F5 N5 => hJ _ ?_
  clear F N Fi
  have inm : ∀ {a : Addr} {o : Obj}, Plain o → (a, o) ∈ new5 ++ (x4, instObj 258 d4) :: (d4, crDict w.params t4 (.str (pS cl) tp) mv .none .none .none) :: (x1, instObj 258 d1) :: (d1, crDict w.params t1 (.str (pS cl) tp) mv (.ref l1) g1 u1) :: (L + 1, oc) :: (L + 1 + 1, o4) :: more → (a, o) ∈ new5 ++ more := fun hpz hq => by
    rcases List.mem_append.mp hq with hq | hq
    · exact List.mem_append_left _ hq
    simp only [List.mem_cons] at hq
    rcases hq with h | h | h | h | h | h | h
    · exact absurd h hpz.inst
    · exact absurd h hpz.dict
    · exact absurd h hpz.inst
    · exact absurd h hpz.dict
    · exact absurd h (hpz.cell hc1)
    · exact absurd h (hpz.cell hc4)
    · exact List.mem_append_right _ h
  have hs3 : SetAt l3 (new5 ++ more) := ⟨nl3, p3, t3', u3', inm (plainL _ _) hl3, inm (plainT _) hp3⟩
  clear inm hl3 hp3
  -- those that were taken
  have Fj := frEq F5 (mapX _ [(Str.ofString "came", some (.ref cm)), (Str.ofString "rows", some (.ref r)), (Str.ofString "taken", some (.ref tn))] (List.forall_mem_cons.mpr ⟨by exact k2, List.forall_mem_cons.mpr ⟨by rfl, List.forall_mem_cons.mpr ⟨by exact k3, fun q hq => absurd hq List.not_mem_nil⟩⟩⟩))
  simp only [List.foldr] at Fj
  have sub5 : ∀ q ∈ more, q ∈ new5 ++ more := fun q hq => List.mem_append_right _ hq
  have subj : ∀ q ∈ more, q ∈ (x3, instObj 258 d3) :: (d3, crDict w.params t3 (.str (pS cl) tp) mv (.ref l3) g3 u3) :: (x1, instObj 258 d1) :: (d1, crDict w.params t1 (.str (pS cl) tp) mv (.ref l1) g1 u1) :: (L + 1, oc) :: (new5 ++ more) := fun q hq => .tail _ (.tail _ (.tail _ (.tail _ (.tail _ (sub5 q hq)))))
  refine nextC 9 body fun J hJ => law_j (m := m) (tp := tp) (t4 := t4) (x4 := x4) (d4 := d4) (mv := mv) (more := (x3, instObj 258 d3) :: (d3, crDict w.params t3 (.str (pS cl) tp) mv (.ref l3) g3 u3) :: (x1, instObj 258 d1) :: (d1, crDict w.params t1 (.str (pS cl) tp) mv (.ref l1) g1 u1) :: (L + 1, oc) :: (new5 ++ more)) X T hb hm d4x4.symm hc4
    (List.forall_mem_cons.mpr ⟨o4' _ (.tail _ (.head _)), List.forall_mem_cons.mpr ⟨⟨x4x3.symm, d4x3.symm⟩, List.forall_mem_cons.mpr ⟨⟨x4d3.symm, d4d3.symm⟩, List.forall_mem_cons.mpr ⟨⟨x1x4, x1d4⟩, List.forall_mem_cons.mpr ⟨⟨d1x4, d1d4⟩, List.forall_mem_cons.mpr ⟨o4' _ (.head _), fun q hq => (List.mem_append.mp hq).elim (fun h => ⟨hnew5 q h (x4, instObj 258 d4) (.tail _ (.tail _ (.head _))), hnew5 q h (d4, crDict w.params t4 (.str (pS cl) tp) mv .none .none .none) (.tail _ (.tail _ (.tail _ (.head _))))⟩) fun h => o4' q (.tail _ (.tail _ h))⟩⟩⟩⟩⟩⟩)
    (subj _ hcm) (hvs.mono subj) (subj _ hr) (hrv.mono subj) (subj _ htn) (htv.mono subj) (by omega) Fj (newsSub N5 ?_) fun h6 tk6 new6 l4 nl4 p4 t4' u4' g4 u4 hnew6 hl4 hp4 hg4 hu4 F6 N6 => hJ _ ?_
  · lcg_sub
  clear F5 Fj
  have inm : ∀ {a : Addr} {o : Obj}, Plain o → (a, o) ∈ new6 ++ (x3, instObj 258 d3) :: (d3, crDict w.params t3 (.str (pS cl) tp) mv (.ref l3) g3 u3) :: (x1, instObj 258 d1) :: (d1, crDict w.params t1 (.str (pS cl) tp) mv (.ref l1) g1 u1) :: (L + 1, oc) :: (new5 ++ more) → (a, o) ∈ new6 ++ (new5 ++ more) := fun hpz hq => by
    rcases List.mem_append.mp hq with hq | hq
    · exact List.mem_append_left _ hq
    rcases List.mem_cons.mp hq with h | hq
    · exact absurd h hpz.inst
    rcases List.mem_cons.mp hq with h | hq
    · exact absurd h hpz.dict
    rcases List.mem_cons.mp hq with h | hq
    · exact absurd h hpz.inst
    rcases List.mem_cons.mp hq with h | hq
    · exact absurd h hpz.dict
    rcases List.mem_cons.mp hq with h | hq
    · exact absurd h (hpz.cell hc1)
    · exact List.mem_append_right _ hq
  have hs4 : SetAt l4 (new6 ++ (new5 ++ more)) := ⟨nl4, p4, t4', u4', inm (plainL _ _) hl4, inm (plainT _) hp4⟩
  clear inm hl4 hp4
  have hs3' := hs3.mono (b := new6 ++ (new5 ++ more)) fun q hq => List.mem_append_right _ hq
  have sub6 : ∀ q ∈ more, q ∈ new6 ++ (new5 ++ more) := fun q hq => List.mem_append_right _ (List.mem_append_right _ hq)
  have hs1 := hset.mono sub6
  have six : ∀ a : Nat, @Ne Nat a x3 → @Ne Nat a d3 → @Ne Nat a x4 → @Ne Nat a d4 → @Ne Nat a x1 → @Ne Nat a d1 →
      ∀ p ∈ [(x3, instObj 258 d3), (d3, crDict w.params t3 (.str (pS cl) tp) mv (.ref l3) g3 u3), (x4, instObj 258 d4), (d4, crDict w.params t4 (.str (pS cl) tp) mv (.ref l4) g4 u4), (x1, instObj 258 d1), (d1, crDict w.params t1 (.str (pS cl) tp) mv (.ref l1) g1 u1)], @Ne Nat a p.1 := fun a q0 q1 q2 q3 q4 q5 =>
    List.forall_mem_cons.mpr ⟨q0, List.forall_mem_cons.mpr ⟨q1, List.forall_mem_cons.mpr ⟨q2, List.forall_mem_cons.mpr ⟨q3, List.forall_mem_cons.mpr ⟨q4, List.forall_mem_cons.mpr ⟨q5, fun q hq => absurd hq List.not_mem_nil⟩⟩⟩⟩⟩⟩
  have old6 : ∀ q ∈ (L + 1, oc) :: (L + 1 + 1, o4) :: more, ∀ p ∈ [(x3, instObj 258 d3), (d3, crDict w.params t3 (.str (pS cl) tp) mv (.ref l3) g3 u3), (x4, instObj 258 d4), (d4, crDict w.params t4 (.str (pS cl) tp) mv (.ref l4) g4 u4), (x1, instObj 258 d1), (d1, crDict w.params t1 (.str (pS cl) tp) mv (.ref l1) g1 u1)], @Ne Nat q.1 p.1 := fun q hq => six _ (o3 q hq).1 (o3 q hq).2 (o4' q hq).1 (o4' q hq).2 (o1 q hq).1 (o1 q hq).2
  have lgk : Lg [(x3, instObj 258 d3), (d3, crDict w.params t3 (.str (pS cl) tp) mv (.ref l3) g3 u3), (x4, instObj 258 d4), (d4, crDict w.params t4 (.str (pS cl) tp) mv (.ref l4) g4 u4), (x1, instObj 258 d1), (d1, crDict w.params t1 (.str (pS cl) tp) mv (.ref l1) g1 u1)] ((L + 1, oc) :: (L + 1 + 1, o4) :: (new6 ++ (new5 ++ more))) := by
    refine ⟨hL.nd, List.forall_mem_cons.mpr ⟨old6 _ (.head _), List.forall_mem_cons.mpr ⟨old6 _ (.tail _ (.head _)), fun q hq => ?_⟩⟩⟩
    rcases List.mem_append.mp hq with hq | hq
    · exact six _ (hnew6 q hq (x3, instObj 258 d3) (.tail _ (.tail _ (.tail _ (.head _))))) (hnew6 q hq (d3, crDict w.params t3 (.str (pS cl) tp) mv (.ref l3) g3 u3) (.tail _ (.tail _ (.tail _ (.tail _ (.head _)))))) (hnew6 q hq (x4, instObj 258 d4) (.tail _ (.head _))) (hnew6 q hq (d4, crDict w.params t4 (.str (pS cl) tp) mv .none .none .none) (.tail _ (.tail _ (.head _))))
        (hnew6 q hq (x1, instObj 258 d1) (.tail _ (.tail _ (.tail _ (.tail _ (.tail _ (.head _))))))) (hnew6 q hq (d1, crDict w.params t1 (.str (pS cl) tp) mv (.ref l1) g1 u1) (.tail _ (.tail _ (.tail _ (.tail _ (.tail _ (.tail _ (.head _))))))))
    rcases List.mem_append.mp hq with hq | hq
    · exact six _ (hnew5 q hq (x3, instObj 258 d3) (.head _)) (hnew5 q hq (d3, crDict w.params t3 (.str (pS cl) tp) mv .none .none .none) (.tail _ (.head _))) (hnew5 q hq (x4, instObj 258 d4) (.tail _ (.tail _ (.head _)))) (hnew5 q hq (d4, crDict w.params t4 (.str (pS cl) tp) mv .none .none .none) (.tail _ (.tail _ (.tail _ (.head _)))))
        (hnew5 q hq (x1, instObj 258 d1) (.tail _ (.tail _ (.tail _ (.tail _ (.head _)))))) (hnew5 q hq (d1, crDict w.params t1 (.str (pS cl) tp) mv (.ref l1) g1 u1) (.tail _ (.tail _ (.tail _ (.tail _ (.tail _ (.head _)))))))
    · exact old6 q (.tail _ (.tail _ hq))
  clear six old6 hnew5 hnew6 hset hs3
  have hcm' := sub6 _ hcm
  have hvs' := hvs.mono sub6
  have N6' := newsSub N6 (b := (x3, instObj 258 d3) :: (d3, crDict w.params t3 (.str (pS cl) tp) mv (.ref l3) g3 u3) :: (x4, instObj 258 d4) :: (d4, crDict w.params t4 (.str (pS cl) tp) mv (.ref l4) g4 u4) :: (x1, instObj 258 d1) :: (d1, crDict w.params t1 (.str (pS cl) tp) mv (.ref l1) g1 u1) :: (L + 1, oc) :: (L + 1 + 1, o4) :: (new6 ++ (new5 ++ more))) (by lcg_sub)
  clear N6 sub6 sub5 subj N5
  generalize new6 ++ (new5 ++ more) = morek at *
  have Fk := frEq F6 (mapX _ [(Str.ofString "other", some (.ref x3))] (List.forall_mem_cons.mpr ⟨by rfl, fun q hq => absurd hq List.not_mem_nil⟩))
  simp only [List.foldr] at Fk
  refine nextC 10 body fun J hJ => law_k (m := m) X T hb hc1 hc4 lgk hgo hto hg3 hu3 hg4 hu4 hs1 hs3' hs4 Fk N6' fun h7 tk7 F7 N7 => hJ _ ?_
  clear F6 Fk N6'
  refine nextC 11 body fun J hJ => law_l (m := m) (x1 := x1) (d1 := d1) (l1 := l1) (t1 := t1) (cl := cl) (tp := tp) (mv := mv) (g1 := g1) (u1 := u1) (oc := oc) (more := (x3, instObj 258 d3) :: (d3, crDict w.params t3 (.str (pS cl) tp) mv (.ref l3) g3 u3) :: (x4, instObj 258 d4) :: (d4, crDict w.params t4 (.str (pS cl) tp) mv (.ref l4) g4 u4) :: (L + 1 + 1, o4) :: morek) X T hb hm d1x1.symm hc1
    (List.forall_mem_cons.mpr ⟨o1 _ (.head _), List.forall_mem_cons.mpr ⟨⟨x1x3.symm, d1x3.symm⟩, List.forall_mem_cons.mpr ⟨⟨x1d3.symm, d1d3.symm⟩, List.forall_mem_cons.mpr ⟨⟨x1x4.symm, d1x4.symm⟩, List.forall_mem_cons.mpr ⟨⟨x1d4.symm, d1d4.symm⟩, List.forall_mem_cons.mpr ⟨o1 _ (.tail _ (.head _)), fun q hq => ⟨lgk.off q (.tail _ (.tail _ hq)) _ (.tail _ (.tail _ (.tail _ (.tail _ (.head _))))), lgk.off q (.tail _ (.tail _ hq)) _ (.tail _ (.tail _ (.tail _ (.tail _ (.tail _ (.head _))))))⟩⟩⟩⟩⟩⟩⟩) hgo hto F7 (newsSub N7 ?_) fun h8 tk8 D ys n g1' u1' hg1' hu1' hys hD F8 N8 => hJ _ ?_
  · lcg_sub
  clear F7 N7
  have Fm := frEq F8 (mapX _ [(Str.ofString "let", some (.ref D)), (Str.ofString "peer", some (.str (pS cl) tp)), (Str.ofString "most", some mv), (Str.ofString "came", some (.ref cm))] (List.forall_mem_cons.mpr ⟨by rfl, List.forall_mem_cons.mpr ⟨by exact k5, List.forall_mem_cons.mpr ⟨by exact k6, List.forall_mem_cons.mpr ⟨by rfl, fun q hq => absurd hq List.not_mem_nil⟩⟩⟩⟩))
  simp only [List.foldr] at Fm
  have lgm : Lg [(x4, instObj 258 d4), (d4, crDict w.params t4 (.str (pS cl) tp) mv (.ref l4) g4 u4), (x1, instObj 258 d1), (d1, crDict w.params t1 (.str (pS cl) tp) mv (.ref l1) g1' u1')] ((L + 1, oc) :: (L + 1 + 1, o4) :: (D, listOf ys.toArray n) :: (cm, listOf vs.toArray n1) :: morek) := by
    have old : ∀ q ∈ (L + 1, oc) :: (L + 1 + 1, o4) :: morek, ∀ p ∈ [(x4, instObj 258 d4), (d4, crDict w.params t4 (.str (pS cl) tp) mv (.ref l4) g4 u4), (x1, instObj 258 d1), (d1, crDict w.params t1 (.str (pS cl) tp) mv (.ref l1) g1' u1')], @Ne Nat q.1 p.1 := fun q hq => List.forall_mem_cons.mpr ⟨lgk.off q hq (x4, instObj 258 d4) (.tail _ (.tail _ (.head _))), List.forall_mem_cons.mpr ⟨lgk.off q hq (d4, crDict w.params t4 (.str (pS cl) tp) mv (.ref l4) g4 u4) (.tail _ (.tail _ (.tail _ (.head _)))), List.forall_mem_cons.mpr ⟨lgk.off q hq (x1, instObj 258 d1) (.tail _ (.tail _ (.tail _ (.tail _ (.head _))))), List.forall_mem_cons.mpr ⟨lgk.off q hq (d1, crDict w.params t1 (.str (pS cl) tp) mv (.ref l1) g1 u1) (.tail _ (.tail _ (.tail _ (.tail _ (.tail _ (.head _)))))), fun q hq => absurd hq List.not_mem_nil⟩⟩⟩⟩
    refine ⟨Nd.tail (Nd.tail lgk.nd), List.forall_mem_cons.mpr ⟨old _ (.head _), List.forall_mem_cons.mpr ⟨old _ (.tail _ (.head _)), List.forall_mem_cons.mpr ⟨?_, List.forall_mem_cons.mpr ⟨old (cm, listOf vs.toArray n1) (.tail _ (.tail _ hcm')), fun q hq => old q (.tail _ (.tail _ hq))⟩⟩⟩⟩⟩
    exact List.forall_mem_cons.mpr ⟨(hD (x4, instObj 258 d4) (.tail _ (.tail _ (.tail _ (.tail _ (.tail _ (.head _))))))).symm, List.forall_mem_cons.mpr ⟨(hD (d4, crDict w.params t4 (.str (pS cl) tp) mv (.ref l4) g4 u4) (.tail _ (.tail _ (.tail _ (.tail _ (.tail _ (.tail _ (.head _)))))))).symm, List.forall_mem_cons.mpr ⟨(hD (x1, instObj 258 d1) (.head _)).symm, List.forall_mem_cons.mpr ⟨(hD (d1, crDict w.params t1 (.str (pS cl) tp) mv (.ref l1) g1 u1) (.tail _ (.head _))).symm, fun q hq => absurd hq List.not_mem_nil⟩⟩⟩⟩
  refine wpN_mono (law_m (m := m) X T hb hm hmp hc1 hc4 lgm hg1' hu1' hg4 hu4 hs1 hs4 hvs' (by rw [List.length_cons]; omega) (fun n hn => ?_) hys Fm (newsSub N8 ?_)) (fun f s' q => q) fun _ _ q => q
  · rcases List.mem_cons.mp hn with hn | hn
    · exact nomatch hn
    · have := (made_nums (hM _ hn)).2.2 n rfl
      omega
  · lcg_sub

end
section
/-- the top's run over a tree of objects -/
def runG (stp : SharedT → Thread → Option (SharedT × Thread)) (ok : Thread → Bool) : Nat → SharedT → Thread → Option SharedT
  | 0, _, _ => none
  | n + 1, s, t => match through t with
    | true => some s
    | false => match ok t with
      | false => none
      | true => match stp s t with
        | some r => runG stp ok n r.1 r.2
        | none => none
theorem runG_spec {tb : String → Option Builtin} {p : Program} {w : World} {n₀ : Nat} {ann : Option Value} : ∀ (n : Nat) (s : SharedT) (t : Thread) (r : SharedT), runG (stepT (denote tb) p w) (stepOk n₀ ann) n s t = some r → topRun tb p w n₀ ann n s.abs t = some r.abs
  | 0, _, _, _, h => by cases h
  | n + 1, s, t, r, h => by
    unfold runG at h
    unfold topRun
    cases ht : through t with
    | true => rw [ht] at h; cases h; rfl
    | false =>
      rw [ht] at h
      cases hk : stepOk n₀ ann t with
      | false => rw [hk] at h; cases h
      | true =>
        rw [hk] at h
        cases hs : stepT (denote tb) p w s t with
        | none => rw [hs] at h; cases h
        | some x =>
          rw [hs] at h
          have e := stepT_spec (s := s) (s' := x.1) (t := t) (t' := x.2) hs
          try dsimp only
          rw [e]
          exact runG_spec n _ _ _ h
noncomputable def bootTree (P : Params) : BT := ((boot_heap P).objs.toList.foldl (fun (x : BT × Nat) o => (x.1.ins x.2 o, x.2 + 1)) (BT.nil, 0)).1
noncomputable def bootT (w : World) (os : OsState) : SharedT := ⟨bootTree w.params, 11, (boot_heap w.params).life, Array.mk [], boot_drawn, boot_toks, os⟩
theorem boot_abs (w : World) (os : OsState) : (bootT w os).abs = ⟨boot_heap w.params, Array.mk [], boot_drawn, boot_toks, os⟩ := by kernel_rfl
abbrev prg : Program := PySem.Challenge.rw_sj0117_01.row.prog
theorem prg_eq : prg = pwQ := pw_eq
theorem boot_opening : opening prg = plainProg prg.main.scope.names := by kernel_rfl
theorem boot_fence (s : Shared) : fenceModules? prg s = some s := by kernel_rfl
theorem boot_size (w : World) : ((boot_heap w.params).isNs mainGlobals && (Array.mk [] : Array GenState).size == 0) = true ∧ (boot_heap w.params).objs.size = 11 ∧ (boot_heap w.params).nsMap mainGlobals "__annotations__" = some (.ref 6) := ⟨by kernel_rfl, by kernel_rfl, by kernel_rfl⟩
/-- the view of the text, by its places -/
noncomputable abbrev vwQ : Program := PySem.W.view pwQ [1, 2, 3, 4, 6, 7, 8, 9, 10, 11, 13, 14, 15, 16, 17, 18, 19, 20, 21, 22, 23, 24, 25, 26, 27, 28, 29, 30, 31, 32, 33, 34, 36, 37, 38, 40, 41, 42, 43, 44, 45, 46, 47, 48]
theorem view_eq : hd.view_1 = vwQ := by
  show hd.view_1 = PySem.W.view pwQ _
  rw [← pw_eq]
  kernel_rfl
noncomputable abbrev runQ (w : World) (os : OsState) : Option SharedT := runG (PySem.W.Fast.tw10156331382660048174 (PySem.W.Fast.tw11892475500146522536 PySem.W.Fast.tw14364793385576792824) pwQ w) (PySem.W.Fast.tw6613529449190102663 11 (some (.ref 6))) 4724 (bootT w os) (topStub pwQ)
set_option maxHeartbeats 8000000 in
theorem look1 : ∀ w : World, (fun os => (runQ w os).map fun r => ((staticsOk (PySem.W.Fast.tw5923862056798008813 pwQ.main.body) (boot_heap w.params) r.abs.heap && namesBound pwQ r.abs.heap && gensDone r.abs && laidKept (boot_heap w.params) r.abs.heap), PySem.W.Fast.tw4187177175401517315 vwQ [] (PySem.W.Fast.tw5923862056798008813 pwQ.main.body) (fun s => xlAt vwQ [] s && recOk (RowW.records PySem.Challenge.rw_sj0117_01.row.toRowW) s) true r.abs)) = fun _ => some (true, openGood vwQ []) := fun w => by kernel_rfl
set_option maxHeartbeats 8000000 in
theorem look2 : ∀ w : World, (fun os => (runQ w os).map fun r => (hd.heap_1 w.params).map fun q => r.abs.heap.get? q.1) = fun _ => some ((hd.heap_1 w.params).map fun q => some q.2) := fun w => by kernel_rfl
/-- the look at the top, from its run alone: the heap behind it need not be written out -/
theorem left_gen {p q : Program} {Xt : Shared → Bool} {α : Type} {Yf : Shared → α} {Ya : World → α} {N m₀ : Nat} {ann : Option Value} {H₀ : Params → Heap} {gs₀ : Array GenState} {d₀ : Drawn} {k₀ : Nat}
    (open_ : ∀ w : World, (fencedOpening treeTable p w N).map (fun s => (s.heap, s.gens, s.drawn, s.toks)) = some (H₀ w.params, gs₀, d₀, k₀))
    (size : ∀ w : World, ((H₀ w.params).isNs mainGlobals && gs₀.size == 0) = true ∧ (H₀ w.params).objs.size = m₀ ∧ (H₀ w.params).nsMap mainGlobals "__annotations__" = ann)
    (run : ∀ (w : World) (os : OsState), ∃ r, topRun treeTable p w m₀ ann N ⟨H₀ w.params, gs₀, d₀, k₀, os⟩ (topStub p) = some r ∧
      (staticsOk (importedModules p.main.body) (H₀ w.params) r.heap && namesBound p r.heap && gensDone r && laidKept (H₀ w.params) r.heap) = true ∧ openSeen q [] (importedModules p.main.body) Xt true r = openGood q [] ∧ Yf r = Ya w) :
    LeftO p q [] Xt Yf Ya N := fun w => by
  obtain ⟨⟨h, gs, d, k, os⟩, h0, v0⟩ := Option.map_eq_some_iff.mp (open_ w)
  obtain ⟨rfl, rfl, rfl, rfl⟩ : h = H₀ w.params ∧ gs = gs₀ ∧ d = d₀ ∧ k = k₀ := by simpa using v0
  obtain ⟨r, ht, c1, c2, c3⟩ := run w os
  obtain ⟨z1, z2, z3⟩ := size w
  have t : topFrom treeTable p w N ⟨H₀ w.params, gs, d, k, os⟩ = some r := by
    unfold topFrom
    try dsimp only
    rw [z1, z2, z3, ht]
    show (match staticsOk (importedModules p.main.body) (H₀ w.params) r.heap && namesBound p r.heap && gensDone r && laidKept (H₀ w.params) r.heap with | true => _ | false => _) = _
    rw [c1]
  unfold openEnds
  rw [h0]
  show (topFrom treeTable p w N _).map _ = _
  rw [t]
  exact congrArg some (Prod.ext c2 c3)
theorem run_of (w : World) (os : OsState) : ∃ r, topRun treeTable prg w 11 (some (.ref 6)) 4724 ⟨boot_heap w.params, Array.mk [], boot_drawn, boot_toks, os⟩ (topStub prg) = some r ∧
      (staticsOk (importedModules prg.main.body) (boot_heap w.params) r.heap && namesBound prg r.heap && gensDone r && laidKept (boot_heap w.params) r.heap) = true ∧
      openSeen hd.view_1 [] (importedModules prg.main.body) (fun s => xlAt hd.view_1 [] s && recOk (RowW.records PySem.Challenge.rw_sj0117_01.row.toRowW) s) true r = openGood hd.view_1 [] ∧
      ((hd.heap_1 w.params).map fun q => r.heap.get? q.1) = (hd.heap_1 w.params).map fun q => some q.2 := by
  obtain ⟨r, hr, l1⟩ := Option.map_eq_some_iff.mp (congrFun (look1 w) os)
  obtain ⟨r', hr', l2⟩ := Option.map_eq_some_iff.mp (congrFun (look2 w) os)
  obtain rfl : r = r' := Option.some.inj (hr.symm.trans hr')
  obtain ⟨c1, c2⟩ := Prod.mk.inj l1
  refine ⟨r.abs, ?_, ?_, ?_, l2⟩
  · rw [← boot_abs]
    refine runG_spec _ _ _ _ ?_
    rw [PySem.W.Fast.te10156331382660048174, PySem.W.Fast.te11892475500146522536, PySem.W.Fast.te14364793385576792824, PySem.W.Fast.te6613529449190102663, prg_eq]
    exact hr
  · rw [PySem.W.Fast.te5923862056798008813, prg_eq]; exact c1
  · rw [view_eq, PySem.W.Fast.te5923862056798008813, PySem.W.Fast.te4187177175401517315, prg_eq]
    exact c2
theorem left_of {as : List Addr} (e : ∀ P, as = (hd.heap_1 P).map (·.1)) : LeftO PySem.Challenge.rw_sj0117_01.row.prog hd.view_1 [] (fun s => xlAt hd.view_1 [] s && recOk (RowW.records PySem.Challenge.rw_sj0117_01.row.toRowW) s) (kHook hd.heap_1 as e).obs (kHook hd.heap_1 as e).val 4724 :=
  left_gen (p := prg) (boot_open (p := prg) (N := 4724) boot_opening (by decide) boot_fence) boot_size fun w os => by
    obtain ⟨r, h1, h2, h3, h4⟩ := run_of w os
    refine ⟨r, h1, h2, h3, ?_⟩
    show as.map r.heap.get? = (hd.heap_1 w.params).map fun q => some q.2
    rw [e w.params, List.map_map]
    exact h4

end
section
example : True := by w_top off; exact trivial
set_option maxHeartbeats 1000000 in
/-- the law's body gives back True -/
theorem law_all {H : Heap} (X : (hd.heap_1 w.params).In H) (T : Top hd.view_1 (looseW hd.view_1 []) mean mg mb H) {L : Addr} {m : Str → Option Value} {hp : Heap} {tk0 : Tok} {body : List Stmt} {env : Addr → Env} (hb : LawBody w body env) {l : Addr} {vs : List Value} {ns : List Int} (hl : H.IsList l vs.toArray) (hi : IntsAre vs ns) (hlen : ns.length ≤ 63) {o2 o1 : Obj} (h1 : o1.data = .cell none) (h2 : o2.data = .cell none)
  (F : Fr H L hp (fun y => if y = Str.ofString "script" then some (.ref l) else none)) (N : News H L hp [(L + 1 + 1, o1), (L + 1, o2)]) :
  wpN (model PySem.Challenge.rw_sj0117_01.row.prog w) (callerA.deeper (env L)) (execs body (env L)) (RetT H L s) (fun _ _ => False) {s with heap := hp, toks := tk0} :=
  part_a (m := m) X T hb hl hi hlen h1 h2 F N fun h tk cl mp mv tp z tz r nr v0 rv gs b tb M more hm hmp hz1 hz4 _ hg8 hM hF hob hr hc2 hne F2 N2 k1 k2 k3 k4 k5 =>
    part_b (m := m) X T hb h1 h2 hm hz1 hz4 hg8 hM hF hob hr hc2 hne F2 N2 k1 k2 k3 k4 k5 fun h tk x1 d1 x3 d3 x4 d4 cm tn l1 t1 t3 t4 g1 u1 oc o4 vs tvs n1 n2 M more S F3 N3 j1 j2 j3 j4 j5 j6 =>
      wpN_mono (part_c (m := m) X T hb hm hmp hg8 hM S F3 N3 j1 j2 j3 j4 j5 j6) (fun f s' q => q) fun _ _ q => q
theorem postT {args : List WData} : (RowW.claim PySem.Challenge.rw_sj0117_01.row.toRowW).post args (.bool true) args = true := by
  first
    | with_unfolding_all rfl
    | (show (WShape.has [] (WData.bool true) .bool && WTm.holds [] (.eq .res (.lit (.bool true))) { args := args, res := some (.bool true), after := args }) = true
       simp [WShape.has, WTm.holds, WTm.value])
/-- True, and nothing that was there is changed -/
theorem goodT {args : List WData} {s₁ s' : Shared} {cl : Str → Option Addr} {mean : ExcName → Option Value} (hk : OldK s₁.heap s'.heap) (ho : s'.os = s₁.os) (hg : AllBare s'.gens) : GoodWG PySem.Challenge.rw_sj0117_01.row.claim cl mean args s₁ (.ok (.ret (.bool true))) s' :=
  ⟨.inl ⟨.bool true, .bool true, [], rfl, fun cls => by rfl, .bool _, postT, fun _ => ⟨List.nodup_nil, fun a h => nomatch h⟩⟩, hk, ho, hg⟩
set_option maxHeartbeats 4000000 in
theorem top : PySem.Challenge.rw_sj0117_01.Holds := by
  refine hd ⟨left_of _, ?_⟩
  k_fill
  intro w s₀ s₁ mg mb G Y fa o pm cd doc dV kV ho hd_ hcd hD hmg hg args vals as hpre hlay hrd hwl hlo
  have KX := kIn_of Y
  have X := (Ground.X G).1
  have V := (Ground.X G).2
  refine Ground.open G ?_
  intro T B D TE TW
  try (refine guard_noD D (by decide +kernel) ?_; clear D)
  obtain ⟨_, _, M⟩ := bmod_of_top T
  try (obtain ⟨_, _, he, B0⟩ := based_of_top T rfl hmg ho hd_; have he' : cd = _ := he; subst he'; clear he)
  wrow_args hpre hlay hrd hwl hlo
  rename IntsAre _ _ => hi
  rename Heap.IsList _ _ _ => hl
  have hf : mg (Str.ofString "law") = some (.ref 324) := mg_of KX T.g (by k_is)
  have hfa : fa = 324 := by
    have z := hmg.symm.trans hf
    cases z
    rfl
  subst hfa
  refine onClean_any ?_ ?_
  · refine wpN_call ?_
    refine' enterTopN (binds := [(Str.ofString "script", .ref _)]) KX T ?k6 ?k7 (by decide) ?k9 ?kB ?kD ?_ ?c2 ?c3 ?c4
    case k6 => k_is
    case k7 => k_is
    case k9 => exact BindsTo.of_eq (by first | rfl | kernel_rfl | with_unfolding_all rfl)
    case kB => exact rfl
    case kD => decide +kernel
    case c2 => exact rfl
    case c3 => exact rfl
    case c4 => exact rfl
    intro L h₁ tk cells F1 N1 Y1
    k_cells Y1
    rename_i oa ob h1 h2
    refine wpN_mono (law0 (fun X T _ _ _ _ _ hb _ _ _ hl hi hlen _ _ h1 h2 F N => law_all (m := fun _ => none) X T hb hl hi hlen h1 h2 F N) (w, _, mg, mb, s₁) (env := fun L => envOfC _ _ L 324 _) KX T ?hb hl hi (by omega) h1 h2 (frEq F1 fun y => ?fr) N1) (fun f s' q => ?_) fun _ _ q => q.elim
    case fr => exact rfl
    case hb => exact ⟨_, _, _, _, _, _, _, _, _, _, _, _, _, _, by k_is, rfl⟩
    obtain ⟨rfl, g1, g2, m', F'⟩ := q
    exact goodT (.of_keep F'.keep) g2 (.of_eq (g1.trans hg))
  · exact goodT (.of_keep fun _ _ e => e) rfl (.of_eq hg)

end
end Mine
theorem PySem.Challenge.cw_sj0117_01_holds : PySem.Challenge.rw_sj0117_01.Holds :=
  Mine.top
