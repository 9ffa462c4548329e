import PyProof.Rows.All
import Wide.All
import OpenK.AllK
import Wide.FinOn
import PySem.Challenge.RW_pc0133_01
section
open PySem PySem.W PyProof.Rows
set_option Elab.async false
namespace Mine
set_option maxRecDepth 100000
set_option maxHeartbeats 0
def strAt (p : Program) : Str := match p.main.body.drop 37 with
  | .Assign _ (.Constant (.str x) _ _) _ :: _ => x
  | _ => Str.empty
noncomputable def resL : Str := by
  refine' (_ : (s : String) → strAt PySem.Challenge.pw_pc0133_01 = Str.ofString s → Str) _ ?_
  rotate_left 2
  · exact rfl
  · exact fun s _ => Str.ofString s
theorem resL_long : Nat.ble 100 resL.cps.size = true := by k_qdec
noncomputable def pk : { G : Str → Str → Str → Str → Str → Str → Str → Str → Str → Str → Str → Str → Str → Str → Str → Str → Str → Str → Str → Str → Str → Str → Str → Str → Str → Str → Str → Str → Str → Str → Str → Str → Str → Str → Str → Str → Str → Str → Str → Str → Str → Str → Str → Str → Str → Str → Str → Str → Str → Str → Str → Str → Str → Str → Str → Str → Str → Str → Str → Str → Str → Str → Str → Str → Str → Str → Str → Str → Str → Str → Str → Str → Str → Str → Str → Str → Str → Str → Str → Str → Str → Str → Str → Str → Str → Str → Str → Str → Str → Str → Str → Str → Str → Str → Str → Str → Str → Str → Str → Str → Str → Str → Str → Str → Str → Str → Str → Str → Str → Str → Str → Str → Str → Str → Str → Str → Str → Str → Str → Str → Str → Str → Str → Str → Str → Str → Str → Str → Str → Str → Str → Str → Str → Str → Str → Str → Str → Str → Str → Str → Str → Str → Str → Str → Str → Str → Str → Str → Str → Str → Str → Str → Str → Str → Str → Str → Str → Str → Str → Str → Str → Str → Str → Str → Str → Str → Str → Str → Str → Str → Str → Str → Str → Str → Str → Str → Str → Str → Str → Str → Str → Str → Str → Str → Str → Str → Str → Str → Str → Str → Str → Str → Str → Str → Str → Str → Str → Str → Str → Str → Str → Str → Str → Str → Str → Str → Program // G resL (Str.ofString "") (Str.ofString " ") (Str.ofString " is asked here") (Str.ofString "'") (Str.ofString "(") (Str.ofString ")") (Str.ofString "*") (Str.ofString "**") (Str.ofString "+") (Str.ofString "-") (Str.ofString ".") (Str.ofString ".0") (Str.ofString "/") (Str.ofString "/claim/cut.py") (Str.ofString "0") (Str.ofString "0.25") (Str.ofString "0123456789") (Str.ofString "5") (Str.ofString ":") (Str.ofString "A") (Str.ofString "ALL") (Str.ofString "Exception") (Str.ofString "FIGURES") (Str.ofString "FIGURE_NAMES") (Str.ofString "GrammarFault") (Str.ofString "HIGH") (Str.ofString "HIGH-VALUE") (Str.ofString "HIGH-VALUES") (Str.ofString "LOW") (Str.ofString "LOW-VALUE") (Str.ofString "LOW-VALUES") (Str.ofString "LedgerError") (Str.ofString "MOST_DEEP") (Str.ofString "MOST_OCTET") (Str.ofString "MOST_SUBSCRIPTS") (Str.ofString "OF IN") (Str.ofString "QUOTE") (Str.ofString "QUOTES") (Str.ofString "RESERVED") (Str.ofString "Reader") (Str.ofString "SPACE") (Str.ofString "SPACES") (Str.ofString "THEN") (Str.ofString "Token") (Str.ofString "TokenFault") (Str.ofString "Z") (Str.ofString "ZERO") (Str.ofString "ZEROES") (Str.ofString "ZEROS") (Str.ofString "__init__") (Str.ofString "__name__") (Str.ofString "_law_bent") (Str.ofString "_law_draw") (Str.ofString "_law_levels") (Str.ofString "_law_menu") (Str.ofString "_law_pen") (Str.ofString "_law_reader") (Str.ofString "_law_right") (Str.ofString "_law_signed") (Str.ofString "_law_single") (Str.ofString "_law_word") (Str.ofString "_wall") (Str.ofString "a") (Str.ofString "a literal is asked behind ALL") (Str.ofString "a literal is asked here") (Str.ofString "a name is asked here") (Str.ofString "a number is asked here") (Str.ofString "a sign that is no octet") (Str.ofString "a whole number is asked here") (Str.ofString "a word is asked here") (Str.ofString "abs") (Str.ofString "ahead") (Str.ofString "all") (Str.ofString "an operand is asked here") (Str.ofString "append") (Str.ofString "at") (Str.ofString "begin") (Str.ofString "behind") (Str.ofString "bottom") (Str.ofString "brackets are nested too deep") (Str.ofString "bytes") (Str.ofString "caught") (Str.ofString "cell") (Str.ofString "cut_quotient") (Str.ofString "decimal") (Str.ofString "deep") (Str.ofString "depth") (Str.ofString "digit") (Str.ofString "due") (Str.ofString "enumerate") (Str.ofString "error") (Str.ofString "fast") (Str.ofString "fault") (Str.ofString "figure") (Str.ofString "figures") (Str.ofString "found") (Str.ofString "great") (Str.ofString "half") (Str.ofString "index") (Str.ofString "inner") (Str.ofString "is_below") (Str.ofString "is_done") (Str.ofString "is_in_a") (Str.ofString "is_kind") (Str.ofString "is_lone_number") (Str.ofString "is_name") (Str.ofString "is_number") (Str.ofString "is_own") (Str.ofString "is_part_next") (Str.ofString "is_reserved") (Str.ofString "is_rounded") (Str.ofString "is_sign") (Str.ofString "is_whole") (Str.ofString "is_word") (Str.ofString "k") (Str.ofString "kind") (Str.ofString "law") (Str.ofString "law_pc0133_01") (Str.ofString "ledgerspeak.decimals") (Str.ofString "ledgerspeak.errors") (Str.ofString "ledgerspeak.expressions") (Str.ofString "ledgerspeak.reader") (Str.ofString "ledgerspeak.references") (Str.ofString "ledgerspeak.tokens") (Str.ofString "len") (Str.ofString "length") (Str.ofString "level") (Str.ofString "list") (Str.ofString "literal") (Str.ofString "many") (Str.ofString "min") (Str.ofString "more than 7 subscripts") (Str.ofString "name") (Str.ofString "named") (Str.ofString "names") (Str.ofString "need") (Str.ofString "need_sign") (Str.ofString "neg") (Str.ofString "negated") (Str.ofString "no figure") (Str.ofString "no figure behind the point") (Str.ofString "number") (Str.ofString "numbers") (Str.ofString "octets") (Str.ofString "octets_of_text") (Str.ofString "one_of") (Str.ofString "ord") (Str.ofString "part") (Str.ofString "peek") (Str.ofString "pen") (Str.ofString "point") (Str.ofString "qualifiers") (Str.ofString "range") (Str.ofString "read_all") (Str.ofString "read_decimal") (Str.ofString "read_expr") (Str.ofString "read_expression") (Str.ofString "read_factor") (Str.ofString "read_figure") (Str.ofString "read_operand") (Str.ofString "read_part") (Str.ofString "read_power") (Str.ofString "read_primary") (Str.ofString "read_product") (Str.ofString "read_ref") (Str.ofString "read_subscripts") (Str.ofString "read_sum") (Str.ofString "reader") (Str.ofString "ref") (Str.ofString "right") (Str.ofString "scale") (Str.ofString "script") (Str.ofString "self") (Str.ofString "sign") (Str.ofString "sign_among") (Str.ofString "signed") (Str.ofString "signs") (Str.ofString "size") (Str.ofString "skip") (Str.ofString "skip_sign") (Str.ofString "some") (Str.ofString "split") (Str.ofString "spot") (Str.ofString "state") (Str.ofString "subscripts") (Str.ofString "sum") (Str.ofString "take") (Str.ofString "text") (Str.ofString "the text ends too early") (Str.ofString "token") (Str.ofString "tokens") (Str.ofString "told") (Str.ofString "top") (Str.ofString "tuple") (Str.ofString "turn") (Str.ofString "units") (Str.ofString "units_at") (Str.ofString "way") (Str.ofString "what") (Str.ofString "whole") (Str.ofString "whole_of") (Str.ofString "word") (Str.ofString "words") (Str.ofString "worth") (Str.ofString "worth_of") = PySem.Challenge.pw_pc0133_01 } := by
  delta PySem.Challenge.pw_pc0133_01 resL
  dsimp only
  refine' ⟨_, ?_⟩
  rotate_left
  generalize Str.ofString _ = y0, (Str.ofString "") = y1, (Str.ofString " ") = y2, (Str.ofString " is asked here") = y3, (Str.ofString "'") = y4, (Str.ofString "(") = y5, (Str.ofString ")") = y6, (Str.ofString "*") = y7, (Str.ofString "**") = y8, (Str.ofString "+") = y9, (Str.ofString "-") = y10, (Str.ofString ".") = y11, (Str.ofString ".0") = y12, (Str.ofString "/") = y13, (Str.ofString "/claim/cut.py") = y14, (Str.ofString "0") = y15, (Str.ofString "0.25") = y16, (Str.ofString "0123456789") = y17, (Str.ofString "5") = y18, (Str.ofString ":") = y19, (Str.ofString "A") = y20, (Str.ofString "ALL") = y21, (Str.ofString "Exception") = y22, (Str.ofString "FIGURES") = y23, (Str.ofString "FIGURE_NAMES") = y24, (Str.ofString "GrammarFault") = y25, (Str.ofString "HIGH") = y26, (Str.ofString "HIGH-VALUE") = y27, (Str.ofString "HIGH-VALUES") = y28, (Str.ofString "LOW") = y29, (Str.ofString "LOW-VALUE") = y30, (Str.ofString "LOW-VALUES") = y31, (Str.ofString "LedgerError") = y32, (Str.ofString "MOST_DEEP") = y33, (Str.ofString "MOST_OCTET") = y34, (Str.ofString "MOST_SUBSCRIPTS") = y35, (Str.ofString "OF IN") = y36, (Str.ofString "QUOTE") = y37, (Str.ofString "QUOTES") = y38, (Str.ofString "RESERVED") = y39, (Str.ofString "Reader") = y40, (Str.ofString "SPACE") = y41, (Str.ofString "SPACES") = y42, (Str.ofString "THEN") = y43, (Str.ofString "Token") = y44, (Str.ofString "TokenFault") = y45, (Str.ofString "Z") = y46, (Str.ofString "ZERO") = y47, (Str.ofString "ZEROES") = y48, (Str.ofString "ZEROS") = y49, (Str.ofString "__init__") = y50, (Str.ofString "__name__") = y51, (Str.ofString "_law_bent") = y52, (Str.ofString "_law_draw") = y53, (Str.ofString "_law_levels") = y54, (Str.ofString "_law_menu") = y55, (Str.ofString "_law_pen") = y56, (Str.ofString "_law_reader") = y57, (Str.ofString "_law_right") = y58, (Str.ofString "_law_signed") = y59, (Str.ofString "_law_single") = y60, (Str.ofString "_law_word") = y61, (Str.ofString "_wall") = y62, (Str.ofString "a") = y63, (Str.ofString "a literal is asked behind ALL") = y64, (Str.ofString "a literal is asked here") = y65, (Str.ofString "a name is asked here") = y66, (Str.ofString "a number is asked here") = y67, (Str.ofString "a sign that is no octet") = y68, (Str.ofString "a whole number is asked here") = y69, (Str.ofString "a word is asked here") = y70, (Str.ofString "abs") = y71, (Str.ofString "ahead") = y72, (Str.ofString "all") = y73, (Str.ofString "an operand is asked here") = y74, (Str.ofString "append") = y75, (Str.ofString "at") = y76, (Str.ofString "begin") = y77, (Str.ofString "behind") = y78, (Str.ofString "bottom") = y79, (Str.ofString "brackets are nested too deep") = y80, (Str.ofString "bytes") = y81, (Str.ofString "caught") = y82, (Str.ofString "cell") = y83, (Str.ofString "cut_quotient") = y84, (Str.ofString "decimal") = y85, (Str.ofString "deep") = y86, (Str.ofString "depth") = y87, (Str.ofString "digit") = y88, (Str.ofString "due") = y89, (Str.ofString "enumerate") = y90, (Str.ofString "error") = y91, (Str.ofString "fast") = y92, (Str.ofString "fault") = y93, (Str.ofString "figure") = y94, (Str.ofString "figures") = y95, (Str.ofString "found") = y96, (Str.ofString "great") = y97, (Str.ofString "half") = y98, (Str.ofString "index") = y99, (Str.ofString "inner") = y100, (Str.ofString "is_below") = y101, (Str.ofString "is_done") = y102, (Str.ofString "is_in_a") = y103, (Str.ofString "is_kind") = y104, (Str.ofString "is_lone_number") = y105, (Str.ofString "is_name") = y106, (Str.ofString "is_number") = y107, (Str.ofString "is_own") = y108, (Str.ofString "is_part_next") = y109, (Str.ofString "is_reserved") = y110, (Str.ofString "is_rounded") = y111, (Str.ofString "is_sign") = y112, (Str.ofString "is_whole") = y113, (Str.ofString "is_word") = y114, (Str.ofString "k") = y115, (Str.ofString "kind") = y116, (Str.ofString "law") = y117, (Str.ofString "law_pc0133_01") = y118, (Str.ofString "ledgerspeak.decimals") = y119, (Str.ofString "ledgerspeak.errors") = y120, (Str.ofString "ledgerspeak.expressions") = y121, (Str.ofString "ledgerspeak.reader") = y122, (Str.ofString "ledgerspeak.references") = y123, (Str.ofString "ledgerspeak.tokens") = y124, (Str.ofString "len") = y125, (Str.ofString "length") = y126, (Str.ofString "level") = y127, (Str.ofString "list") = y128, (Str.ofString "literal") = y129, (Str.ofString "many") = y130, (Str.ofString "min") = y131, (Str.ofString "more than 7 subscripts") = y132, (Str.ofString "name") = y133, (Str.ofString "named") = y134, (Str.ofString "names") = y135, (Str.ofString "need") = y136, (Str.ofString "need_sign") = y137, (Str.ofString "neg") = y138, (Str.ofString "negated") = y139, (Str.ofString "no figure") = y140, (Str.ofString "no figure behind the point") = y141, (Str.ofString "number") = y142, (Str.ofString "numbers") = y143, (Str.ofString "octets") = y144, (Str.ofString "octets_of_text") = y145, (Str.ofString "one_of") = y146, (Str.ofString "ord") = y147, (Str.ofString "part") = y148, (Str.ofString "peek") = y149, (Str.ofString "pen") = y150, (Str.ofString "point") = y151, (Str.ofString "qualifiers") = y152, (Str.ofString "range") = y153, (Str.ofString "read_all") = y154, (Str.ofString "read_decimal") = y155, (Str.ofString "read_expr") = y156, (Str.ofString "read_expression") = y157, (Str.ofString "read_factor") = y158, (Str.ofString "read_figure") = y159, (Str.ofString "read_operand") = y160, (Str.ofString "read_part") = y161, (Str.ofString "read_power") = y162, (Str.ofString "read_primary") = y163, (Str.ofString "read_product") = y164, (Str.ofString "read_ref") = y165, (Str.ofString "read_subscripts") = y166, (Str.ofString "read_sum") = y167, (Str.ofString "reader") = y168, (Str.ofString "ref") = y169, (Str.ofString "right") = y170, (Str.ofString "scale") = y171, (Str.ofString "script") = y172, (Str.ofString "self") = y173, (Str.ofString "sign") = y174, (Str.ofString "sign_among") = y175, (Str.ofString "signed") = y176, (Str.ofString "signs") = y177, (Str.ofString "size") = y178, (Str.ofString "skip") = y179, (Str.ofString "skip_sign") = y180, (Str.ofString "some") = y181, (Str.ofString "split") = y182, (Str.ofString "spot") = y183, (Str.ofString "state") = y184, (Str.ofString "subscripts") = y185, (Str.ofString "sum") = y186, (Str.ofString "take") = y187, (Str.ofString "text") = y188, (Str.ofString "the text ends too early") = y189, (Str.ofString "token") = y190, (Str.ofString "tokens") = y191, (Str.ofString "told") = y192, (Str.ofString "top") = y193, (Str.ofString "tuple") = y194, (Str.ofString "turn") = y195, (Str.ofString "units") = y196, (Str.ofString "units_at") = y197, (Str.ofString "way") = y198, (Str.ofString "what") = y199, (Str.ofString "whole") = y200, (Str.ofString "whole_of") = y201, (Str.ofString "word") = y202, (Str.ofString "words") = y203, (Str.ofString "worth") = y204, (Str.ofString "worth_of") = y205
  exact rfl
theorem e0 : Str.ofString "" = (⟨⟨[]⟩⟩ : Str) := by decide +kernel
theorem e1 : Str.ofString " " = (⟨⟨[nat_lit 32]⟩⟩ : Str) := by decide +kernel
theorem e2 : Str.ofString " is asked here" = (⟨⟨[nat_lit 32, nat_lit 105, nat_lit 115, nat_lit 32, nat_lit 97, nat_lit 115, nat_lit 107, nat_lit 101, nat_lit 100, nat_lit 32, nat_lit 104, nat_lit 101, nat_lit 114, nat_lit 101]⟩⟩ : Str) := by decide +kernel
theorem e3 : Str.ofString "'" = (⟨⟨[nat_lit 39]⟩⟩ : Str) := by decide +kernel
theorem e4 : Str.ofString "(" = (⟨⟨[nat_lit 40]⟩⟩ : Str) := by decide +kernel
theorem e5 : Str.ofString ")" = (⟨⟨[nat_lit 41]⟩⟩ : Str) := by decide +kernel
theorem e6 : Str.ofString "*" = (⟨⟨[nat_lit 42]⟩⟩ : Str) := by decide +kernel
theorem e7 : Str.ofString "**" = (⟨⟨[nat_lit 42, nat_lit 42]⟩⟩ : Str) := by decide +kernel
theorem e8 : Str.ofString "+" = (⟨⟨[nat_lit 43]⟩⟩ : Str) := by decide +kernel
theorem e9 : Str.ofString "-" = (⟨⟨[nat_lit 45]⟩⟩ : Str) := by decide +kernel
theorem e10 : Str.ofString "." = (⟨⟨[nat_lit 46]⟩⟩ : Str) := by decide +kernel
theorem e11 : Str.ofString ".0" = (⟨⟨[nat_lit 46, nat_lit 48]⟩⟩ : Str) := by decide +kernel
theorem e12 : Str.ofString "/" = (⟨⟨[nat_lit 47]⟩⟩ : Str) := by decide +kernel
theorem e13 : Str.ofString "/claim/cut.py" = (⟨⟨[nat_lit 47, nat_lit 99, nat_lit 108, nat_lit 97, nat_lit 105, nat_lit 109, nat_lit 47, nat_lit 99, nat_lit 117, nat_lit 116, nat_lit 46, nat_lit 112, nat_lit 121]⟩⟩ : Str) := by decide +kernel
theorem e14 : Str.ofString "0" = (⟨⟨[nat_lit 48]⟩⟩ : Str) := by decide +kernel
theorem e15 : Str.ofString "0.25" = (⟨⟨[nat_lit 48, nat_lit 46, nat_lit 50, nat_lit 53]⟩⟩ : Str) := by decide +kernel
theorem e16 : Str.ofString "0123456789" = (⟨⟨[nat_lit 48, nat_lit 49, nat_lit 50, nat_lit 51, nat_lit 52, nat_lit 53, nat_lit 54, nat_lit 55, nat_lit 56, nat_lit 57]⟩⟩ : Str) := by decide +kernel
theorem e17 : Str.ofString "5" = (⟨⟨[nat_lit 53]⟩⟩ : Str) := by decide +kernel
theorem e18 : Str.ofString ":" = (⟨⟨[nat_lit 58]⟩⟩ : Str) := by decide +kernel
theorem e19 : Str.ofString "A" = (⟨⟨[nat_lit 65]⟩⟩ : Str) := by decide +kernel
theorem e20 : Str.ofString "ALL" = (⟨⟨[nat_lit 65, nat_lit 76, nat_lit 76]⟩⟩ : Str) := by decide +kernel
theorem e21 : Str.ofString "Exception" = (⟨⟨[nat_lit 69, nat_lit 120, nat_lit 99, nat_lit 101, nat_lit 112, nat_lit 116, nat_lit 105, nat_lit 111, nat_lit 110]⟩⟩ : Str) := by decide +kernel
theorem e22 : Str.ofString "FIGURES" = (⟨⟨[nat_lit 70, nat_lit 73, nat_lit 71, nat_lit 85, nat_lit 82, nat_lit 69, nat_lit 83]⟩⟩ : Str) := by decide +kernel
theorem e23 : Str.ofString "FIGURE_NAMES" = (⟨⟨[nat_lit 70, nat_lit 73, nat_lit 71, nat_lit 85, nat_lit 82, nat_lit 69, nat_lit 95, nat_lit 78, nat_lit 65, nat_lit 77, nat_lit 69, nat_lit 83]⟩⟩ : Str) := by decide +kernel
theorem e24 : Str.ofString "GrammarFault" = (⟨⟨[nat_lit 71, nat_lit 114, nat_lit 97, nat_lit 109, nat_lit 109, nat_lit 97, nat_lit 114, nat_lit 70, nat_lit 97, nat_lit 117, nat_lit 108, nat_lit 116]⟩⟩ : Str) := by decide +kernel
theorem e25 : Str.ofString "HIGH" = (⟨⟨[nat_lit 72, nat_lit 73, nat_lit 71, nat_lit 72]⟩⟩ : Str) := by decide +kernel
theorem e26 : Str.ofString "HIGH-VALUE" = (⟨⟨[nat_lit 72, nat_lit 73, nat_lit 71, nat_lit 72, nat_lit 45, nat_lit 86, nat_lit 65, nat_lit 76, nat_lit 85, nat_lit 69]⟩⟩ : Str) := by decide +kernel
theorem e27 : Str.ofString "HIGH-VALUES" = (⟨⟨[nat_lit 72, nat_lit 73, nat_lit 71, nat_lit 72, nat_lit 45, nat_lit 86, nat_lit 65, nat_lit 76, nat_lit 85, nat_lit 69, nat_lit 83]⟩⟩ : Str) := by decide +kernel
theorem e28 : Str.ofString "LOW" = (⟨⟨[nat_lit 76, nat_lit 79, nat_lit 87]⟩⟩ : Str) := by decide +kernel
theorem e29 : Str.ofString "LOW-VALUE" = (⟨⟨[nat_lit 76, nat_lit 79, nat_lit 87, nat_lit 45, nat_lit 86, nat_lit 65, nat_lit 76, nat_lit 85, nat_lit 69]⟩⟩ : Str) := by decide +kernel
theorem e30 : Str.ofString "LOW-VALUES" = (⟨⟨[nat_lit 76, nat_lit 79, nat_lit 87, nat_lit 45, nat_lit 86, nat_lit 65, nat_lit 76, nat_lit 85, nat_lit 69, nat_lit 83]⟩⟩ : Str) := by decide +kernel
theorem e31 : Str.ofString "LedgerError" = (⟨⟨[nat_lit 76, nat_lit 101, nat_lit 100, nat_lit 103, nat_lit 101, nat_lit 114, nat_lit 69, nat_lit 114, nat_lit 114, nat_lit 111, nat_lit 114]⟩⟩ : Str) := by decide +kernel
theorem e32 : Str.ofString "MOST_DEEP" = (⟨⟨[nat_lit 77, nat_lit 79, nat_lit 83, nat_lit 84, nat_lit 95, nat_lit 68, nat_lit 69, nat_lit 69, nat_lit 80]⟩⟩ : Str) := by decide +kernel
theorem e33 : Str.ofString "MOST_OCTET" = (⟨⟨[nat_lit 77, nat_lit 79, nat_lit 83, nat_lit 84, nat_lit 95, nat_lit 79, nat_lit 67, nat_lit 84, nat_lit 69, nat_lit 84]⟩⟩ : Str) := by decide +kernel
theorem e34 : Str.ofString "MOST_SUBSCRIPTS" = (⟨⟨[nat_lit 77, nat_lit 79, nat_lit 83, nat_lit 84, nat_lit 95, nat_lit 83, nat_lit 85, nat_lit 66, nat_lit 83, nat_lit 67, nat_lit 82, nat_lit 73, nat_lit 80, nat_lit 84, nat_lit 83]⟩⟩ : Str) := by decide +kernel
theorem e35 : Str.ofString "OF IN" = (⟨⟨[nat_lit 79, nat_lit 70, nat_lit 32, nat_lit 73, nat_lit 78]⟩⟩ : Str) := by decide +kernel
theorem e36 : Str.ofString "QUOTE" = (⟨⟨[nat_lit 81, nat_lit 85, nat_lit 79, nat_lit 84, nat_lit 69]⟩⟩ : Str) := by decide +kernel
theorem e37 : Str.ofString "QUOTES" = (⟨⟨[nat_lit 81, nat_lit 85, nat_lit 79, nat_lit 84, nat_lit 69, nat_lit 83]⟩⟩ : Str) := by decide +kernel
theorem e38 : Str.ofString "RESERVED" = (⟨⟨[nat_lit 82, nat_lit 69, nat_lit 83, nat_lit 69, nat_lit 82, nat_lit 86, nat_lit 69, nat_lit 68]⟩⟩ : Str) := by decide +kernel
theorem e39 : Str.ofString "Reader" = (⟨⟨[nat_lit 82, nat_lit 101, nat_lit 97, nat_lit 100, nat_lit 101, nat_lit 114]⟩⟩ : Str) := by decide +kernel
theorem e40 : Str.ofString "SPACE" = (⟨⟨[nat_lit 83, nat_lit 80, nat_lit 65, nat_lit 67, nat_lit 69]⟩⟩ : Str) := by decide +kernel
theorem e41 : Str.ofString "SPACES" = (⟨⟨[nat_lit 83, nat_lit 80, nat_lit 65, nat_lit 67, nat_lit 69, nat_lit 83]⟩⟩ : Str) := by decide +kernel
theorem e42 : Str.ofString "THEN" = (⟨⟨[nat_lit 84, nat_lit 72, nat_lit 69, nat_lit 78]⟩⟩ : Str) := by decide +kernel
theorem e43 : Str.ofString "Token" = (⟨⟨[nat_lit 84, nat_lit 111, nat_lit 107, nat_lit 101, nat_lit 110]⟩⟩ : Str) := by decide +kernel
theorem e44 : Str.ofString "TokenFault" = (⟨⟨[nat_lit 84, nat_lit 111, nat_lit 107, nat_lit 101, nat_lit 110, nat_lit 70, nat_lit 97, nat_lit 117, nat_lit 108, nat_lit 116]⟩⟩ : Str) := by decide +kernel
theorem e45 : Str.ofString "Z" = (⟨⟨[nat_lit 90]⟩⟩ : Str) := by decide +kernel
theorem e46 : Str.ofString "ZERO" = (⟨⟨[nat_lit 90, nat_lit 69, nat_lit 82, nat_lit 79]⟩⟩ : Str) := by decide +kernel
theorem e47 : Str.ofString "ZEROES" = (⟨⟨[nat_lit 90, nat_lit 69, nat_lit 82, nat_lit 79, nat_lit 69, nat_lit 83]⟩⟩ : Str) := by decide +kernel
theorem e48 : Str.ofString "ZEROS" = (⟨⟨[nat_lit 90, nat_lit 69, nat_lit 82, nat_lit 79, nat_lit 83]⟩⟩ : Str) := by decide +kernel
theorem e49 : Str.ofString "__init__" = (⟨⟨[nat_lit 95, nat_lit 95, nat_lit 105, nat_lit 110, nat_lit 105, nat_lit 116, nat_lit 95, nat_lit 95]⟩⟩ : Str) := by decide +kernel
theorem e50 : Str.ofString "__name__" = (⟨⟨[nat_lit 95, nat_lit 95, nat_lit 110, nat_lit 97, nat_lit 109, nat_lit 101, nat_lit 95, nat_lit 95]⟩⟩ : Str) := by decide +kernel
theorem e51 : Str.ofString "_law_bent" = (⟨⟨[nat_lit 95, nat_lit 108, nat_lit 97, nat_lit 119, nat_lit 95, nat_lit 98, nat_lit 101, nat_lit 110, nat_lit 116]⟩⟩ : Str) := by decide +kernel
theorem e52 : Str.ofString "_law_draw" = (⟨⟨[nat_lit 95, nat_lit 108, nat_lit 97, nat_lit 119, nat_lit 95, nat_lit 100, nat_lit 114, nat_lit 97, nat_lit 119]⟩⟩ : Str) := by decide +kernel
theorem e53 : Str.ofString "_law_levels" = (⟨⟨[nat_lit 95, nat_lit 108, nat_lit 97, nat_lit 119, nat_lit 95, nat_lit 108, nat_lit 101, nat_lit 118, nat_lit 101, nat_lit 108, nat_lit 115]⟩⟩ : Str) := by decide +kernel
theorem e54 : Str.ofString "_law_menu" = (⟨⟨[nat_lit 95, nat_lit 108, nat_lit 97, nat_lit 119, nat_lit 95, nat_lit 109, nat_lit 101, nat_lit 110, nat_lit 117]⟩⟩ : Str) := by decide +kernel
theorem e55 : Str.ofString "_law_pen" = (⟨⟨[nat_lit 95, nat_lit 108, nat_lit 97, nat_lit 119, nat_lit 95, nat_lit 112, nat_lit 101, nat_lit 110]⟩⟩ : Str) := by decide +kernel
theorem e56 : Str.ofString "_law_reader" = (⟨⟨[nat_lit 95, nat_lit 108, nat_lit 97, nat_lit 119, nat_lit 95, nat_lit 114, nat_lit 101, nat_lit 97, nat_lit 100, nat_lit 101, nat_lit 114]⟩⟩ : Str) := by decide +kernel
theorem e57 : Str.ofString "_law_right" = (⟨⟨[nat_lit 95, nat_lit 108, nat_lit 97, nat_lit 119, nat_lit 95, nat_lit 114, nat_lit 105, nat_lit 103, nat_lit 104, nat_lit 116]⟩⟩ : Str) := by decide +kernel
theorem e58 : Str.ofString "_law_signed" = (⟨⟨[nat_lit 95, nat_lit 108, nat_lit 97, nat_lit 119, nat_lit 95, nat_lit 115, nat_lit 105, nat_lit 103, nat_lit 110, nat_lit 101, nat_lit 100]⟩⟩ : Str) := by decide +kernel
theorem e59 : Str.ofString "_law_single" = (⟨⟨[nat_lit 95, nat_lit 108, nat_lit 97, nat_lit 119, nat_lit 95, nat_lit 115, nat_lit 105, nat_lit 110, nat_lit 103, nat_lit 108, nat_lit 101]⟩⟩ : Str) := by decide +kernel
theorem e60 : Str.ofString "_law_word" = (⟨⟨[nat_lit 95, nat_lit 108, nat_lit 97, nat_lit 119, nat_lit 95, nat_lit 119, nat_lit 111, nat_lit 114, nat_lit 100]⟩⟩ : Str) := by decide +kernel
theorem e61 : Str.ofString "_wall" = (⟨⟨[nat_lit 95, nat_lit 119, nat_lit 97, nat_lit 108, nat_lit 108]⟩⟩ : Str) := by decide +kernel
theorem e62 : Str.ofString "a" = (⟨⟨[nat_lit 97]⟩⟩ : Str) := by decide +kernel
theorem e63 : Str.ofString "a literal is asked behind ALL" = (⟨⟨[nat_lit 97, nat_lit 32, nat_lit 108, nat_lit 105, nat_lit 116, nat_lit 101, nat_lit 114, nat_lit 97, nat_lit 108, nat_lit 32, nat_lit 105, nat_lit 115, nat_lit 32, nat_lit 97, nat_lit 115, nat_lit 107, nat_lit 101, nat_lit 100, nat_lit 32, nat_lit 98, nat_lit 101, nat_lit 104, nat_lit 105, nat_lit 110, nat_lit 100, nat_lit 32, nat_lit 65, nat_lit 76, nat_lit 76]⟩⟩ : Str) := by decide +kernel
theorem e64 : Str.ofString "a literal is asked here" = (⟨⟨[nat_lit 97, nat_lit 32, nat_lit 108, nat_lit 105, nat_lit 116, nat_lit 101, nat_lit 114, nat_lit 97, nat_lit 108, nat_lit 32, nat_lit 105, nat_lit 115, nat_lit 32, nat_lit 97, nat_lit 115, nat_lit 107, nat_lit 101, nat_lit 100, nat_lit 32, nat_lit 104, nat_lit 101, nat_lit 114, nat_lit 101]⟩⟩ : Str) := by decide +kernel
theorem e65 : Str.ofString "a name is asked here" = (⟨⟨[nat_lit 97, nat_lit 32, nat_lit 110, nat_lit 97, nat_lit 109, nat_lit 101, nat_lit 32, nat_lit 105, nat_lit 115, nat_lit 32, nat_lit 97, nat_lit 115, nat_lit 107, nat_lit 101, nat_lit 100, nat_lit 32, nat_lit 104, nat_lit 101, nat_lit 114, nat_lit 101]⟩⟩ : Str) := by decide +kernel
theorem e66 : Str.ofString "a number is asked here" = (⟨⟨[nat_lit 97, nat_lit 32, nat_lit 110, nat_lit 117, nat_lit 109, nat_lit 98, nat_lit 101, nat_lit 114, nat_lit 32, nat_lit 105, nat_lit 115, nat_lit 32, nat_lit 97, nat_lit 115, nat_lit 107, nat_lit 101, nat_lit 100, nat_lit 32, nat_lit 104, nat_lit 101, nat_lit 114, nat_lit 101]⟩⟩ : Str) := by decide +kernel
theorem e67 : Str.ofString "a sign that is no octet" = (⟨⟨[nat_lit 97, nat_lit 32, nat_lit 115, nat_lit 105, nat_lit 103, nat_lit 110, nat_lit 32, nat_lit 116, nat_lit 104, nat_lit 97, nat_lit 116, nat_lit 32, nat_lit 105, nat_lit 115, nat_lit 32, nat_lit 110, nat_lit 111, nat_lit 32, nat_lit 111, nat_lit 99, nat_lit 116, nat_lit 101, nat_lit 116]⟩⟩ : Str) := by decide +kernel
theorem e68 : Str.ofString "a whole number is asked here" = (⟨⟨[nat_lit 97, nat_lit 32, nat_lit 119, nat_lit 104, nat_lit 111, nat_lit 108, nat_lit 101, nat_lit 32, nat_lit 110, nat_lit 117, nat_lit 109, nat_lit 98, nat_lit 101, nat_lit 114, nat_lit 32, nat_lit 105, nat_lit 115, nat_lit 32, nat_lit 97, nat_lit 115, nat_lit 107, nat_lit 101, nat_lit 100, nat_lit 32, nat_lit 104, nat_lit 101, nat_lit 114, nat_lit 101]⟩⟩ : Str) := by decide +kernel
theorem e69 : Str.ofString "a word is asked here" = (⟨⟨[nat_lit 97, nat_lit 32, nat_lit 119, nat_lit 111, nat_lit 114, nat_lit 100, nat_lit 32, nat_lit 105, nat_lit 115, nat_lit 32, nat_lit 97, nat_lit 115, nat_lit 107, nat_lit 101, nat_lit 100, nat_lit 32, nat_lit 104, nat_lit 101, nat_lit 114, nat_lit 101]⟩⟩ : Str) := by decide +kernel
theorem e70 : Str.ofString "abs" = (⟨⟨[nat_lit 97, nat_lit 98, nat_lit 115]⟩⟩ : Str) := by decide +kernel
theorem e71 : Str.ofString "ahead" = (⟨⟨[nat_lit 97, nat_lit 104, nat_lit 101, nat_lit 97, nat_lit 100]⟩⟩ : Str) := by decide +kernel
theorem e72 : Str.ofString "all" = (⟨⟨[nat_lit 97, nat_lit 108, nat_lit 108]⟩⟩ : Str) := by decide +kernel
theorem e73 : Str.ofString "an operand is asked here" = (⟨⟨[nat_lit 97, nat_lit 110, nat_lit 32, nat_lit 111, nat_lit 112, nat_lit 101, nat_lit 114, nat_lit 97, nat_lit 110, nat_lit 100, nat_lit 32, nat_lit 105, nat_lit 115, nat_lit 32, nat_lit 97, nat_lit 115, nat_lit 107, nat_lit 101, nat_lit 100, nat_lit 32, nat_lit 104, nat_lit 101, nat_lit 114, nat_lit 101]⟩⟩ : Str) := by decide +kernel
theorem e74 : Str.ofString "append" = (⟨⟨[nat_lit 97, nat_lit 112, nat_lit 112, nat_lit 101, nat_lit 110, nat_lit 100]⟩⟩ : Str) := by decide +kernel
theorem e75 : Str.ofString "at" = (⟨⟨[nat_lit 97, nat_lit 116]⟩⟩ : Str) := by decide +kernel
theorem e76 : Str.ofString "begin" = (⟨⟨[nat_lit 98, nat_lit 101, nat_lit 103, nat_lit 105, nat_lit 110]⟩⟩ : Str) := by decide +kernel
theorem e77 : Str.ofString "behind" = (⟨⟨[nat_lit 98, nat_lit 101, nat_lit 104, nat_lit 105, nat_lit 110, nat_lit 100]⟩⟩ : Str) := by decide +kernel
theorem e78 : Str.ofString "bottom" = (⟨⟨[nat_lit 98, nat_lit 111, nat_lit 116, nat_lit 116, nat_lit 111, nat_lit 109]⟩⟩ : Str) := by decide +kernel
theorem e79 : Str.ofString "brackets are nested too deep" = (⟨⟨[nat_lit 98, nat_lit 114, nat_lit 97, nat_lit 99, nat_lit 107, nat_lit 101, nat_lit 116, nat_lit 115, nat_lit 32, nat_lit 97, nat_lit 114, nat_lit 101, nat_lit 32, nat_lit 110, nat_lit 101, nat_lit 115, nat_lit 116, nat_lit 101, nat_lit 100, nat_lit 32, nat_lit 116, nat_lit 111, nat_lit 111, nat_lit 32, nat_lit 100, nat_lit 101, nat_lit 101, nat_lit 112]⟩⟩ : Str) := by decide +kernel
theorem e80 : Str.ofString "bytes" = (⟨⟨[nat_lit 98, nat_lit 121, nat_lit 116, nat_lit 101, nat_lit 115]⟩⟩ : Str) := by decide +kernel
theorem e81 : Str.ofString "caught" = (⟨⟨[nat_lit 99, nat_lit 97, nat_lit 117, nat_lit 103, nat_lit 104, nat_lit 116]⟩⟩ : Str) := by decide +kernel
theorem e82 : Str.ofString "cell" = (⟨⟨[nat_lit 99, nat_lit 101, nat_lit 108, nat_lit 108]⟩⟩ : Str) := by decide +kernel
theorem e83 : Str.ofString "cut_quotient" = (⟨⟨[nat_lit 99, nat_lit 117, nat_lit 116, nat_lit 95, nat_lit 113, nat_lit 117, nat_lit 111, nat_lit 116, nat_lit 105, nat_lit 101, nat_lit 110, nat_lit 116]⟩⟩ : Str) := by decide +kernel
theorem e84 : Str.ofString "decimal" = (⟨⟨[nat_lit 100, nat_lit 101, nat_lit 99, nat_lit 105, nat_lit 109, nat_lit 97, nat_lit 108]⟩⟩ : Str) := by decide +kernel
theorem e85 : Str.ofString "deep" = (⟨⟨[nat_lit 100, nat_lit 101, nat_lit 101, nat_lit 112]⟩⟩ : Str) := by decide +kernel
theorem e86 : Str.ofString "depth" = (⟨⟨[nat_lit 100, nat_lit 101, nat_lit 112, nat_lit 116, nat_lit 104]⟩⟩ : Str) := by decide +kernel
theorem e87 : Str.ofString "digit" = (⟨⟨[nat_lit 100, nat_lit 105, nat_lit 103, nat_lit 105, nat_lit 116]⟩⟩ : Str) := by decide +kernel
theorem e88 : Str.ofString "due" = (⟨⟨[nat_lit 100, nat_lit 117, nat_lit 101]⟩⟩ : Str) := by decide +kernel
theorem e89 : Str.ofString "enumerate" = (⟨⟨[nat_lit 101, nat_lit 110, nat_lit 117, nat_lit 109, nat_lit 101, nat_lit 114, nat_lit 97, nat_lit 116, nat_lit 101]⟩⟩ : Str) := by decide +kernel
theorem e90 : Str.ofString "error" = (⟨⟨[nat_lit 101, nat_lit 114, nat_lit 114, nat_lit 111, nat_lit 114]⟩⟩ : Str) := by decide +kernel
theorem e91 : Str.ofString "fast" = (⟨⟨[nat_lit 102, nat_lit 97, nat_lit 115, nat_lit 116]⟩⟩ : Str) := by decide +kernel
theorem e92 : Str.ofString "fault" = (⟨⟨[nat_lit 102, nat_lit 97, nat_lit 117, nat_lit 108, nat_lit 116]⟩⟩ : Str) := by decide +kernel
theorem e93 : Str.ofString "figure" = (⟨⟨[nat_lit 102, nat_lit 105, nat_lit 103, nat_lit 117, nat_lit 114, nat_lit 101]⟩⟩ : Str) := by decide +kernel
theorem e94 : Str.ofString "figures" = (⟨⟨[nat_lit 102, nat_lit 105, nat_lit 103, nat_lit 117, nat_lit 114, nat_lit 101, nat_lit 115]⟩⟩ : Str) := by decide +kernel
theorem e95 : Str.ofString "found" = (⟨⟨[nat_lit 102, nat_lit 111, nat_lit 117, nat_lit 110, nat_lit 100]⟩⟩ : Str) := by decide +kernel
theorem e96 : Str.ofString "great" = (⟨⟨[nat_lit 103, nat_lit 114, nat_lit 101, nat_lit 97, nat_lit 116]⟩⟩ : Str) := by decide +kernel
theorem e97 : Str.ofString "half" = (⟨⟨[nat_lit 104, nat_lit 97, nat_lit 108, nat_lit 102]⟩⟩ : Str) := by decide +kernel
theorem e98 : Str.ofString "index" = (⟨⟨[nat_lit 105, nat_lit 110, nat_lit 100, nat_lit 101, nat_lit 120]⟩⟩ : Str) := by decide +kernel
theorem e99 : Str.ofString "inner" = (⟨⟨[nat_lit 105, nat_lit 110, nat_lit 110, nat_lit 101, nat_lit 114]⟩⟩ : Str) := by decide +kernel
theorem e100 : Str.ofString "is_below" = (⟨⟨[nat_lit 105, nat_lit 115, nat_lit 95, nat_lit 98, nat_lit 101, nat_lit 108, nat_lit 111, nat_lit 119]⟩⟩ : Str) := by decide +kernel
theorem e101 : Str.ofString "is_done" = (⟨⟨[nat_lit 105, nat_lit 115, nat_lit 95, nat_lit 100, nat_lit 111, nat_lit 110, nat_lit 101]⟩⟩ : Str) := by decide +kernel
theorem e102 : Str.ofString "is_in_a" = (⟨⟨[nat_lit 105, nat_lit 115, nat_lit 95, nat_lit 105, nat_lit 110, nat_lit 95, nat_lit 97]⟩⟩ : Str) := by decide +kernel
theorem e103 : Str.ofString "is_kind" = (⟨⟨[nat_lit 105, nat_lit 115, nat_lit 95, nat_lit 107, nat_lit 105, nat_lit 110, nat_lit 100]⟩⟩ : Str) := by decide +kernel
theorem e104 : Str.ofString "is_lone_number" = (⟨⟨[nat_lit 105, nat_lit 115, nat_lit 95, nat_lit 108, nat_lit 111, nat_lit 110, nat_lit 101, nat_lit 95, nat_lit 110, nat_lit 117, nat_lit 109, nat_lit 98, nat_lit 101, nat_lit 114]⟩⟩ : Str) := by decide +kernel
theorem e105 : Str.ofString "is_name" = (⟨⟨[nat_lit 105, nat_lit 115, nat_lit 95, nat_lit 110, nat_lit 97, nat_lit 109, nat_lit 101]⟩⟩ : Str) := by decide +kernel
theorem e106 : Str.ofString "is_number" = (⟨⟨[nat_lit 105, nat_lit 115, nat_lit 95, nat_lit 110, nat_lit 117, nat_lit 109, nat_lit 98, nat_lit 101, nat_lit 114]⟩⟩ : Str) := by decide +kernel
theorem e107 : Str.ofString "is_own" = (⟨⟨[nat_lit 105, nat_lit 115, nat_lit 95, nat_lit 111, nat_lit 119, nat_lit 110]⟩⟩ : Str) := by decide +kernel
theorem e108 : Str.ofString "is_part_next" = (⟨⟨[nat_lit 105, nat_lit 115, nat_lit 95, nat_lit 112, nat_lit 97, nat_lit 114, nat_lit 116, nat_lit 95, nat_lit 110, nat_lit 101, nat_lit 120, nat_lit 116]⟩⟩ : Str) := by decide +kernel
theorem e109 : Str.ofString "is_reserved" = (⟨⟨[nat_lit 105, nat_lit 115, nat_lit 95, nat_lit 114, nat_lit 101, nat_lit 115, nat_lit 101, nat_lit 114, nat_lit 118, nat_lit 101, nat_lit 100]⟩⟩ : Str) := by decide +kernel
theorem e110 : Str.ofString "is_rounded" = (⟨⟨[nat_lit 105, nat_lit 115, nat_lit 95, nat_lit 114, nat_lit 111, nat_lit 117, nat_lit 110, nat_lit 100, nat_lit 101, nat_lit 100]⟩⟩ : Str) := by decide +kernel
theorem e111 : Str.ofString "is_sign" = (⟨⟨[nat_lit 105, nat_lit 115, nat_lit 95, nat_lit 115, nat_lit 105, nat_lit 103, nat_lit 110]⟩⟩ : Str) := by decide +kernel
theorem e112 : Str.ofString "is_whole" = (⟨⟨[nat_lit 105, nat_lit 115, nat_lit 95, nat_lit 119, nat_lit 104, nat_lit 111, nat_lit 108, nat_lit 101]⟩⟩ : Str) := by decide +kernel
theorem e113 : Str.ofString "is_word" = (⟨⟨[nat_lit 105, nat_lit 115, nat_lit 95, nat_lit 119, nat_lit 111, nat_lit 114, nat_lit 100]⟩⟩ : Str) := by decide +kernel
theorem e114 : Str.ofString "k" = (⟨⟨[nat_lit 107]⟩⟩ : Str) := by decide +kernel
theorem e115 : Str.ofString "kind" = (⟨⟨[nat_lit 107, nat_lit 105, nat_lit 110, nat_lit 100]⟩⟩ : Str) := by decide +kernel
theorem e116 : Str.ofString "law" = (⟨⟨[nat_lit 108, nat_lit 97, nat_lit 119]⟩⟩ : Str) := by decide +kernel
theorem e117 : Str.ofString "law_pc0133_01" = (⟨⟨[nat_lit 108, nat_lit 97, nat_lit 119, nat_lit 95, nat_lit 112, nat_lit 99, nat_lit 48, nat_lit 49, nat_lit 51, nat_lit 51, nat_lit 95, nat_lit 48, nat_lit 49]⟩⟩ : Str) := by decide +kernel
theorem e118 : Str.ofString "ledgerspeak.decimals" = (⟨⟨[nat_lit 108, nat_lit 101, nat_lit 100, nat_lit 103, nat_lit 101, nat_lit 114, nat_lit 115, nat_lit 112, nat_lit 101, nat_lit 97, nat_lit 107, nat_lit 46, nat_lit 100, nat_lit 101, nat_lit 99, nat_lit 105, nat_lit 109, nat_lit 97, nat_lit 108, nat_lit 115]⟩⟩ : Str) := by decide +kernel
theorem e119 : Str.ofString "ledgerspeak.errors" = (⟨⟨[nat_lit 108, nat_lit 101, nat_lit 100, nat_lit 103, nat_lit 101, nat_lit 114, nat_lit 115, nat_lit 112, nat_lit 101, nat_lit 97, nat_lit 107, nat_lit 46, nat_lit 101, nat_lit 114, nat_lit 114, nat_lit 111, nat_lit 114, nat_lit 115]⟩⟩ : Str) := by decide +kernel
theorem e120 : Str.ofString "ledgerspeak.expressions" = (⟨⟨[nat_lit 108, nat_lit 101, nat_lit 100, nat_lit 103, nat_lit 101, nat_lit 114, nat_lit 115, nat_lit 112, nat_lit 101, nat_lit 97, nat_lit 107, nat_lit 46, nat_lit 101, nat_lit 120, nat_lit 112, nat_lit 114, nat_lit 101, nat_lit 115, nat_lit 115, nat_lit 105, nat_lit 111, nat_lit 110, nat_lit 115]⟩⟩ : Str) := by decide +kernel
theorem e121 : Str.ofString "ledgerspeak.reader" = (⟨⟨[nat_lit 108, nat_lit 101, nat_lit 100, nat_lit 103, nat_lit 101, nat_lit 114, nat_lit 115, nat_lit 112, nat_lit 101, nat_lit 97, nat_lit 107, nat_lit 46, nat_lit 114, nat_lit 101, nat_lit 97, nat_lit 100, nat_lit 101, nat_lit 114]⟩⟩ : Str) := by decide +kernel
theorem e122 : Str.ofString "ledgerspeak.references" = (⟨⟨[nat_lit 108, nat_lit 101, nat_lit 100, nat_lit 103, nat_lit 101, nat_lit 114, nat_lit 115, nat_lit 112, nat_lit 101, nat_lit 97, nat_lit 107, nat_lit 46, nat_lit 114, nat_lit 101, nat_lit 102, nat_lit 101, nat_lit 114, nat_lit 101, nat_lit 110, nat_lit 99, nat_lit 101, nat_lit 115]⟩⟩ : Str) := by decide +kernel
theorem e123 : Str.ofString "ledgerspeak.tokens" = (⟨⟨[nat_lit 108, nat_lit 101, nat_lit 100, nat_lit 103, nat_lit 101, nat_lit 114, nat_lit 115, nat_lit 112, nat_lit 101, nat_lit 97, nat_lit 107, nat_lit 46, nat_lit 116, nat_lit 111, nat_lit 107, nat_lit 101, nat_lit 110, nat_lit 115]⟩⟩ : Str) := by decide +kernel
theorem e124 : Str.ofString "len" = (⟨⟨[nat_lit 108, nat_lit 101, nat_lit 110]⟩⟩ : Str) := by decide +kernel
theorem e125 : Str.ofString "length" = (⟨⟨[nat_lit 108, nat_lit 101, nat_lit 110, nat_lit 103, nat_lit 116, nat_lit 104]⟩⟩ : Str) := by decide +kernel
theorem e126 : Str.ofString "level" = (⟨⟨[nat_lit 108, nat_lit 101, nat_lit 118, nat_lit 101, nat_lit 108]⟩⟩ : Str) := by decide +kernel
theorem e127 : Str.ofString "list" = (⟨⟨[nat_lit 108, nat_lit 105, nat_lit 115, nat_lit 116]⟩⟩ : Str) := by decide +kernel
theorem e128 : Str.ofString "literal" = (⟨⟨[nat_lit 108, nat_lit 105, nat_lit 116, nat_lit 101, nat_lit 114, nat_lit 97, nat_lit 108]⟩⟩ : Str) := by decide +kernel
theorem e129 : Str.ofString "many" = (⟨⟨[nat_lit 109, nat_lit 97, nat_lit 110, nat_lit 121]⟩⟩ : Str) := by decide +kernel
theorem e130 : Str.ofString "min" = (⟨⟨[nat_lit 109, nat_lit 105, nat_lit 110]⟩⟩ : Str) := by decide +kernel
theorem e131 : Str.ofString "more than 7 subscripts" = (⟨⟨[nat_lit 109, nat_lit 111, nat_lit 114, nat_lit 101, nat_lit 32, nat_lit 116, nat_lit 104, nat_lit 97, nat_lit 110, nat_lit 32, nat_lit 55, nat_lit 32, nat_lit 115, nat_lit 117, nat_lit 98, nat_lit 115, nat_lit 99, nat_lit 114, nat_lit 105, nat_lit 112, nat_lit 116, nat_lit 115]⟩⟩ : Str) := by decide +kernel
theorem e132 : Str.ofString "name" = (⟨⟨[nat_lit 110, nat_lit 97, nat_lit 109, nat_lit 101]⟩⟩ : Str) := by decide +kernel
theorem e133 : Str.ofString "named" = (⟨⟨[nat_lit 110, nat_lit 97, nat_lit 109, nat_lit 101, nat_lit 100]⟩⟩ : Str) := by decide +kernel
theorem e134 : Str.ofString "names" = (⟨⟨[nat_lit 110, nat_lit 97, nat_lit 109, nat_lit 101, nat_lit 115]⟩⟩ : Str) := by decide +kernel
theorem e135 : Str.ofString "need" = (⟨⟨[nat_lit 110, nat_lit 101, nat_lit 101, nat_lit 100]⟩⟩ : Str) := by decide +kernel
theorem e136 : Str.ofString "need_sign" = (⟨⟨[nat_lit 110, nat_lit 101, nat_lit 101, nat_lit 100, nat_lit 95, nat_lit 115, nat_lit 105, nat_lit 103, nat_lit 110]⟩⟩ : Str) := by decide +kernel
theorem e137 : Str.ofString "neg" = (⟨⟨[nat_lit 110, nat_lit 101, nat_lit 103]⟩⟩ : Str) := by decide +kernel
theorem e138 : Str.ofString "negated" = (⟨⟨[nat_lit 110, nat_lit 101, nat_lit 103, nat_lit 97, nat_lit 116, nat_lit 101, nat_lit 100]⟩⟩ : Str) := by decide +kernel
theorem e139 : Str.ofString "no figure" = (⟨⟨[nat_lit 110, nat_lit 111, nat_lit 32, nat_lit 102, nat_lit 105, nat_lit 103, nat_lit 117, nat_lit 114, nat_lit 101]⟩⟩ : Str) := by decide +kernel
theorem e140 : Str.ofString "no figure behind the point" = (⟨⟨[nat_lit 110, nat_lit 111, nat_lit 32, nat_lit 102, nat_lit 105, nat_lit 103, nat_lit 117, nat_lit 114, nat_lit 101, nat_lit 32, nat_lit 98, nat_lit 101, nat_lit 104, nat_lit 105, nat_lit 110, nat_lit 100, nat_lit 32, nat_lit 116, nat_lit 104, nat_lit 101, nat_lit 32, nat_lit 112, nat_lit 111, nat_lit 105, nat_lit 110, nat_lit 116]⟩⟩ : Str) := by decide +kernel
theorem e141 : Str.ofString "number" = (⟨⟨[nat_lit 110, nat_lit 117, nat_lit 109, nat_lit 98, nat_lit 101, nat_lit 114]⟩⟩ : Str) := by decide +kernel
theorem e142 : Str.ofString "numbers" = (⟨⟨[nat_lit 110, nat_lit 117, nat_lit 109, nat_lit 98, nat_lit 101, nat_lit 114, nat_lit 115]⟩⟩ : Str) := by decide +kernel
theorem e143 : Str.ofString "octets" = (⟨⟨[nat_lit 111, nat_lit 99, nat_lit 116, nat_lit 101, nat_lit 116, nat_lit 115]⟩⟩ : Str) := by decide +kernel
theorem e144 : Str.ofString "octets_of_text" = (⟨⟨[nat_lit 111, nat_lit 99, nat_lit 116, nat_lit 101, nat_lit 116, nat_lit 115, nat_lit 95, nat_lit 111, nat_lit 102, nat_lit 95, nat_lit 116, nat_lit 101, nat_lit 120, nat_lit 116]⟩⟩ : Str) := by decide +kernel
theorem e145 : Str.ofString "one_of" = (⟨⟨[nat_lit 111, nat_lit 110, nat_lit 101, nat_lit 95, nat_lit 111, nat_lit 102]⟩⟩ : Str) := by decide +kernel
theorem e146 : Str.ofString "ord" = (⟨⟨[nat_lit 111, nat_lit 114, nat_lit 100]⟩⟩ : Str) := by decide +kernel
theorem e147 : Str.ofString "part" = (⟨⟨[nat_lit 112, nat_lit 97, nat_lit 114, nat_lit 116]⟩⟩ : Str) := by decide +kernel
theorem e148 : Str.ofString "peek" = (⟨⟨[nat_lit 112, nat_lit 101, nat_lit 101, nat_lit 107]⟩⟩ : Str) := by decide +kernel
theorem e149 : Str.ofString "pen" = (⟨⟨[nat_lit 112, nat_lit 101, nat_lit 110]⟩⟩ : Str) := by decide +kernel
theorem e150 : Str.ofString "point" = (⟨⟨[nat_lit 112, nat_lit 111, nat_lit 105, nat_lit 110, nat_lit 116]⟩⟩ : Str) := by decide +kernel
theorem e151 : Str.ofString "qualifiers" = (⟨⟨[nat_lit 113, nat_lit 117, nat_lit 97, nat_lit 108, nat_lit 105, nat_lit 102, nat_lit 105, nat_lit 101, nat_lit 114, nat_lit 115]⟩⟩ : Str) := by decide +kernel
theorem e152 : Str.ofString "range" = (⟨⟨[nat_lit 114, nat_lit 97, nat_lit 110, nat_lit 103, nat_lit 101]⟩⟩ : Str) := by decide +kernel
theorem e153 : Str.ofString "read_all" = (⟨⟨[nat_lit 114, nat_lit 101, nat_lit 97, nat_lit 100, nat_lit 95, nat_lit 97, nat_lit 108, nat_lit 108]⟩⟩ : Str) := by decide +kernel
theorem e154 : Str.ofString "read_decimal" = (⟨⟨[nat_lit 114, nat_lit 101, nat_lit 97, nat_lit 100, nat_lit 95, nat_lit 100, nat_lit 101, nat_lit 99, nat_lit 105, nat_lit 109, nat_lit 97, nat_lit 108]⟩⟩ : Str) := by decide +kernel
theorem e155 : Str.ofString "read_expr" = (⟨⟨[nat_lit 114, nat_lit 101, nat_lit 97, nat_lit 100, nat_lit 95, nat_lit 101, nat_lit 120, nat_lit 112, nat_lit 114]⟩⟩ : Str) := by decide +kernel
theorem e156 : Str.ofString "read_expression" = (⟨⟨[nat_lit 114, nat_lit 101, nat_lit 97, nat_lit 100, nat_lit 95, nat_lit 101, nat_lit 120, nat_lit 112, nat_lit 114, nat_lit 101, nat_lit 115, nat_lit 115, nat_lit 105, nat_lit 111, nat_lit 110]⟩⟩ : Str) := by decide +kernel
theorem e157 : Str.ofString "read_factor" = (⟨⟨[nat_lit 114, nat_lit 101, nat_lit 97, nat_lit 100, nat_lit 95, nat_lit 102, nat_lit 97, nat_lit 99, nat_lit 116, nat_lit 111, nat_lit 114]⟩⟩ : Str) := by decide +kernel
theorem e158 : Str.ofString "read_figure" = (⟨⟨[nat_lit 114, nat_lit 101, nat_lit 97, nat_lit 100, nat_lit 95, nat_lit 102, nat_lit 105, nat_lit 103, nat_lit 117, nat_lit 114, nat_lit 101]⟩⟩ : Str) := by decide +kernel
theorem e159 : Str.ofString "read_operand" = (⟨⟨[nat_lit 114, nat_lit 101, nat_lit 97, nat_lit 100, nat_lit 95, nat_lit 111, nat_lit 112, nat_lit 101, nat_lit 114, nat_lit 97, nat_lit 110, nat_lit 100]⟩⟩ : Str) := by decide +kernel
theorem e160 : Str.ofString "read_part" = (⟨⟨[nat_lit 114, nat_lit 101, nat_lit 97, nat_lit 100, nat_lit 95, nat_lit 112, nat_lit 97, nat_lit 114, nat_lit 116]⟩⟩ : Str) := by decide +kernel
theorem e161 : Str.ofString "read_power" = (⟨⟨[nat_lit 114, nat_lit 101, nat_lit 97, nat_lit 100, nat_lit 95, nat_lit 112, nat_lit 111, nat_lit 119, nat_lit 101, nat_lit 114]⟩⟩ : Str) := by decide +kernel
theorem e162 : Str.ofString "read_primary" = (⟨⟨[nat_lit 114, nat_lit 101, nat_lit 97, nat_lit 100, nat_lit 95, nat_lit 112, nat_lit 114, nat_lit 105, nat_lit 109, nat_lit 97, nat_lit 114, nat_lit 121]⟩⟩ : Str) := by decide +kernel
theorem e163 : Str.ofString "read_product" = (⟨⟨[nat_lit 114, nat_lit 101, nat_lit 97, nat_lit 100, nat_lit 95, nat_lit 112, nat_lit 114, nat_lit 111, nat_lit 100, nat_lit 117, nat_lit 99, nat_lit 116]⟩⟩ : Str) := by decide +kernel
theorem e164 : Str.ofString "read_ref" = (⟨⟨[nat_lit 114, nat_lit 101, nat_lit 97, nat_lit 100, nat_lit 95, nat_lit 114, nat_lit 101, nat_lit 102]⟩⟩ : Str) := by decide +kernel
theorem e165 : Str.ofString "read_subscripts" = (⟨⟨[nat_lit 114, nat_lit 101, nat_lit 97, nat_lit 100, nat_lit 95, nat_lit 115, nat_lit 117, nat_lit 98, nat_lit 115, nat_lit 99, nat_lit 114, nat_lit 105, nat_lit 112, nat_lit 116, nat_lit 115]⟩⟩ : Str) := by decide +kernel
theorem e166 : Str.ofString "read_sum" = (⟨⟨[nat_lit 114, nat_lit 101, nat_lit 97, nat_lit 100, nat_lit 95, nat_lit 115, nat_lit 117, nat_lit 109]⟩⟩ : Str) := by decide +kernel
theorem e167 : Str.ofString "reader" = (⟨⟨[nat_lit 114, nat_lit 101, nat_lit 97, nat_lit 100, nat_lit 101, nat_lit 114]⟩⟩ : Str) := by decide +kernel
theorem e168 : Str.ofString "ref" = (⟨⟨[nat_lit 114, nat_lit 101, nat_lit 102]⟩⟩ : Str) := by decide +kernel
theorem e169 : Str.ofString "right" = (⟨⟨[nat_lit 114, nat_lit 105, nat_lit 103, nat_lit 104, nat_lit 116]⟩⟩ : Str) := by decide +kernel
theorem e170 : Str.ofString "scale" = (⟨⟨[nat_lit 115, nat_lit 99, nat_lit 97, nat_lit 108, nat_lit 101]⟩⟩ : Str) := by decide +kernel
theorem e171 : Str.ofString "script" = (⟨⟨[nat_lit 115, nat_lit 99, nat_lit 114, nat_lit 105, nat_lit 112, nat_lit 116]⟩⟩ : Str) := by decide +kernel
theorem e172 : Str.ofString "self" = (⟨⟨[nat_lit 115, nat_lit 101, nat_lit 108, nat_lit 102]⟩⟩ : Str) := by decide +kernel
theorem e173 : Str.ofString "sign" = (⟨⟨[nat_lit 115, nat_lit 105, nat_lit 103, nat_lit 110]⟩⟩ : Str) := by decide +kernel
theorem e174 : Str.ofString "sign_among" = (⟨⟨[nat_lit 115, nat_lit 105, nat_lit 103, nat_lit 110, nat_lit 95, nat_lit 97, nat_lit 109, nat_lit 111, nat_lit 110, nat_lit 103]⟩⟩ : Str) := by decide +kernel
theorem e175 : Str.ofString "signed" = (⟨⟨[nat_lit 115, nat_lit 105, nat_lit 103, nat_lit 110, nat_lit 101, nat_lit 100]⟩⟩ : Str) := by decide +kernel
theorem e176 : Str.ofString "signs" = (⟨⟨[nat_lit 115, nat_lit 105, nat_lit 103, nat_lit 110, nat_lit 115]⟩⟩ : Str) := by decide +kernel
theorem e177 : Str.ofString "size" = (⟨⟨[nat_lit 115, nat_lit 105, nat_lit 122, nat_lit 101]⟩⟩ : Str) := by decide +kernel
theorem e178 : Str.ofString "skip" = (⟨⟨[nat_lit 115, nat_lit 107, nat_lit 105, nat_lit 112]⟩⟩ : Str) := by decide +kernel
theorem e179 : Str.ofString "skip_sign" = (⟨⟨[nat_lit 115, nat_lit 107, nat_lit 105, nat_lit 112, nat_lit 95, nat_lit 115, nat_lit 105, nat_lit 103, nat_lit 110]⟩⟩ : Str) := by decide +kernel
theorem e180 : Str.ofString "some" = (⟨⟨[nat_lit 115, nat_lit 111, nat_lit 109, nat_lit 101]⟩⟩ : Str) := by decide +kernel
theorem e181 : Str.ofString "split" = (⟨⟨[nat_lit 115, nat_lit 112, nat_lit 108, nat_lit 105, nat_lit 116]⟩⟩ : Str) := by decide +kernel
theorem e182 : Str.ofString "spot" = (⟨⟨[nat_lit 115, nat_lit 112, nat_lit 111, nat_lit 116]⟩⟩ : Str) := by decide +kernel
theorem e183 : Str.ofString "state" = (⟨⟨[nat_lit 115, nat_lit 116, nat_lit 97, nat_lit 116, nat_lit 101]⟩⟩ : Str) := by decide +kernel
theorem e184 : Str.ofString "subscripts" = (⟨⟨[nat_lit 115, nat_lit 117, nat_lit 98, nat_lit 115, nat_lit 99, nat_lit 114, nat_lit 105, nat_lit 112, nat_lit 116, nat_lit 115]⟩⟩ : Str) := by decide +kernel
theorem e185 : Str.ofString "sum" = (⟨⟨[nat_lit 115, nat_lit 117, nat_lit 109]⟩⟩ : Str) := by decide +kernel
theorem e186 : Str.ofString "take" = (⟨⟨[nat_lit 116, nat_lit 97, nat_lit 107, nat_lit 101]⟩⟩ : Str) := by decide +kernel
theorem e187 : Str.ofString "text" = (⟨⟨[nat_lit 116, nat_lit 101, nat_lit 120, nat_lit 116]⟩⟩ : Str) := by decide +kernel
theorem e188 : Str.ofString "the text ends too early" = (⟨⟨[nat_lit 116, nat_lit 104, nat_lit 101, nat_lit 32, nat_lit 116, nat_lit 101, nat_lit 120, nat_lit 116, nat_lit 32, nat_lit 101, nat_lit 110, nat_lit 100, nat_lit 115, nat_lit 32, nat_lit 116, nat_lit 111, nat_lit 111, nat_lit 32, nat_lit 101, nat_lit 97, nat_lit 114, nat_lit 108, nat_lit 121]⟩⟩ : Str) := by decide +kernel
theorem e189 : Str.ofString "token" = (⟨⟨[nat_lit 116, nat_lit 111, nat_lit 107, nat_lit 101, nat_lit 110]⟩⟩ : Str) := by decide +kernel
theorem e190 : Str.ofString "tokens" = (⟨⟨[nat_lit 116, nat_lit 111, nat_lit 107, nat_lit 101, nat_lit 110, nat_lit 115]⟩⟩ : Str) := by decide +kernel
theorem e191 : Str.ofString "told" = (⟨⟨[nat_lit 116, nat_lit 111, nat_lit 108, nat_lit 100]⟩⟩ : Str) := by decide +kernel
theorem e192 : Str.ofString "top" = (⟨⟨[nat_lit 116, nat_lit 111, nat_lit 112]⟩⟩ : Str) := by decide +kernel
theorem e193 : Str.ofString "tuple" = (⟨⟨[nat_lit 116, nat_lit 117, nat_lit 112, nat_lit 108, nat_lit 101]⟩⟩ : Str) := by decide +kernel
theorem e194 : Str.ofString "turn" = (⟨⟨[nat_lit 116, nat_lit 117, nat_lit 114, nat_lit 110]⟩⟩ : Str) := by decide +kernel
theorem e195 : Str.ofString "units" = (⟨⟨[nat_lit 117, nat_lit 110, nat_lit 105, nat_lit 116, nat_lit 115]⟩⟩ : Str) := by decide +kernel
theorem e196 : Str.ofString "units_at" = (⟨⟨[nat_lit 117, nat_lit 110, nat_lit 105, nat_lit 116, nat_lit 115, nat_lit 95, nat_lit 97, nat_lit 116]⟩⟩ : Str) := by decide +kernel
theorem e197 : Str.ofString "way" = (⟨⟨[nat_lit 119, nat_lit 97, nat_lit 121]⟩⟩ : Str) := by decide +kernel
theorem e198 : Str.ofString "what" = (⟨⟨[nat_lit 119, nat_lit 104, nat_lit 97, nat_lit 116]⟩⟩ : Str) := by decide +kernel
theorem e199 : Str.ofString "whole" = (⟨⟨[nat_lit 119, nat_lit 104, nat_lit 111, nat_lit 108, nat_lit 101]⟩⟩ : Str) := by decide +kernel
theorem e200 : Str.ofString "whole_of" = (⟨⟨[nat_lit 119, nat_lit 104, nat_lit 111, nat_lit 108, nat_lit 101, nat_lit 95, nat_lit 111, nat_lit 102]⟩⟩ : Str) := by decide +kernel
theorem e201 : Str.ofString "word" = (⟨⟨[nat_lit 119, nat_lit 111, nat_lit 114, nat_lit 100]⟩⟩ : Str) := by decide +kernel
theorem e202 : Str.ofString "words" = (⟨⟨[nat_lit 119, nat_lit 111, nat_lit 114, nat_lit 100, nat_lit 115]⟩⟩ : Str) := by decide +kernel
theorem e203 : Str.ofString "worth" = (⟨⟨[nat_lit 119, nat_lit 111, nat_lit 114, nat_lit 116, nat_lit 104]⟩⟩ : Str) := by decide +kernel
theorem e204 : Str.ofString "worth_of" = (⟨⟨[nat_lit 119, nat_lit 111, nat_lit 114, nat_lit 116, nat_lit 104, nat_lit 95, nat_lit 111, nat_lit 102]⟩⟩ : Str) := by decide +kernel
noncomputable def twP : Program := pk.1 PySem.W.Fast.tw2447444425766382212 ⟨⟨[]⟩⟩ ⟨⟨[nat_lit 32]⟩⟩ ⟨⟨[nat_lit 32, nat_lit 105, nat_lit 115, nat_lit 32, nat_lit 97, nat_lit 115, nat_lit 107, nat_lit 101, nat_lit 100, nat_lit 32, nat_lit 104, nat_lit 101, nat_lit 114, nat_lit 101]⟩⟩ ⟨⟨[nat_lit 39]⟩⟩ ⟨⟨[nat_lit 40]⟩⟩ ⟨⟨[nat_lit 41]⟩⟩ ⟨⟨[nat_lit 42]⟩⟩ ⟨⟨[nat_lit 42, nat_lit 42]⟩⟩ ⟨⟨[nat_lit 43]⟩⟩ ⟨⟨[nat_lit 45]⟩⟩ ⟨⟨[nat_lit 46]⟩⟩ ⟨⟨[nat_lit 46, nat_lit 48]⟩⟩ ⟨⟨[nat_lit 47]⟩⟩ ⟨⟨[nat_lit 47, nat_lit 99, nat_lit 108, nat_lit 97, nat_lit 105, nat_lit 109, nat_lit 47, nat_lit 99, nat_lit 117, nat_lit 116, nat_lit 46, nat_lit 112, nat_lit 121]⟩⟩ ⟨⟨[nat_lit 48]⟩⟩ ⟨⟨[nat_lit 48, nat_lit 46, nat_lit 50, nat_lit 53]⟩⟩ ⟨⟨[nat_lit 48, nat_lit 49, nat_lit 50, nat_lit 51, nat_lit 52, nat_lit 53, nat_lit 54, nat_lit 55, nat_lit 56, nat_lit 57]⟩⟩ ⟨⟨[nat_lit 53]⟩⟩ ⟨⟨[nat_lit 58]⟩⟩ ⟨⟨[nat_lit 65]⟩⟩ ⟨⟨[nat_lit 65, nat_lit 76, nat_lit 76]⟩⟩ ⟨⟨[nat_lit 69, nat_lit 120, nat_lit 99, nat_lit 101, nat_lit 112, nat_lit 116, nat_lit 105, nat_lit 111, nat_lit 110]⟩⟩ ⟨⟨[nat_lit 70, nat_lit 73, nat_lit 71, nat_lit 85, nat_lit 82, nat_lit 69, nat_lit 83]⟩⟩ ⟨⟨[nat_lit 70, nat_lit 73, nat_lit 71, nat_lit 85, nat_lit 82, nat_lit 69, nat_lit 95, nat_lit 78, nat_lit 65, nat_lit 77, nat_lit 69, nat_lit 83]⟩⟩ ⟨⟨[nat_lit 71, nat_lit 114, nat_lit 97, nat_lit 109, nat_lit 109, nat_lit 97, nat_lit 114, nat_lit 70, nat_lit 97, nat_lit 117, nat_lit 108, nat_lit 116]⟩⟩ ⟨⟨[nat_lit 72, nat_lit 73, nat_lit 71, nat_lit 72]⟩⟩ ⟨⟨[nat_lit 72, nat_lit 73, nat_lit 71, nat_lit 72, nat_lit 45, nat_lit 86, nat_lit 65, nat_lit 76, nat_lit 85, nat_lit 69]⟩⟩ ⟨⟨[nat_lit 72, nat_lit 73, nat_lit 71, nat_lit 72, nat_lit 45, nat_lit 86, nat_lit 65, nat_lit 76, nat_lit 85, nat_lit 69, nat_lit 83]⟩⟩ ⟨⟨[nat_lit 76, nat_lit 79, nat_lit 87]⟩⟩ ⟨⟨[nat_lit 76, nat_lit 79, nat_lit 87, nat_lit 45, nat_lit 86, nat_lit 65, nat_lit 76, nat_lit 85, nat_lit 69]⟩⟩ ⟨⟨[nat_lit 76, nat_lit 79, nat_lit 87, nat_lit 45, nat_lit 86, nat_lit 65, nat_lit 76, nat_lit 85, nat_lit 69, nat_lit 83]⟩⟩ ⟨⟨[nat_lit 76, nat_lit 101, nat_lit 100, nat_lit 103, nat_lit 101, nat_lit 114, nat_lit 69, nat_lit 114, nat_lit 114, nat_lit 111, nat_lit 114]⟩⟩ ⟨⟨[nat_lit 77, nat_lit 79, nat_lit 83, nat_lit 84, nat_lit 95, nat_lit 68, nat_lit 69, nat_lit 69, nat_lit 80]⟩⟩ ⟨⟨[nat_lit 77, nat_lit 79, nat_lit 83, nat_lit 84, nat_lit 95, nat_lit 79, nat_lit 67, nat_lit 84, nat_lit 69, nat_lit 84]⟩⟩ ⟨⟨[nat_lit 77, nat_lit 79, nat_lit 83, nat_lit 84, nat_lit 95, nat_lit 83, nat_lit 85, nat_lit 66, nat_lit 83, nat_lit 67, nat_lit 82, nat_lit 73, nat_lit 80, nat_lit 84, nat_lit 83]⟩⟩ ⟨⟨[nat_lit 79, nat_lit 70, nat_lit 32, nat_lit 73, nat_lit 78]⟩⟩ ⟨⟨[nat_lit 81, nat_lit 85, nat_lit 79, nat_lit 84, nat_lit 69]⟩⟩ ⟨⟨[nat_lit 81, nat_lit 85, nat_lit 79, nat_lit 84, nat_lit 69, nat_lit 83]⟩⟩ ⟨⟨[nat_lit 82, nat_lit 69, nat_lit 83, nat_lit 69, nat_lit 82, nat_lit 86, nat_lit 69, nat_lit 68]⟩⟩ ⟨⟨[nat_lit 82, nat_lit 101, nat_lit 97, nat_lit 100, nat_lit 101, nat_lit 114]⟩⟩ ⟨⟨[nat_lit 83, nat_lit 80, nat_lit 65, nat_lit 67, nat_lit 69]⟩⟩ ⟨⟨[nat_lit 83, nat_lit 80, nat_lit 65, nat_lit 67, nat_lit 69, nat_lit 83]⟩⟩ ⟨⟨[nat_lit 84, nat_lit 72, nat_lit 69, nat_lit 78]⟩⟩ ⟨⟨[nat_lit 84, nat_lit 111, nat_lit 107, nat_lit 101, nat_lit 110]⟩⟩ ⟨⟨[nat_lit 84, nat_lit 111, nat_lit 107, nat_lit 101, nat_lit 110, nat_lit 70, nat_lit 97, nat_lit 117, nat_lit 108, nat_lit 116]⟩⟩ ⟨⟨[nat_lit 90]⟩⟩ ⟨⟨[nat_lit 90, nat_lit 69, nat_lit 82, nat_lit 79]⟩⟩ ⟨⟨[nat_lit 90, nat_lit 69, nat_lit 82, nat_lit 79, nat_lit 69, nat_lit 83]⟩⟩ ⟨⟨[nat_lit 90, nat_lit 69, nat_lit 82, nat_lit 79, nat_lit 83]⟩⟩ ⟨⟨[nat_lit 95, nat_lit 95, nat_lit 105, nat_lit 110, nat_lit 105, nat_lit 116, nat_lit 95, nat_lit 95]⟩⟩ ⟨⟨[nat_lit 95, nat_lit 95, nat_lit 110, nat_lit 97, nat_lit 109, nat_lit 101, nat_lit 95, nat_lit 95]⟩⟩ ⟨⟨[nat_lit 95, nat_lit 108, nat_lit 97, nat_lit 119, nat_lit 95, nat_lit 98, nat_lit 101, nat_lit 110, nat_lit 116]⟩⟩ ⟨⟨[nat_lit 95, nat_lit 108, nat_lit 97, nat_lit 119, nat_lit 95, nat_lit 100, nat_lit 114, nat_lit 97, nat_lit 119]⟩⟩ ⟨⟨[nat_lit 95, nat_lit 108, nat_lit 97, nat_lit 119, nat_lit 95, nat_lit 108, nat_lit 101, nat_lit 118, nat_lit 101, nat_lit 108, nat_lit 115]⟩⟩ ⟨⟨[nat_lit 95, nat_lit 108, nat_lit 97, nat_lit 119, nat_lit 95, nat_lit 109, nat_lit 101, nat_lit 110, nat_lit 117]⟩⟩ ⟨⟨[nat_lit 95, nat_lit 108, nat_lit 97, nat_lit 119, nat_lit 95, nat_lit 112, nat_lit 101, nat_lit 110]⟩⟩ ⟨⟨[nat_lit 95, nat_lit 108, nat_lit 97, nat_lit 119, nat_lit 95, nat_lit 114, nat_lit 101, nat_lit 97, nat_lit 100, nat_lit 101, nat_lit 114]⟩⟩ ⟨⟨[nat_lit 95, nat_lit 108, nat_lit 97, nat_lit 119, nat_lit 95, nat_lit 114, nat_lit 105, nat_lit 103, nat_lit 104, nat_lit 116]⟩⟩ ⟨⟨[nat_lit 95, nat_lit 108, nat_lit 97, nat_lit 119, nat_lit 95, nat_lit 115, nat_lit 105, nat_lit 103, nat_lit 110, nat_lit 101, nat_lit 100]⟩⟩ ⟨⟨[nat_lit 95, nat_lit 108, nat_lit 97, nat_lit 119, nat_lit 95, nat_lit 115, nat_lit 105, nat_lit 110, nat_lit 103, nat_lit 108, nat_lit 101]⟩⟩ ⟨⟨[nat_lit 95, nat_lit 108, nat_lit 97, nat_lit 119, nat_lit 95, nat_lit 119, nat_lit 111, nat_lit 114, nat_lit 100]⟩⟩ ⟨⟨[nat_lit 95, nat_lit 119, nat_lit 97, nat_lit 108, nat_lit 108]⟩⟩ ⟨⟨[nat_lit 97]⟩⟩ ⟨⟨[nat_lit 97, nat_lit 32, nat_lit 108, nat_lit 105, nat_lit 116, nat_lit 101, nat_lit 114, nat_lit 97, nat_lit 108, nat_lit 32, nat_lit 105, nat_lit 115, nat_lit 32, nat_lit 97, nat_lit 115, nat_lit 107, nat_lit 101, nat_lit 100, nat_lit 32, nat_lit 98, nat_lit 101, nat_lit 104, nat_lit 105, nat_lit 110, nat_lit 100, nat_lit 32, nat_lit 65, nat_lit 76, nat_lit 76]⟩⟩ ⟨⟨[nat_lit 97, nat_lit 32, nat_lit 108, nat_lit 105, nat_lit 116, nat_lit 101, nat_lit 114, nat_lit 97, nat_lit 108, nat_lit 32, nat_lit 105, nat_lit 115, nat_lit 32, nat_lit 97, nat_lit 115, nat_lit 107, nat_lit 101, nat_lit 100, nat_lit 32, nat_lit 104, nat_lit 101, nat_lit 114, nat_lit 101]⟩⟩ ⟨⟨[nat_lit 97, nat_lit 32, nat_lit 110, nat_lit 97, nat_lit 109, nat_lit 101, nat_lit 32, nat_lit 105, nat_lit 115, nat_lit 32, nat_lit 97, nat_lit 115, nat_lit 107, nat_lit 101, nat_lit 100, nat_lit 32, nat_lit 104, nat_lit 101, nat_lit 114, nat_lit 101]⟩⟩ ⟨⟨[nat_lit 97, nat_lit 32, nat_lit 110, nat_lit 117, nat_lit 109, nat_lit 98, nat_lit 101, nat_lit 114, nat_lit 32, nat_lit 105, nat_lit 115, nat_lit 32, nat_lit 97, nat_lit 115, nat_lit 107, nat_lit 101, nat_lit 100, nat_lit 32, nat_lit 104, nat_lit 101, nat_lit 114, nat_lit 101]⟩⟩ ⟨⟨[nat_lit 97, nat_lit 32, nat_lit 115, nat_lit 105, nat_lit 103, nat_lit 110, nat_lit 32, nat_lit 116, nat_lit 104, nat_lit 97, nat_lit 116, nat_lit 32, nat_lit 105, nat_lit 115, nat_lit 32, nat_lit 110, nat_lit 111, nat_lit 32, nat_lit 111, nat_lit 99, nat_lit 116, nat_lit 101, nat_lit 116]⟩⟩ ⟨⟨[nat_lit 97, nat_lit 32, nat_lit 119, nat_lit 104, nat_lit 111, nat_lit 108, nat_lit 101, nat_lit 32, nat_lit 110, nat_lit 117, nat_lit 109, nat_lit 98, nat_lit 101, nat_lit 114, nat_lit 32, nat_lit 105, nat_lit 115, nat_lit 32, nat_lit 97, nat_lit 115, nat_lit 107, nat_lit 101, nat_lit 100, nat_lit 32, nat_lit 104, nat_lit 101, nat_lit 114, nat_lit 101]⟩⟩ ⟨⟨[nat_lit 97, nat_lit 32, nat_lit 119, nat_lit 111, nat_lit 114, nat_lit 100, nat_lit 32, nat_lit 105, nat_lit 115, nat_lit 32, nat_lit 97, nat_lit 115, nat_lit 107, nat_lit 101, nat_lit 100, nat_lit 32, nat_lit 104, nat_lit 101, nat_lit 114, nat_lit 101]⟩⟩ ⟨⟨[nat_lit 97, nat_lit 98, nat_lit 115]⟩⟩ ⟨⟨[nat_lit 97, nat_lit 104, nat_lit 101, nat_lit 97, nat_lit 100]⟩⟩ ⟨⟨[nat_lit 97, nat_lit 108, nat_lit 108]⟩⟩ ⟨⟨[nat_lit 97, nat_lit 110, nat_lit 32, nat_lit 111, nat_lit 112, nat_lit 101, nat_lit 114, nat_lit 97, nat_lit 110, nat_lit 100, nat_lit 32, nat_lit 105, nat_lit 115, nat_lit 32, nat_lit 97, nat_lit 115, nat_lit 107, nat_lit 101, nat_lit 100, nat_lit 32, nat_lit 104, nat_lit 101, nat_lit 114, nat_lit 101]⟩⟩ ⟨⟨[nat_lit 97, nat_lit 112, nat_lit 112, nat_lit 101, nat_lit 110, nat_lit 100]⟩⟩ ⟨⟨[nat_lit 97, nat_lit 116]⟩⟩ ⟨⟨[nat_lit 98, nat_lit 101, nat_lit 103, nat_lit 105, nat_lit 110]⟩⟩ ⟨⟨[nat_lit 98, nat_lit 101, nat_lit 104, nat_lit 105, nat_lit 110, nat_lit 100]⟩⟩ ⟨⟨[nat_lit 98, nat_lit 111, nat_lit 116, nat_lit 116, nat_lit 111, nat_lit 109]⟩⟩ ⟨⟨[nat_lit 98, nat_lit 114, nat_lit 97, nat_lit 99, nat_lit 107, nat_lit 101, nat_lit 116, nat_lit 115, nat_lit 32, nat_lit 97, nat_lit 114, nat_lit 101, nat_lit 32, nat_lit 110, nat_lit 101, nat_lit 115, nat_lit 116, nat_lit 101, nat_lit 100, nat_lit 32, nat_lit 116, nat_lit 111, nat_lit 111, nat_lit 32, nat_lit 100, nat_lit 101, nat_lit 101, nat_lit 112]⟩⟩ ⟨⟨[nat_lit 98, nat_lit 121, nat_lit 116, nat_lit 101, nat_lit 115]⟩⟩ ⟨⟨[nat_lit 99, nat_lit 97, nat_lit 117, nat_lit 103, nat_lit 104, nat_lit 116]⟩⟩ ⟨⟨[nat_lit 99, nat_lit 101, nat_lit 108, nat_lit 108]⟩⟩ ⟨⟨[nat_lit 99, nat_lit 117, nat_lit 116, nat_lit 95, nat_lit 113, nat_lit 117, nat_lit 111, nat_lit 116, nat_lit 105, nat_lit 101, nat_lit 110, nat_lit 116]⟩⟩ ⟨⟨[nat_lit 100, nat_lit 101, nat_lit 99, nat_lit 105, nat_lit 109, nat_lit 97, nat_lit 108]⟩⟩ ⟨⟨[nat_lit 100, nat_lit 101, nat_lit 101, nat_lit 112]⟩⟩ ⟨⟨[nat_lit 100, nat_lit 101, nat_lit 112, nat_lit 116, nat_lit 104]⟩⟩ ⟨⟨[nat_lit 100, nat_lit 105, nat_lit 103, nat_lit 105, nat_lit 116]⟩⟩ ⟨⟨[nat_lit 100, nat_lit 117, nat_lit 101]⟩⟩ ⟨⟨[nat_lit 101, nat_lit 110, nat_lit 117, nat_lit 109, nat_lit 101, nat_lit 114, nat_lit 97, nat_lit 116, nat_lit 101]⟩⟩ ⟨⟨[nat_lit 101, nat_lit 114, nat_lit 114, nat_lit 111, nat_lit 114]⟩⟩ ⟨⟨[nat_lit 102, nat_lit 97, nat_lit 115, nat_lit 116]⟩⟩ ⟨⟨[nat_lit 102, nat_lit 97, nat_lit 117, nat_lit 108, nat_lit 116]⟩⟩ ⟨⟨[nat_lit 102, nat_lit 105, nat_lit 103, nat_lit 117, nat_lit 114, nat_lit 101]⟩⟩ ⟨⟨[nat_lit 102, nat_lit 105, nat_lit 103, nat_lit 117, nat_lit 114, nat_lit 101, nat_lit 115]⟩⟩ ⟨⟨[nat_lit 102, nat_lit 111, nat_lit 117, nat_lit 110, nat_lit 100]⟩⟩ ⟨⟨[nat_lit 103, nat_lit 114, nat_lit 101, nat_lit 97, nat_lit 116]⟩⟩ ⟨⟨[nat_lit 104, nat_lit 97, nat_lit 108, nat_lit 102]⟩⟩ ⟨⟨[nat_lit 105, nat_lit 110, nat_lit 100, nat_lit 101, nat_lit 120]⟩⟩ ⟨⟨[nat_lit 105, nat_lit 110, nat_lit 110, nat_lit 101, nat_lit 114]⟩⟩ ⟨⟨[nat_lit 105, nat_lit 115, nat_lit 95, nat_lit 98, nat_lit 101, nat_lit 108, nat_lit 111, nat_lit 119]⟩⟩ ⟨⟨[nat_lit 105, nat_lit 115, nat_lit 95, nat_lit 100, nat_lit 111, nat_lit 110, nat_lit 101]⟩⟩ ⟨⟨[nat_lit 105, nat_lit 115, nat_lit 95, nat_lit 105, nat_lit 110, nat_lit 95, nat_lit 97]⟩⟩ ⟨⟨[nat_lit 105, nat_lit 115, nat_lit 95, nat_lit 107, nat_lit 105, nat_lit 110, nat_lit 100]⟩⟩ ⟨⟨[nat_lit 105, nat_lit 115, nat_lit 95, nat_lit 108, nat_lit 111, nat_lit 110, nat_lit 101, nat_lit 95, nat_lit 110, nat_lit 117, nat_lit 109, nat_lit 98, nat_lit 101, nat_lit 114]⟩⟩ ⟨⟨[nat_lit 105, nat_lit 115, nat_lit 95, nat_lit 110, nat_lit 97, nat_lit 109, nat_lit 101]⟩⟩ ⟨⟨[nat_lit 105, nat_lit 115, nat_lit 95, nat_lit 110, nat_lit 117, nat_lit 109, nat_lit 98, nat_lit 101, nat_lit 114]⟩⟩ ⟨⟨[nat_lit 105, nat_lit 115, nat_lit 95, nat_lit 111, nat_lit 119, nat_lit 110]⟩⟩ ⟨⟨[nat_lit 105, nat_lit 115, nat_lit 95, nat_lit 112, nat_lit 97, nat_lit 114, nat_lit 116, nat_lit 95, nat_lit 110, nat_lit 101, nat_lit 120, nat_lit 116]⟩⟩ ⟨⟨[nat_lit 105, nat_lit 115, nat_lit 95, nat_lit 114, nat_lit 101, nat_lit 115, nat_lit 101, nat_lit 114, nat_lit 118, nat_lit 101, nat_lit 100]⟩⟩ ⟨⟨[nat_lit 105, nat_lit 115, nat_lit 95, nat_lit 114, nat_lit 111, nat_lit 117, nat_lit 110, nat_lit 100, nat_lit 101, nat_lit 100]⟩⟩ ⟨⟨[nat_lit 105, nat_lit 115, nat_lit 95, nat_lit 115, nat_lit 105, nat_lit 103, nat_lit 110]⟩⟩ ⟨⟨[nat_lit 105, nat_lit 115, nat_lit 95, nat_lit 119, nat_lit 104, nat_lit 111, nat_lit 108, nat_lit 101]⟩⟩ ⟨⟨[nat_lit 105, nat_lit 115, nat_lit 95, nat_lit 119, nat_lit 111, nat_lit 114, nat_lit 100]⟩⟩ ⟨⟨[nat_lit 107]⟩⟩ ⟨⟨[nat_lit 107, nat_lit 105, nat_lit 110, nat_lit 100]⟩⟩ ⟨⟨[nat_lit 108, nat_lit 97, nat_lit 119]⟩⟩ ⟨⟨[nat_lit 108, nat_lit 97, nat_lit 119, nat_lit 95, nat_lit 112, nat_lit 99, nat_lit 48, nat_lit 49, nat_lit 51, nat_lit 51, nat_lit 95, nat_lit 48, nat_lit 49]⟩⟩ ⟨⟨[nat_lit 108, nat_lit 101, nat_lit 100, nat_lit 103, nat_lit 101, nat_lit 114, nat_lit 115, nat_lit 112, nat_lit 101, nat_lit 97, nat_lit 107, nat_lit 46, nat_lit 100, nat_lit 101, nat_lit 99, nat_lit 105, nat_lit 109, nat_lit 97, nat_lit 108, nat_lit 115]⟩⟩ ⟨⟨[nat_lit 108, nat_lit 101, nat_lit 100, nat_lit 103, nat_lit 101, nat_lit 114, nat_lit 115, nat_lit 112, nat_lit 101, nat_lit 97, nat_lit 107, nat_lit 46, nat_lit 101, nat_lit 114, nat_lit 114, nat_lit 111, nat_lit 114, nat_lit 115]⟩⟩ ⟨⟨[nat_lit 108, nat_lit 101, nat_lit 100, nat_lit 103, nat_lit 101, nat_lit 114, nat_lit 115, nat_lit 112, nat_lit 101, nat_lit 97, nat_lit 107, nat_lit 46, nat_lit 101, nat_lit 120, nat_lit 112, nat_lit 114, nat_lit 101, nat_lit 115, nat_lit 115, nat_lit 105, nat_lit 111, nat_lit 110, nat_lit 115]⟩⟩ ⟨⟨[nat_lit 108, nat_lit 101, nat_lit 100, nat_lit 103, nat_lit 101, nat_lit 114, nat_lit 115, nat_lit 112, nat_lit 101, nat_lit 97, nat_lit 107, nat_lit 46, nat_lit 114, nat_lit 101, nat_lit 97, nat_lit 100, nat_lit 101, nat_lit 114]⟩⟩ ⟨⟨[nat_lit 108, nat_lit 101, nat_lit 100, nat_lit 103, nat_lit 101, nat_lit 114, nat_lit 115, nat_lit 112, nat_lit 101, nat_lit 97, nat_lit 107, nat_lit 46, nat_lit 114, nat_lit 101, nat_lit 102, nat_lit 101, nat_lit 114, nat_lit 101, nat_lit 110, nat_lit 99, nat_lit 101, nat_lit 115]⟩⟩ ⟨⟨[nat_lit 108, nat_lit 101, nat_lit 100, nat_lit 103, nat_lit 101, nat_lit 114, nat_lit 115, nat_lit 112, nat_lit 101, nat_lit 97, nat_lit 107, nat_lit 46, nat_lit 116, nat_lit 111, nat_lit 107, nat_lit 101, nat_lit 110, nat_lit 115]⟩⟩ ⟨⟨[nat_lit 108, nat_lit 101, nat_lit 110]⟩⟩ ⟨⟨[nat_lit 108, nat_lit 101, nat_lit 110, nat_lit 103, nat_lit 116, nat_lit 104]⟩⟩ ⟨⟨[nat_lit 108, nat_lit 101, nat_lit 118, nat_lit 101, nat_lit 108]⟩⟩ ⟨⟨[nat_lit 108, nat_lit 105, nat_lit 115, nat_lit 116]⟩⟩ ⟨⟨[nat_lit 108, nat_lit 105, nat_lit 116, nat_lit 101, nat_lit 114, nat_lit 97, nat_lit 108]⟩⟩ ⟨⟨[nat_lit 109, nat_lit 97, nat_lit 110, nat_lit 121]⟩⟩ ⟨⟨[nat_lit 109, nat_lit 105, nat_lit 110]⟩⟩ ⟨⟨[nat_lit 109, nat_lit 111, nat_lit 114, nat_lit 101, nat_lit 32, nat_lit 116, nat_lit 104, nat_lit 97, nat_lit 110, nat_lit 32, nat_lit 55, nat_lit 32, nat_lit 115, nat_lit 117, nat_lit 98, nat_lit 115, nat_lit 99, nat_lit 114, nat_lit 105, nat_lit 112, nat_lit 116, nat_lit 115]⟩⟩ ⟨⟨[nat_lit 110, nat_lit 97, nat_lit 109, nat_lit 101]⟩⟩ ⟨⟨[nat_lit 110, nat_lit 97, nat_lit 109, nat_lit 101, nat_lit 100]⟩⟩ ⟨⟨[nat_lit 110, nat_lit 97, nat_lit 109, nat_lit 101, nat_lit 115]⟩⟩ ⟨⟨[nat_lit 110, nat_lit 101, nat_lit 101, nat_lit 100]⟩⟩ ⟨⟨[nat_lit 110, nat_lit 101, nat_lit 101, nat_lit 100, nat_lit 95, nat_lit 115, nat_lit 105, nat_lit 103, nat_lit 110]⟩⟩ ⟨⟨[nat_lit 110, nat_lit 101, nat_lit 103]⟩⟩ ⟨⟨[nat_lit 110, nat_lit 101, nat_lit 103, nat_lit 97, nat_lit 116, nat_lit 101, nat_lit 100]⟩⟩ ⟨⟨[nat_lit 110, nat_lit 111, nat_lit 32, nat_lit 102, nat_lit 105, nat_lit 103, nat_lit 117, nat_lit 114, nat_lit 101]⟩⟩ ⟨⟨[nat_lit 110, nat_lit 111, nat_lit 32, nat_lit 102, nat_lit 105, nat_lit 103, nat_lit 117, nat_lit 114, nat_lit 101, nat_lit 32, nat_lit 98, nat_lit 101, nat_lit 104, nat_lit 105, nat_lit 110, nat_lit 100, nat_lit 32, nat_lit 116, nat_lit 104, nat_lit 101, nat_lit 32, nat_lit 112, nat_lit 111, nat_lit 105, nat_lit 110, nat_lit 116]⟩⟩ ⟨⟨[nat_lit 110, nat_lit 117, nat_lit 109, nat_lit 98, nat_lit 101, nat_lit 114]⟩⟩ ⟨⟨[nat_lit 110, nat_lit 117, nat_lit 109, nat_lit 98, nat_lit 101, nat_lit 114, nat_lit 115]⟩⟩ ⟨⟨[nat_lit 111, nat_lit 99, nat_lit 116, nat_lit 101, nat_lit 116, nat_lit 115]⟩⟩ ⟨⟨[nat_lit 111, nat_lit 99, nat_lit 116, nat_lit 101, nat_lit 116, nat_lit 115, nat_lit 95, nat_lit 111, nat_lit 102, nat_lit 95, nat_lit 116, nat_lit 101, nat_lit 120, nat_lit 116]⟩⟩ ⟨⟨[nat_lit 111, nat_lit 110, nat_lit 101, nat_lit 95, nat_lit 111, nat_lit 102]⟩⟩ ⟨⟨[nat_lit 111, nat_lit 114, nat_lit 100]⟩⟩ ⟨⟨[nat_lit 112, nat_lit 97, nat_lit 114, nat_lit 116]⟩⟩ ⟨⟨[nat_lit 112, nat_lit 101, nat_lit 101, nat_lit 107]⟩⟩ ⟨⟨[nat_lit 112, nat_lit 101, nat_lit 110]⟩⟩ ⟨⟨[nat_lit 112, nat_lit 111, nat_lit 105, nat_lit 110, nat_lit 116]⟩⟩ ⟨⟨[nat_lit 113, nat_lit 117, nat_lit 97, nat_lit 108, nat_lit 105, nat_lit 102, nat_lit 105, nat_lit 101, nat_lit 114, nat_lit 115]⟩⟩ ⟨⟨[nat_lit 114, nat_lit 97, nat_lit 110, nat_lit 103, nat_lit 101]⟩⟩ ⟨⟨[nat_lit 114, nat_lit 101, nat_lit 97, nat_lit 100, nat_lit 95, nat_lit 97, nat_lit 108, nat_lit 108]⟩⟩ ⟨⟨[nat_lit 114, nat_lit 101, nat_lit 97, nat_lit 100, nat_lit 95, nat_lit 100, nat_lit 101, nat_lit 99, nat_lit 105, nat_lit 109, nat_lit 97, nat_lit 108]⟩⟩ ⟨⟨[nat_lit 114, nat_lit 101, nat_lit 97, nat_lit 100, nat_lit 95, nat_lit 101, nat_lit 120, nat_lit 112, nat_lit 114]⟩⟩ ⟨⟨[nat_lit 114, nat_lit 101, nat_lit 97, nat_lit 100, nat_lit 95, nat_lit 101, nat_lit 120, nat_lit 112, nat_lit 114, nat_lit 101, nat_lit 115, nat_lit 115, nat_lit 105, nat_lit 111, nat_lit 110]⟩⟩ ⟨⟨[nat_lit 114, nat_lit 101, nat_lit 97, nat_lit 100, nat_lit 95, nat_lit 102, nat_lit 97, nat_lit 99, nat_lit 116, nat_lit 111, nat_lit 114]⟩⟩ ⟨⟨[nat_lit 114, nat_lit 101, nat_lit 97, nat_lit 100, nat_lit 95, nat_lit 102, nat_lit 105, nat_lit 103, nat_lit 117, nat_lit 114, nat_lit 101]⟩⟩ ⟨⟨[nat_lit 114, nat_lit 101, nat_lit 97, nat_lit 100, nat_lit 95, nat_lit 111, nat_lit 112, nat_lit 101, nat_lit 114, nat_lit 97, nat_lit 110, nat_lit 100]⟩⟩ ⟨⟨[nat_lit 114, nat_lit 101, nat_lit 97, nat_lit 100, nat_lit 95, nat_lit 112, nat_lit 97, nat_lit 114, nat_lit 116]⟩⟩ ⟨⟨[nat_lit 114, nat_lit 101, nat_lit 97, nat_lit 100, nat_lit 95, nat_lit 112, nat_lit 111, nat_lit 119, nat_lit 101, nat_lit 114]⟩⟩ ⟨⟨[nat_lit 114, nat_lit 101, nat_lit 97, nat_lit 100, nat_lit 95, nat_lit 112, nat_lit 114, nat_lit 105, nat_lit 109, nat_lit 97, nat_lit 114, nat_lit 121]⟩⟩ ⟨⟨[nat_lit 114, nat_lit 101, nat_lit 97, nat_lit 100, nat_lit 95, nat_lit 112, nat_lit 114, nat_lit 111, nat_lit 100, nat_lit 117, nat_lit 99, nat_lit 116]⟩⟩ ⟨⟨[nat_lit 114, nat_lit 101, nat_lit 97, nat_lit 100, nat_lit 95, nat_lit 114, nat_lit 101, nat_lit 102]⟩⟩ ⟨⟨[nat_lit 114, nat_lit 101, nat_lit 97, nat_lit 100, nat_lit 95, nat_lit 115, nat_lit 117, nat_lit 98, nat_lit 115, nat_lit 99, nat_lit 114, nat_lit 105, nat_lit 112, nat_lit 116, nat_lit 115]⟩⟩ ⟨⟨[nat_lit 114, nat_lit 101, nat_lit 97, nat_lit 100, nat_lit 95, nat_lit 115, nat_lit 117, nat_lit 109]⟩⟩ ⟨⟨[nat_lit 114, nat_lit 101, nat_lit 97, nat_lit 100, nat_lit 101, nat_lit 114]⟩⟩ ⟨⟨[nat_lit 114, nat_lit 101, nat_lit 102]⟩⟩ ⟨⟨[nat_lit 114, nat_lit 105, nat_lit 103, nat_lit 104, nat_lit 116]⟩⟩ ⟨⟨[nat_lit 115, nat_lit 99, nat_lit 97, nat_lit 108, nat_lit 101]⟩⟩ ⟨⟨[nat_lit 115, nat_lit 99, nat_lit 114, nat_lit 105, nat_lit 112, nat_lit 116]⟩⟩ ⟨⟨[nat_lit 115, nat_lit 101, nat_lit 108, nat_lit 102]⟩⟩ ⟨⟨[nat_lit 115, nat_lit 105, nat_lit 103, nat_lit 110]⟩⟩ ⟨⟨[nat_lit 115, nat_lit 105, nat_lit 103, nat_lit 110, nat_lit 95, nat_lit 97, nat_lit 109, nat_lit 111, nat_lit 110, nat_lit 103]⟩⟩ ⟨⟨[nat_lit 115, nat_lit 105, nat_lit 103, nat_lit 110, nat_lit 101, nat_lit 100]⟩⟩ ⟨⟨[nat_lit 115, nat_lit 105, nat_lit 103, nat_lit 110, nat_lit 115]⟩⟩ ⟨⟨[nat_lit 115, nat_lit 105, nat_lit 122, nat_lit 101]⟩⟩ ⟨⟨[nat_lit 115, nat_lit 107, nat_lit 105, nat_lit 112]⟩⟩ ⟨⟨[nat_lit 115, nat_lit 107, nat_lit 105, nat_lit 112, nat_lit 95, nat_lit 115, nat_lit 105, nat_lit 103, nat_lit 110]⟩⟩ ⟨⟨[nat_lit 115, nat_lit 111, nat_lit 109, nat_lit 101]⟩⟩ ⟨⟨[nat_lit 115, nat_lit 112, nat_lit 108, nat_lit 105, nat_lit 116]⟩⟩ ⟨⟨[nat_lit 115, nat_lit 112, nat_lit 111, nat_lit 116]⟩⟩ ⟨⟨[nat_lit 115, nat_lit 116, nat_lit 97, nat_lit 116, nat_lit 101]⟩⟩ ⟨⟨[nat_lit 115, nat_lit 117, nat_lit 98, nat_lit 115, nat_lit 99, nat_lit 114, nat_lit 105, nat_lit 112, nat_lit 116, nat_lit 115]⟩⟩ ⟨⟨[nat_lit 115, nat_lit 117, nat_lit 109]⟩⟩ ⟨⟨[nat_lit 116, nat_lit 97, nat_lit 107, nat_lit 101]⟩⟩ ⟨⟨[nat_lit 116, nat_lit 101, nat_lit 120, nat_lit 116]⟩⟩ ⟨⟨[nat_lit 116, nat_lit 104, nat_lit 101, nat_lit 32, nat_lit 116, nat_lit 101, nat_lit 120, nat_lit 116, nat_lit 32, nat_lit 101, nat_lit 110, nat_lit 100, nat_lit 115, nat_lit 32, nat_lit 116, nat_lit 111, nat_lit 111, nat_lit 32, nat_lit 101, nat_lit 97, nat_lit 114, nat_lit 108, nat_lit 121]⟩⟩ ⟨⟨[nat_lit 116, nat_lit 111, nat_lit 107, nat_lit 101, nat_lit 110]⟩⟩ ⟨⟨[nat_lit 116, nat_lit 111, nat_lit 107, nat_lit 101, nat_lit 110, nat_lit 115]⟩⟩ ⟨⟨[nat_lit 116, nat_lit 111, nat_lit 108, nat_lit 100]⟩⟩ ⟨⟨[nat_lit 116, nat_lit 111, nat_lit 112]⟩⟩ ⟨⟨[nat_lit 116, nat_lit 117, nat_lit 112, nat_lit 108, nat_lit 101]⟩⟩ ⟨⟨[nat_lit 116, nat_lit 117, nat_lit 114, nat_lit 110]⟩⟩ ⟨⟨[nat_lit 117, nat_lit 110, nat_lit 105, nat_lit 116, nat_lit 115]⟩⟩ ⟨⟨[nat_lit 117, nat_lit 110, nat_lit 105, nat_lit 116, nat_lit 115, nat_lit 95, nat_lit 97, nat_lit 116]⟩⟩ ⟨⟨[nat_lit 119, nat_lit 97, nat_lit 121]⟩⟩ ⟨⟨[nat_lit 119, nat_lit 104, nat_lit 97, nat_lit 116]⟩⟩ ⟨⟨[nat_lit 119, nat_lit 104, nat_lit 111, nat_lit 108, nat_lit 101]⟩⟩ ⟨⟨[nat_lit 119, nat_lit 104, nat_lit 111, nat_lit 108, nat_lit 101, nat_lit 95, nat_lit 111, nat_lit 102]⟩⟩ ⟨⟨[nat_lit 119, nat_lit 111, nat_lit 114, nat_lit 100]⟩⟩ ⟨⟨[nat_lit 119, nat_lit 111, nat_lit 114, nat_lit 100, nat_lit 115]⟩⟩ ⟨⟨[nat_lit 119, nat_lit 111, nat_lit 114, nat_lit 116, nat_lit 104]⟩⟩ ⟨⟨[nat_lit 119, nat_lit 111, nat_lit 114, nat_lit 116, nat_lit 104, nat_lit 95, nat_lit 111, nat_lit 102]⟩⟩
theorem teP : PySem.Challenge.pw_pc0133_01 = twP := pk.2.symm.trans (congr (congr (congr (congr (congr (congr (congr (congr (congr (congr (congr (congr (congr (congr (congr (congr (congr (congr (congr (congr (congr (congr (congr (congr (congr (congr (congr (congr (congr (congr (congr (congr (congr (congr (congr (congr (congr (congr (congr (congr (congr (congr (congr (congr (congr (congr (congr (congr (congr (congr (congr (congr (congr (congr (congr (congr (congr (congr (congr (congr (congr (congr (congr (congr (congr (congr (congr (congr (congr (congr (congr (congr (congr (congr (congr (congr (congr (congr (congr (congr (congr (congr (congr (congr (congr (congr (congr (congr (congr (congr (congr (congr (congr (congr (congr (congr (congr (congr (congr (congr (congr (congr (congr (congr (congr (congr (congr (congr (congr (congr (congr (congr (congr (congr (congr (congr (congr (congr (congr (congr (congr (congr (congr (congr (congr (congr (congr (congr (congr (congr (congr (congr (congr (congr (congr (congr (congr (congr (congr (congr (congr (congr (congr (congr (congr (congr (congr (congr (congr (congr (congr (congr (congr (congr (congr (congr (congr (congr (congr (congr (congr (congr (congr (congr (congr (congr (congr (congr (congr (congr (congr (congr (congr (congr (congr (congr (congr (congr (congr (congr (congr (congr (congr (congr (congr (congr (congr (congr (congr (congr (congr (congr (congr (congr (congr (congr (congr (congr (congr (congr (congr (congr (congr (congr (congr (congrArg pk.1 PySem.W.Fast.te2447444425766382212) e0) e1) e2) e3) e4) e5) e6) e7) e8) e9) e10) e11) e12) e13) e14) e15) e16) e17) e18) e19) e20) e21) e22) e23) e24) e25) e26) e27) e28) e29) e30) e31) e32) e33) e34) e35) e36) e37) e38) e39) e40) e41) e42) e43) e44) e45) e46) e47) e48) e49) e50) e51) e52) e53) e54) e55) e56) e57) e58) e59) e60) e61) e62) e63) e64) e65) e66) e67) e68) e69) e70) e71) e72) e73) e74) e75) e76) e77) e78) e79) e80) e81) e82) e83) e84) e85) e86) e87) e88) e89) e90) e91) e92) e93) e94) e95) e96) e97) e98) e99) e100) e101) e102) e103) e104) e105) e106) e107) e108) e109) e110) e111) e112) e113) e114) e115) e116) e117) e118) e119) e120) e121) e122) e123) e124) e125) e126) e127) e128) e129) e130) e131) e132) e133) e134) e135) e136) e137) e138) e139) e140) e141) e142) e143) e144) e145) e146) e147) e148) e149) e150) e151) e152) e153) e154) e155) e156) e157) e158) e159) e160) e161) e162) e163) e164) e165) e166) e167) e168) e169) e170) e171) e172) e173) e174) e175) e176) e177) e178) e179) e180) e181) e182) e183) e184) e185) e186) e187) e188) e189) e190) e191) e192) e193) e194) e195) e196) e197) e198) e199) e200) e201) e202) e203) e204)
end Mine
end
section
open PySem PySem.W PyProof.Rows
set_option Elab.async false
namespace Mine
theorem mem_short {l : List Str} {n : Str} (h : (l.all fun a => Nat.blt a.cps.size 100) = true) (hn : Nat.ble 100 n.cps.size = true) : l.contains n = false := by
  cases q : l.contains n with
  | false => rfl
  | true =>
    have m := List.contains_iff_mem.mp q
    have z := List.all_eq_true.mp h n m
    have a := Nat.le_of_ble_eq_true hn
    have b : n.cps.size < 100 := Nat.le_of_ble_eq_true z
    omega
theorem str_long {k : Look} {x : Str} (hs : Nat.ble 100 x.cps.size = true) (ho : (!x.opensWith "__") = true) (hb : k.but = none) (hf : k.foot = none) (hr : (!roadStr x) = true) : k.str x = true := by
  unfold Look.str Look.word attrL
  rw [hr, hb, hf]
  have h1 : frameAttrs.contains x = false := mem_short (by decide +kernel) hs
  have h2 : (["__dict__", "__getstate__", "__getattribute__", "__reduce__", "__reduce_ex__"] : List Str).contains x = false := mem_short (by decide +kernel) hs
  have ho' : x.opensWith "__" = false := by simpa using ho
  rw [h1, h2, ho']
  simp
theorem road_of {x : Str} (h1 : (x.cps.toList.all fun c => !(Nat.beq c 123) && !(Nat.beq c 125)) = true) (h2 : (x.cps.toList.any fun c => Nat.ble c 32) = true) : (!roadStr x) = true := by
  unfold roadStr
  rw [← Array.any_toList, ← Array.any_toList, ← Array.any_toList]
  have a : (x.cps.toList.any fun c => c == 123 || c == 125) = false := by
    rw [List.any_eq_false]
    intro c hc
    have := List.all_eq_true.mp h1 c hc
    simp only [Bool.and_eq_true, Bool.not_eq_true'] at this
    have h3 := Nat.ne_of_beq_eq_false this.1
    have h4 := Nat.ne_of_beq_eq_false this.2
    simp [h3, h4]
  have b : (x.cps.toList.any fun c => decide (c ≤ 32)) = true := by
    rw [List.any_eq_true] at h2 ⊢
    obtain ⟨c, hc, h⟩ := h2
    exact ⟨c, hc, decide_eq_true (Nat.le_of_ble_eq_true h)⟩
  rw [a, b]; simp
theorem ss_c1 {k : Look} {s : Stmt} {l : List Stmt} : noRoadLSs k (s :: l) = (noRoadLS k s && noRoadLSs k l) := by with_unfolding_all rfl
theorem ss_c2 {k : Look} {n x : Str} {p q r : Pos} {u : Nat} : noRoadLS k (.Assign [.Name n p] (.Constant (.str x) u q) r) = (k.stores [.Name n p] && (k.name n && true) && k.str x) := by with_unfolding_all rfl
theorem ss_split {k : Look} {a b : List Stmt} (h1 : noRoadLSs k a = true) (h2 : noRoadLSs k b = true) : noRoadLSs k (a ++ b) = true := by
  induction a with
  | nil => exact h2
  | cons s r ih =>
    rw [List.cons_append, ss_c1]
    rw [ss_c1] at h1
    obtain ⟨x, y⟩ := Bool.and_eq_true_iff.mp h1
    rw [x, ih y]; rfl
theorem ss_at {k : Look} {l : List Stmt} (n : Nat) (h1 : noRoadLSs k (l.take n) = true) (h2 : noRoadLSs k (l.drop n) = true) : noRoadLSs k l = true := by
  rw [← List.take_append_drop n l]; exact ss_split h1 h2
theorem ss_cons {k : Look} {s : Stmt} {l : List Stmt} (h1 : noRoadLS k s = true) (h2 : noRoadLSs k l = true) : noRoadLSs k (s :: l) = true := by
  rw [ss_c1, h1, h2]; rfl
theorem assign_str {k : Look} {n x : Str} {p q r : Pos} {u : Nat} (hf : k.foot = none) (hn : k.name n = true) (hx : k.out.str x = true) :
    noRoadLS k (.Assign [.Name n p] (.Constant (.str x) u q) r) = true := by
  have hs : k.stores [.Name n p] = true := by unfold Look.stores; rw [hf]; rfl
  have hx' : k.str x = true := by
    have : k.out.str x = k.str x := rfl
    rw [← this]; exact hx
  rw [ss_c2, hs, hn, hx']; rfl
theorem ss_mid {k : Look} {l : List Stmt} {n x : Str} {p q r : Pos} {u : Nat} (i : Nat) (he : l.drop i = .Assign [.Name n p] (.Constant (.str x) u q) r :: l.drop (i + 1))
    (h1 : noRoadLSs k (l.take i) = true) (h3 : noRoadLSs k (l.drop (i + 1)) = true) (hf : k.foot = none) (hb : k.but = none) (hn : k.name n = true)
    (hs : Nat.ble 100 x.cps.size = true) (ho : (!x.opensWith "__") = true) (hr1 : (x.cps.toList.all fun c => !(Nat.beq c 123) && !(Nat.beq c 125)) = true) (hr2 : (x.cps.toList.any fun c => Nat.ble c 32) = true) : noRoadLSs k l = true :=
  ss_at i h1 (by rw [he]; exact ss_cons (assign_str hf hn (str_long hs ho hb hf (road_of hr1 hr2))) h3)
noncomputable def said.tw5566807235108098448 : Program := twP
theorem said.te5566807235108098448 : PySem.Challenge.pw_pc0133_01 = said.tw5566807235108098448 := teP
set_option Elab.async true in
set_option maxRecDepth 100000 in
set_option maxHeartbeats 0 in
theorem said : OpenLaw.wellSaid PySem.Challenge.rw_pc0133_01 = true := by
  unfold OpenLaw.wellSaid OpenRow.wellSaid OpenRow.partSaid looksOpen
  repeat' (with_reducible refine look_both ?_ ?_)
  all_goals first
    | ((with_reducible show noRoadLSs { strict := _, foot := none, bare := _ } _ = true); refine ss_mid 37 (by with_unfolding_all rfl) ?_ ?_ (by rfl) (by rfl) ?_ ?_ ?_ ?_ ?_ <;> k_qdec)
    | k_qdec
end Mine
end
section
open PySem PySem.W PyProof.Rows
set_option Elab.async false
namespace Mine
set_option maxRecDepth 100000
set_option maxHeartbeats 0
noncomputable def resO : Str := strAt PySem.Challenge.pw_pc0133_01
noncomputable def resF : Str := strAt twP
theorem res_eq : resO = resF := congrArg strAt teP
end Mine
end
section
open PySem PySem.W PyProof.Rows
set_option Elab.async false
namespace Mine
set_option maxRecDepth 100000
set_option maxHeartbeats 0
section
local macro_rules | `(tactic| o_head $H) => `(tactic| (trace "$H"; assumption))
theorem frag (h : PySem.Challenge.rw_pc0133_01.row.Holds) : PySem.Challenge.rw_pc0133_01.row.Holds := by
  w_on; k_head
end
theorem dle1 {a b c : Nat} (h : a ≤ b) (hc : Nat.ble (b + 1) c = true) : a + 1 ≤ c := Nat.le_trans (Nat.add_le_add_right h 1) (Nat.le_of_ble_eq_true hc)
end Mine
end
section
open PySem PySem.W PyProof.Rows
set_option Elab.async false
namespace Mine
/-- a word of the menu -/
inductive Wd where
  | n5 | n25 | lp | rp | pl | mi | st | sl | pw | th
def Wd.txt : Wd → Str
  | .n5 => Str.ofString "5"
  | .n25 => Str.ofString "0.25"
  | .lp => Str.ofString "("
  | .rp => Str.ofString ")"
  | .pl => Str.ofString "+"
  | .mi => Str.ofString "-"
  | .st => Str.ofString "*"
  | .sl => Str.ofString "/"
  | .pw => Str.ofString "**"
  | .th => Str.ofString "THEN"
def Wd.kd : Wd → Str
  | .n5 => Str.ofString "number"
  | .n25 => Str.ofString "number"
  | .th => Str.ofString "word"
  | _ => Str.ofString "sign"
/-- the grammar's levels; L: behind the first operand, with what was read -/
inductive Lv where
  | sum | prod | fac | pow | prim
  | sumL (t : Dat) | prodL (t : Dat) | powL (t : Dat)
def num (a b : Int) : Dat := .tuple [.str (Str.ofString "number"), .tuple [.int a, .int b]]
def bin (s : Str) (a b : Dat) : Dat := .tuple [.str s, a, b]
def neg (a : Dat) : Dat := .tuple [.str (Str.ofString "neg"), a]
def Wd.num? : Option Wd → Option Dat
  | some .n5 => some (num 5 0)
  | some .n25 => some (num 25 2)
  | _ => none
def Wd.nnum : Option Wd → Dat
  | some .n5 => num (-5) 0
  | _ => num (-25) 2
def isPw : Option Wd → Bool
  | some .pw => true
  | _ => false
def own (ws : List Wd) (p : Nat) : Bool := (Wd.num? ws[p]?).isSome && !isPw ws[p + 1]?
abbrev Res := Option Dat × Nat
/-- the reading: a result (none: refused) and the place -/
def run (ws : List Wd) : Nat → Lv → Nat → Nat → Option Res
  | 0, _, _, _ => none
  | n + 1, .sum, d, p => if 20 < d then some (none, p) else match run ws n .prod d p with
    | some (some t, q) => run ws n (.sumL t) d q
    | r => r
  | n + 1, .prod, d, p => match run ws n .fac d p with
    | some (some t, q) => run ws n (.prodL t) d q
    | r => r
  | n + 1, .pow, d, p => match run ws n .prim d p with
    | some (some t, q) => run ws n (.powL t) d q
    | r => r
  | n + 1, .sumL t, d, p => match ws[p]? with
    | some .pl => match run ws n .prod d (p + 1) with
      | some (some u, q) => run ws n (.sumL (bin (Str.ofString "+") t u)) d q
      | r => r
    | some .mi => match run ws n .prod d (p + 1) with
      | some (some u, q) => run ws n (.sumL (bin (Str.ofString "-") t u)) d q
      | r => r
    | _ => some (some t, p)
  | n + 1, .prodL t, d, p => match ws[p]? with
    | some .st => match run ws n .fac d (p + 1) with
      | some (some u, q) => run ws n (.prodL (bin (Str.ofString "*") t u)) d q
      | r => r
    | some .sl => match run ws n .fac d (p + 1) with
      | some (some u, q) => run ws n (.prodL (bin (Str.ofString "/") t u)) d q
      | r => r
    | _ => some (some t, p)
  | n + 1, .powL t, d, p => match ws[p]? with
    | some .pw => match run ws n .prim d (p + 1) with
      | some (some u, q) => run ws n (.powL (bin (Str.ofString "**") t u)) d q
      | r => r
    | _ => some (some t, p)
  | n + 1, .fac, d, p => match ws[p]? with
    | some .pl => run ws n .pow d (p + 1)
    | some .mi => match run ws n .pow d (p + 1) with
      | some (some t, q) => some (some (if own ws (p + 1) then Wd.nnum ws[p + 1]? else neg t), q)
      | r => r
    | _ => run ws n .pow d p
  | n + 1, .prim, d, p => match ws[p]? with
    | some .n5 => some (some (num 5 0), p + 1)
    | some .n25 => some (some (num 25 2), p + 1)
    | some .lp => match run ws n .sum (d + 1) (p + 1) with
      | some (some t, q) => match ws[q]? with
        | some .rp => some (some t, q + 1)
        | _ => some (none, q)
      | r => r
    | _ => some (none, p)
def Lv.rank : Lv → Nat
  | .sum => 5
  | .prod => 4
  | .fac => 3
  | .pow => 2
  | .prim => 1
  | .sumL _ => 1
  | .prodL _ => 1
  | .powL _ => 1
def Lv.first : Lv → Bool
  | .sumL _ => false
  | .prodL _ => false
  | .powL _ => false
  | _ => true
theorem lt_of_get {ws : List Wd} {p : Nat} {w : Wd} (h : ws[p]? = some w) : p < ws.length := (List.getElem?_eq_some_iff.mp h).1
/-- the reading ends -/
theorem run_ends (ws : List Wd) : ∀ n lv d p, p ≤ ws.length → 8 * (ws.length - p) + lv.rank ≤ n → ∃ r q, run ws n lv d p = some (r, q) ∧ p ≤ q ∧ q ≤ ws.length ∧ (lv.first = true → r.isSome = true → p < q) := by
  intro n
  induction n with
  | zero => intro lv d p _ h; cases lv <;> simp [Lv.rank] at h
  | succ n ih =>
    intro lv d p hp h
    have bind (lv' : Lv) (d' p' : Nat) (k : Dat → Lv) (hp' : p' ≤ ws.length) (hpp : p ≤ p') (h' : 8 * (ws.length - p') + lv'.rank ≤ n) (hk : ∀ t, (k t).rank = 1) (hf : lv'.first = true) :
        ∃ r q, (match run ws n lv' d' p' with
          | some (some t, q) => run ws n (k t) d' q
          | r => r) = some (r, q) ∧ p ≤ q ∧ q ≤ ws.length ∧ (r.isSome = true → p < q) := by
      obtain ⟨r, q, e, h1, h2, h3⟩ := ih lv' d' p' hp' h'
      rw [e]
      cases r with
      | none => exact ⟨none, q, rfl, by omega, h2, by simp⟩
      | some t =>
        have := h3 hf rfl
        have hr : lv'.rank ≥ 1 := by cases lv' <;> simp [Lv.rank]
        obtain ⟨r', q', e', h1', h2', _⟩ := ih (k t) d' q h2 (by rw [hk]; omega)
        exact ⟨r', q', e', by omega, h2', fun _ => by omega⟩
    cases lv with
    | sum =>
      simp only [run]
      split
      · exact ⟨none, p, rfl, Nat.le_refl _, hp, by simp⟩
      · obtain ⟨r, q, e, a, b, c⟩ := bind .prod d p .sumL hp (Nat.le_refl _) (by simp only [Lv.rank] at h ⊢; omega) (fun _ => rfl) rfl
        exact ⟨r, q, e, a, b, fun _ => c⟩
    | prod =>
      simp only [run]
      obtain ⟨r, q, e, a, b, c⟩ := bind .fac d p .prodL hp (Nat.le_refl _) (by simp only [Lv.rank] at h ⊢; omega) (fun _ => rfl) rfl
      exact ⟨r, q, e, a, b, fun _ => c⟩
    | pow =>
      simp only [run]
      obtain ⟨r, q, e, a, b, c⟩ := bind .prim d p .powL hp (Nat.le_refl _) (by simp only [Lv.rank] at h ⊢; omega) (fun _ => rfl) rfl
      exact ⟨r, q, e, a, b, fun _ => c⟩
    | sumL t =>
      simp only [run]
      split
      · rename_i hw
        have := lt_of_get hw
        obtain ⟨r, q, e, a, b, c⟩ := bind .prod d (p + 1) (fun u => .sumL (bin (Str.ofString "+") t u)) (by omega) (by omega) (by simp only [Lv.rank] at h ⊢; omega) (fun _ => rfl) rfl
        exact ⟨r, q, e, a, b, fun h => by simp [Lv.first] at h⟩
      · rename_i hw
        have := lt_of_get hw
        obtain ⟨r, q, e, a, b, c⟩ := bind .prod d (p + 1) (fun u => .sumL (bin (Str.ofString "-") t u)) (by omega) (by omega) (by simp only [Lv.rank] at h ⊢; omega) (fun _ => rfl) rfl
        exact ⟨r, q, e, a, b, fun h => by simp [Lv.first] at h⟩
      · exact ⟨some t, p, rfl, Nat.le_refl _, hp, fun h => by simp [Lv.first] at h⟩
    | prodL t =>
      simp only [run]
      split
      · rename_i hw
        have := lt_of_get hw
        obtain ⟨r, q, e, a, b, c⟩ := bind .fac d (p + 1) (fun u => .prodL (bin (Str.ofString "*") t u)) (by omega) (by omega) (by simp only [Lv.rank] at h ⊢; omega) (fun _ => rfl) rfl
        exact ⟨r, q, e, a, b, fun h => by simp [Lv.first] at h⟩
      · rename_i hw
        have := lt_of_get hw
        obtain ⟨r, q, e, a, b, c⟩ := bind .fac d (p + 1) (fun u => .prodL (bin (Str.ofString "/") t u)) (by omega) (by omega) (by simp only [Lv.rank] at h ⊢; omega) (fun _ => rfl) rfl
        exact ⟨r, q, e, a, b, fun h => by simp [Lv.first] at h⟩
      · exact ⟨some t, p, rfl, Nat.le_refl _, hp, fun h => by simp [Lv.first] at h⟩
    | powL t =>
      simp only [run]
      split
      · rename_i hw
        have := lt_of_get hw
        obtain ⟨r, q, e, a, b, c⟩ := bind .prim d (p + 1) (fun u => .powL (bin (Str.ofString "**") t u)) (by omega) (by omega) (by simp only [Lv.rank] at h ⊢; omega) (fun _ => rfl) rfl
        exact ⟨r, q, e, a, b, fun h => by simp [Lv.first] at h⟩
      · exact ⟨some t, p, rfl, Nat.le_refl _, hp, fun h => by simp [Lv.first] at h⟩
    | fac =>
      simp only [run]
      split
      · rename_i hw
        have := lt_of_get hw
        obtain ⟨r, q, e, a, b, c⟩ := ih .pow d (p + 1) (by omega) (by simp only [Lv.rank] at h ⊢; omega)
        exact ⟨r, q, e, by omega, b, fun _ hr => by have := c rfl hr; omega⟩
      · rename_i hw
        have := lt_of_get hw
        obtain ⟨r, q, e, a, b, c⟩ := ih .pow d (p + 1) (by omega) (by simp only [Lv.rank] at h ⊢; omega)
        rw [e]
        cases r with
        | none => exact ⟨none, q, rfl, by omega, b, by simp⟩
        | some t => exact ⟨_, q, rfl, by omega, b, fun _ _ => by omega⟩
      · obtain ⟨r, q, e, a, b, c⟩ := ih .pow d p hp (by simp only [Lv.rank] at h ⊢; omega)
        exact ⟨r, q, e, a, b, fun _ hr => c rfl hr⟩
    | prim =>
      simp only [run]
      split
      · rename_i hw
        have := lt_of_get hw
        exact ⟨_, _, rfl, by omega, by omega, fun _ _ => by omega⟩
      · rename_i hw
        have := lt_of_get hw
        exact ⟨_, _, rfl, by omega, by omega, fun _ _ => by omega⟩
      · rename_i hw
        have := lt_of_get hw
        obtain ⟨r, q, e, a, b, c⟩ := ih .sum (d + 1) (p + 1) (by omega) (by simp only [Lv.rank] at h ⊢; omega)
        rw [e]
        cases r with
        | none => exact ⟨none, q, rfl, by omega, b, by simp⟩
        | some t =>
          simp only
          split
          · rename_i hw'
            have := lt_of_get hw'
            exact ⟨_, _, rfl, by omega, by omega, fun _ _ => by omega⟩
          · exact ⟨_, _, rfl, by omega, b, by simp⟩
      · exact ⟨_, _, rfl, by omega, hp, by simp⟩
end Mine
end
section
open PySem PySem.W PyProof.Rows PySem.Spec PySem.Calls
set_option Elab.async false
namespace Mine
set_option maxRecDepth 100000
set_option maxHeartbeats 0
section
variable {prog : Program} {w : World} {A : Around} {E Q : Value → Shared → Prop} {s : Shared} {h₀ : Heap} {L l : Addr} {m : Str → Option Value} {news : List (Addr × Obj)} {vs : List Value} {n k : Nat} {u : Tok} {value slice : PySem.Expr}
theorem cut_to (F : Fr h₀ L s.heap m) (N : News h₀ L s.heap news) (hm : (l, listOf vs.toArray n) ∈ news) (hv : vs.length ≤ 70)
    (h : ∀ D h', (∀ p ∈ news, p.1 ≠ D) → Fr h₀ L h' m → News h₀ L h' ((D, listOf (vs.take k).toArray 0) :: news) → Q (.ref D) { s with heap := h' })
    (hs : subscripted slice false (.ref l) (.ref s.heap.objs.size) = operate [.ref s.heap.objs.size, .ref l] (getItem (.ref l) (.ref s.heap.objs.size)) := by with_unfolding_all rfl)
    (ht : ∀ r, letTemporaryGo value (.ref l) r = pure () := by intro _; with_unfolding_all rfl) :
    wpAny (model prog w) A (subscriptTail value slice (.ref l) (.ref s.heap.objs.size)) Q E { s with heap := s.heap.push { cls := .type "slice", data := .fields #[.none, .int (k : Int) u, .none] } } := by
  refine slice_list F N (News.isList N hm) .none (.int (k : Int) u) (fun h' F' N' => ?_) hs ht (by rw [List.size_toArray]; exact Nat.le_trans hv (by decide))
  rw [slicePick_upto' vs.toArray k] at N'
  exact h _ h' (fun p hp => Nat.ne_of_lt (Nat.lt_succ_of_lt (Heap.lt_size (N p hp).1))) F' N'
theorem cut_from (F : Fr h₀ L s.heap m) (N : News h₀ L s.heap news) (hm : (l, listOf vs.toArray n) ∈ news) (hv : vs.length ≤ 70)
    (h : ∀ D h', (∀ p ∈ news, p.1 ≠ D) → Fr h₀ L h' m → News h₀ L h' ((D, listOf (vs.drop k).toArray 0) :: news) → Q (.ref D) { s with heap := h' })
    (hs : subscripted slice false (.ref l) (.ref s.heap.objs.size) = operate [.ref s.heap.objs.size, .ref l] (getItem (.ref l) (.ref s.heap.objs.size)) := by with_unfolding_all rfl)
    (ht : ∀ r, letTemporaryGo value (.ref l) r = pure () := by intro _; with_unfolding_all rfl) :
    wpAny (model prog w) A (subscriptTail value slice (.ref l) (.ref s.heap.objs.size)) Q E { s with heap := s.heap.push { cls := .type "slice", data := .fields #[.int (k : Int) u, .none, .none] } } := by
  refine slice_list F N (News.isList N hm) (.int (k : Int) u) .none (fun h' F' N' => ?_) hs ht (by rw [List.size_toArray]; exact Nat.le_trans hv (by decide))
  rw [slicePick_from' vs.toArray k] at N'
  exact h _ h' (fun p hp => Nat.ne_of_lt (Nat.lt_succ_of_lt (Heap.lt_size (N p hp).1))) F' N'
theorem glue {b : Addr} {us : List Value} {n' : Nat} (F : Fr h₀ L s.heap m) (N : News h₀ L s.heap news) (ha : (l, listOf vs.toArray n) ∈ news) (hb : (b, listOf us.toArray n') ∈ news) (hv : vs.length ≤ 70) (hu : us.length ≤ 70)
    (h : ∀ D h', (∀ p ∈ news, p.1 < D) → Fr h₀ L h' m → News h₀ L h' ((D, listOf (vs ++ us).toArray 0) :: news) → Q (.ref D) { s with heap := h' }) :
    wpAny (model prog w) A (binaryOp .Add (.ref l) (.ref b)) Q E s :=
  add_lists F N (News.isList N ha) (News.isList N hb) (fun h' F' N' => h _ h' (fun p hp => Heap.lt_size (N p hp).1) F' N') (Nat.le_trans (show vs.length + us.length ≤ 140 by omega) (by decide))
end
theorem newsPR {h₀ h' : Heap} {L : Addr} {x y : Addr × Obj} {l l' : List (Addr × Obj)} (N : News h₀ L h' l) (hx : x ∈ l) (hy : y ∈ l) (hs : ∀ p ∈ l', p ∈ l) : News h₀ L h' (x :: y :: l') := List.forall_mem_cons.mpr ⟨N _ hx, List.forall_mem_cons.mpr ⟨N _ hy, fun p hp => N p (hs p hp)⟩⟩
theorem swap3 {h₀ h' : Heap} {L : Addr} {a b c : Addr × Obj} {l : List (Addr × Obj)} (N : News h₀ L h' (a :: b :: c :: l)) : News h₀ L h' (c :: a :: l) := fun p hp => N p (by
  cases hp with
  | head => exact .tail _ (.tail _ (.head _))
  | tail _ h => cases h with
    | head => exact .head _
    | tail _ h => exact .tail _ (.tail _ (.tail _ h)))
theorem apC {pen D : Addr} {o : Obj} {big news : List (Addr × Obj)} {op : Obj} (ap : ∀ p ∈ news, p.1 ≠ pen) (h : ∀ p ∈ big, p.1 ≠ D) (hp : (pen, op) ∈ big) : ∀ p ∈ (D, o) :: news, p.1 ≠ pen := fun p hq => by
  cases hq with
  | head => exact fun e => h _ hp e.symm
  | tail _ hq => exact ap p hq
end Mine
end
open PySem PySem.W PyProof.Rows PySem.Spec PySem.Calls
local macro_rules | `(tactic| k_enter) => `(tactic| first
  | (refine' code_def ?k1 ?k2 ?k3 ?k4 ?k5 ?kA ?kF ?kK ?k6 ?k7 ?k8 ?k9 ?kB ?_ ?c2 ?c3 ?c4 ?c5; (case kA => exact rfl); (case kF => exact rfl); (case kK => first | exact rfl | assumption); (case k1 => k_asm); (case k2 => k_asm); (case k3 => k_asm); (case k4 => k_asm); (case k5 => k_asm); (case k6 => k_is); (case k7 => k_is); (case k8 => first | k_extra "room" | k_room | ktr_room); (case k9 => first | exact BindsTo.of_eq (binds := []) rfl | exact BindsTo.of_eq (binds := [(_, _)]) rfl | exact BindsTo.of_eq (binds := [(_, _), (_, _)]) rfl | exact BindsTo.of_eq (binds := [(_, _), (_, _), (_, _)]) rfl | exact BindsTo.of_eq (binds := [(_, _), (_, _), (_, _), (_, _)]) rfl | exact BindsTo.of_eq (binds := [(_, _), (_, _), (_, _), (_, _), (_, _)]) rfl | exact binds_K (binds := [(_, _)]) (by k_in) rfl (by k_is) rfl rfl rfl | exact binds_K (binds := [(_, _), (_, _)]) (by k_in) rfl (by k_is) rfl rfl rfl | exact binds_K (binds := [(_, _), (_, _), (_, _)]) (by k_in) rfl (by k_is) rfl rfl rfl | exact binds_K (binds := [(_, _), (_, _), (_, _), (_, _)]) (by k_in) rfl (by k_is) rfl rfl rfl | exact binds_K (binds := [(_, _), (_, _), (_, _), (_, _), (_, _)]) (by k_in) rfl (by k_is) rfl rfl rfl | fail "k_enter: no rule for these arguments"); (case c5 => decide); (case kB => exact locs rfl); (case c2 => exact rfl); (case c3 => exact rfl); (case c4 => exact rfl); k_whole; intro g' L' h' FG' F' N' B' X' T'; (try dsimp only); (try k_extra "fold"))
  | (refine' code_defC ?k1 ?k2 ?k3 ?k4 ?k5 ?kA ?kF ?kK ?k6 ?k7 ?k8 ?k9 ?kB ?kD ?_ ?c2 ?c3 ?c4; (case kA => exact rfl); (case kF => exact rfl); (case kK => first | exact rfl | assumption); (case k1 => k_asm); (case k2 => k_asm); (case k3 => k_asm); (case k4 => k_asm); (case k5 => k_asm); (case k6 => k_is); (case k7 => k_is); (case k8 => first | k_extra "room" | k_room | ktr_room); (case k9 => first | exact BindsTo.of_eq (binds := []) rfl | exact BindsTo.of_eq (binds := [(_, _)]) rfl | exact BindsTo.of_eq (binds := [(_, _), (_, _)]) rfl | exact BindsTo.of_eq (binds := [(_, _), (_, _), (_, _)]) rfl | exact BindsTo.of_eq (binds := [(_, _), (_, _), (_, _), (_, _)]) rfl | exact BindsTo.of_eq (binds := [(_, _), (_, _), (_, _), (_, _), (_, _)]) rfl | exact binds_K (binds := [(_, _)]) (by k_in) rfl (by k_is) rfl rfl rfl | exact binds_K (binds := [(_, _), (_, _)]) (by k_in) rfl (by k_is) rfl rfl rfl | exact binds_K (binds := [(_, _), (_, _), (_, _)]) (by k_in) rfl (by k_is) rfl rfl rfl | exact binds_K (binds := [(_, _), (_, _), (_, _), (_, _)]) (by k_in) rfl (by k_is) rfl rfl rfl | exact binds_K (binds := [(_, _), (_, _), (_, _), (_, _), (_, _)]) (by k_in) rfl (by k_is) rfl rfl rfl | fail "k_enter: no rule for these arguments"); (case kB => exact rfl); (case kD => decide +kernel); (case c2 => exact rfl); (case c3 => exact rfl); (case c4 => exact rfl); k_whole; intro g' L' h' tk' cells' FG' F' N' Y' B' X' T' l1; (try k_lt l1); k_cells Y'; (try simp only [List.cons_append, List.nil_append] at N'); (try dsimp only); (try k_extra "fold")))
local macro_rules | `(tactic| walk_at "call builtin:len") => `(tactic| (k_here; (with_reducible show wpAny _ _ (call (Value.builtin "len") [Value.ref _]) _ _ _); (with_unfolding_all refine' len_list ?k1 ?k2 ?_; (case k1 => exact News.isList (by k_asm) (by k_mem)); (case k2 => (simp only [List.size_toArray]; omega)); k_whole); (try simp only [List.size_toArray])))
local macro_rules | `(tactic| walk_at "subscriptTail") => `(tactic| (k_here; (with_reducible show wpAny _ _ (subscriptTail _ _ (Value.ref _) (Value.int _ _)) _ _ _); (refine' item_list ?k1 ?k2 ?k3 ?k4 ?_; (case k1 => exact News.isList (by k_asm) (by k_mem)); (case k2 => first | omega | assumption); (case k3 => first | omega | assumption); (case k4 => first | exact rfl | assumption | (simp only [List.getElem?_toArray]; assumption)); k_whole)))
local macro_rules | `(tactic| walk_at "compareOp NotIn str ref") => `(tactic| (k_here; (with_reducible show wpAny _ _ (compareOp CmpOp.NotIn (Value.str _ _) (Value.ref _)) _ _ _); (refine' notin_tuple_strs ?k1 ?k2 ?_; (case k1 => exact News.isTup (by k_asm) (by k_mem)); (case k2 => assumption); k_whole)))
local macro_rules | `(tactic| walk_at $s:str) => `(tactic| k_extra $s)
local macro_rules | `(tactic| ktr_rel) => `(tactic| k_extra "rel")
local macro_rules | `(tactic| k_upd) => `(tactic| k_extra "upd")
local macro_rules | `(tactic| k_updF) => `(tactic| k_extra "updF")
local macro_rules | `(tactic| k_mem) => `(tactic| k_extra "mem")
local macro_rules | `(tactic| k_ne) => `(tactic| k_extra "ne")
section
open PySem PySem.W PyProof.Rows PySem.Spec PySem.Calls
set_option Elab.async false
namespace Mine
theorem lb0 {x j e c : Nat} (h : x ≤ e) (q : Nat.ble (e + j) c = true) : x + j ≤ c := Nat.le_trans (Nat.add_le_add_right h j) (Nat.le_of_ble_eq_true q)
theorem lb1 {x j a b d e e' : Nat} (h : x ≤ a + b * d + e) (q : Nat.ble (e + j) e' = true) : x + j ≤ a + b * d + e' := by
  have := Nat.le_of_ble_eq_true q
  omega
theorem lb2 {x j a b d e D c : Nat} (h : x ≤ a + b * d + e) (hd : d ≤ D) (q : Nat.ble (a + b * D + e + j) c = true) : x + j ≤ c := by
  have := Nat.le_of_ble_eq_true q
  have := Nat.mul_le_mul_left b hd
  omega
theorem lb4 {x j a b d e e' : Nat} (h : x ≤ a + b * d + e) (q : Nat.ble (e + j) (b + e') = true) : x + j ≤ a + b * (d + 1) + e' := by
  have := Nat.le_of_ble_eq_true q
  rw [Nat.mul_succ]
  omega
theorem folds {α : Type} {M : Model} {A : Around} {t : Sem α} {Q : α → Shared → Prop} {E : Value → Shared → Prop} {s : Shared} (h : let qk := Q; let ek := E; wpAny M A t qk ek s) : wpAny M A t Q E s := h
section
variable {M : Model} {A : Around} {E : Value → Shared → Prop} {env : Env}
structure At (M : Model) (A : Around) (E : Value → Shared → Prop) (env : Env) (e : Expr) (s : Shared) (v : Value) (s' : Shared) : Prop where
  star : ∀ rest, starEach (e :: rest) env = (false, eval e env) :: starEach rest env
  use : ∀ {Q : Value → Shared → Prop}, Q v s' → wpAny M A (eval e env) Q E s
structure Spl (M : Model) (A : Around) (E : Value → Shared → Prop) (env : Env) (es : List Expr) (s : Shared) (vs : List Value) (s' : Shared) : Prop where
  star : ∀ pos, (backTo pos (starEach es env)).any (·.1) = false
  use : ∀ {pos : Pos} {Q : List Value → Shared → Prop}, Q vs s' → wpAny M A (spliced (backTo pos (starEach es env))) Q E s
theorem at_L {h₀ : Heap} {L a : Addr} {cn : Str} {cs : Scope} {ccd : Value} {cl : List (Str × Addr)} {x : Str} (hk : cs.kind = .function) (hx : (envX cn cs L a ccd cl).kindOf x = some .local) (hd : (x == ("__debug__" : Str)) = false) {pos : Pos} {m : Str → Option Value} {v : Value} {s : Shared} (F : Fr h₀ L s.heap m) (hv : m x = some v) : At M A E (envX cn cs L a ccd cl) (.Name x pos) s v s := ⟨fun _ => rfl, fun h => nameX_L F hv h hk hx hd⟩
theorem at_K {K : Frag} {h₀ : Heap} {L a : Addr} {cn : Str} {cs : Scope} {ccd : Value} {cl : List (Str × Addr)} {p : Program} {loose : List Str} {mg mb : Str → Option Value} {x : Str} {v : Value} (hk : cs.kind = .function) (hx : (envX cn cs L a ccd cl).kindOf x = some .globalImplicit) (hd : (x == ("__debug__" : Str)) = false) (X : K.In h₀) (T : TopRead p loose mg mb h₀) (e : nsIn K mainGlobals x = some (some v)) {pos : Pos} {m : Str → Option Value} {s : Shared} (F : Fr h₀ L s.heap m) : At M A E (envX cn cs L a ccd cl) (.Name x pos) s v s := ⟨fun _ => rfl, fun h => nameX_K F X T e h hk hx hd⟩
theorem at_S {x : Str} {k : Nat} {pos : Pos} {h : Heap} {g d t o} : At M A E env (.Constant (.str x) k pos) ⟨h, g, d, t, o⟩ (.str x t) ⟨h, g, d, t + 1, o⟩ := ⟨fun _ => rfl, fun h => Constant_str h⟩
theorem at_I {i : Int} {k : Nat} {pos : Pos} {h : Heap} {g d t o} : At M A E env (.Constant (.int i) k pos) ⟨h, g, d, t, o⟩ (.int i t) ⟨h, g, d, t + 1, o⟩ := ⟨fun _ => rfl, fun h => wpAny_Constant_int h⟩
theorem at_N {k : Nat} {pos : Pos} {s : Shared} : At M A E env (.Constant .none k pos) s .none s := ⟨fun _ => rfl, fun h => wpAny_Constant_none h⟩
theorem name_L {h₀ : Heap} {L a : Addr} {cn : Str} {cs : Scope} {ccd : Value} {cl : List (Str × Addr)} {x : Str} (hk : cs.kind = .function) (hx : (envX cn cs L a ccd cl).kindOf x = some .local) (hd : (x == ("__debug__" : Str)) = false) {pos : Pos} {m : Str → Option Value} {v : Value} {s : Shared} (F : Fr h₀ L s.heap m) (hv : m x = some v) {Q : Value → Shared → Prop} (h : Q v s) : wpAny M A (eval (.Name x pos) (envX cn cs L a ccd cl)) Q E s := nameX_L F hv h hk hx hd
theorem spl0 {s : Shared} : Spl M A E env [] s [] s := ⟨fun _ => rfl, fun h => args_nil h⟩
theorem splC {e : Expr} {es : List Expr} {s s' s2 : Shared} {v : Value} {vs : List Value} (a : At M A E env e s v s') (b : Spl M A E env es s' vs s2) : Spl M A E env (e :: es) s (v :: vs) s2 :=
  ⟨fun pos => by rw [a.star]; exact b.star pos, fun h => args_cons (a.use (b.use h)) (a.star _)⟩
theorem spl1 {e : Expr} {s s' : Shared} {v : Value} (a : At M A E env e s v s') : Spl M A E env [e] s [v] s' := splC a spl0
theorem spl2 {e f : Expr} {s s' s2 : Shared} {v u : Value} (a : At M A E env e s v s') (b : At M A E env f s' u s2) : Spl M A E env [e, f] s [v, u] s2 := splC a (splC b spl0)
theorem spl_use {es : List Expr} {pos : Pos} {s s' : Shared} {vs : List Value} {Q : List Value → Shared → Prop} (a : Spl M A E env es s vs s') (h : Q vs s') : wpAny M A (spliced (backTo pos (starEach es env))) Q E s := a.use h
theorem at_use {e : Expr} {s s' : Shared} {v : Value} {Q : Value → Shared → Prop} (a : At M A E env e s v s') (h : Q v s') : wpAny M A (eval e env) Q E s := a.use h
theorem sub_at {value slice : Expr} {pos : Pos} {s s1 s2 : Shared} {o i : Value} {Q : Value → Shared → Prop} (a : At M A E env value s o s1) (b : At M A E env slice s1 i s2) (h : wpAny M A (subscriptTail value slice o i) Q E s2) : wpAny M A (eval (.Subscript value slice pos) env) Q E s := Subscript_ (a.use (b.use h))
theorem bin_at {l r : Expr} {op : Operator} {pos : Pos} {s s1 s2 : Shared} {o i : Value} {Q : Value → Shared → Prop} (a : At M A E env l s o s1) (b : At M A E env r s1 i s2) (h : wpAny M A (binaryOp op o i) Q E s2) : wpAny M A (eval (.BinOp l op r pos) env) Q E s := wpAny_BinOp (a.use (b.use h))
theorem cmpT_at {l r : Expr} {op : CmpOp} {pos : Pos} {whole : Sem Value} {s s1 s2 : Shared} {o i : Value} {Q : Bool → Shared → Prop} (hm : behindInMarks op r = false) (a : At M A E env l s o s1) (b : At M A E env r s1 i s2) (h : wpAny M A (compareOp op o i) (fun c s3 => wpAny M A (truthy c) Q E s3) E s2) : wpAny M A (isTrue (.Compare l [op] [r] pos) env whole) Q E s := wpAny_isTrue_Compare1 (a.use (b.use h)) hm
theorem cmpT_atL {l r : Expr} {op : CmpOp} {pos : Pos} {whole : Sem Value} {s s1 : Shared} {o : Value} {Q : Bool → Shared → Prop} (hm : behindInMarks op r = false) (a : At M A E env l s o s1) (h : wpAny M A (eval r env) (fun i s2 => wpAny M A (compareOp op o i) (fun c s3 => wpAny M A (truthy c) Q E s3) E s2) E s1) : wpAny M A (isTrue (.Compare l [op] [r] pos) env whole) Q E s := wpAny_isTrue_Compare1 (a.use h) hm
theorem cmp_at {l r : Expr} {op : CmpOp} {pos : Pos} {s s1 s2 : Shared} {o i : Value} {Q : Value → Shared → Prop} (hm : behindInMarks op r = false) (a : At M A E env l s o s1) (b : At M A E env r s1 i s2) (h : wpAny M A (compareOp op o i) Q E s2) : wpAny M A (eval (.Compare l [op] [r] pos) env) Q E s := wpAny_Compare1 (a.use (b.use h)) hm
theorem attr_at {L a : Addr} {cn : Str} {cs : Scope} {ccd : Value} {cl : List (Str × Addr)} {x attr : Str} {xp pos : Pos} {s : Shared} {o : Value} {Q : Value → Shared → Prop}
    (b : At M A E (envX cn cs L a ccd cl) (.Name x xp) s o s) (h : wpAny M A (getAttr o attr true) Q E s) : wpAny M A (eval (.Attribute (.Name x xp) attr pos) (envX cn cs L a ccd cl)) Q E s := Attribute_Name_ (b.use h)
end
section
variable {prog : Program} {w : World} {A : Around} {E : Value → Shared → Prop} {env : Env} {K : Frag} {h₀ : Heap} {L : Addr} {m : Str → Option Value} {C f : Addr} {name : Str}
theorem call_spl {s s2 : Shared} {pos : Pos} {args : List Expr} {vs first : List Value} {fv : Value} {Q : Value → Shared → Prop} (hkp : keepIn K fv = true) (X : K.In s2.heap)
    (sp : Spl (model prog w) A E env args s vs s2) (h : wpAny (model prog w) A (call fv (first ++ vs)) Q E s2) : wpAny (model prog w) A (callWith pos fv first (backTo pos (starEach args env)) []) Q E s := by
  have st := sp.star pos
  refine callWith_of (P := fun h => K.In h) (by rw [st]; rfl) (keeps_K hkp) ?_
  have u := sp.use (pos := pos) (Q := fun vs s1 => K.In s1.heap ∧ wpAny (model prog w) A (call fv (first ++ vs)) Q E s1) ⟨X, h⟩
  generalize backTo pos (starEach args env) = bs at st u
  cases bs with
  | nil => 
    unfold evalArgs
    show wpAny (model prog w) A (spliced [] >>= _) _ E s
    refine wpAny_bind (wpAny_mono u (fun vs s' h' => ?_) fun _ _ x => x)
    refine wpAny_holding ?_
    exact wpAny_bind (wpAny_pure (wpAny_bind (wpAny_pure (wpAny_pure h'))))
  | cons b rest =>
    obtain ⟨b1, b2⟩ := b
    cases b1 with
    | true => cases st
    | false => exact evalArgs_plain u
theorem mcall {s s2 : Shared} {o : Expr} {apos pos : Pos} {args : List Expr} {x : Addr} {ox : Obj} {es : List DictEntry} {n : Nat} {vs : List Value} {Q : Value → Shared → Prop}
    (sp : Spl (model prog w) A E env args s vs s2) (hh : s2.heap = s.heap) (X₀ : K.In h₀) (F : Fr h₀ L s.heap m) (a : At (model prog w) A E env o s (.ref x) s) (I : InstAt s.heap x ox C (some (dictOf es n))) (hl : getL name es = some none)
    (hg : plainGet K C name = true) (hf : findIn K (.ref C) name = some (some (.ref f))) (ht : isFn K (.ref f) = true) (hkp : keepIn K (.ref f) = true)
    (he : eval (.Call (.Attribute o name apos) args [] pos) env = (do
      let ov ← eval o env
      standAt apos.atName
      let (f, first) ← holding [ov] (calleeOf true o env ov name)
      callWith pos f first (backTo pos (starEach args env)) []))
    (h : wpAny (model prog w) A (call (.ref f) (.ref x :: vs)) Q E s2) : wpAny (model prog w) A (eval (.Call (.Attribute o name apos) args [] pos) env) Q E s :=
  MethodCall_ (a.use (method_inst F X₀ I hg hf ht hl (call_spl hkp (by rw [hh]; exact X₀.keeps F.keep) sp h))) he
theorem at_add {l r : Expr} {pos : Pos} {s s1 : Shared} {i j : Int} {u v : Tok} {h : Heap} {g d t o} (a : At (model prog w) A E env l s (.int i u) s1) (b : At (model prog w) A E env r s1 (.int j v) ⟨h, g, d, t, o⟩) : At (model prog w) A E env (.BinOp l .Add r pos) s (.int (i + j) t) ⟨h, g, d, t + 1, o⟩ := ⟨fun _ => rfl, fun q => wpAny_BinOp (a.use (b.use (wpAny_add_int q)))⟩
theorem at_attr {L' a : Addr} {cn : Str} {cs : Scope} {ccd : Value} {cl : List (Str × Addr)} {x attr : Str} {xp pos : Pos} {ad : Addr} {ox : Obj} {es : List DictEntry} {n : Nat} {v : Value} {fa : Option Value} {h : Heap} {g d t o}
    (X₀ : K.In h₀) (F : Fr h₀ L h m) (b : At (model prog w) A E (envX cn cs L' a ccd cl) (.Name x xp) ⟨h, g, d, t, o⟩ (.ref ad) ⟨h, g, d, t, o⟩) (I : InstAt h ad ox C (some (dictOf es n))) (hl : getL attr es = some (some v))
    (hg : plainGet K C attr = true) (hh : hasDictIn K C = true) (ha : findIn K (.ref C) attr = some fa) (hn : noGet K fa = true) (hv : handedIn v = true) : At (model prog w) A E (envX cn cs L' a ccd cl) (.Attribute (.Name x xp) attr pos) ⟨h, g, d, t, o⟩ v ⟨h, g, d, t + 1, o⟩ :=
  ⟨fun _ => rfl, fun q => Attribute_Name_ (b.use (get_own F X₀ I hg hh ha hn hl hv q))⟩
theorem at_B {L a : Addr} {cn : Str} {cs : Scope} {ccd : Value} {cl : List (Str × Addr)} {p : Program} {loose : List Str} {mg mb : Str → Option Value} {x : Str} {v : Value} (hk : cs.kind = .function) (hx : (envX cn cs L a ccd cl).kindOf x = some .globalImplicit) (hd : (x == ("__debug__" : Str)) = false) (X : K.In h₀) (T : TopRead p loose mg mb h₀) (e : nsIn K mainGlobals x = some none) (hv : bootBuiltins x = some v) (hn : x ≠ "__name__") {pos : Pos} {s : Shared} (F : Fr h₀ L s.heap m) : At (model prog w) A E (envX cn cs L a ccd cl) (.Name x pos) s v s := ⟨fun _ => rfl, fun h => nameX_B F X T e hv hn h hk hx hd⟩
theorem bcall {s s2 : Shared} {func : Expr} {pos : Pos} {args : List Expr} {vs : List Value} {id : String} {Q : Value → Shared → Prop}
    (sp : Spl (model prog w) A E env args s vs s2) (a : At (model prog w) A E env func s (.builtin id) s)
    (he : eval (.Call func args [] pos) env = (do callWith pos (← eval func env) [] (backTo pos (starEach args env)) (backToKw pos (keywordEach [] env))))
    (h : wpAny (model prog w) A (call (.builtin id) vs) Q E s2) : wpAny (model prog w) A (eval (.Call func args [] pos) env) Q E s := by
  refine Call_ (a.use (callWith_builtin (sp.star pos) ?_)) he
  have st := sp.star pos
  have u := sp.use (pos := pos) (Q := fun vs s1 => wpAny (model prog w) A (call (.builtin id) vs) Q E s1) h
  generalize backTo pos (starEach args env) = bs at st u
  cases bs with
  | nil =>
    unfold evalArgs
    show wpAny (model prog w) A (spliced [] >>= _) _ E s
    refine wpAny_bind (wpAny_mono u (fun vs s' h' => ?_) fun _ _ x => x)
    refine wpAny_holding ?_
    exact wpAny_bind (wpAny_pure (wpAny_bind (wpAny_pure (wpAny_pure h'))))
  | cons b rest =>
    obtain ⟨b1, b2⟩ := b
    cases b1 with
    | true => cases st
    | false => exact evalArgs_plain u
theorem fcall {s s2 : Shared} {func : Expr} {pos : Pos} {args : List Expr} {vs : List Value} {fv : Value} {Q : Value → Shared → Prop} (sp : Spl (model prog w) A E env args s vs s2) (hh : s2.heap = s.heap) (X₀ : K.In h₀)
    (F : Fr h₀ L s.heap m) (a : At (model prog w) A E env func s fv s) (hkp : keepIn K fv = true)
    (he : eval (.Call func args [] pos) env = (do callWith pos (← eval func env) [] (backTo pos (starEach args env)) (backToKw pos (keywordEach [] env))))
    (h : wpAny (model prog w) A (call fv vs) Q E s2) : wpAny (model prog w) A (eval (.Call func args [] pos) env) Q E s :=
  Call_ (a.use (call_spl hkp (by rw [hh]; exact X₀.keeps F.keep) sp h)) he
end
end Mine
end
section
open PySem PySem.W PyProof.Rows PySem.Spec PySem.Calls
set_option Elab.async false
namespace Mine
set_option maxRecDepth 100000
set_option maxHeartbeats 0
abbrev tupO (vs : List Value) (n : Nat) : Obj := { cls := .type "tuple", data := .seq vs.toArray n }
abbrev RdD (hs1 hs2 hs3 : Int) (u1 u2 u3 : Tok) (tl nd : Addr) (pos : Int) (t : Tok) : Obj :=
  dictOf [⟨hs1, .str (Str.ofString "tokens") u1, .ref tl⟩, ⟨hs2, .str (Str.ofString "at") u2, .int pos t⟩, ⟨hs3, .str (Str.ofString "named") u3, .ref nd⟩] 3
abbrev TkD (hs1 hs2 hs3 hs4 : Int) (u1 u2 u3 u4 t1 t2 : Tok) (x y : Str) (at_ : Addr) : Obj :=
  dictOf [⟨hs1, .str (Str.ofString "kind") u1, .str x t1⟩, ⟨hs2, .str (Str.ofString "worth") u2, .str y t2⟩, ⟨hs3, .str (Str.ofString "at") u3, .ref at_⟩, ⟨hs4, .str (Str.ofString "is_in_a") u4, .bool false⟩] 4
/-- the token's objects stand in the ledger -/
inductive TokIn (news : List (Addr × Obj)) : Addr → Wd → Nat → Prop
  | mk {ta td at_ : Addr} {w : Wd} {i n : Nat} {hs1 hs2 hs3 hs4 : Int} {u1 u2 u3 u4 t1 t2 t3 t4 : Tok} : (ta, instObj 448 td) ∈ news → (td, TkD hs1 hs2 hs3 hs4 u1 u2 u3 u4 t1 t2 w.kd w.txt at_) ∈ news → (at_, tupO [.int 1 t3, .int ((i : Int) + 1) t4] n) ∈ news → TokIn news ta w i
theorem TokIn.mono {news news' : List (Addr × Obj)} {ta : Addr} {w : Wd} {i : Nat} (h : TokIn news ta w i) (hs : ∀ p ∈ news, p ∈ news') : TokIn news' ta w i := by
  cases h with
  | mk a b c => exact .mk (hs _ a) (hs _ b) (hs _ c)
/-- the reader's unchanging objects -/
structure RdIn (news : List (Addr × Obj)) (rdr dct tl : Addr) (tas : List Addr) (n : Nat) (ws : List Wd) : Prop where
  rd : (rdr, instObj 418 dct) ∈ news
  tl : (tl, listOf (tas.map Value.ref).toArray n) ∈ news
  len : tas.length = ws.length
  few : ws.length ≤ 60
  tok : ∀ i w, ws[i]? = some w → ∃ ta, tas[i]? = some ta ∧ TokIn news ta w i
theorem RdIn.mono {news news' : List (Addr × Obj)} {rdr dct tl : Addr} {tas : List Addr} {n : Nat} {ws : List Wd} (R : RdIn news rdr dct tl tas n ws) (hs : ∀ p ∈ news, p ∈ news') : RdIn news' rdr dct tl tas n ws :=
  ⟨hs _ R.rd, hs _ R.tl, R.len, R.few, fun i w h => let ⟨ta, a, b⟩ := R.tok i w h; ⟨ta, a, b.mono hs⟩⟩
/-- what sign_among answers -/
def sgn (o : Option Wd) (xs : List Str) : Str := match o with
  | some w => if w.kd = Str.ofString "sign" ∧ w.txt ∈ xs then w.txt else Str.ofString ""
  | none => Str.ofString ""
end Mine
end
section
open PySem PySem.W PyProof.Rows PySem.Spec PySem.Calls
set_option Elab.async false
example : True := by k_with_none; trivial
example : True := by
  k_with "fold" => (refine folds ?_; intro qk ek)
  k_with "at0" => (with_reducible show At _ _ _ _ (.Name _ _) _ _ _); exact at_L (by rfl) (by rfl) (by decide) (by k_asm) (Eq.refl (some _))
  k_with "atF" => k_dflt first | k_extra "at0" | ((with_reducible show At _ _ _ _ (.Name _ _) _ _ _); exact at_K (by rfl) (by rfl) (by decide) (by k_asm) (by k_asm) (by k_is) (by k_asm)) | fail
  k_with "atB" => k_dflt first | ((with_reducible show At _ _ _ _ (.Name _ _) _ _ _); exact at_B (by rfl) (by rfl) (by decide) (by k_asm) (by k_asm) (by k_is) (by boot_fast) (by decide) (by k_asm)) | fail
  k_with "at" => k_dflt first | ((with_reducible show At _ _ _ _ (.Constant _ _ _) _ _ _); first | exact at_S | exact at_I | exact at_N) | k_extra "at0" | ((with_reducible show At _ _ _ _ (.Attribute (.Name _ _) _ _) _ _ _); exact at_attr (by k_asm) (by k_asm) (by k_extra "at0") (by k_inst) (by k_get) (by k_is) (by k_is) (by k_is) (by k_is) (by first | exact rfl | k_handed)) | ((with_reducible show At _ _ _ _ (.BinOp _ .Add _ _) _ _ _); exact at_add (by k_extra "at") (by k_extra "at")) | k_extra "atF" | fail
  k_with "spl" => k_dflt first | exact spl0 | ((with_reducible show Spl _ _ _ _ [_] _ _ _); exact spl1 (by k_extra "at")) | ((with_reducible show Spl _ _ _ _ [_, _] _ _ _); exact spl2 (by k_extra "at") (by k_extra "at")) | ((with_reducible show Spl _ _ _ _ (_ :: _) _ _ _); exact splC (by k_extra "at") (by k_extra "spl")) | fail
  k_with "eval Call Attribute" => with_reducible (k_here; show wpAny _ _ (eval (.Call (.Attribute _ _ _) _ [] _) _) _ _ _; first | refine mcall (by k_extra "spl") (by k_dflt exact rfl) (by k_dflt k_asm) (by k_dflt k_asm) (by k_extra "at") (by k_dflt k_inst) (by k_get) (by k_is) (by k_is) (by k_is) (by k_is) (by k_dflt exact rfl) ?_ | fail)
  k_with "eval Call" => first | with_reducible (k_here; show wpAny _ _ (eval (.Call (.Name _ _) _ [] _) _) _ _ _; first | refine fcall (by k_extra "spl") (by k_dflt exact rfl) (by k_dflt k_asm) (by k_dflt k_asm) (by k_extra "atF") (by k_is) (by k_dflt exact rfl) ?_ | ((first | show wpAny _ _ (eval (.Call (.Name (Str.ofString "len") _) _ _ _) _) _ _ _ | show wpAny _ _ (eval (.Call (.Name (Str.ofString "min") _) _ _ _) _) _ _ _); refine bcall (by k_extra "spl") (by k_extra "atB") (by k_dflt exact rfl) ?_) | fail) | (k_here; k_dflt (refine Call_ ?_)) | fail
  k_with "spliced" => first | with_reducible (k_here; first | refine spl_use (by k_extra "spl") ?_ | fail) | (k_dflt (first | refine spliced_more ?_ | refine spliced_none ?_)) | fail
  k_with "eval Subscript" => with_reducible (k_here; show wpAny _ _ (eval (.Subscript _ _ _) _) _ _ _; first | refine sub_at (by k_extra "at") (by k_extra "at") ?_ | fail)
  k_with "eval BinOp" => with_reducible (k_here; show wpAny _ _ (eval (.BinOp _ _ _ _) _) _ _ _; first | refine at_use (by k_extra "at") ?_ | refine bin_at (by k_extra "at") (by k_extra "at") ?_ | fail)
  k_with "isTrue Compare" => with_reducible (k_here; show wpAny _ _ (PySem.isTrue (.Compare _ [_] [_] _) _ _) _ _ _; first | refine cmpT_at (by k_dflt rfl) (by k_extra "at") (by k_extra "at") ?_ | refine cmpT_atL (by k_dflt rfl) (by k_extra "at") ?_ | fail)
  k_with "eval Compare" => with_reducible (k_here; show wpAny _ _ (eval (.Compare _ [_] [_] _) _) _ _ _; first | refine cmp_at (by k_dflt rfl) (by k_extra "at") (by k_extra "at") ?_ | fail)
  k_with "eval Attribute Name" => with_reducible (k_here; first | refine at_use (by k_extra "at") ?_ | fail)
  k_with "eval Name" => with_reducible (k_here; first | refine at_use (by k_extra "at") ?_ | fail)
  k_with "itemAt" => (k_here; (with_reducible show wpAny _ _ (subscriptTail _ _ (Value.ref _) (Value.int _ _)) _ _ _); with_reducible first | refine item_litK (by with_unfolding_all is_list) (by k_dflt decide) (by k_dflt decide) (by with_unfolding_all rfl) ?_ (by with_unfolding_all rfl) | refine item_tupleT (by k_dflt exact News.isTup (by k_asm) (by k_mem)) (by k_dflt decide) (by k_dflt decide) (by k_dflt rfl) (by k_dflt rfl) ?_ | fail); k_whole
  k_with "turned" => (k_here; k_dflt (refine kba_turn (value' := PySem.Expr.Name (PySem.Str.ofString "_") ⟨0, 0, 0, 0⟩) (fun _ => rfl) ?_))
  k_with "subscriptTail Name Constant ref int" => first | k_extra "subscriptTail" | k_extra "itemAt" | fail
  k_with "subscriptTail Subscript Constant ref int" => k_extra "itemAt"
  k_with "subscriptTail Name" => k_extra "subscriptTail"
  k_with "subscriptTail Call" => k_extra "turned"
  k_with "subscriptTail BinOp" => k_extra "turned"
  k_with "seq" => first | (k_here; k_gentoks) | ((with_reducible refine wpAny_execs_cons ?_); try dsimp only) | fail
  k_with "execs cons Assign cons" => k_extra "seq"
  k_with "execs cons If cons" => k_extra "seq"
  k_with "execs cons Return nil" => k_extra "seq"
  k_with "exec Assign cons" => (with_reducible show wpAny _ _ (exec (.Assign [.Name _ _] _ _) _) _ _ _); k_dflt (refine wpAny_Assign_Name ?_)
  k_with "exec If" => refine wpAny_If ?_
  k_with "eval Call Name cons nil" => k_extra "eval Call"
  k_with "isTrue Compare Name cons cons" => k_extra "isTrue Compare"
  k_with "truthy bool false" => refine wpAny_truthy_bool ?_
  k_with "truthy bool" => refine wpAny_truthy_bool ?_
  k_with "room" => first | exact lb0 (j := 1) (by assumption) rfl | exact lb2 (j := 1) (by assumption) (by assumption) rfl
  k_with "om" => first | (k_whole; first | exact lb0 (by assumption) rfl | exact lb1 (by assumption) rfl | exact lb2 (by assumption) (by assumption) rfl | exact lb4 (by assumption) rfl | exact Nat.le_of_succ_le (by assumption)) | omega
  k_with "steps" => repeat' (first | ((with_reducible show wpAny _ _ (exec _ _) _ _ _); (fail_if_success (fail_if_success k_fold)); k_extra "fold") | ((fail_if_success (fail_if_success k_unfold)); first | dsimp only [qk] | dsimp only [ek] | (k_unfold; (try dsimp only))) | (k_end; wrow_close) | walk1 | (dsimp only; walk1) | (leave1; walk_say "STEP leave1"; try dsimp only) | fail)
  trivial
namespace Mine
set_option maxRecDepth 100000
set_option maxHeartbeats 0
theorem updF_upd {d : Addr} {o : Obj} {news : List (Addr × Obj)} {g : Obj → List (Addr × Obj)} (U : UpdF d o news g) (o' : Obj) : Upd d o o' news (g o') := by
  induction U with
  | head h => exact .head h
  | tail h _ ih => exact .tail h ih
theorem updF_mem {d : Addr} {o : Obj} {news : List (Addr × Obj)} {g : Obj → List (Addr × Obj)} (U : UpdF d o news g) : (d, o) ∈ news := by
  induction U with
  | head h => exact .head _
  | tail h _ ih => exact .tail _ ih
def kdIs (o : Option Wd) (k : Str) : Bool := match o with
  | some w => w.kd == k
  | none => false
def isSg (o : Option Wd) (x : Str) : Bool := match o with
  | some w => w.kd == Str.ofString "sign" && w.txt == x
  | none => false
theorem sgn_ne {x y z e : Str} {xs : List Str} (h : (x != z) = true) : (if x = z ∧ y ∈ xs then y else e) = e := by
  rw [if_neg]
  rintro ⟨rfl, _⟩
  simp at h
theorem sgn_any {x y z e : Str} {xs : List Str} (h : (xs.any fun x => x == y) = false) : (if x = z ∧ y ∈ xs then y else e) = e := by
  rw [if_neg]
  rintro ⟨_, q⟩
  rw [List.any_eq_false] at h
  exact h y q (by simp)
theorem sgn_ok {x y z e : Str} {xs : List Str} (h : (x != z) = false) (h' : (xs.any fun x => x == y) = true) : (if x = z ∧ y ∈ xs then y else e) = y := by
  rw [if_pos]
  refine ⟨by simpa using h, ?_⟩
  rw [List.any_eq_true] at h'
  obtain ⟨a, ha, hb⟩ := h'
  rw [← beq_iff_eq.mp hb]; exact ha
theorem tas_none {tas : List Addr} {ws : List Wd} {i : Nat} (hl : tas.length = ws.length) (hw : ws[i]? = none) : tas[i]? = none := by
  rw [List.getElem?_eq_none_iff] at hw ⊢
  omega
section
variable {w : World} {p : Program} {loose : List Str} {mean : ExcName → Option Value} {mg mb : Str → Option Value} {dp un : Nat} {gd : Option (List Code)} {cn : Str} {cs : Scope} {a : Addr} {ccd : Value} {cl : List (Str × Addr)} {outer : List Env} {A₀ : Around} {base h₀ : Heap} {L : Addr} {m : Str → Option Value}
  {news : List (Addr × Obj)} {s : Shared} {Q E : Value → Shared → Prop} {rdr dct tl nd : Addr} {hs1 hs2 hs3 : Int} {u1 u2 u3 t : Tok} {tas : List Addr} {n : Nat} {pos : Nat} {ws : List Wd}
example : True := by
  k_with "upd" => exact updF_upd (by assumption) _
  trivial
example : True := by
  k_with "rel" => first | (with_reducible assumption) | exact dle1 (by with_reducible assumption) rfl | k_extra "om" | exact rfl | ((try dsimp only [ktrTop, Around.deeper]); k_extra "om") | assumption | k_mem
  trivial
theorem peek0_some {ta : Addr} (B : Below A₀ base outer h₀) (F : Fr h₀ L s.heap m) (X : (Mine.frag.heap_1 w.params).In h₀) (N : News h₀ L s.heap news) (T : Top p loose mean mg mb h₀) (hk : cs.kind = .function) (hdp : dp ≤ 690) (hun : un ≤ 9000)
    (R : RdIn news rdr dct tl tas n ws) (hd : (dct, RdD hs1 hs2 hs3 u1 u2 u3 tl nd pos t) ∈ news) (hv : tas[pos]? = some ta)
    (ret : ∀ h' tk', Fr h₀ L h' m → News h₀ L h' news → Q (.ref ta) { s with heap := h', toks := tk' }) :
    wpAny (model PySem.Challenge.rw_pc0133_01.prog w) (ktrTop dp un gd cn cs L a ccd cl outer) (call (.ref 272) [.ref rdr]) Q E s := by
  revert X; k_fill; intro X
  obtain ⟨hr, htl, hlen, hfew, _⟩ := R
  have hl' : (tas.map Value.ref).length = tas.length := List.length_map ..
  have hlt : pos < tas.length := (List.getElem?_eq_some_iff.mp hv).1
  have hv' : (tas.map Value.ref)[((pos : Int) + 0).toNat]? = some (Value.ref ta) := by
    have e : ((pos : Int) + 0).toNat = pos := by omega
    rw [e, List.getElem?_map, hv]; rfl
  refine wpAny_call ?_
  k_dflt k_enter
  k_extra "steps"
  all_goals first
    | exact ret _ _ (by k_asm) (by k_asm)
    | (exfalso; omega)
theorem peek0_none (B : Below A₀ base outer h₀) (F : Fr h₀ L s.heap m) (X : (Mine.frag.heap_1 w.params).In h₀) (N : News h₀ L s.heap news) (T : Top p loose mean mg mb h₀) (hk : cs.kind = .function) (hdp : dp ≤ 690) (hun : un ≤ 9000)
    (R : RdIn news rdr dct tl tas n ws) (hd : (dct, RdD hs1 hs2 hs3 u1 u2 u3 tl nd pos t) ∈ news) (hv : tas[pos]? = none)
    (ret : ∀ h' tk', Fr h₀ L h' m → News h₀ L h' news → Q .none { s with heap := h', toks := tk' }) :
    wpAny (model PySem.Challenge.rw_pc0133_01.prog w) (ktrTop dp un gd cn cs L a ccd cl outer) (call (.ref 272) [.ref rdr]) Q E s := by
  revert X; k_fill; intro X
  obtain ⟨hr, htl, hlen, hfew, _⟩ := R
  have hl' : (tas.map Value.ref).length = tas.length := List.length_map ..
  have hlt : ¬ pos < tas.length := fun h => by rw [List.getElem?_eq_getElem h] at hv; cases hv
  refine wpAny_call ?_
  k_dflt k_enter
  k_extra "steps"
  all_goals first
    | exact ret _ _ (by k_asm) (by k_asm)
    | (exfalso; omega)
theorem peekA_some {ta : Addr} {ahead : Int} {j : Nat} {tk : Tok} (hj : (pos : Int) + ahead = j) (B : Below A₀ base outer h₀) (F : Fr h₀ L s.heap m) (X : (Mine.frag.heap_1 w.params).In h₀) (N : News h₀ L s.heap news) (T : Top p loose mean mg mb h₀) (hk : cs.kind = .function) (hdp : dp ≤ 690) (hun : un ≤ 9000)
    (R : RdIn news rdr dct tl tas n ws) (hd : (dct, RdD hs1 hs2 hs3 u1 u2 u3 tl nd pos t) ∈ news) (hv : tas[j]? = some ta)
    (ret : ∀ h' tk', Fr h₀ L h' m → News h₀ L h' news → Q (.ref ta) { s with heap := h', toks := tk' }) :
    wpAny (model PySem.Challenge.rw_pc0133_01.prog w) (ktrTop dp un gd cn cs L a ccd cl outer) (call (.ref 272) [.ref rdr, .int ahead tk]) Q E s := by
  revert X; k_fill; intro X
  obtain ⟨hr, htl, hlen, hfew, _⟩ := R
  have hl' : (tas.map Value.ref).length = tas.length := List.length_map ..
  have hlt : j < tas.length := (List.getElem?_eq_some_iff.mp hv).1
  have hv' : (tas.map Value.ref)[((pos : Int) + ahead).toNat]? = some (Value.ref ta) := by
    have e : ((pos : Int) + ahead).toNat = j := by omega
    rw [e, List.getElem?_map, hv]; rfl
  refine wpAny_call ?_
  k_dflt k_enter
  k_extra "steps"
  all_goals first
    | exact ret _ _ (by k_asm) (by k_asm)
    | (exfalso; omega)
theorem peekA_none {ahead : Int} {j : Nat} {tk : Tok} (hj : (pos : Int) + ahead = j) (B : Below A₀ base outer h₀) (F : Fr h₀ L s.heap m) (X : (Mine.frag.heap_1 w.params).In h₀) (N : News h₀ L s.heap news) (T : Top p loose mean mg mb h₀) (hk : cs.kind = .function) (hdp : dp ≤ 690) (hun : un ≤ 9000)
    (R : RdIn news rdr dct tl tas n ws) (hd : (dct, RdD hs1 hs2 hs3 u1 u2 u3 tl nd pos t) ∈ news) (hv : tas[j]? = none)
    (ret : ∀ h' tk', Fr h₀ L h' m → News h₀ L h' news → Q .none { s with heap := h', toks := tk' }) :
    wpAny (model PySem.Challenge.rw_pc0133_01.prog w) (ktrTop dp un gd cn cs L a ccd cl outer) (call (.ref 272) [.ref rdr, .int ahead tk]) Q E s := by
  revert X; k_fill; intro X
  obtain ⟨hr, htl, hlen, hfew, _⟩ := R
  have hl' : (tas.map Value.ref).length = tas.length := List.length_map ..
  have hlt : ¬ j < tas.length := fun h => by rw [List.getElem?_eq_getElem h] at hv; cases hv
  refine wpAny_call ?_
  k_dflt k_enter
  k_extra "steps"
  all_goals first
    | exact ret _ _ (by k_asm) (by k_asm)
    | (exfalso; omega)
theorem peek_some0 {ta : Addr} {tk : Tok} (B : Below A₀ base outer h₀) (F : Fr h₀ L s.heap m) (X : (Mine.frag.heap_1 w.params).In h₀) (N : News h₀ L s.heap news) (T : Top p loose mean mg mb h₀) (hk : cs.kind = .function) (hdp : dp ≤ 690) (hun : un ≤ 9000)
    (R : RdIn news rdr dct tl tas n ws) (hd : (dct, RdD hs1 hs2 hs3 u1 u2 u3 tl nd pos t) ∈ news) (hv : tas[pos]? = some ta)
    (ret : ∀ h' tk', Fr h₀ L h' m → News h₀ L h' news → Q (.ref ta) { s with heap := h', toks := tk' }) :
    wpAny (model PySem.Challenge.rw_pc0133_01.prog w) (ktrTop dp un gd cn cs L a ccd cl outer) (call (.ref 272) [.ref rdr, .int 0 tk]) Q E s := peekA_some (j := pos) (by omega) B F X N T hk hdp hun R hd hv ret
theorem peek_none0 {tk : Tok} (B : Below A₀ base outer h₀) (F : Fr h₀ L s.heap m) (X : (Mine.frag.heap_1 w.params).In h₀) (N : News h₀ L s.heap news) (T : Top p loose mean mg mb h₀) (hk : cs.kind = .function) (hdp : dp ≤ 690) (hun : un ≤ 9000)
    (R : RdIn news rdr dct tl tas n ws) (hd : (dct, RdD hs1 hs2 hs3 u1 u2 u3 tl nd pos t) ∈ news) (hv : tas[pos]? = none)
    (ret : ∀ h' tk', Fr h₀ L h' m → News h₀ L h' news → Q .none { s with heap := h', toks := tk' }) :
    wpAny (model PySem.Challenge.rw_pc0133_01.prog w) (ktrTop dp un gd cn cs L a ccd cl outer) (call (.ref 272) [.ref rdr, .int 0 tk]) Q E s := peekA_none (j := pos) (by omega) B F X N T hk hdp hun R hd hv ret
theorem peek_some1 {ta : Addr} {tk : Tok} (B : Below A₀ base outer h₀) (F : Fr h₀ L s.heap m) (X : (Mine.frag.heap_1 w.params).In h₀) (N : News h₀ L s.heap news) (T : Top p loose mean mg mb h₀) (hk : cs.kind = .function) (hdp : dp ≤ 690) (hun : un ≤ 9000)
    (R : RdIn news rdr dct tl tas n ws) (hd : (dct, RdD hs1 hs2 hs3 u1 u2 u3 tl nd pos t) ∈ news) (hv : tas[pos + 1]? = some ta)
    (ret : ∀ h' tk', Fr h₀ L h' m → News h₀ L h' news → Q (.ref ta) { s with heap := h', toks := tk' }) :
    wpAny (model PySem.Challenge.rw_pc0133_01.prog w) (ktrTop dp un gd cn cs L a ccd cl outer) (call (.ref 272) [.ref rdr, .int 1 tk]) Q E s := peekA_some (j := pos + 1) (by omega) B F X N T hk hdp hun R hd hv ret
theorem peek_none1 {tk : Tok} (B : Below A₀ base outer h₀) (F : Fr h₀ L s.heap m) (X : (Mine.frag.heap_1 w.params).In h₀) (N : News h₀ L s.heap news) (T : Top p loose mean mg mb h₀) (hk : cs.kind = .function) (hdp : dp ≤ 690) (hun : un ≤ 9000)
    (R : RdIn news rdr dct tl tas n ws) (hd : (dct, RdD hs1 hs2 hs3 u1 u2 u3 tl nd pos t) ∈ news) (hv : tas[pos + 1]? = none)
    (ret : ∀ h' tk', Fr h₀ L h' m → News h₀ L h' news → Q .none { s with heap := h', toks := tk' }) :
    wpAny (model PySem.Challenge.rw_pc0133_01.prog w) (ktrTop dp un gd cn cs L a ccd cl outer) (call (.ref 272) [.ref rdr, .int 1 tk]) Q E s := peekA_none (j := pos + 1) (by omega) B F X N T hk hdp hun R hd hv ret
example : True := by
  k_with "call ref" => (k_here; (try dsimp only [List.nil_append, List.cons_append, List.append_nil]); (with_reducible show wpAny _ _ (call (Value.ref 272) [Value.ref _]) _ _ _); k_dflt (first | refine' peek0_some (by ktr_rel) (by ktr_rel) (by ktr_rel) (by ktr_rel) (by ktr_rel) (by ktr_rel) (by ktr_rel) (by ktr_rel) (by ktr_rel) (by ktr_rel) (by ktr_rel) ?_ | refine' peek0_none (by ktr_rel) (by ktr_rel) (by ktr_rel) (by ktr_rel) (by ktr_rel) (by ktr_rel) (by ktr_rel) (by ktr_rel) (by ktr_rel) (by ktr_rel) (by ktr_rel) ?_); k_whole; intro h' tk' F' N'; (try k_sweep))
  trivial
example : True := by
  k_with "call ref" => (k_here; (try dsimp only [List.nil_append, List.cons_append, List.append_nil]); (with_reducible show wpAny _ _ (call (Value.ref 272) [Value.ref _, Value.int _ _]) _ _ _); k_dflt (first | refine' peek_some0 (by ktr_rel) (by ktr_rel) (by ktr_rel) (by ktr_rel) (by ktr_rel) (by ktr_rel) (by ktr_rel) (by ktr_rel) (by ktr_rel) (by ktr_rel) (by ktr_rel) ?_ | refine' peek_none0 (by ktr_rel) (by ktr_rel) (by ktr_rel) (by ktr_rel) (by ktr_rel) (by ktr_rel) (by ktr_rel) (by ktr_rel) (by ktr_rel) (by ktr_rel) (by ktr_rel) ?_ | refine' peek_some1 (by ktr_rel) (by ktr_rel) (by ktr_rel) (by ktr_rel) (by ktr_rel) (by ktr_rel) (by ktr_rel) (by ktr_rel) (by ktr_rel) (by ktr_rel) (by ktr_rel) ?_ | refine' peek_none1 (by ktr_rel) (by ktr_rel) (by ktr_rel) (by ktr_rel) (by ktr_rel) (by ktr_rel) (by ktr_rel) (by ktr_rel) (by ktr_rel) (by ktr_rel) (by ktr_rel) ?_); k_whole; intro h' tk' F' N'; (try k_sweep))
  trivial
theorem sign_c {tup : Addr} {vs : List Value} {xs : List Str} {r : Str} {k : Nat} (B : Below A₀ base outer h₀) (F : Fr h₀ L s.heap m) (X : (Mine.frag.heap_1 w.params).In h₀) (N : News h₀ L s.heap news) (T : Top p loose mean mg mb h₀) (hk : cs.kind = .function) (hdp : dp ≤ 688) (hun : un ≤ 8900)
    (R : RdIn news rdr dct tl tas n ws) (hd : (dct, RdD hs1 hs2 hs3 u1 u2 u3 tl nd pos t) ∈ news)
    (htup : (tup, tupO vs k) ∈ news) (hsa : StrsAre vs xs) (hr : sgn ws[pos]? xs = r)
    (ret : ∀ h' tk' tr, Fr h₀ L h' m → News h₀ L h' news → Q (.str r tr) { s with heap := h', toks := tk' }) :
    wpAny (model PySem.Challenge.rw_pc0133_01.prog w) (ktrTop dp un gd cn cs L a ccd cl outer) (call (.ref 195) [.ref rdr, .ref tup]) Q E s := by
  revert X; k_fill; intro X
  have hrd := R.rd
  cases hw : ws[pos]? with
  | none =>
    have hv := tas_none R.len hw
    rw [hw] at hr
    dsimp only [sgn] at hr
    subst hr
    refine wpAny_call ?_
    k_dflt k_enter
    k_extra "steps"
    all_goals exact ret _ _ _ (by k_asm) (by k_asm)
  | some wd =>
    obtain ⟨ta, hv, ht⟩ := R.tok _ _ hw
    cases ht with
    | mk q1 q2 q3 =>
    rw [hw] at hr
    dsimp only [sgn] at hr
    generalize wd.kd = x at *
    generalize wd.txt = y at *
    subst hr
    refine wpAny_call ?_
    k_dflt k_enter
    k_extra "steps"
    all_goals first
      | (rw [sgn_ne (by assumption)] at ret; exact ret _ _ _ (by k_asm) (by k_asm))
      | (rw [sgn_any (by assumption)] at ret; exact ret _ _ _ (by k_asm) (by k_asm))
      | (rw [sgn_ok (by assumption) (by assumption)] at ret; exact ret _ _ _ (by k_asm) (by k_asm))
theorem isk_c {b : Bool} {k : Str} {tk tk2 : Tok} (B : Below A₀ base outer h₀) (F : Fr h₀ L s.heap m) (X : (Mine.frag.heap_1 w.params).In h₀) (N : News h₀ L s.heap news) (T : Top p loose mean mg mb h₀) (hk : cs.kind = .function) (hdp : dp ≤ 688) (hun : un ≤ 8900)
    (R : RdIn news rdr dct tl tas n ws) (hd : (dct, RdD hs1 hs2 hs3 u1 u2 u3 tl nd pos t) ∈ news) (hb : kdIs ws[pos]? k = b)
    (ret : ∀ h' tk', Fr h₀ L h' m → News h₀ L h' news → Q (.bool b) { s with heap := h', toks := tk' }) :
    wpAny (model PySem.Challenge.rw_pc0133_01.prog w) (ktrTop dp un gd cn cs L a ccd cl outer) (call (.ref 301) [.ref rdr, .str k tk]) Q E s := by
  revert X; k_fill; intro X
  have hrd := R.rd
  cases hw : ws[pos]? with
  | none =>
    have hv := tas_none R.len hw
    rw [hw] at hb
    dsimp only [kdIs] at hb
    subst hb
    refine wpAny_call ?_
    k_dflt k_enter
    k_extra "steps"
    all_goals exact ret _ _ (by k_asm) (by k_asm)
  | some wd =>
    obtain ⟨ta, hv, ht⟩ := R.tok _ _ hw
    cases ht with
    | mk q1 q2 q3 =>
    rw [hw] at hb
    dsimp only [kdIs] at hb
    generalize wd.kd = x at *
    generalize wd.txt = y at *
    subst hb
    refine wpAny_call ?_
    k_dflt k_enter
    k_extra "steps"
    all_goals exact ret _ _ (by k_asm) (by k_asm)
theorem isk0_c {b : Bool} {k : Str} {tk tk2 : Tok} (B : Below A₀ base outer h₀) (F : Fr h₀ L s.heap m) (X : (Mine.frag.heap_1 w.params).In h₀) (N : News h₀ L s.heap news) (T : Top p loose mean mg mb h₀) (hk : cs.kind = .function) (hdp : dp ≤ 688) (hun : un ≤ 8900)
    (R : RdIn news rdr dct tl tas n ws) (hd : (dct, RdD hs1 hs2 hs3 u1 u2 u3 tl nd pos t) ∈ news) (hb : kdIs ws[pos]? k = b)
    (ret : ∀ h' tk', Fr h₀ L h' m → News h₀ L h' news → Q (.bool b) { s with heap := h', toks := tk' }) :
    wpAny (model PySem.Challenge.rw_pc0133_01.prog w) (ktrTop dp un gd cn cs L a ccd cl outer) (call (.ref 301) [.ref rdr, .str k tk, .int 0 tk2]) Q E s := by
  revert X; k_fill; intro X
  have hrd := R.rd
  cases hw : ws[pos]? with
  | none =>
    have hv := tas_none R.len hw
    rw [hw] at hb
    dsimp only [kdIs] at hb
    subst hb
    refine wpAny_call ?_
    k_dflt k_enter
    k_extra "steps"
    all_goals exact ret _ _ (by k_asm) (by k_asm)
  | some wd =>
    obtain ⟨ta, hv, ht⟩ := R.tok _ _ hw
    cases ht with
    | mk q1 q2 q3 =>
    rw [hw] at hb
    dsimp only [kdIs] at hb
    generalize wd.kd = x at *
    generalize wd.txt = y at *
    subst hb
    refine wpAny_call ?_
    k_dflt k_enter
    k_extra "steps"
    all_goals exact ret _ _ (by k_asm) (by k_asm)
theorem isk1_c {b : Bool} {k : Str} {tk tk2 : Tok} (B : Below A₀ base outer h₀) (F : Fr h₀ L s.heap m) (X : (Mine.frag.heap_1 w.params).In h₀) (N : News h₀ L s.heap news) (T : Top p loose mean mg mb h₀) (hk : cs.kind = .function) (hdp : dp ≤ 688) (hun : un ≤ 8900)
    (R : RdIn news rdr dct tl tas n ws) (hd : (dct, RdD hs1 hs2 hs3 u1 u2 u3 tl nd pos t) ∈ news) (hb : kdIs ws[pos + 1]? k = b)
    (ret : ∀ h' tk', Fr h₀ L h' m → News h₀ L h' news → Q (.bool b) { s with heap := h', toks := tk' }) :
    wpAny (model PySem.Challenge.rw_pc0133_01.prog w) (ktrTop dp un gd cn cs L a ccd cl outer) (call (.ref 301) [.ref rdr, .str k tk, .int 1 tk2]) Q E s := by
  revert X; k_fill; intro X
  have hrd := R.rd
  cases hw : ws[pos + 1]? with
  | none =>
    have hv := tas_none R.len hw
    rw [hw] at hb
    dsimp only [kdIs] at hb
    subst hb
    refine wpAny_call ?_
    k_dflt k_enter
    k_extra "steps"
    all_goals exact ret _ _ (by k_asm) (by k_asm)
  | some wd =>
    obtain ⟨ta, hv, ht⟩ := R.tok _ _ hw
    cases ht with
    | mk q1 q2 q3 =>
    rw [hw] at hb
    dsimp only [kdIs] at hb
    generalize wd.kd = x at *
    generalize wd.txt = y at *
    subst hb
    refine wpAny_call ?_
    k_dflt k_enter
    k_extra "steps"
    all_goals exact ret _ _ (by k_asm) (by k_asm)
example : True := by
  k_with "call ref" => (k_here; (try dsimp only [List.nil_append, List.cons_append, List.append_nil]); (with_reducible show wpAny _ _ (call (Value.ref 301) [Value.ref _, Value.str _ _]) _ _ _); k_dflt (first | refine' isk_c (by ktr_rel) (by ktr_rel) (by ktr_rel) (by ktr_rel) (by ktr_rel) (by ktr_rel) (by ktr_rel) (by ktr_rel) (by ktr_rel) (by ktr_rel) (by ktr_rel) ?_); k_whole; intro h' tk' F' N'; (try k_sweep))
  trivial
example : True := by
  k_with "call ref" => (k_here; (try dsimp only [List.nil_append, List.cons_append, List.append_nil]); (with_reducible show wpAny _ _ (call (Value.ref 301) [Value.ref _, Value.str _ _, Value.int _ _]) _ _ _); k_dflt (first | refine' isk0_c (by ktr_rel) (by ktr_rel) (by ktr_rel) (by ktr_rel) (by ktr_rel) (by ktr_rel) (by ktr_rel) (by ktr_rel) (by ktr_rel) (by ktr_rel) (by ktr_rel) ?_ | refine' isk1_c (by ktr_rel) (by ktr_rel) (by ktr_rel) (by ktr_rel) (by ktr_rel) (by ktr_rel) (by ktr_rel) (by ktr_rel) (by ktr_rel) (by ktr_rel) (by ktr_rel) ?_); k_whole; intro h' tk' F' N'; (try k_sweep))
  trivial
theorem iss_c {b : Bool} {y' : Str} {tk : Tok} (B : Below A₀ base outer h₀) (F : Fr h₀ L s.heap m) (X : (Mine.frag.heap_1 w.params).In h₀) (N : News h₀ L s.heap news) (T : Top p loose mean mg mb h₀) (hk : cs.kind = .function) (hdp : dp ≤ 686) (hun : un ≤ 8800)
    (R : RdIn news rdr dct tl tas n ws) (hd : (dct, RdD hs1 hs2 hs3 u1 u2 u3 tl nd pos t) ∈ news) (hb : isSg ws[pos]? y' = b)
    (ret : ∀ h' tk', Fr h₀ L h' m → News h₀ L h' news → Q (.bool b) { s with heap := h', toks := tk' }) :
    wpAny (model PySem.Challenge.rw_pc0133_01.prog w) (ktrTop dp un gd cn cs L a ccd cl outer) (call (.ref 366) [.ref rdr, .str y' tk]) Q E s := by
  revert X; k_fill; intro X
  have hrd := R.rd
  cases hw : ws[pos]? with
  | none =>
    have hv := tas_none R.len hw
    have hk1 : kdIs ws[pos]? (Str.ofString "sign") = false := by rw [hw]; rfl
    rw [hw] at hb
    dsimp only [isSg] at hb
    subst hb
    refine wpAny_call ?_
    k_dflt k_enter
    k_extra "steps"
    all_goals exact ret _ _ (by k_asm) (by k_asm)
  | some wd =>
    obtain ⟨ta, hv, ht⟩ := R.tok _ _ hw
    cases ht with
    | mk q1 q2 q3 =>
    have hk1 : kdIs ws[pos]? (Str.ofString "sign") = (wd.kd == Str.ofString "sign") := by rw [hw]; rfl
    rw [hw] at hb
    dsimp only [isSg] at hb
    generalize wd.kd = x at *
    generalize wd.txt = y at *
    subst hb
    refine wpAny_call ?_
    k_dflt k_enter
    cases hx : (x == Str.ofString "sign") with
    | false =>
      rw [hx] at hk1 ret
      k_extra "steps"
      all_goals exact ret _ _ (by k_asm) (by k_asm)
    | true =>
      rw [hx] at hk1 ret
      k_extra "steps"
      all_goals exact ret _ _ (by k_asm) (by k_asm)
example : True := by
  k_with "call ref" => (k_here; (try dsimp only [List.nil_append, List.cons_append, List.append_nil]); (with_reducible show wpAny _ _ (call (Value.ref 366) [Value.ref _, Value.str _ _]) _ _ _); k_dflt (first | refine' iss_c (by ktr_rel) (by ktr_rel) (by ktr_rel) (by ktr_rel) (by ktr_rel) (by ktr_rel) (by ktr_rel) (by ktr_rel) (by ktr_rel) (by ktr_rel) (by ktr_rel) ?_); k_whole; intro h' tk' F' N'; (try k_sweep))
  trivial
theorem take_c {ta : Addr} {g : Obj → List (Addr × Obj)} (B : Below A₀ base outer h₀) (F : Fr h₀ L s.heap m) (X : (Mine.frag.heap_1 w.params).In h₀) (N : News h₀ L s.heap news) (T : Top p loose mean mg mb h₀) (hk : cs.kind = .function) (hdp : dp ≤ 688) (hun : un ≤ 8900)
    (R : RdIn news rdr dct tl tas n ws) (hd : (dct, RdD hs1 hs2 hs3 u1 u2 u3 tl nd pos t) ∈ news) (U : UpdF dct (RdD hs1 hs2 hs3 u1 u2 u3 tl nd pos t) news g) (hv : tas[pos]? = some ta)
    (ret : ∀ h' tk' t', Fr h₀ L h' m → News h₀ L h' (g (RdD hs1 hs2 hs3 u1 u2 u3 tl nd ((pos + 1 : Nat) : Int) t')) → Q (.ref ta) { s with heap := h', toks := tk' }) :
    wpAny (model PySem.Challenge.rw_pc0133_01.prog w) (ktrTop dp un gd cn cs L a ccd cl outer) (call (.ref 293) [.ref rdr]) Q E s := by
  revert X; k_fill; intro X
  have hrd := R.rd
  refine wpAny_call ?_
  k_dflt k_enter
  k_extra "steps"
  all_goals exact ret _ _ _ (by k_asm) (by k_asm)
example : True := by
  k_with "call ref" => (k_here; (try dsimp only [List.nil_append, List.cons_append, List.append_nil]); (with_reducible show wpAny _ _ (call (Value.ref 293) [Value.ref _]) _ _ _); k_dflt (first | refine' take_c (by ktr_rel) (by ktr_rel) (by ktr_rel) (by ktr_rel) (by ktr_rel) (by ktr_rel) (by ktr_rel) (by ktr_rel) (by ktr_rel) (by ktr_rel) (by ktr_rel) (by ktr_rel) ?_); k_whole; intro h' tk' t' F' N'; (try k_sweep))
  trivial
theorem skip_yes {g : Obj → List (Addr × Obj)} {y' : Str} {tk : Tok} (B : Below A₀ base outer h₀) (F : Fr h₀ L s.heap m) (X : (Mine.frag.heap_1 w.params).In h₀) (N : News h₀ L s.heap news) (T : Top p loose mean mg mb h₀) (hk : cs.kind = .function) (hdp : dp ≤ 684) (hun : un ≤ 8700)
    (R : RdIn news rdr dct tl tas n ws) (hd : (dct, RdD hs1 hs2 hs3 u1 u2 u3 tl nd pos t) ∈ news) (U : UpdF dct (RdD hs1 hs2 hs3 u1 u2 u3 tl nd pos t) news g) (hb : isSg ws[pos]? y' = true)
    (ret : ∀ h' tk' t', Fr h₀ L h' m → News h₀ L h' (g (RdD hs1 hs2 hs3 u1 u2 u3 tl nd ((pos + 1 : Nat) : Int) t')) → Q (.bool true) { s with heap := h', toks := tk' }) :
    wpAny (model PySem.Challenge.rw_pc0133_01.prog w) (ktrTop dp un gd cn cs L a ccd cl outer) (call (.ref 373) [.ref rdr, .str y' tk]) Q E s := by
  revert X; k_fill; intro X
  have hrd := R.rd
  refine wpAny_call ?_
  k_dflt k_enter
  k_extra "steps"
  all_goals exact ret _ _ _ (by k_asm) (by k_asm)
theorem skip_no {y' : Str} {tk : Tok} (B : Below A₀ base outer h₀) (F : Fr h₀ L s.heap m) (X : (Mine.frag.heap_1 w.params).In h₀) (N : News h₀ L s.heap news) (T : Top p loose mean mg mb h₀) (hk : cs.kind = .function) (hdp : dp ≤ 684) (hun : un ≤ 8700)
    (R : RdIn news rdr dct tl tas n ws) (hd : (dct, RdD hs1 hs2 hs3 u1 u2 u3 tl nd pos t) ∈ news)  (hb : isSg ws[pos]? y' = false)
    (ret : ∀ h' tk', Fr h₀ L h' m → News h₀ L h' news → Q (.bool false) { s with heap := h', toks := tk' }) :
    wpAny (model PySem.Challenge.rw_pc0133_01.prog w) (ktrTop dp un gd cn cs L a ccd cl outer) (call (.ref 373) [.ref rdr, .str y' tk]) Q E s := by
  revert X; k_fill; intro X
  have hrd := R.rd
  refine wpAny_call ?_
  k_dflt k_enter
  k_extra "steps"
  all_goals exact ret _ _ (by k_asm) (by k_asm)
end
end Mine
end
section
open PySem PySem.W PyProof.Rows PySem.Spec PySem.Calls PySem.W.X
set_option Elab.async false
namespace Mine
set_option maxRecDepth 100000
set_option maxHeartbeats 0
/-- a call runs as well where the stack is lower -/
theorem around_le {α : Type} {M : Model} {hd : Option Value} {d d' u u' : Nat} {fr : Option (List Env)} {gd : Option (List Code)} {t : Sem α} {Q : α → Shared → Prop} {E : Value → Shared → Prop} {s : Shared}
    (h : wpAny M { handled := hd, depth := d', frames := fr, guards := none, units := u' } t Q E s) (h1 : d ≤ d') (h2 : u ≤ u') :
    wpAny M { handled := hd, depth := d, frames := fr, guards := gd, units := u } t Q E s :=
  fun Γ p hΓ => h Γ p ⟨hΓ.1, Nat.le_trans hΓ.2.1 h1, hΓ.2.2.1, fun _ hg => (by cases hg), Nat.le_trans hΓ.2.2.2.2 h2⟩
abbrev excO (dx at_ : Addr) : Obj := { cls := .ref 72, dict := some dx, data := .fields #[.ref at_, .none, .none, .none, .bool false, .none] }
abbrev sWhat : Str := ⟨⟨[nat_lit 119, nat_lit 104, nat_lit 97, nat_lit 116]⟩⟩
abbrev sAt : Str := ⟨⟨[nat_lit 97, nat_lit 116]⟩⟩
theorem sWhat_eq : sWhat = Str.ofString "what" := by decide +kernel
theorem sAt_eq : sAt = Str.ofString "at" := by decide +kernel
abbrev excD (k1 k2 : Int) (t1 t2 : Tok) (y1 y2 : Str) (x : Str) (t : Tok) (att : Addr) : Obj :=
  { cls := .type "dict", data := .dict ⟨[⟨k1, .str y1 t1, .str x t⟩, ⟨k2, .str y2 t2, .ref att⟩]⟩ 2 }
theorem exc_end {s : Shared} {x : Str} {t : Tok} {att : Addr} {Q : Value → Shared → Prop} {h' : Heap} {tk' : Nat} {dx a1 a2 e a3 : Addr} {o1 o2 o3 : Obj} {k1 k2 : Int} {t1 t2 : Tok}
    (D : Mem s.heap h' [] [(dx, excD k1 k2 t1 t2 sWhat sAt x t att), (a1, o1), (a2, o2), (e, excO dx a1), (a3, o3)])
    (exc_ret : ∀ h' tk' dx a1 o1 a2 o2 e a3 o3 k1 k2 t1 t2, Mem s.heap h' [] [(dx, excD k1 k2 t1 t2 sWhat sAt x t att), (a1, o1), (a2, o2), (e, excO dx a1), (a3, o3)] → Q (.ref e) { s with heap := h', toks := tk' }) :
    Q (.ref e) { s with heap := h', toks := tk' } := exc_ret _ _ _ _ _ _ _ _ _ _ _ _ _ _ D
section
local macro_rules | `(tactic| x_close) => `(tactic| exact exc_end (by assumption) (by assumption))
theorem exc_x (prog : Program) (w : World) (s : Shared) (x : Str) (t : Tok) (att : Addr) (outer : List Env) (Q E : Value → Shared → Prop)
    (X : (Mine.frag.heap_1 w.params).In s.heap) (hb : s.heap.get? (nat_lit 0) = some (boot_o_0 w.params))
    (exc_ret : ∀ h' tk' dx a1 o1 a2 o2 e a3 o3 k1 k2 t1 t2, Mem s.heap h' [] [(dx, excD k1 k2 t1 t2 sWhat sAt x t att), (a1, o1), (a2, o2), (e, excO dx a1), (a3, o3)] → Q (.ref e) { s with heap := h', toks := tk' }) :
    wpAny (model prog w) { handled := none, depth := 690, frames := some outer, guards := none, units := 9000 } (call (.ref 72) [.str x t, .ref att]) Q E s := by
  have h3 : s.heap.get? (nat_lit 3) = some _ := X (nat_lit 3) _ (by exact rfl)
  unfold boot_o_0 at hb
  x_run
end
section
variable {prog : Program} {w : World} {dp un : Nat} {gd : Option (List Code)} {cn : Str} {cs : Scope} {a : Addr} {ccd : Value} {cl : List (Str × Addr)} {outer : List Env} {h₀ : Heap} {L : Addr} {m : Str → Option Value}
  {news : List (Addr × Obj)} {s : Shared} {Q E : Value → Shared → Prop}
theorem mem_keep {h₁ h' : Heap} {ns : List (Addr × Obj)} (D : Mem h₁ h' [] ns) : ∀ b o, h₁.get? b = some o → h'.get? b = some o := fun b o e => D.keep b o e (by show (_ || true) = true; rw [Bool.or_true])
theorem gf_c {x : Str} {t : Tok} {att : Addr} (F : Fr h₀ L s.heap m) (X : (Mine.frag.heap_1 w.params).In h₀) (N : News h₀ L s.heap news) (hb : h₀.get? (nat_lit 0) = some (boot_o_0 w.params)) (hdp : dp ≤ 690) (hun : un ≤ 9000)
    (ret : ∀ h' tk' dx e a3 k1 k2 t1 t2, Fr h₀ L h' m → News h₀ L h' ((e, excO dx a3) :: (dx, dictOf [⟨k1, .str (Str.ofString "what") t1, .str x t⟩, ⟨k2, .str (Str.ofString "at") t2, .ref att⟩] 2) :: news) → Q (.ref e) { s with heap := h', toks := tk' }) :
    wpAny (model prog w) (PySem.W.ktrTop dp un gd cn cs L a ccd cl outer) (call (.ref 72) [.str x t, .ref att]) Q E s := by
  refine around_le (exc_x prog w s x t att _ Q E (X.keeps F.keep) (F.keep _ _ hb) fun h' tk' dx a1 o1 a2 o2 e a3 o3 k1 k2 t1 t2 D => ?_) hdp hun
  have kp := mem_keep D
  have F' : Fr h₀ L h' m := F.keeps kp
  have size_le : ∀ b, s.heap.get? b = none → h₀.get? b = none := fun b hn => by
    cases q : h₀.get? b with
    | none => rfl
    | some o => have := F.keep b o q; rw [hn] at this; cases this
  have neL : ∀ b, s.heap.get? b = none → b ≠ L := fun b hn q => by
    obtain ⟨oL, _, _, hL, _⟩ := F.ns
    rw [q, hL] at hn; cases hn
  have me := D.nw (e, excO dx a1) (by simp)
  have md := D.nw (dx, excD k1 k2 t1 t2 sWhat sAt x t att) (by simp)
  have N' : News h₀ L h' ((e, excO dx a1) :: (dx, excD k1 k2 t1 t2 sWhat sAt x t att) :: news) := by
    intro p hp
    rcases List.mem_cons.mp hp with rfl | hp
    · exact ⟨me.1, neL _ me.2, size_le _ me.2⟩
    · rcases List.mem_cons.mp hp with rfl | hp
      · exact ⟨md.1, neL _ md.2, size_le _ md.2⟩
      · exact ⟨kp _ _ (N p hp).1, (N p hp).2⟩
  rw [sWhat_eq, sAt_eq] at N'
  exact ret h' tk' dx e a1 k1 k2 t1 t2 F' N'
end
end Mine
end
section
open PySem PySem.W PyProof.Rows PySem.Spec PySem.Calls
set_option Elab.async false
namespace Mine
set_option maxRecDepth 100000
/-- as the library's TracedAtW, and the dict of the object is told too -/
inductive TrD (h base : Heap) (e dx : Addr) (fl : Value) : Prop
  | mk (oe : Obj) (vs : _) (T : Addr) (oT : Obj) (ts : _) (c0 : h.get? e = some oe) (c1 : (oe.cls = .ref 72 ∧ oe.dict = some dx)) (c2 : oe.data = .fields vs) (c3 : vs[1]? = some (.ref T)) (c4 : base.get? T = none) (c5 : T ≠ e) (c6 : h.get? T = some oT) (c7 : oT.data = .fields ts) (c8 : ts[3]? = some fl) : TrD h base e dx fl
def FlyD (base : Heap) (l : List Env) (e dx : Addr) (fl : Value) (h : Heap) : Prop := base.StaysIn h ∧ base.get? e = none ∧ h.FunFrames base l ∧ TrD h base e dx fl
section
variable {M : Model} {A : Around} {E : Value → Shared → Prop} {s : Shared}
/-- a frame's entry is laid onto the exception -/
theorem entryD {base : Heap} {env : Env} {outer : List Env} {L e dx : Addr} {oe : Obj} {vs : Array Value} {head : Value} {hadNext : Bool} {Q : Unit → Shared → Prop}
    (hfr : A.frames = some (env :: outer)) (hl : s.heap.FunFrames base (env :: outer)) (hf : env.frame = some L)
    (he : s.heap.get? e = some oe) (hc : oe.cls = .ref 72 ∧ oe.dict = some dx) (hkb : base.StaysIn s.heap) (hen : base.get? e = none) (hd : oe.data = .fields vs) (hsz : 1 < vs.size)
    (h : ∀ h', FlyD base (env :: outer) e dx (rawInt L) h' → s.heap.UpToSlots h' → Q () { s with heap := h' }) :
    wpAny M A (do let a ← frameOf env; let pl ← entryPlaceOf L hadNext; let b ← EntryCells.newEntry head a .none (rawInt L) .none pl; setField (.ref e) 1 b) Q E s := by
  have hene : e ∉ (env :: outer).filterMap (·.frame) := fun hm => by
    obtain ⟨_, o, ho, hnf⟩ := hl.mem hm
    rw [he] at ho; injection ho with ho; subst ho; exact hnf vs hd
  refine wpAny_bind (wpAny_frameOf_fun hfr hl hf fun h₁ hs₁ => ?_)
  refine wpAny_bind (wpAny_entryPlaceOf fun pl hpl => ?_)
  unfold EntryCells.newEntry newFields
  refine wpAny_bind (wpAny_newObj_type ?_ (hpl.sizeOk5 _ _ _ _ _))
  have he₁ : h₁.get? e = some oe := (hs₁.2.1 e hene).trans he
  have kb₁ : base.StaysIn h₁ := fun b o hbo => (hs₁.2.1 b fun hm => by rw [(hl.mem hm).1] at hbo; cases hbo).trans (hkb b o hbo)
  have he₂ := Heap.get?_push_of_some (h := h₁) { cls := .type "traceback", dict := none, data := .fields ([head, .ref L, .none, rawInt L, .none] ++ (if pl.isEmpty then List.replicate 6 Value.none else pl)).toArray } he₁
  refine wpAny_setField he₂ hd hsz ?_
  have hTe : h₁.objs.size ≠ e := Nat.ne_of_gt (Heap.lt_size he₁)
  have hd₃ := Obj.data_mapFields hd (·.setIfInBounds 1 (Value.ref h₁.objs.size))
  have he₃ := Heap.get?_update_self (Obj.mapFields (·.setIfInBounds 1 (Value.ref h₁.objs.size))) he₂ (Obj.isFreed_of_fields hd₃)
  have hT₃ := (Heap.get?_update_other (h₁.push { cls := .type "traceback", dict := none, data := .fields ([head, .ref L, .none, rawInt L, .none] ++ (if pl.isEmpty then List.replicate 6 Value.none else pl)).toArray })
    (Obj.mapFields (·.setIfInBounds 1 (Value.ref h₁.objs.size))) (Ne.symm hTe)).trans (Heap.get?_push_size h₁ rfl)
  have keep : ∀ b o, b ≠ e → h₁.get? b = some o →
      ((h₁.push { cls := .type "traceback", dict := none, data := .fields ([head, .ref L, .none, rawInt L, .none] ++ (if pl.isEmpty then List.replicate 6 Value.none else pl)).toArray }).update e (Obj.mapFields (·.setIfInBounds 1 (Value.ref h₁.objs.size)))).get? b = some o :=
    fun b o hbe hb => by
      rw [Heap.get?_update_other _ _ (Ne.symm hbe)]
      exact Heap.get?_push_of_some _ hb
  have noRecord : ∀ b o, s.heap.get? b = some o → (∀ vs, o.data ≠ .fields vs) → b ≠ e := fun b o hb hnf q => by
    rw [q, he] at hb; injection hb with hb; subst hb; exact hnf vs hd
  refine h _ ?_ ?_
  · refine ⟨fun b o hbo => keep b o (fun q => by rw [q, hen] at hbo; cases hbo) (kb₁ b o hbo), hen, hl.of_keeps fun b o hb hnf => ?_, ?_⟩
    · obtain ⟨sl, hs⟩ := hs₁.2.2 b o hb
      exact ⟨_, keep b _ (noRecord b o hb hnf) hs, rfl⟩
    · have hdi : (Obj.mapFields (·.setIfInBounds 1 (Value.ref h₁.objs.size)) oe).dict = some dx := by
        rw [← hc.2]; obtain ⟨c9, d9, dt9, sl9⟩ := oe; cases dt9 <;> rfl
      exact ⟨_, _, h₁.objs.size, _, _, he₃, ⟨by rw [Obj.cls_mapFields]; exact hc.1, hdi⟩, hd₃, by simp [hsz], kb₁.fresh, hTe, hT₃, rfl, by first | (simp; done) | (rcases hpl with rfl | ⟨_, _, _, _, _, _, _, rfl⟩ <;> simp)⟩
  · intro b o hb hnf
    obtain ⟨sl, hs⟩ := hs₁.2.2 b o hb
    exact ⟨sl, keep b _ (noRecord b o hb hnf) hs⟩
theorem flightD {base : Heap} {l : List Env} {e dx : Addr} {fl : Value} {Q : Unit → Shared → Prop} (hh : FlyD base l e dx fl s.heap)
    (h : ∀ h', FlyD base l e dx .none h' → s.heap.UpToSlots h' → Q () { s with heap := h' }) : wpAny M A (setFlight (.ref e) none) Q E s := by
  obtain ⟨hkb, hen, hl, oe, vs, T, oT, ts, he, hcls, hd, h1, hnT, hTe, hT, hdT, h3⟩ := hh
  have hsz3 : 3 < ts.size := (Array.getElem?_eq_some_iff.mp h3).1
  have other : ∀ b, b ≠ T → (s.heap.update T (Obj.mapFields (·.setIfInBounds 3 ((none : Option Addr).elim Value.none fun f => rawInt f)))).get? b = s.heap.get? b :=
    fun b hb => Heap.get?_update_other _ _ (Ne.symm hb)
  have noRecord : ∀ b o, s.heap.get? b = some o → (∀ vs, o.data ≠ .fields vs) → b ≠ T := fun b o hb hnf q => by
    rw [q, hT] at hb; injection hb with hb; subst hb; exact hnf ts hdT
  unfold setFlight
  refine wpAny_bind (wpAny_field he hd h1 ?_)
  rw [if_pos (show (Value.ref T != Value.none) = true from by simp)]
  refine wpAny_setField hT hdT hsz3 (h _ ⟨fun b o hbo => (other b fun q => by rw [q, hnT] at hbo; cases hbo).trans (hkb b o hbo), hen,
    hl.of_keeps fun b o hb hnf => ⟨o, (other b (noRecord b o hb hnf)).trans hb, rfl⟩, ?_⟩ fun b o hb hnf => ⟨o.slots, (other b (noRecord b o hb hnf)).trans hb⟩)
  exact ⟨oe, vs, T, _, _, (other e (Ne.symm hTe)).trans he, hcls, hd, h1, hnT, hTe, Heap.get?_update_self _ hT (Obj.isFreed_of_fields (Obj.data_mapFields hdT _)), Obj.data_mapFields hdT _, by simp [hsz3]⟩
/-- the frame that raises notes itself -/
theorem noteD_first {base : Heap} {env : Env} {outer : List Env} {L e dx : Addr} {at_ : Value} {Q : Unit → Shared → Prop}
    (hfr : A.frames = some (env :: outer)) (hl : s.heap.FunFrames base (env :: outer)) (hf : env.frame = some L)
    (he : s.heap.get? e = some { cls := .ref 72, dict := some dx, data := .fields #[at_, .none, .none, .none, .bool false, .none] }) (hkb : base.StaysIn s.heap) (hen : base.get? e = none)
    (h : ∀ h', FlyD base (env :: outer) e dx (rawInt L) h' → s.heap.UpToSlots h' → Q () { s with heap := h' }) : wpAny M A (noteFrame (.ref e) env) Q E s := by
  unfold noteFrame
  simp only [hf]
  refine wpAny_bind (wpAny_field he rfl rfl ?_)
  rw [if_neg (by simp)]
  exact entryD hfr hl hf he ⟨rfl, rfl⟩ hkb hen rfl (by show 1 < 6; decide) h
/-- the next frame notes itself -/
theorem noteD_next {base : Heap} {env : Env} {outer : List Env} {L e dx : Addr} {Q : Unit → Shared → Prop}
    (hfr : A.frames = some (env :: outer)) (hf : env.frame = some L) (hh : FlyD base (env :: outer) e dx .none s.heap)
    (h : ∀ h', FlyD base (env :: outer) e dx (rawInt L) h' → s.heap.UpToSlots h' → Q () { s with heap := h' }) : wpAny M A (noteFrame (.ref e) env) Q E s := by
  obtain ⟨hkb, hen, hl, oe, vs, T, oT, ts, he, hc, hd, h1, hnT, hTe, hT, hdT, h3⟩ := hh
  unfold noteFrame
  simp only [hf]
  refine wpAny_bind (wpAny_field he hd h1 ?_)
  rw [if_pos (show (Value.ref T != Value.none) = true from by simp)]
  refine wpAny_bind (wpAny_field hT hdT h3 ?_)
  rw [if_neg (show ¬ ((Value.none == rawInt L) = true) from by simp [rawInt])]
  refine wpAny_bind (wpAny_setField hT hdT (Array.getElem?_eq_some_iff.mp h3).1 ?_)
  have other : ∀ b, b ≠ T → (s.heap.update T (Obj.mapFields (·.setIfInBounds 3 Value.none))).get? b = s.heap.get? b := fun b hb => Heap.get?_update_other _ _ (Ne.symm hb)
  have noRecord : ∀ b o, s.heap.get? b = some o → (∀ vs, o.data ≠ .fields vs) → b ≠ T := fun b o hb hnf q => by
    rw [q, hT] at hb; injection hb with hb; subst hb; exact hnf ts hdT
  refine entryD hfr (hl.of_keeps fun b o hb hnf => ⟨o, (other b (noRecord b o hb hnf)).trans hb, rfl⟩) hf ((other e (Ne.symm hTe)).trans he) hc
    (fun b o hbo => (other b fun q => by rw [q, hnT] at hbo; cases hbo).trans (hkb b o hbo)) hen hd (Array.getElem?_eq_some_iff.mp h1).1
    fun h' x1 x2 => h h' x1 fun b o hb hnf => x2 b o ((other b (noRecord b o hb hnf)).trans hb) hnf
theorem noteD_again {base : Heap} {env : Env} {l : List Env} {L e dx : Addr} {Q : Unit → Shared → Prop} (hf : env.frame = some L) (hh : FlyD base l e dx (rawInt L) s.heap) (h : Q () s) :
    wpAny M A (noteFrame (.ref e) env) Q E s := by
  obtain ⟨_, _, _, oe, vs, T, oT, ts, he, hcls, hd, h1, hnT, hTe, hT, hdT, h3⟩ := hh
  unfold noteFrame
  simp only [hf]
  refine wpAny_bind (wpAny_field he hd h1 ?_)
  rw [if_pos (show (Value.ref T != Value.none) = true from by simp)]
  refine wpAny_bind (wpAny_field hT hdT h3 ?_)
  rw [if_pos (show (rawInt L == rawInt L) = true from by simp)]
  exact wpAny_pure h
theorem FlyD.drop {base h : Heap} {env : Env} {l : List Env} {e dx : Addr} {fl : Value} (x : FlyD base (env :: l) e dx fl h) : FlyD base l e dx fl h :=
  let ⟨a, b, ⟨_, _, c⟩, d⟩ := x; ⟨a, b, c, d⟩
/-- leaving -/
theorem leavesD_first {base : Heap} {env : Env} {outer : List Env} {L e dx : Addr} {at_ : Value} {Q : Unit → Shared → Prop}
    (hfr : A.frames = some (env :: outer)) (hl : s.heap.FunFrames base (env :: outer)) (hf : env.frame = some L)
    (he : s.heap.get? e = some { cls := .ref 72, dict := some dx, data := .fields #[at_, .none, .none, .none, .bool false, .none] }) (hkb : base.StaysIn s.heap) (hen : base.get? e = none)
    (h : ∀ h', FlyD base outer e dx .none h' → s.heap.UpToSlots h' → Q () { s with heap := h' }) : wpAny M A (leaving env (.ref e)) Q E s := by
  unfold leaving
  refine wpAny_bind (noteD_first hfr hl hf he hkb hen fun h₁ x1 u1 => ?_)
  exact flightD x1 fun h₂ x2 u2 => h h₂ x2.drop (u1.trans u2)
theorem leavesD_next {base : Heap} {env : Env} {outer : List Env} {L e dx : Addr} {Q : Unit → Shared → Prop}
    (hfr : A.frames = some (env :: outer)) (hf : env.frame = some L) (hh : FlyD base (env :: outer) e dx .none s.heap)
    (h : ∀ h', FlyD base outer e dx .none h' → s.heap.UpToSlots h' → Q () { s with heap := h' }) : wpAny M A (leaving env (.ref e)) Q E s := by
  unfold leaving
  refine wpAny_bind (noteD_next hfr hf hh fun h₁ x1 u1 => ?_)
  exact flightD x1 fun h₂ x2 u2 => h h₂ x2.drop (u1.trans u2)
theorem leavesD_again {base : Heap} {env : Env} {outer : List Env} {L e dx : Addr} {Q : Unit → Shared → Prop}
    (hf : env.frame = some L) (hh : FlyD base (env :: outer) e dx (rawInt L) s.heap)
    (h : ∀ h', FlyD base outer e dx .none h' → s.heap.UpToSlots h' → Q () { s with heap := h' }) : wpAny M A (leaving env (.ref e)) Q E s := by
  unfold leaving
  refine wpAny_bind (noteD_again hf hh ?_)
  exact flightD hh fun h₂ x2 u2 => h h₂ x2.drop u2
end
end Mine
end
section
open PySem PySem.W PyProof.Rows PySem.Spec PySem.Calls
set_option Elab.async false
namespace Mine
set_option maxRecDepth 100000
def RaisedD (base g : Heap) (l : List Env) (e dx : Addr) (news : List (Addr × Obj)) (h : Heap) : Prop :=
  ∃ B, base.StaysIn B ∧ (∀ b o, g.get? b = some o → b ∉ l.filterMap (·.frame) → B.get? b = some o) ∧ (∀ q ∈ news, B.get? q.1 = some q.2 ∧ g.get? q.1 = none ∧ base.get? q.1 = none) ∧ FlyD B l e dx .none h
/-- objects that stay while an exception flies -/
def NoX (o : Obj) : Prop := o.cls ≠ .ref 72 ∨ ∃ v, o.data = .cell v
def Kept (keep news : List (Addr × Obj)) : Prop := ∀ z ∈ keep, z ∈ news ∧ NoX z.2
theorem Kept.mono {keep news news' : List (Addr × Obj)} (K : Kept keep news) (hs : ∀ z ∈ news, z ∈ news') : Kept keep news' := fun z hz => ⟨hs z (K z hz).1, (K z hz).2⟩
theorem fr_self {g h : Heap} {L : Addr} {m : Str → Option Value} (F : Fr g L h m) : g.get? L = none := Heap.get?_none_of_le F.above
/-- what a refused reading leaves behind: the exception in flight, its place told -/
inductive ErrIn (base : Heap) (l : List Env) (e : Addr) (q : Nat) (keep : List (Addr × Obj)) (g h : Heap) : Prop
  | mk (dx : Addr) (k1 k2 : Int) (t1 t2 t t3 t4 : Tok) (x : Str) (att : Addr) (n : Nat) (c0 : RaisedD base g l e dx ((dx, dictOf [⟨k1, .str (Str.ofString "what") t1, .str x t⟩, ⟨k2, .str (Str.ofString "at") t2, .ref att⟩] 2) :: (att, tupO [.int 1 t3, .int ((q : Int) + 1) t4] n) :: keep) h) : ErrIn base l e q keep g h
section
variable {M : Model} {A : Around} {E : Value → Shared → Prop} {s' : Shared} {base g g₂ : Heap} {outer : List Env} {L a e dx ax att : Addr} {m : Str → Option Value} {name : Str} {scope : Scope} {cd : Value} {Q : Unit → Shared → Prop} {news keep : List (Addr × Obj)} {env : Env}
theorem leaveG_first (K : Below A base outer g) (K' : Below (A.deeper env) base (env :: outer) s'.heap) (hfr : env.frame = some L) (F : Fr g L s'.heap m) (N : News g L s'.heap ((e, excO dx ax) :: news)) (hne : ∀ p ∈ news, p.1 ≠ e)
    (hQ : ∀ h', RaisedD base g outer e dx news h' → g.UpToSlots h' → Q () { s' with heap := h' }) :
    wpAny M (A.deeper env) (leaving env (.ref e)) Q E s' := by
  have hin : ∀ en ∈ (env :: outer), ∀ b, en.frame = some b → b ∈ e :: (env :: outer).filterMap (·.frame) := fun en he b hb => .tail _ (List.mem_filterMap.mpr ⟨en, he, hb⟩)
  have me := N (e, excO dx ax) (.head _)
  have be : base.get? e = none := fresh_of_stays K.stays me.2.2
  have st : base.StaysIn (hideAll s'.heap (e :: (env :: outer).filterMap (·.frame))) := fun b o q => hideAll_get _ (K'.stays b o q) fun hm => by
    rcases List.mem_cons.mp hm with rfl | hm
    · rw [be] at q; cases q
    · rw [(K'.frames.mem hm).1] at q; cases q
  have hg : ∀ b o, g.get? b = some o → b ∉ outer.filterMap (·.frame) → (hideAll s'.heap (e :: (env :: outer).filterMap (·.frame))).get? b = some o := fun b o q hb => hideAll_get _ (F.keep b o q) fun hm => by
    rcases List.mem_cons.mp hm with rfl | hm
    · rw [me.2.2] at q; cases q
    · obtain ⟨en, he, hf⟩ := List.mem_filterMap.mp hm
      rcases List.mem_cons.mp he with rfl | he
      · rw [hfr] at hf; injection hf with hf; rw [← hf, fr_self F] at q; cases q
      · exact hb (List.mem_filterMap.mpr ⟨en, he, hf⟩)
  have hl : ∀ q ∈ news, (hideAll s'.heap (e :: (env :: outer).filterMap (·.frame))).get? q.1 = some q.2 ∧ g.get? q.1 = none ∧ base.get? q.1 = none := fun q hq => by
    have mq := N q (.tail _ hq)
    refine ⟨hideAll_get _ mq.1 fun hm => ?_, mq.2.2, fresh_of_stays K.stays mq.2.2⟩
    rcases List.mem_cons.mp hm with hm | hm
    · exact hne q hq hm
    · obtain ⟨en, he, hf⟩ := List.mem_filterMap.mp hm
      rcases List.mem_cons.mp he with rfl | he
      · rw [hfr] at hf; exact mq.2.1 (Option.some.inj hf).symm
      · obtain ⟨o, ho, _⟩ := (K.frames.mem (List.mem_filterMap.mpr ⟨en, he, hf⟩)).2
        rw [mq.2.2] at ho; cases ho
  have hen : (hideAll s'.heap (e :: (env :: outer).filterMap (·.frame))).get? e = none := hideAll_none _ (.head _)
  exact leavesD_first K'.stack (funFrames_hide K'.frames hin) hfr me.1 (fun b o hb => of_hideAll _ hb) hen fun h' x u =>
    hQ h' ⟨_, st, hg, hl, x⟩ ((Heap.UpToSlots.of_keeps F.keep).trans u)
theorem leaveG_next (K : Below A base outer g) (hfr : env.frame = some L) (F : Fr g L g₂ m) (R : RaisedD base g₂ (env :: outer) e dx news s'.heap) (hsm : g₂.UpToSlots s'.heap)
    (hQ : ∀ h', RaisedD base g outer e dx news h' → g.UpToSlots h' → Q () { s' with heap := h' }) :
    wpAny M (A.deeper env) (leaving env (.ref e)) Q E s' := by
  obtain ⟨B, hB, hg, hl, hfl⟩ := R
  refine leavesD_next (Around.frames_deeper K.stack) hfr hfl fun h' x1 x2 => hQ h' ⟨B, hB, fun b o q hb => hg b o (F.keep b o q) fun hm => ?_, fun q hq => ⟨(hl q hq).1, ?_, (hl q hq).2.2⟩, x1⟩ ((Heap.UpToSlots.of_keeps F.keep).trans (hsm.trans x2))
  · obtain ⟨en, he, hf⟩ := List.mem_filterMap.mp hm
    rcases List.mem_cons.mp he with rfl | he
    · rw [hfr] at hf; injection hf with hf; rw [← hf, fr_self F] at q; cases q
    · exact hb (List.mem_filterMap.mpr ⟨en, he, hf⟩)
  · cases e : g.get? q.1 with
    | none => rfl
    | some o => have := F.keep _ _ e; rw [(hl q hq).2.1] at this; cases this
theorem errG_first {q : Nat} {k1 k2 : Int} {t1 t2 t t3 t4 : Tok} {x : Str} {n : Nat} (K : Below A base outer g) (K' : Below (A.deeper env) base (env :: outer) s'.heap) (hfr : env.frame = some L) (F : Fr g L s'.heap m) (N : News g L s'.heap news) (me : (e, excO dx ax) ∈ news)
    (md : (dx, dictOf [⟨k1, .str (Str.ofString "what") t1, .str x t⟩, ⟨k2, .str (Str.ofString "at") t2, .ref att⟩] 2) ∈ news) (mt : (att, tupO [.int 1 t3, .int ((q : Int) + 1) t4] n) ∈ news) (kp : Kept keep news)
    (hQ : ∀ h', ErrIn base outer e q keep g h' → g.UpToSlots h' → Q () { s' with heap := h' }) :
    wpAny M (A.deeper env) (leaving env (.ref e)) Q E s' := by
  have ne {p : Addr × Obj} (hp : p ∈ news) (hc : NoX p.2) : p.1 ≠ e := fun z => by
    have q1 := N.get me; have q2 := N.get hp; rw [z, q1] at q2; injection q2 with q2; rw [← q2] at hc
    rcases hc with hc | ⟨v, hc⟩
    · exact hc rfl
    · cases hc
  refine leaveG_first (news := (dx, dictOf [⟨k1, .str (Str.ofString "what") t1, .str x t⟩, ⟨k2, .str (Str.ofString "at") t2, .ref att⟩] 2) :: (att, tupO [.int 1 t3, .int ((q : Int) + 1) t4] n) :: keep) K K' hfr F (ax := ax) (dx := dx) ?_ ?_ (fun h' r u => hQ h' ⟨dx, k1, k2, t1, t2, t, t3, t4, x, att, n, r⟩ u)
  · intro p hp
    simp only [List.mem_cons] at hp
    rcases hp with rfl | rfl | rfl | hp
    · exact N _ me
    · exact N _ md
    · exact N _ mt
    · exact N _ (kp p hp).1
  · intro p hp
    simp only [List.mem_cons] at hp
    rcases hp with rfl | rfl | hp
    · exact ne md (.inl fun z => by cases z)
    · exact ne mt (.inl fun z => by cases z)
    · exact ne (kp p hp).1 (kp p hp).2
theorem errG_next {q : Nat} (K : Below A base outer g) (hfr : env.frame = some L) (F : Fr g L g₂ m) (R : ErrIn base (env :: outer) e q keep g₂ s'.heap) (hsm : g₂.UpToSlots s'.heap)
    (hQ : ∀ h', ErrIn base outer e q keep g h' → g.UpToSlots h' → Q () { s' with heap := h' }) :
    wpAny M (A.deeper env) (leaving env (.ref e)) Q E s' := by
  obtain ⟨dx, k1, k2, t1, t2, t, t3, t4, x, att, n, r⟩ := R
  exact leaveG_next K hfr F r hsm fun h' r u => hQ h' ⟨dx, k1, k2, t1, t2, t, t3, t4, x, att, n, r⟩ u
theorem below_C {h : Heap} (K : Below A base outer g) (F : Fr g L h m) (hk : scope.kind = .function := by rfl) : Below (A.deeper (envOfC name scope L a cd)) base (envOfC name scope L a cd :: outer) h := by
  have hnew : base.get? L = none := by
    cases hq : base.get? L with
    | none => rfl
    | some o => exact absurd (Nat.lt_of_lt_of_le (Heap.lt_size (K.stays L o hq)) F.above) (Nat.lt_irrefl _)
  refine ⟨Around.frames_deeper K.stack, fun b o e => F.keep b o (K.stays b o e), ?_⟩
  exact .cons (by show scope.kind ≠ .module; rw [hk]; decide) rfl F.ns hnew (K.frames.of_keeps fun b o e _ => ⟨o, F.keep b o e, rfl⟩)
theorem err_first {q : Nat} {k1 k2 : Int} {t1 t2 t t3 t4 : Tok} {x : Str} {n : Nat} (K : Below A base outer g) (F : Fr g L s'.heap m) (N : News g L s'.heap news) (me : (e, excO dx ax) ∈ news)
    (md : (dx, dictOf [⟨k1, .str (Str.ofString "what") t1, .str x t⟩, ⟨k2, .str (Str.ofString "at") t2, .ref att⟩] 2) ∈ news) (mt : (att, tupO [.int 1 t3, .int ((q : Int) + 1) t4] n) ∈ news) (kp : Kept keep news)
    (hQ : ∀ h', ErrIn base outer e q keep g h' → g.UpToSlots h' → Q () { s' with heap := h' }) (hk : scope.kind = .function := by rfl) :
    wpAny M (A.deeper (envOf name scope L a cd)) (leaving (envOf name scope L a cd) (.ref e)) Q E s' := errG_first K (K.push F hk) rfl F N me md mt kp hQ
theorem err_next {q : Nat} (K : Below A base outer g) (F : Fr g L g₂ m) (R : ErrIn base (envOf name scope L a cd :: outer) e q keep g₂ s'.heap) (hsm : g₂.UpToSlots s'.heap)
    (hQ : ∀ h', ErrIn base outer e q keep g h' → g.UpToSlots h' → Q () { s' with heap := h' }) :
    wpAny M (A.deeper (envOf name scope L a cd)) (leaving (envOf name scope L a cd) (.ref e)) Q E s' := errG_next K rfl F R hsm hQ
theorem err_firstC {q : Nat} {k1 k2 : Int} {t1 t2 t t3 t4 : Tok} {x : Str} {n : Nat} (K : Below A base outer g) (F : Fr g L s'.heap m) (N : News g L s'.heap news) (me : (e, excO dx ax) ∈ news)
    (md : (dx, dictOf [⟨k1, .str (Str.ofString "what") t1, .str x t⟩, ⟨k2, .str (Str.ofString "at") t2, .ref att⟩] 2) ∈ news) (mt : (att, tupO [.int 1 t3, .int ((q : Int) + 1) t4] n) ∈ news) (kp : Kept keep news)
    (hQ : ∀ h', ErrIn base outer e q keep g h' → g.UpToSlots h' → Q () { s' with heap := h' }) (hk : scope.kind = .function := by rfl) :
    wpAny M (A.deeper (envOfC name scope L a cd)) (leaving (envOfC name scope L a cd) (.ref e)) Q E s' := errG_first K (below_C K F hk) rfl F N me md mt kp hQ
theorem err_nextC {q : Nat} (K : Below A base outer g) (F : Fr g L g₂ m) (R : ErrIn base (envOfC name scope L a cd :: outer) e q keep g₂ s'.heap) (hsm : g₂.UpToSlots s'.heap)
    (hQ : ∀ h', ErrIn base outer e q keep g h' → g.UpToSlots h' → Q () { s' with heap := h' }) :
    wpAny M (A.deeper (envOfC name scope L a cd)) (leaving (envOfC name scope L a cd) (.ref e)) Q E s' := errG_next K rfl F R hsm hQ
end
section
variable {env : Env} {A : Around} {E : Value → Shared → Prop} {M : Model}
variable {nm q : Str} {C N : Addr} {bs bm : List Value} {hdct : Bool} {sn : List Str} {sub : List Value} {ab : Bool} {col : Option Bool} {dd : Option Addr} {k0 k1 k2 k3 k5 : Option Value} {newId : String}
theorem raiseStmt_own {s : Shared} {x : Sem Value} {Q : Flow → Shared → Prop} (hbase : bm.contains (.type "BaseException") = true) (hh : A.handled = none)
    (h : wpAny M A x (fun v s₁ => ∃ e d t, v = .ref e ∧ s₁.heap.get? C = some (excClassObj nm q C N bs bm hdct sn sub ab col dd k0 k1 k2 k3 k5 newId) ∧
      s₁.heap.get? e = some { cls := .ref C, dict := d, data := .fields #[.ref t, .none, .none, .none, .bool false, .none] } ∧ E (.ref e) s₁) E s) :
    wpAny M A (raiseStmt env (some x) none) Q E s := by
  have hcB : (Value.ref C :: bm).contains (.type "BaseException") = true := by rw [List.contains_cons, hbase, Bool.or_true]
  unfold raiseStmt
  refine wpAny_bind (wpAny_mono h (fun v s₁ h₁ => ?_) fun _ _ x => x)
  obtain ⟨e, d, t, rfl, hC, he, hE⟩ := h₁
  obtain ⟨hp, g, d', tk, os⟩ := s₁
  repeat (first | with_reducible refine wpAny_loadPart_at he ?_ | with_reducible refine wpAny_loadPart_at hC ?_ | (with_reducible refine wpAny_isSubtype_exc hC ?_; rw [hcB]) | wp_step)
  exact wpAny_raiseNew_none hh hE
end
end Mine
end
section
open PySem PySem.W PyProof.Rows PySem.Spec PySem.Calls
set_option Elab.async false
example : True := by k_with_none; trivial
example : True := by
  k_with "fold" => (refine folds ?_; intro qk ek)
  k_with "at0" => (with_reducible show At _ _ _ _ (.Name _ _) _ _ _); exact at_L (by rfl) (by rfl) (by decide) (by k_asm) (Eq.refl (some _))
  k_with "atF" => k_dflt first | k_extra "at0" | ((with_reducible show At _ _ _ _ (.Name _ _) _ _ _); exact at_K (by rfl) (by rfl) (by decide) (by k_asm) (by k_asm) (by k_is) (by k_asm)) | fail
  k_with "atB" => k_dflt first | ((with_reducible show At _ _ _ _ (.Name _ _) _ _ _); exact at_B (by rfl) (by rfl) (by decide) (by k_asm) (by k_asm) (by k_is) (by boot_fast) (by decide) (by k_asm)) | fail
  k_with "at" => k_dflt first | ((with_reducible show At _ _ _ _ (.Constant _ _ _) _ _ _); first | exact at_S | exact at_I | exact at_N) | k_extra "at0" | ((with_reducible show At _ _ _ _ (.Attribute (.Name _ _) _ _) _ _ _); exact at_attr (by k_asm) (by k_asm) (by k_extra "at0") (by k_inst) (by k_get) (by k_is) (by k_is) (by k_is) (by k_is) (by first | exact rfl | k_handed)) | ((with_reducible show At _ _ _ _ (.BinOp _ .Add _ _) _ _ _); exact at_add (by k_extra "at") (by k_extra "at")) | k_extra "atF" | fail
  k_with "spl" => k_dflt first | exact spl0 | ((with_reducible show Spl _ _ _ _ [_] _ _ _); exact spl1 (by k_extra "at")) | ((with_reducible show Spl _ _ _ _ [_, _] _ _ _); exact spl2 (by k_extra "at") (by k_extra "at")) | ((with_reducible show Spl _ _ _ _ (_ :: _) _ _ _); exact splC (by k_extra "at") (by k_extra "spl")) | fail
  k_with "eval Call Attribute" => with_reducible (k_here; show wpAny _ _ (eval (.Call (.Attribute _ _ _) _ [] _) _) _ _ _; first | refine mcall (by k_extra "spl") (by k_dflt exact rfl) (by k_dflt k_asm) (by k_dflt k_asm) (by k_extra "at") (by k_dflt k_inst) (by k_get) (by k_is) (by k_is) (by k_is) (by k_is) (by k_dflt exact rfl) ?_ | fail)
  k_with "eval Call" => first | with_reducible (k_here; show wpAny _ _ (eval (.Call (.Name _ _) _ [] _) _) _ _ _; first | refine fcall (by k_extra "spl") (by k_dflt exact rfl) (by k_dflt k_asm) (by k_dflt k_asm) (by k_extra "atF") (by k_is) (by k_dflt exact rfl) ?_ | ((first | show wpAny _ _ (eval (.Call (.Name (Str.ofString "len") _) _ _ _) _) _ _ _ | show wpAny _ _ (eval (.Call (.Name (Str.ofString "min") _) _ _ _) _) _ _ _); refine bcall (by k_extra "spl") (by k_extra "atB") (by k_dflt exact rfl) ?_) | fail) | (k_here; k_dflt (refine Call_ ?_)) | fail
  k_with "spliced" => first | with_reducible (k_here; first | refine spl_use (by k_extra "spl") ?_ | fail) | (k_dflt (first | refine spliced_more ?_ | refine spliced_none ?_)) | fail
  k_with "eval Subscript" => with_reducible (k_here; show wpAny _ _ (eval (.Subscript _ _ _) _) _ _ _; first | refine sub_at (by k_extra "at") (by k_extra "at") ?_ | fail)
  k_with "eval BinOp" => with_reducible (k_here; show wpAny _ _ (eval (.BinOp _ _ _ _) _) _ _ _; first | refine at_use (by k_extra "at") ?_ | refine bin_at (by k_extra "at") (by k_extra "at") ?_ | fail)
  k_with "isTrue Compare" => with_reducible (k_here; show wpAny _ _ (PySem.isTrue (.Compare _ [_] [_] _) _ _) _ _ _; first | refine cmpT_at (by k_dflt rfl) (by k_extra "at") (by k_extra "at") ?_ | refine cmpT_atL (by k_dflt rfl) (by k_extra "at") ?_ | fail)
  k_with "eval Compare" => with_reducible (k_here; show wpAny _ _ (eval (.Compare _ [_] [_] _) _) _ _ _; first | refine cmp_at (by k_dflt rfl) (by k_extra "at") (by k_extra "at") ?_ | fail)
  k_with "eval Attribute Name" => with_reducible (k_here; first | refine at_use (by k_extra "at") ?_ | fail)
  k_with "eval Name" => with_reducible (k_here; first | refine at_use (by k_extra "at") ?_ | fail)
  k_with "itemAt" => (k_here; (with_reducible show wpAny _ _ (subscriptTail _ _ (Value.ref _) (Value.int _ _)) _ _ _); with_reducible first | refine item_litK (by with_unfolding_all is_list) (by k_dflt decide) (by k_dflt decide) (by with_unfolding_all rfl) ?_ (by with_unfolding_all rfl) | refine item_tupleT (by k_dflt exact News.isTup (by k_asm) (by k_mem)) (by k_dflt decide) (by k_dflt decide) (by k_dflt rfl) (by k_dflt rfl) ?_ | fail); k_whole
  k_with "turned" => (k_here; k_dflt (refine kba_turn (value' := PySem.Expr.Name (PySem.Str.ofString "_") ⟨0, 0, 0, 0⟩) (fun _ => rfl) ?_))
  k_with "subscriptTail Name Constant ref int" => first | k_extra "subscriptTail" | k_extra "itemAt" | fail
  k_with "subscriptTail Subscript Constant ref int" => k_extra "itemAt"
  k_with "subscriptTail Name" => k_extra "subscriptTail"
  k_with "subscriptTail Call" => k_extra "turned"
  k_with "subscriptTail BinOp" => k_extra "turned"
  k_with "seq" => first | (k_here; k_gentoks) | ((with_reducible refine wpAny_execs_cons ?_); try dsimp only) | fail
  k_with "execs cons Assign cons" => k_extra "seq"
  k_with "execs cons If cons" => k_extra "seq"
  k_with "execs cons Return nil" => k_extra "seq"
  k_with "exec Assign cons" => (with_reducible show wpAny _ _ (exec (.Assign [.Name _ _] _ _) _) _ _ _); k_dflt (refine wpAny_Assign_Name ?_)
  k_with "exec If" => refine wpAny_If ?_
  k_with "eval Call Name cons nil" => k_extra "eval Call"
  k_with "isTrue Compare Name cons cons" => k_extra "isTrue Compare"
  k_with "truthy bool false" => refine wpAny_truthy_bool ?_
  k_with "truthy bool" => refine wpAny_truthy_bool ?_
  k_with "room" => first | exact lb0 (j := 1) (by assumption) rfl | exact lb2 (j := 1) (by assumption) (by assumption) rfl
  k_with "om" => first | (k_whole; first | exact lb0 (by assumption) rfl | exact lb1 (by assumption) rfl | exact lb2 (by assumption) (by assumption) rfl | exact lb4 (by assumption) rfl | exact Nat.le_of_succ_le (by assumption)) | omega
  k_with "steps" => repeat' (first | ((with_reducible show wpAny _ _ (exec _ _) _ _ _); (fail_if_success (fail_if_success k_fold)); k_extra "fold") | ((fail_if_success (fail_if_success k_unfold)); first | dsimp only [qk] | dsimp only [ek] | (k_unfold; (try dsimp only))) | (k_end; wrow_close) | walk1 | (dsimp only; walk1) | (leave1; walk_say "STEP leave1"; try dsimp only) | fail)
  trivial
namespace Mine
set_option maxRecDepth 100000
set_option maxHeartbeats 0
theorem cls72 {w : World} {h : Heap} (X : (Mine.frag.heap_1 w.params).In h) : ∃ nm q N hdct sn sub ab col dd k0 k1 k2 k3 k5 newId bs, h.get? 72 = some (excClassObj nm q 72 N bs [.ref 47, .type "Exception", .type "BaseException", .type "object"] hdct sn sub ab col dd k0 k1 k2 k3 k5 newId) :=
  ⟨_, _, _, _, _, _, _, _, _, _, _, _, _, _, _, _, X 72 _ (by with_unfolding_all exact rfl)⟩
def RzK (h₀ : Heap) (L : Addr) (m : Str → Option Value) (E : Value → Shared → Prop) (v : Value) (s₁ : Shared) : Prop := ∃ e dx ax, v = .ref e ∧ Fr h₀ L s₁.heap m ∧ s₁.heap.get? e = some (excO dx ax) ∧ E (.ref e) s₁
theorem raiseStmt_own' {env : Env} {A : Around} {E : Value → Shared → Prop} {M : Model} {s : Shared} {x : Sem Value} {Q : Flow → Shared → Prop} (hh : A.handled = none)
    (h : wpAny M A x (fun v s₁ => ∃ e d t, v = .ref e ∧ (∃ nm q N hdct sn sub ab col dd k0 k1 k2 k3 k5 newId bs, s₁.heap.get? 72 = some (excClassObj nm q 72 N bs [.ref 47, .type "Exception", .type "BaseException", .type "object"] hdct sn sub ab col dd k0 k1 k2 k3 k5 newId)) ∧
      s₁.heap.get? e = some { cls := .ref 72, dict := d, data := .fields #[t, .none, .none, .none, .bool false, .none] } ∧ E (.ref e) s₁) E s) :
    wpAny M A (raiseStmt env (some x) none) Q E s := by
  unfold raiseStmt
  refine wpAny_bind (wpAny_mono h (fun v s₁ h₁ => ?_) fun _ _ x => x)
  obtain ⟨e, d, t, rfl, ⟨nm, q, N, hdct, sn, sub, ab, col, dd, k0, k1, k2, k3, k5, newId, bs, hC⟩, he, hE⟩ := h₁
  have hcB : (Value.ref 72 :: [.ref 47, .type "Exception", .type "BaseException", .type "object"]).contains (.type "BaseException") = true := by decide
  obtain ⟨hp, g, d', tk, os⟩ := s₁
  repeat (first | with_reducible refine wpAny_loadPart_at he ?_ | with_reducible refine wpAny_loadPart_at hC ?_ | (with_reducible refine wpAny_isSubtype_exc hC ?_; rw [hcB]) | wp_step)
  exact wpAny_raiseNew_none hh hE
theorem raise_K {prog : Program} {w : World} {A : Around} {E : Value → Shared → Prop} {s : Shared} {h₀ : Heap} {L : Addr} {m : Str → Option Value} {expr : PySem.Expr} {pos : Pos} {env : Env} {Q : Flow → Shared → Prop} (hh : A.handled = none) (X : (Mine.frag.heap_1 w.params).In h₀) (_F : Fr h₀ L s.heap m)
    (h : wpAny (model prog w) A (eval expr env) (fun v s₁ => RzK h₀ L m E v s₁) E s) :
    wpAny (model prog w) A (exec (.Raise (some expr) none pos) env) Q E s := by
  rw [arm_exec_Raise]
  simp only [evalOpt, Option.map]
  refine wpAny_bind (wpAny_standAt ?_)
  refine raiseStmt_own' hh ?_
  refine wpAny_bind (wpAny_mono h (fun v s₁ h₁ => wpAny_bind (wpAny_standAt (wpAny_pure ?_))) fun _ _ x => x)
  obtain ⟨e, dx, ax, rfl, F, he, hE⟩ := h₁
  exact ⟨e, some dx, .ref ax, rfl, cls72 (X.keeps F.keep), he, hE⟩
section
variable {w : World} {p : Program} {loose : List Str} {mean : ExcName → Option Value} {mg mb : Str → Option Value} {dp un : Nat} {gd : Option (List Code)} {cn : Str} {cs : Scope} {a : Addr} {ccd : Value} {cl : List (Str × Addr)} {outer : List Env} {A₀ : Around} {base h₀ : Heap} {L : Addr} {m : Str → Option Value}
  {news : List (Addr × Obj)} {s : Shared} {Q E : Value → Shared → Prop} {rdr dct tl nd : Addr} {hs1 hs2 hs3 : Int} {u1 u2 u3 t : Tok} {tas : List Addr} {n : Nat} {pos : Nat} {ws : List Wd} {keep : List (Addr × Obj)}
example : True := by
  k_with "rel" => first | (with_reducible assumption) | exact dle1 (by with_reducible assumption) rfl | k_extra "om" | exact rfl | ((try dsimp only [ktrTop, Around.deeper]); k_extra "om") | assumption | k_mem
  trivial
example : True := by
  k_with "truthy ref" => (k_here; (with_reducible show wpAny _ _ (truthy (Value.ref _)) _ _ _); (refine' wpAny_truthy_list ?k1 ?k2 ?_; (case k1 => exact News.isList (by k_asm) (by k_mem)); (case k2 => (simp only [List.size_toArray]; omega)); k_whole))
  trivial
example : True := by
  k_with "call ref" => (k_here; (try dsimp only [List.nil_append, List.cons_append, List.append_nil]); (with_reducible show wpAny _ _ (call (Value.ref 72) [Value.str _ _, Value.ref _]) _ _ _); k_dflt (refine' gf_c ?k1 ?k2 ?k3 ?k4 ?k5 ?k6 ?_; (case k1 => k_asm); (case k2 => k_asm); (case k3 => k_asm); (case k4 => first | assumption | exact Fr.keep (by assumption) _ _ (by assumption)); (case k5 => ktr_rel); (case k6 => ktr_rel); k_whole); intro h' tk' dx' e' ax' k1' k2' t1' t2' F' N'; (try k_sweep))
  trivial
theorem fault_c {x : Str} {tk : Tok} (B : Below A₀ base outer h₀) (F : Fr h₀ L s.heap m) (X : (Mine.frag.heap_1 w.params).In h₀) (N : News h₀ L s.heap news) (T : Top p loose mean mg mb h₀) (hk : cs.kind = .function) (hdp : dp ≤ 688) (hun : un ≤ 8900)
    (R : RdIn news rdr dct tl tas n ws) (hd : (dct, RdD hs1 hs2 hs3 u1 u2 u3 tl nd pos t) ∈ news) (hb : h₀.get? (nat_lit 0) = some (boot_o_0 w.params)) (hp : pos ≤ ws.length) (hne : 0 < ws.length)
    (ret : ∀ h' tk' e dx ax k1 k2 t1 t2 att t3 t4 n', Fr h₀ L h' m → News h₀ L h' ((e, excO dx ax) :: (dx, dictOf [⟨k1, .str (Str.ofString "what") t1, .str x tk⟩, ⟨k2, .str (Str.ofString "at") t2, .ref att⟩] 2) :: news) → (att, tupO [.int 1 t3, .int ((min pos (ws.length - 1) : Nat) + 1 : Int) t4] n') ∈ news → Q (.ref e) { s with heap := h', toks := tk' }) :
    wpAny (model PySem.Challenge.rw_pc0133_01.prog w) (ktrTop dp un gd cn cs L a ccd cl outer) (call (.ref 286) [.ref rdr, .str x tk]) Q E s := by
  revert X; k_fill; intro X
  have hrd := R.rd
  have htl := R.tl
  have hlen := R.len
  have hfew := R.few
  have hl' : (tas.map Value.ref).length = tas.length := List.length_map ..
  obtain ⟨wd, hw⟩ : ∃ wd, ws[min pos (ws.length - 1)]? = some wd := ⟨_, List.getElem?_eq_getElem (by omega)⟩
  obtain ⟨ta, hv, ht⟩ := R.tok _ _ hw
  have hq : (if ((tas.map Value.ref).length : Int) - 1 < (pos : Int) then ((tas.map Value.ref).length : Int) - 1 else (pos : Int)) = ((min pos (ws.length - 1) : Nat) : Int) := by split <;> omega
  have hq0 : 0 ≤ (if ((tas.map Value.ref).length : Int) - 1 < (pos : Int) then ((tas.map Value.ref).length : Int) - 1 else (pos : Int)) := by rw [hq]; omega
  have hq1 : (if ((tas.map Value.ref).length : Int) - 1 < (pos : Int) then ((tas.map Value.ref).length : Int) - 1 else (pos : Int)) < 2 ^ 63 := by rw [hq]; omega
  have hv' : (tas.map Value.ref)[(if ((tas.map Value.ref).length : Int) - 1 < (pos : Int) then ((tas.map Value.ref).length : Int) - 1 else (pos : Int)).toNat]? = some (Value.ref ta) := by
    rw [hq, Int.toNat_natCast, List.getElem?_map, hv]; rfl
  have hemp : (tas.map Value.ref).toArray.isEmpty = false := by
    cases tas with
    | nil => exfalso; simp at hlen; omega
    | cons x r => rfl
  cases ht with
  | mk q1 q2 q3 =>
  refine wpAny_call ?_
  k_dflt k_enter
  k_extra "steps"
  all_goals first
    | exact ret _ _ _ _ _ _ _ _ _ _ _ _ _ (by k_asm) (by k_asm) (by assumption)
    | (exfalso; rename ((_ : Bool) = true) => q; rw [hemp] at q; cases q)
    | trace_state
end
end Mine
end
section
open PySem PySem.W PyProof.Rows PySem.Spec PySem.Calls
set_option Elab.async false
example : True := by k_with_none; trivial
example : True := by
  k_with "fold" => (refine folds ?_; intro qk ek)
  k_with "at0" => (with_reducible show At _ _ _ _ (.Name _ _) _ _ _); exact at_L (by rfl) (by rfl) (by decide) (by k_asm) (Eq.refl (some _))
  k_with "atF" => k_dflt first | k_extra "at0" | ((with_reducible show At _ _ _ _ (.Name _ _) _ _ _); exact at_K (by rfl) (by rfl) (by decide) (by k_asm) (by k_asm) (by k_is) (by k_asm)) | fail
  k_with "atB" => k_dflt first | ((with_reducible show At _ _ _ _ (.Name _ _) _ _ _); exact at_B (by rfl) (by rfl) (by decide) (by k_asm) (by k_asm) (by k_is) (by boot_fast) (by decide) (by k_asm)) | fail
  k_with "at" => k_dflt first | ((with_reducible show At _ _ _ _ (.Constant _ _ _) _ _ _); first | exact at_S | exact at_I | exact at_N) | k_extra "at0" | ((with_reducible show At _ _ _ _ (.Attribute (.Name _ _) _ _) _ _ _); exact at_attr (by k_asm) (by k_asm) (by k_extra "at0") (by k_inst) (by k_get) (by k_is) (by k_is) (by k_is) (by k_is) (by first | exact rfl | k_handed)) | ((with_reducible show At _ _ _ _ (.BinOp _ .Add _ _) _ _ _); exact at_add (by k_extra "at") (by k_extra "at")) | k_extra "atF" | fail
  k_with "spl" => k_dflt first | exact spl0 | ((with_reducible show Spl _ _ _ _ [_] _ _ _); exact spl1 (by k_extra "at")) | ((with_reducible show Spl _ _ _ _ [_, _] _ _ _); exact spl2 (by k_extra "at") (by k_extra "at")) | ((with_reducible show Spl _ _ _ _ (_ :: _) _ _ _); exact splC (by k_extra "at") (by k_extra "spl")) | fail
  k_with "eval Call Attribute" => with_reducible (k_here; show wpAny _ _ (eval (.Call (.Attribute _ _ _) _ [] _) _) _ _ _; first | refine mcall (by k_extra "spl") (by k_dflt exact rfl) (by k_dflt k_asm) (by k_dflt k_asm) (by k_extra "at") (by k_dflt k_inst) (by k_get) (by k_is) (by k_is) (by k_is) (by k_is) (by k_dflt exact rfl) ?_ | fail)
  k_with "eval Call" => first | with_reducible (k_here; show wpAny _ _ (eval (.Call (.Name _ _) _ [] _) _) _ _ _; first | refine fcall (by k_extra "spl") (by k_dflt exact rfl) (by k_dflt k_asm) (by k_dflt k_asm) (by k_extra "atF") (by k_is) (by k_dflt exact rfl) ?_ | ((first | show wpAny _ _ (eval (.Call (.Name (Str.ofString "len") _) _ _ _) _) _ _ _ | show wpAny _ _ (eval (.Call (.Name (Str.ofString "min") _) _ _ _) _) _ _ _); refine bcall (by k_extra "spl") (by k_extra "atB") (by k_dflt exact rfl) ?_) | fail) | (k_here; k_dflt (refine Call_ ?_)) | fail
  k_with "spliced" => first | with_reducible (k_here; first | refine spl_use (by k_extra "spl") ?_ | fail) | (k_dflt (first | refine spliced_more ?_ | refine spliced_none ?_)) | fail
  k_with "eval Subscript" => with_reducible (k_here; show wpAny _ _ (eval (.Subscript _ _ _) _) _ _ _; first | refine sub_at (by k_extra "at") (by k_extra "at") ?_ | fail)
  k_with "eval BinOp" => with_reducible (k_here; show wpAny _ _ (eval (.BinOp _ _ _ _) _) _ _ _; first | refine at_use (by k_extra "at") ?_ | refine bin_at (by k_extra "at") (by k_extra "at") ?_ | fail)
  k_with "isTrue Compare" => with_reducible (k_here; show wpAny _ _ (PySem.isTrue (.Compare _ [_] [_] _) _ _) _ _ _; first | refine cmpT_at (by k_dflt rfl) (by k_extra "at") (by k_extra "at") ?_ | refine cmpT_atL (by k_dflt rfl) (by k_extra "at") ?_ | fail)
  k_with "eval Compare" => with_reducible (k_here; show wpAny _ _ (eval (.Compare _ [_] [_] _) _) _ _ _; first | refine cmp_at (by k_dflt rfl) (by k_extra "at") (by k_extra "at") ?_ | fail)
  k_with "eval Attribute Name" => with_reducible (k_here; first | refine at_use (by k_extra "at") ?_ | fail)
  k_with "eval Name" => with_reducible (k_here; first | refine at_use (by k_extra "at") ?_ | fail)
  k_with "itemAt" => (k_here; (with_reducible show wpAny _ _ (subscriptTail _ _ (Value.ref _) (Value.int _ _)) _ _ _); with_reducible first | refine item_litK (by with_unfolding_all is_list) (by k_dflt decide) (by k_dflt decide) (by with_unfolding_all rfl) ?_ (by with_unfolding_all rfl) | refine item_tupleT (by k_dflt exact News.isTup (by k_asm) (by k_mem)) (by k_dflt decide) (by k_dflt decide) (by k_dflt rfl) (by k_dflt rfl) ?_ | fail); k_whole
  k_with "turned" => (k_here; k_dflt (refine kba_turn (value' := PySem.Expr.Name (PySem.Str.ofString "_") ⟨0, 0, 0, 0⟩) (fun _ => rfl) ?_))
  k_with "subscriptTail Name Constant ref int" => first | k_extra "subscriptTail" | k_extra "itemAt" | fail
  k_with "subscriptTail Subscript Constant ref int" => k_extra "itemAt"
  k_with "subscriptTail Name" => k_extra "subscriptTail"
  k_with "subscriptTail Call" => k_extra "turned"
  k_with "subscriptTail BinOp" => k_extra "turned"
  k_with "seq" => first | (k_here; k_gentoks) | ((with_reducible refine wpAny_execs_cons ?_); try dsimp only) | fail
  k_with "execs cons Assign cons" => k_extra "seq"
  k_with "execs cons If cons" => k_extra "seq"
  k_with "execs cons Return nil" => k_extra "seq"
  k_with "exec Assign cons" => (with_reducible show wpAny _ _ (exec (.Assign [.Name _ _] _ _) _) _ _ _); k_dflt (refine wpAny_Assign_Name ?_)
  k_with "exec If" => refine wpAny_If ?_
  k_with "eval Call Name cons nil" => k_extra "eval Call"
  k_with "isTrue Compare Name cons cons" => k_extra "isTrue Compare"
  k_with "truthy bool false" => refine wpAny_truthy_bool ?_
  k_with "truthy bool" => refine wpAny_truthy_bool ?_
  k_with "room" => first | exact lb0 (j := 1) (by assumption) rfl | exact lb2 (j := 1) (by assumption) (by assumption) rfl
  k_with "om" => first | (k_whole; first | exact lb0 (by assumption) rfl | exact lb1 (by assumption) rfl | exact lb2 (by assumption) (by assumption) rfl | exact lb4 (by assumption) rfl | exact Nat.le_of_succ_le (by assumption)) | omega
  k_with "steps" => repeat' (first | ((with_reducible show wpAny _ _ (exec _ _) _ _ _); (fail_if_success (fail_if_success k_fold)); k_extra "fold") | ((fail_if_success (fail_if_success k_unfold)); first | dsimp only [qk] | dsimp only [ek] | (k_unfold; (try dsimp only))) | (k_end; wrow_close) | walk1 | (dsimp only; walk1) | (leave1; walk_say "STEP leave1"; try dsimp only) | fail)
  trivial
namespace Mine
set_option maxRecDepth 100000
set_option maxHeartbeats 0
section
variable {w : World} {p : Program} {loose : List Str} {mean : ExcName → Option Value} {mg mb : Str → Option Value} {dp un : Nat} {gd : Option (List Code)} {cn : Str} {cs : Scope} {a : Addr} {ccd : Value} {cl : List (Str × Addr)} {outer : List Env} {A₀ : Around} {base h₀ : Heap} {L : Addr} {m : Str → Option Value}
  {news : List (Addr × Obj)} {s : Shared} {Q E : Value → Shared → Prop} {rdr dct tl nd : Addr} {hs1 hs2 hs3 : Int} {u1 u2 u3 t : Tok} {tas : List Addr} {n : Nat} {pos : Nat} {ws : List Wd} {keep : List (Addr × Obj)}
example : True := by
  k_with "upd" => exact updF_upd (by assumption) _
  trivial
example : True := by
  k_with "rel" => first | (with_reducible assumption) | exact dle1 (by with_reducible assumption) rfl | k_extra "om" | exact rfl | ((try dsimp only [ktrTop, Around.deeper]); k_extra "om") | assumption | k_mem | k_updF
  trivial
example : True := by
  k_with "call ref" => (k_here; (try dsimp only [List.nil_append, List.cons_append, List.append_nil]); (with_reducible show wpAny _ _ (call (Value.ref 272) [Value.ref _]) _ _ _); k_dflt (first | refine' peek0_some (by ktr_rel) (by ktr_rel) (by ktr_rel) (by ktr_rel) (by ktr_rel) (by ktr_rel) (by ktr_rel) (by ktr_rel) (by ktr_rel) (by ktr_rel) (by ktr_rel) ?_ | refine' peek0_none (by ktr_rel) (by ktr_rel) (by ktr_rel) (by ktr_rel) (by ktr_rel) (by ktr_rel) (by ktr_rel) (by ktr_rel) (by ktr_rel) (by ktr_rel) (by ktr_rel) ?_); k_whole; intro h' tk' F' N'; (try k_sweep))
  trivial
example : True := by
  k_with "call ref" => (k_here; (try dsimp only [List.nil_append, List.cons_append, List.append_nil]); (with_reducible show wpAny _ _ (call (Value.ref 272) [Value.ref _, Value.int _ _]) _ _ _); k_dflt (first | refine' peek_some0 (by ktr_rel) (by ktr_rel) (by ktr_rel) (by ktr_rel) (by ktr_rel) (by ktr_rel) (by ktr_rel) (by ktr_rel) (by ktr_rel) (by ktr_rel) (by ktr_rel) ?_ | refine' peek_none0 (by ktr_rel) (by ktr_rel) (by ktr_rel) (by ktr_rel) (by ktr_rel) (by ktr_rel) (by ktr_rel) (by ktr_rel) (by ktr_rel) (by ktr_rel) (by ktr_rel) ?_ | refine' peek_some1 (by ktr_rel) (by ktr_rel) (by ktr_rel) (by ktr_rel) (by ktr_rel) (by ktr_rel) (by ktr_rel) (by ktr_rel) (by ktr_rel) (by ktr_rel) (by ktr_rel) ?_ | refine' peek_none1 (by ktr_rel) (by ktr_rel) (by ktr_rel) (by ktr_rel) (by ktr_rel) (by ktr_rel) (by ktr_rel) (by ktr_rel) (by ktr_rel) (by ktr_rel) (by ktr_rel) ?_); k_whole; intro h' tk' F' N'; (try k_sweep))
  trivial
example : True := by
  k_with "call ref" => (k_here; (try dsimp only [List.nil_append, List.cons_append, List.append_nil]); (with_reducible show wpAny _ _ (call (Value.ref 301) [Value.ref _, Value.str _ _]) _ _ _); k_dflt (first | refine' isk_c (tk2 := 0) (by ktr_rel) (by ktr_rel) (by ktr_rel) (by ktr_rel) (by ktr_rel) (by ktr_rel) (by ktr_rel) (by ktr_rel) (by ktr_rel) (by ktr_rel) (by ktr_rel) ?_); k_whole; intro h' tk' F' N'; (try k_sweep))
  trivial
example : True := by
  k_with "call ref" => (k_here; (try dsimp only [List.nil_append, List.cons_append, List.append_nil]); (with_reducible show wpAny _ _ (call (Value.ref 301) [Value.ref _, Value.str _ _, Value.int _ _]) _ _ _); k_dflt (first | refine' isk0_c (by ktr_rel) (by ktr_rel) (by ktr_rel) (by ktr_rel) (by ktr_rel) (by ktr_rel) (by ktr_rel) (by ktr_rel) (by ktr_rel) (by ktr_rel) (by ktr_rel) ?_ | refine' isk1_c (by ktr_rel) (by ktr_rel) (by ktr_rel) (by ktr_rel) (by ktr_rel) (by ktr_rel) (by ktr_rel) (by ktr_rel) (by ktr_rel) (by ktr_rel) (by ktr_rel) ?_); k_whole; intro h' tk' F' N'; (try k_sweep))
  trivial
example : True := by
  k_with "call ref" => (k_here; (try dsimp only [List.nil_append, List.cons_append, List.append_nil]); (with_reducible show wpAny _ _ (call (Value.ref 366) [Value.ref _, Value.str _ _]) _ _ _); k_dflt (first | refine' iss_c (by ktr_rel) (by ktr_rel) (by ktr_rel) (by ktr_rel) (by ktr_rel) (by ktr_rel) (by ktr_rel) (by ktr_rel) (by ktr_rel) (by ktr_rel) (by ktr_rel) ?_); k_whole; intro h' tk' F' N'; (try k_sweep))
  trivial
example : True := by
  k_with "call ref" => (k_here; (try dsimp only [List.nil_append, List.cons_append, List.append_nil]); (with_reducible show wpAny _ _ (call (Value.ref 293) [Value.ref _]) _ _ _); k_dflt (first | refine' take_c (by ktr_rel) (by ktr_rel) (by ktr_rel) (by ktr_rel) (by ktr_rel) (by ktr_rel) (by ktr_rel) (by ktr_rel) (by ktr_rel) (by ktr_rel) (by ktr_rel) (by ktr_rel) ?_); k_whole; intro h' tk' t' F' N'; (try k_sweep))
  trivial
example : True := by
  k_with "call ref" => (k_here; (try dsimp only [List.nil_append, List.cons_append, List.append_nil]); (with_reducible show wpAny _ _ (call (Value.ref 373) [Value.ref _, Value.str _ _]) _ _ _); k_dflt (first | refine' skip_no (by ktr_rel) (by ktr_rel) (by ktr_rel) (by ktr_rel) (by ktr_rel) (by ktr_rel) (by ktr_rel) (by ktr_rel) (by ktr_rel) (by ktr_rel) (by ktr_rel) ?_); k_whole; intro h' tk' F' N'; (try k_sweep))
  trivial
example : True := by
  k_with "call ref" => (k_here; (try dsimp only [List.nil_append, List.cons_append, List.append_nil]); (with_reducible show wpAny _ _ (call (Value.ref 373) [Value.ref _, Value.str _ _]) _ _ _); k_dflt (first | refine' skip_yes (by ktr_rel) (by ktr_rel) (by ktr_rel) (by ktr_rel) (by ktr_rel) (by ktr_rel) (by ktr_rel) (by ktr_rel) (by ktr_rel) (by ktr_rel) (by ktr_rel) (by ktr_rel) ?_); k_whole; intro h' tk' t' F' N'; (try k_sweep))
  trivial
example : True := by
  k_with "call ref" => (k_here; (try dsimp only [List.nil_append, List.cons_append, List.append_nil]); (with_reducible show wpAny _ _ (call (Value.ref 195) [Value.ref _, Value.ref _]) _ _ _); k_dflt (first | refine' sign_c (by ktr_rel) (by ktr_rel) (by ktr_rel) (by ktr_rel) (by ktr_rel) (by ktr_rel) (by ktr_rel) (by ktr_rel) (by ktr_rel) (by ktr_rel) (by ktr_rel) (by ktr_rel) (by ktr_rel) ?_); k_whole; intro h' tk' tr' F' N'; (try k_sweep))
  trivial
example : True := by
  k_with "call ref" => (k_here; (try dsimp only [List.nil_append, List.cons_append, List.append_nil]); (with_reducible show wpAny _ _ (call (Value.ref 286) [Value.ref _, Value.str _ _]) _ _ _); k_dflt (refine' fault_c (by ktr_rel) (by ktr_rel) (by ktr_rel) (by ktr_rel) (by ktr_rel) (by ktr_rel) (by ktr_rel) (by ktr_rel) (by ktr_rel) (by ktr_rel) (by first | assumption | exact Fr.keep (by assumption) _ _ (by assumption)) (by ktr_rel) (by ktr_rel) ?_; k_whole); intro h' tk' e' dx' ax' k1' k2' t1' t2' att' t3' t4' n' F' N' hatt'; (try k_sweep))
  trivial
example : True := by
  k_with "exec Raise some none" => (k_here; k_dflt (refine' raise_K ?k1 ?k2 ?k3 ?_; (case k1 => exact rfl); (case k2 => k_asm); (case k3 => k_asm)); (try k_fold))
  trivial
theorem need_yes {g : Obj → List (Addr × Obj)} {tk : Tok} (B : Below A₀ base outer h₀) (F : Fr h₀ L s.heap m) (X : (Mine.frag.heap_1 w.params).In h₀) (N : News h₀ L s.heap news) (T : Top p loose mean mg mb h₀) (hk : cs.kind = .function) (hdp : dp ≤ 680) (hun : un ≤ 8500)
    (R : RdIn news rdr dct tl tas n ws) (hd : (dct, RdD hs1 hs2 hs3 u1 u2 u3 tl nd pos t) ∈ news) (U : UpdF dct (RdD hs1 hs2 hs3 u1 u2 u3 tl nd pos t) news g) (hb : isSg ws[pos]? (Str.ofString ")") = true)
    (ret : ∀ h' tk' t', Fr h₀ L h' m → News h₀ L h' (g (RdD hs1 hs2 hs3 u1 u2 u3 tl nd ((pos + 1 : Nat) : Int) t')) → Q .none { s with heap := h', toks := tk' }) :
    wpAny (model PySem.Challenge.rw_pc0133_01.prog w) (ktrTop dp un gd cn cs L a ccd cl outer) (call (.ref 380) [.ref rdr, .str (Str.ofString ")") tk]) Q E s := by
  revert X; k_fill; intro X
  have hrd := R.rd
  refine wpAny_call ?_
  k_dflt k_enter
  k_extra "steps"
  all_goals exact ret _ _ _ (by k_asm) (by k_asm)
theorem need_no {tk : Tok} (B : Below A₀ base outer h₀) (F : Fr h₀ L s.heap m) (X : (Mine.frag.heap_1 w.params).In h₀) (N : News h₀ L s.heap news) (T : Top p loose mean mg mb h₀) (hk : cs.kind = .function) (hdp : dp ≤ 680) (hun : un ≤ 8500)
    (R : RdIn news rdr dct tl tas n ws) (hd : (dct, RdD hs1 hs2 hs3 u1 u2 u3 tl nd pos t) ∈ news) (hb : h₀.get? (nat_lit 0) = some (boot_o_0 w.params)) (hp : pos ≤ ws.length) (hne : 0 < ws.length) (hn : isSg ws[pos]? (Str.ofString ")") = false)
    (hkp : Kept keep news) (err : ∀ e h' tk' hh, ErrIn base (envX cn cs L a ccd cl :: outer) e (min pos (ws.length - 1)) keep hh h' → Fr h₀ L hh m → hh.UpToSlots h' → E (.ref e) { s with heap := h', toks := tk' }) :
    wpAny (model PySem.Challenge.rw_pc0133_01.prog w) (ktrTop dp un gd cn cs L a ccd cl outer) (call (.ref 380) [.ref rdr, .str (Str.ofString ")") tk]) Q E s := by
  revert X; k_fill; intro X
  have hrd := R.rd
  refine wpAny_call ?_
  k_dflt k_enter
  k_extra "steps"
  all_goals first
    | (unfold RzK; refine ⟨_, _, _, rfl, by k_asm, (News.get (by k_asm) (by k_mem)), ?_⟩; (try k_unfold); (try dsimp only); refine err_first (by assumption) (by k_asm) (by k_asm) (by k_mem) (by k_mem) (List.Mem.tail _ (List.Mem.tail _ (by assumption))) (by first | (with_reducible assumption) | (refine Kept.mono (by with_reducible assumption) ?_; (intro _ hz; first | exact hz | exact .tail _ hz | exact .tail _ (.tail _ hz) | exact .tail _ (.tail _ (.tail _ hz)) | exact .tail _ (.tail _ (.tail _ (.tail _ hz))) | exact .tail _ (.tail _ (.tail _ (.tail _ (.tail _ hz)))) | exact .tail _ (.tail _ (.tail _ (.tail _ (.tail _ (.tail _ hz)))))))) ?_; intro h9 r9 u9; (try dsimp only); exact err _ _ _ _ r9 (by assumption) u9)
    | trace_state
end
end Mine
end
section
open PySem PySem.W PyProof.Rows PySem.Spec PySem.Calls
set_option Elab.async false
example : True := by k_with_none; trivial
example : True := by
  k_with "fold" => (refine folds ?_; intro qk ek)
  k_with "at0" => (with_reducible show At _ _ _ _ (.Name _ _) _ _ _); exact at_L (by rfl) (by rfl) (by decide) (by k_asm) (Eq.refl (some _))
  k_with "atF" => k_dflt first | k_extra "at0" | ((with_reducible show At _ _ _ _ (.Name _ _) _ _ _); exact at_K (by rfl) (by rfl) (by decide) (by k_asm) (by k_asm) (by k_is) (by k_asm)) | fail
  k_with "atB" => k_dflt first | ((with_reducible show At _ _ _ _ (.Name _ _) _ _ _); exact at_B (by rfl) (by rfl) (by decide) (by k_asm) (by k_asm) (by k_is) (by boot_fast) (by decide) (by k_asm)) | fail
  k_with "at" => k_dflt first | ((with_reducible show At _ _ _ _ (.Constant _ _ _) _ _ _); first | exact at_S | exact at_I | exact at_N) | k_extra "at0" | ((with_reducible show At _ _ _ _ (.Attribute (.Name _ _) _ _) _ _ _); exact at_attr (by k_asm) (by k_asm) (by k_extra "at0") (by k_inst) (by k_get) (by k_is) (by k_is) (by k_is) (by k_is) (by first | exact rfl | k_handed)) | ((with_reducible show At _ _ _ _ (.BinOp _ .Add _ _) _ _ _); exact at_add (by k_extra "at") (by k_extra "at")) | k_extra "atF" | fail
  k_with "spl" => k_dflt first | exact spl0 | ((with_reducible show Spl _ _ _ _ [_] _ _ _); exact spl1 (by k_extra "at")) | ((with_reducible show Spl _ _ _ _ [_, _] _ _ _); exact spl2 (by k_extra "at") (by k_extra "at")) | ((with_reducible show Spl _ _ _ _ (_ :: _) _ _ _); exact splC (by k_extra "at") (by k_extra "spl")) | fail
  k_with "eval Call Attribute" => with_reducible (k_here; show wpAny _ _ (eval (.Call (.Attribute _ _ _) _ [] _) _) _ _ _; first | refine mcall (by k_extra "spl") (by k_dflt exact rfl) (by k_dflt k_asm) (by k_dflt k_asm) (by k_extra "at") (by k_dflt k_inst) (by k_get) (by k_is) (by k_is) (by k_is) (by k_is) (by k_dflt exact rfl) ?_ | fail)
  k_with "eval Call" => first | with_reducible (k_here; show wpAny _ _ (eval (.Call (.Name _ _) _ [] _) _) _ _ _; first | refine fcall (by k_extra "spl") (by k_dflt exact rfl) (by k_dflt k_asm) (by k_dflt k_asm) (by k_extra "atF") (by k_is) (by k_dflt exact rfl) ?_ | ((first | show wpAny _ _ (eval (.Call (.Name (Str.ofString "len") _) _ _ _) _) _ _ _ | show wpAny _ _ (eval (.Call (.Name (Str.ofString "min") _) _ _ _) _) _ _ _); refine bcall (by k_extra "spl") (by k_extra "atB") (by k_dflt exact rfl) ?_) | fail) | (k_here; k_dflt (refine Call_ ?_)) | fail
  k_with "spliced" => first | with_reducible (k_here; first | refine spl_use (by k_extra "spl") ?_ | fail) | (k_dflt (first | refine spliced_more ?_ | refine spliced_none ?_)) | fail
  k_with "eval Subscript" => with_reducible (k_here; show wpAny _ _ (eval (.Subscript _ _ _) _) _ _ _; first | refine sub_at (by k_extra "at") (by k_extra "at") ?_ | fail)
  k_with "eval BinOp" => with_reducible (k_here; show wpAny _ _ (eval (.BinOp _ _ _ _) _) _ _ _; first | refine at_use (by k_extra "at") ?_ | refine bin_at (by k_extra "at") (by k_extra "at") ?_ | fail)
  k_with "isTrue Compare" => with_reducible (k_here; show wpAny _ _ (PySem.isTrue (.Compare _ [_] [_] _) _ _) _ _ _; first | refine cmpT_at (by k_dflt rfl) (by k_extra "at") (by k_extra "at") ?_ | refine cmpT_atL (by k_dflt rfl) (by k_extra "at") ?_ | fail)
  k_with "eval Compare" => with_reducible (k_here; show wpAny _ _ (eval (.Compare _ [_] [_] _) _) _ _ _; first | refine cmp_at (by k_dflt rfl) (by k_extra "at") (by k_extra "at") ?_ | fail)
  k_with "eval Attribute Name" => with_reducible (k_here; first | refine at_use (by k_extra "at") ?_ | fail)
  k_with "eval Name" => with_reducible (k_here; first | refine at_use (by k_extra "at") ?_ | fail)
  k_with "itemAt" => (k_here; (with_reducible show wpAny _ _ (subscriptTail _ _ (Value.ref _) (Value.int _ _)) _ _ _); with_reducible first | refine item_litK (by with_unfolding_all is_list) (by k_dflt decide) (by k_dflt decide) (by with_unfolding_all rfl) ?_ (by with_unfolding_all rfl) | refine item_tupleT (by k_dflt exact News.isTup (by k_asm) (by k_mem)) (by k_dflt decide) (by k_dflt decide) (by k_dflt rfl) (by k_dflt rfl) ?_ | fail); k_whole
  k_with "turned" => (k_here; k_dflt (refine kba_turn (value' := PySem.Expr.Name (PySem.Str.ofString "_") ⟨0, 0, 0, 0⟩) (fun _ => rfl) ?_))
  k_with "subscriptTail Name Constant ref int" => first | k_extra "subscriptTail" | k_extra "itemAt" | fail
  k_with "subscriptTail Subscript Constant ref int" => k_extra "itemAt"
  k_with "subscriptTail Name" => k_extra "subscriptTail"
  k_with "subscriptTail Call" => k_extra "turned"
  k_with "subscriptTail BinOp" => k_extra "turned"
  k_with "seq" => first | (k_here; k_gentoks) | ((with_reducible refine wpAny_execs_cons ?_); try dsimp only) | fail
  k_with "execs cons Assign cons" => k_extra "seq"
  k_with "execs cons If cons" => k_extra "seq"
  k_with "execs cons Return nil" => k_extra "seq"
  k_with "exec Assign cons" => (with_reducible show wpAny _ _ (exec (.Assign [.Name _ _] _ _) _) _ _ _); k_dflt (refine wpAny_Assign_Name ?_)
  k_with "exec If" => refine wpAny_If ?_
  k_with "eval Call Name cons nil" => k_extra "eval Call"
  k_with "isTrue Compare Name cons cons" => k_extra "isTrue Compare"
  k_with "truthy bool false" => refine wpAny_truthy_bool ?_
  k_with "truthy bool" => refine wpAny_truthy_bool ?_
  k_with "room" => first | exact lb0 (j := 1) (by assumption) rfl | exact lb2 (j := 1) (by assumption) (by assumption) rfl
  k_with "om" => first | (k_whole; first | exact lb0 (by assumption) rfl | exact lb1 (by assumption) rfl | exact lb2 (by assumption) (by assumption) rfl | exact lb4 (by assumption) rfl | exact Nat.le_of_succ_le (by assumption)) | omega
  k_with "steps" => repeat' (first | ((with_reducible show wpAny _ _ (exec _ _) _ _ _); (fail_if_success (fail_if_success k_fold)); k_extra "fold") | ((fail_if_success (fail_if_success k_unfold)); first | dsimp only [qk] | dsimp only [ek] | (k_unfold; (try dsimp only))) | (k_end; wrow_close) | walk1 | (dsimp only; walk1) | (leave1; walk_say "STEP leave1"; try dsimp only) | fail)
  trivial
namespace Mine
set_option maxRecDepth 100000
set_option maxHeartbeats 0
theorem sl1 : Txt.slice (Str.ofString "5") none (some 1) = Str.ofString "5" := by decide +kernel
theorem sl2 : Txt.slice (Str.ofString "5") (some 0) none = Str.ofString "5" := by decide +kernel
theorem sl3 : Txt.slice (Str.ofString "0.25") none (some 1) = Str.ofString "0" := by decide +kernel
theorem sl4 : Txt.slice (Str.ofString "0.25") (some 0) none = Str.ofString "0.25" := by decide +kernel
theorem sl5 : Txt.slice (Str.ofString "0.25") (some (1 + 1)) none = Str.ofString "25" := by decide +kernel
theorem ap1 : Str.ofString "5" ++ Str.ofString "" = Str.ofString "5" := by decide +kernel
theorem ap2 : Str.ofString "0" ++ Str.ofString "25" = Str.ofString "025" := by decide +kernel
open PySem.Builtin.Str in
theorem in_c {prog : Program} {w : World} {A : Around} {E Q : Value → Shared → Prop} {s : Shared} {x y : Str} {t u : Tok} {b : Bool} (hc : (!(occurrences x y 0 x.length 1).isEmpty) = b) (h : Q (.bool b) s) : wpAny (model prog w) A (compareOp .In (.str y u) (.str x t)) Q E s := in_str (by rw [hc]; exact h)
open PySem.Builtin.Str in
theorem notin_c {prog : Program} {w : World} {A : Around} {E Q : Value → Shared → Prop} {s : Shared} {x y : Str} {t u : Tok} {b : Bool} (hc : (!(occurrences x y 0 x.length 1).isEmpty) = b) (h : Q (.bool (!b)) s) : wpAny (model prog w) A (compareOp .NotIn (.str y u) (.str x t)) Q E s := notIn_str (by rw [hc]; exact h)
theorem item_cc {prog : Program} {w : World} {A : Around} {E Q : Value → Shared → Prop} {s : Shared} {value slice : PySem.Expr} {x r : Str} {t u : Tok} {i : Int} (hc : Txt.item x i = r ∧ fitsSsize i = true ∧ -(x.length : Int) ≤ i ∧ i < x.length)
    (h : Q (.str r s.toks) { s with toks := s.toks + 1 })
    (hs : subscripted slice false (.str x t) (.int i u) = operate [.str x t, .int i u] (getItem (.str x t) (.int i u)) := by with_unfolding_all rfl)
    (ht : ∀ r, letTemporaryGo value (.str x t) r = pure () := by intro _; with_unfolding_all rfl) :
    wpAny (model prog w) A (subscriptTail value slice (.str x t) (.int i u)) Q E s :=
  item_str hc.2.1 hc.2.2.1 hc.2.2.2 (fun _ => by rw [hc.1]; exact h) hs ht
open PySem.Builtin.Str in
theorem index_c {prog : Program} {w : World} {A : Around} {E Q : Value → Shared → Prop} {s : Shared} {x y : Str} {t u : Tok} {k : Int} (hA : A.handled = none) (hc : Txt.find x y = k ∧ (occurrences x y 0 x.length 1).isEmpty = false ∧ 0 ≤ k) (h : Q (.int k s.toks) { s with toks := s.toks + 1 }) :
    wpAny (model prog w) A (call (.builtin "str.index") [.str x t, .str y u]) Q E s :=
  index_or hA (fun _ e => by rw [hc.2.1] at e; cases e) (fun _ _ => by rw [hc.1]; exact h)
theorem top3 {h₀ h' : Heap} {L : Addr} {a b c : Addr × Obj} {news : List (Addr × Obj)} (N : News h₀ L h' (a :: b :: c :: news)) : News h₀ L h' (a :: news) := N.perm fun p hp => by
  rcases List.mem_cons.mp hp with rfl | hp
  · exact .head _
  · exact .tail _ (.tail _ (.tail _ hp))
theorem top4 {h₀ h' : Heap} {L : Addr} {a b c d : Addr × Obj} {news : List (Addr × Obj)} (N : News h₀ L h' (a :: b :: c :: d :: news)) : News h₀ L h' (a :: news) := N.perm fun p hp => by
  rcases List.mem_cons.mp hp with rfl | hp
  · exact .head _
  · exact .tail _ (.tail _ (.tail _ (.tail _ hp)))
theorem allLt_ne {I : Addr} : ∀ {l : List (Addr × Obj)}, AllLt I l → ∀ p ∈ l, p.1 ≠ I := fun {l} h p hp => Nat.ne_of_lt (ktn_ltOf h p hp)
theorem unrEnd_own {h₀ : Heap} {L I : Addr} {it : Obj} {rest : (Str → Option Value) → List (Addr × Obj) → Prop} {s₁ : Shared} {h' : Heap} {tk : Nat} {m' : Str → Option Value} {news' : List (Addr × Obj)} (F : Fr h₀ L h' m') (N : News h₀ L h' ((I, it) :: news')) (off : AllLt I news') (r : rest m' news') : UnrEnd h₀ L s₁ I it rest { s₁ with heap := h', toks := tk } := UnrEnd.intro F N news' (fun _ h => h) (allLt_ne off) r
example : True := by
  k_with "UnrEnd" => (refine unrEnd_own (by assumption) (by assumption) (by assumption) ?_)
  trivial
example : True := by
  k_with "exec For" => (k_here; (with_reducible show wpAny _ _ (exec (Stmt.For _ _ _ [] _) _) _ _ _); k_strName; (rename Fr _ _ _ _ => lF'); (with_unfolding_all refine' For_invVF lF' ?k1 ?k2 ?_; (case k1 => exact rfl); (case k2 => exact rfl); k_whole))
  trivial
example : True := by
  k_with "pyIter str" => ((with_reducible show wpAny _ _ (pyIter (Value.str _ _)) (fun it s₂ => LoopAtV _ _ _ _ _ _ _ _ _ it s₂) _ _); k_here; k_strUnr)
  trivial
theorem len_c {prog : Program} {w : World} {A : Around} {E Q : Value → Shared → Prop} {s : Shared} {x : Str} {t : Tok} {k : Int} (hc : (x.length : Int) = k ∧ ¬ k ≥ 2 ^ 63) (h : Q (.int k (s.toks + 1)) { s with toks := s.toks + 1 + 1 }) : wpAny (model prog w) A (call (.builtin "len") [.str x t]) Q E s := len_str (by rw [hc.1]; exact hc.2) (by rw [hc.1]; exact h)
example : True := by
  k_with "call builtin:len" => ((with_reducible show wpAny _ _ (call (Value.builtin _) [Value.str _ _]) _ _ _); first | refine len_c (k := 0) (by decide +kernel) ?_ | refine len_c (k := 1) (by decide +kernel) ?_ | refine len_c (k := 2) (by decide +kernel) ?_ | refine len_c (k := 4) (by decide +kernel) ?_)
  trivial
example : True := by
  k_with "compareOp In str str" => first | refine in_c (b := true) (by decide +kernel) ?_ | refine in_c (b := false) (by decide +kernel) ?_
  trivial
example : True := by
  k_with "compareOp NotIn str str" => ((first | refine notin_c (b := true) (by decide +kernel) ?_ | refine notin_c (b := false) (by decide +kernel) ?_); dsimp only [Bool.not_true, Bool.not_false])
  trivial
example : True := by
  k_with "call builtin:str.index" => first | refine index_c (k := 0) rfl (by decide +kernel) ?_ | refine index_c (k := 5) rfl (by decide +kernel) ?_ | refine index_c (k := 2) rfl (by decide +kernel) ?_ | refine index_c (k := 1) rfl (by decide +kernel) ?_
  trivial
example : True := by
  k_with "subscriptTail Name Name str int" => ((with_reducible show wpAny _ _ (subscriptTail _ _ (Value.str _ _) (Value.int _ _)) _ _ _); first | refine item_cc (r := Str.ofString "0") (by decide +kernel) ?_ | refine item_cc (r := Str.ofString "5") (by decide +kernel) ?_ | refine item_cc (r := Str.ofString "2") (by decide +kernel) ?_ | refine item_cc (r := Str.ofString ".") (by decide +kernel) ?_)
  trivial
section
variable {w : World} {p : Program} {loose : List Str} {mean : ExcName → Option Value} {mg mb : Str → Option Value} {dp un : Nat} {gd : Option (List Code)} {cn : Str} {cs : Scope} {a : Addr} {ccd : Value} {cl : List (Str × Addr)} {outer : List Env} {A₀ : Around} {base h₀ : Heap} {L : Addr} {m : Str → Option Value}
  {news : List (Addr × Obj)} {s : Shared} {Q E : Value → Shared → Prop} {rdr dct tl nd : Addr} {hs1 hs2 hs3 : Int} {u1 u2 u3 t : Tok} {tas : List Addr} {n : Nat} {pos : Nat} {ws : List Wd}
example : True := by
  k_with "upd" => exact updF_upd (by assumption) _
  trivial
example : True := by
  k_with "rel" => first | (with_reducible assumption) | exact dle1 (by with_reducible assumption) rfl | k_extra "om" | exact rfl | ((try dsimp only [ktrTop, Around.deeper]); k_extra "om") | assumption | k_mem | k_updF
  trivial
theorem dec5 {tk : Tok} (B : Below A₀ base outer h₀) (F : Fr h₀ L s.heap m) (X : (Mine.frag.heap_1 w.params).In h₀) (N : News h₀ L s.heap news) (T : Top p loose mean mg mb h₀) (hk : cs.kind = .function) (hdp : dp ≤ 686) (hun : un ≤ 8800)
    (ret : ∀ h' tk' tp t1 t2 k, Fr h₀ L h' m → News h₀ L h' ((tp, tupO [.int 5 t1, .int 0 t2] k) :: news) → Q (.ref tp) { s with heap := h', toks := tk' }) :
    wpAny (model PySem.Challenge.rw_pc0133_01.prog w) (ktrTop dp un gd cn cs L a ccd cl outer) (call (.ref 131) [.str (Str.ofString "5") tk]) Q E s := by
  revert X; k_fill; intro X
  refine wpAny_call ?_
  k_dflt k_enter
  repeat' (first | (rewrite [ap1]) | (rewrite [ap2]) | (rewrite [sl1]) | (rewrite [sl2]) | (rewrite [sl3]) | (rewrite [sl4]) | (rewrite [sl5]) | ((with_reducible show wpAny _ _ (exec _ _) _ _ _); (fail_if_success (fail_if_success k_fold)); k_extra "fold") | ((fail_if_success (fail_if_success k_unfold)); first | dsimp only [qk] | dsimp only [ek] | (k_unfold; (try dsimp only))) | (k_end; wrow_close) | walk1 | (dsimp only; walk1) | (leave1; walk_say "STEP leave1"; try dsimp only) | fail)
  all_goals first | (exfalso; clear ret; omega) | exact ret _ _ _ _ _ _ (by assumption) (top3 (by assumption))
theorem dec25 {tk : Tok} (B : Below A₀ base outer h₀) (F : Fr h₀ L s.heap m) (X : (Mine.frag.heap_1 w.params).In h₀) (N : News h₀ L s.heap news) (T : Top p loose mean mg mb h₀) (hk : cs.kind = .function) (hdp : dp ≤ 686) (hun : un ≤ 8800)
    (ret : ∀ h' tk' tp t1 t2 k, Fr h₀ L h' m → News h₀ L h' ((tp, tupO [.int 25 t1, .int 2 t2] k) :: news) → Q (.ref tp) { s with heap := h', toks := tk' }) :
    wpAny (model PySem.Challenge.rw_pc0133_01.prog w) (ktrTop dp un gd cn cs L a ccd cl outer) (call (.ref 131) [.str (Str.ofString "0.25") tk]) Q E s := by
  revert X; k_fill; intro X
  refine wpAny_call ?_
  k_dflt k_enter
  repeat' (first | (rewrite [ap1]) | (rewrite [ap2]) | (rewrite [sl1]) | (rewrite [sl2]) | (rewrite [sl3]) | (rewrite [sl4]) | (rewrite [sl5]) | ((with_reducible show wpAny _ _ (exec _ _) _ _ _); (fail_if_success (fail_if_success k_fold)); k_extra "fold") | ((fail_if_success (fail_if_success k_unfold)); first | dsimp only [qk] | dsimp only [ek] | (k_unfold; (try dsimp only))) | (k_end; wrow_close) | walk1 | (dsimp only; walk1) | (leave1; walk_say "STEP leave1"; try dsimp only) | fail)
  all_goals first | (exfalso; clear ret; omega) | exact ret _ _ _ _ _ _ (by assumption) (top4 (by assumption))
end
end Mine
end
section
open PySem PySem.W PyProof.Rows PySem.Spec PySem.Calls
set_option Elab.async false
example : True := by k_with_none; trivial
example : True := by
  k_with "fold" => (refine folds ?_; intro qk ek)
  k_with "at0" => (with_reducible show At _ _ _ _ (.Name _ _) _ _ _); exact at_L (by rfl) (by rfl) (by decide) (by k_asm) (Eq.refl (some _))
  k_with "atF" => k_dflt first | k_extra "at0" | ((with_reducible show At _ _ _ _ (.Name _ _) _ _ _); exact at_K (by rfl) (by rfl) (by decide) (by k_asm) (by k_asm) (by k_is) (by k_asm)) | fail
  k_with "atB" => k_dflt first | ((with_reducible show At _ _ _ _ (.Name _ _) _ _ _); exact at_B (by rfl) (by rfl) (by decide) (by k_asm) (by k_asm) (by k_is) (by boot_fast) (by decide) (by k_asm)) | fail
  k_with "at" => k_dflt first | ((with_reducible show At _ _ _ _ (.Constant _ _ _) _ _ _); first | exact at_S | exact at_I | exact at_N) | k_extra "at0" | ((with_reducible show At _ _ _ _ (.Attribute (.Name _ _) _ _) _ _ _); exact at_attr (by k_asm) (by k_asm) (by k_extra "at0") (by k_inst) (by k_get) (by k_is) (by k_is) (by k_is) (by k_is) (by first | exact rfl | k_handed)) | ((with_reducible show At _ _ _ _ (.BinOp _ .Add _ _) _ _ _); exact at_add (by k_extra "at") (by k_extra "at")) | k_extra "atF" | fail
  k_with "spl" => k_dflt first | exact spl0 | ((with_reducible show Spl _ _ _ _ [_] _ _ _); exact spl1 (by k_extra "at")) | ((with_reducible show Spl _ _ _ _ [_, _] _ _ _); exact spl2 (by k_extra "at") (by k_extra "at")) | ((with_reducible show Spl _ _ _ _ (_ :: _) _ _ _); exact splC (by k_extra "at") (by k_extra "spl")) | fail
  k_with "eval Call Attribute" => with_reducible (k_here; show wpAny _ _ (eval (.Call (.Attribute _ _ _) _ [] _) _) _ _ _; first | refine mcall (by k_extra "spl") (by k_dflt exact rfl) (by k_dflt k_asm) (by k_dflt k_asm) (by k_extra "at") (by k_dflt k_inst) (by k_get) (by k_is) (by k_is) (by k_is) (by k_is) (by k_dflt exact rfl) ?_ | fail)
  k_with "eval Call" => first | with_reducible (k_here; show wpAny _ _ (eval (.Call (.Name _ _) _ [] _) _) _ _ _; first | refine fcall (by k_extra "spl") (by k_dflt exact rfl) (by k_dflt k_asm) (by k_dflt k_asm) (by k_extra "atF") (by k_is) (by k_dflt exact rfl) ?_ | ((first | show wpAny _ _ (eval (.Call (.Name (Str.ofString "len") _) _ _ _) _) _ _ _ | show wpAny _ _ (eval (.Call (.Name (Str.ofString "min") _) _ _ _) _) _ _ _); refine bcall (by k_extra "spl") (by k_extra "atB") (by k_dflt exact rfl) ?_) | fail) | (k_here; k_dflt (refine Call_ ?_)) | fail
  k_with "spliced" => first | with_reducible (k_here; first | refine spl_use (by k_extra "spl") ?_ | fail) | (k_dflt (first | refine spliced_more ?_ | refine spliced_none ?_)) | fail
  k_with "eval Subscript" => with_reducible (k_here; show wpAny _ _ (eval (.Subscript _ _ _) _) _ _ _; first | refine sub_at (by k_extra "at") (by k_extra "at") ?_ | fail)
  k_with "eval BinOp" => with_reducible (k_here; show wpAny _ _ (eval (.BinOp _ _ _ _) _) _ _ _; first | refine at_use (by k_extra "at") ?_ | refine bin_at (by k_extra "at") (by k_extra "at") ?_ | fail)
  k_with "isTrue Compare" => with_reducible (k_here; show wpAny _ _ (PySem.isTrue (.Compare _ [_] [_] _) _ _) _ _ _; first | refine cmpT_at (by k_dflt rfl) (by k_extra "at") (by k_extra "at") ?_ | refine cmpT_atL (by k_dflt rfl) (by k_extra "at") ?_ | fail)
  k_with "eval Compare" => with_reducible (k_here; show wpAny _ _ (eval (.Compare _ [_] [_] _) _) _ _ _; first | refine cmp_at (by k_dflt rfl) (by k_extra "at") (by k_extra "at") ?_ | fail)
  k_with "eval Attribute Name" => with_reducible (k_here; first | refine at_use (by k_extra "at") ?_ | fail)
  k_with "eval Name" => with_reducible (k_here; first | refine at_use (by k_extra "at") ?_ | fail)
  k_with "itemAt" => (k_here; (with_reducible show wpAny _ _ (subscriptTail _ _ (Value.ref _) (Value.int _ _)) _ _ _); with_reducible first | refine item_litK (by with_unfolding_all is_list) (by k_dflt decide) (by k_dflt decide) (by with_unfolding_all rfl) ?_ (by with_unfolding_all rfl) | refine item_tupleT (by k_dflt exact News.isTup (by k_asm) (by k_mem)) (by k_dflt decide) (by k_dflt decide) (by k_dflt rfl) (by k_dflt rfl) ?_ | fail); k_whole
  k_with "turned" => (k_here; k_dflt (refine kba_turn (value' := PySem.Expr.Name (PySem.Str.ofString "_") ⟨0, 0, 0, 0⟩) (fun _ => rfl) ?_))
  k_with "subscriptTail Name Constant ref int" => first | k_extra "subscriptTail" | k_extra "itemAt" | fail
  k_with "subscriptTail Subscript Constant ref int" => k_extra "itemAt"
  k_with "subscriptTail Name" => k_extra "subscriptTail"
  k_with "subscriptTail Call" => k_extra "turned"
  k_with "subscriptTail BinOp" => k_extra "turned"
  k_with "seq" => first | (k_here; k_gentoks) | ((with_reducible refine wpAny_execs_cons ?_); try dsimp only) | fail
  k_with "execs cons Assign cons" => k_extra "seq"
  k_with "execs cons If cons" => k_extra "seq"
  k_with "execs cons Return nil" => k_extra "seq"
  k_with "exec Assign cons" => (with_reducible show wpAny _ _ (exec (.Assign [.Name _ _] _ _) _) _ _ _); k_dflt (refine wpAny_Assign_Name ?_)
  k_with "exec If" => refine wpAny_If ?_
  k_with "eval Call Name cons nil" => k_extra "eval Call"
  k_with "isTrue Compare Name cons cons" => k_extra "isTrue Compare"
  k_with "truthy bool false" => refine wpAny_truthy_bool ?_
  k_with "truthy bool" => refine wpAny_truthy_bool ?_
  k_with "room" => first | exact lb0 (j := 1) (by assumption) rfl | exact lb2 (j := 1) (by assumption) (by assumption) rfl
  k_with "om" => first | (k_whole; first | exact lb0 (by assumption) rfl | exact lb1 (by assumption) rfl | exact lb2 (by assumption) (by assumption) rfl | exact lb4 (by assumption) rfl | exact Nat.le_of_succ_le (by assumption)) | omega
  k_with "steps" => repeat' (first | ((with_reducible show wpAny _ _ (exec _ _) _ _ _); (fail_if_success (fail_if_success k_fold)); k_extra "fold") | ((fail_if_success (fail_if_success k_unfold)); first | dsimp only [qk] | dsimp only [ek] | (k_unfold; (try dsimp only))) | (k_end; wrow_close) | walk1 | (dsimp only; walk1) | (leave1; walk_say "STEP leave1"; try dsimp only) | fail)
  trivial
namespace Mine
set_option maxRecDepth 100000
set_option maxHeartbeats 0
theorem mem_tail {h₀ h' : Heap} {L : Addr} {x q : Addr × Obj} {l : List (Addr × Obj)} (_ : News h₀ L h' (x :: l)) (h : q ∈ l) : q ∈ x :: l := .tail _ h
section
variable {w : World} {p : Program} {loose : List Str} {mean : ExcName → Option Value} {mg mb : Str → Option Value} {dp un : Nat} {gd : Option (List Code)} {cn : Str} {cs : Scope} {a : Addr} {ccd : Value} {cl : List (Str × Addr)} {outer : List Env} {A₀ : Around} {base h₀ : Heap} {L : Addr} {m : Str → Option Value}
  {news : List (Addr × Obj)} {s : Shared} {Q E : Value → Shared → Prop} {rdr dct tl nd : Addr} {hs1 hs2 hs3 : Int} {u1 u2 u3 t : Tok} {tas : List Addr} {n : Nat} {pos : Nat} {ws : List Wd} {keep : List (Addr × Obj)}
example : True := by
  k_with "upd" => exact updF_upd (by assumption) _
  trivial
example : True := by
  k_with "rel" => first | (with_reducible assumption) | exact dle1 (by with_reducible assumption) rfl | k_extra "om" | exact rfl | (refine RdIn.mono (by with_reducible assumption) ?_; (intro _ hz; (repeat' (first | exact hz | refine List.Mem.tail _ ?_)))) | exact UpdF.head (by with_reducible assumption) | (refine Kept.mono (by with_reducible assumption) ?_; (intro _ hz; first | exact hz | exact .tail _ hz | exact .tail _ (.tail _ hz) | exact .tail _ (.tail _ (.tail _ hz)) | exact .tail _ (.tail _ (.tail _ (.tail _ hz))) | exact .tail _ (.tail _ (.tail _ (.tail _ (.tail _ hz)))) | exact .tail _ (.tail _ (.tail _ (.tail _ (.tail _ (.tail _ hz))))))) | ((try dsimp only [ktrTop, Around.deeper]); k_extra "om") | assumption | k_mem | k_updF
  trivial
example : True := by
  k_with "call ref" => (k_here; (try dsimp only [List.nil_append, List.cons_append, List.append_nil]); (with_reducible show wpAny _ _ (call (Value.ref 272) [Value.ref _]) _ _ _); k_dflt (first | refine' peek0_some (by ktr_rel) (by ktr_rel) (by ktr_rel) (by ktr_rel) (by ktr_rel) (by ktr_rel) (by ktr_rel) (by ktr_rel) (by ktr_rel) (by ktr_rel) (by ktr_rel) ?_ | refine' peek0_none (by ktr_rel) (by ktr_rel) (by ktr_rel) (by ktr_rel) (by ktr_rel) (by ktr_rel) (by ktr_rel) (by ktr_rel) (by ktr_rel) (by ktr_rel) (by ktr_rel) ?_); k_whole; intro h' tk' F' N'; (try k_sweep))
  trivial
example : True := by
  k_with "call ref" => (k_here; (try dsimp only [List.nil_append, List.cons_append, List.append_nil]); (with_reducible show wpAny _ _ (call (Value.ref 272) [Value.ref _, Value.int _ _]) _ _ _); k_dflt (first | refine' peek_some0 (by ktr_rel) (by ktr_rel) (by ktr_rel) (by ktr_rel) (by ktr_rel) (by ktr_rel) (by ktr_rel) (by ktr_rel) (by ktr_rel) (by ktr_rel) (by ktr_rel) ?_ | refine' peek_none0 (by ktr_rel) (by ktr_rel) (by ktr_rel) (by ktr_rel) (by ktr_rel) (by ktr_rel) (by ktr_rel) (by ktr_rel) (by ktr_rel) (by ktr_rel) (by ktr_rel) ?_ | refine' peek_some1 (by ktr_rel) (by ktr_rel) (by ktr_rel) (by ktr_rel) (by ktr_rel) (by ktr_rel) (by ktr_rel) (by ktr_rel) (by ktr_rel) (by ktr_rel) (by ktr_rel) ?_ | refine' peek_none1 (by ktr_rel) (by ktr_rel) (by ktr_rel) (by ktr_rel) (by ktr_rel) (by ktr_rel) (by ktr_rel) (by ktr_rel) (by ktr_rel) (by ktr_rel) (by ktr_rel) ?_); k_whole; intro h' tk' F' N'; (try k_sweep))
  trivial
example : True := by
  k_with "call ref" => (k_here; (try dsimp only [List.nil_append, List.cons_append, List.append_nil]); (with_reducible show wpAny _ _ (call (Value.ref 301) [Value.ref _, Value.str _ _]) _ _ _); k_dflt (first | refine' isk_c (tk2 := 0) (by ktr_rel) (by ktr_rel) (by ktr_rel) (by ktr_rel) (by ktr_rel) (by ktr_rel) (by ktr_rel) (by ktr_rel) (by ktr_rel) (by ktr_rel) (by ktr_rel) ?_); k_whole; intro h' tk' F' N'; (try k_sweep))
  trivial
example : True := by
  k_with "call ref" => (k_here; (try dsimp only [List.nil_append, List.cons_append, List.append_nil]); (with_reducible show wpAny _ _ (call (Value.ref 301) [Value.ref _, Value.str _ _, Value.int _ _]) _ _ _); k_dflt (first | refine' isk0_c (by ktr_rel) (by ktr_rel) (by ktr_rel) (by ktr_rel) (by ktr_rel) (by ktr_rel) (by ktr_rel) (by ktr_rel) (by ktr_rel) (by ktr_rel) (by ktr_rel) ?_ | refine' isk1_c (by ktr_rel) (by ktr_rel) (by ktr_rel) (by ktr_rel) (by ktr_rel) (by ktr_rel) (by ktr_rel) (by ktr_rel) (by ktr_rel) (by ktr_rel) (by ktr_rel) ?_); k_whole; intro h' tk' F' N'; (try k_sweep))
  trivial
example : True := by
  k_with "call ref" => (k_here; (try dsimp only [List.nil_append, List.cons_append, List.append_nil]); (with_reducible show wpAny _ _ (call (Value.ref 366) [Value.ref _, Value.str _ _]) _ _ _); k_dflt (first | refine' iss_c (by ktr_rel) (by ktr_rel) (by ktr_rel) (by ktr_rel) (by ktr_rel) (by ktr_rel) (by ktr_rel) (by ktr_rel) (by ktr_rel) (by ktr_rel) (by ktr_rel) ?_); k_whole; intro h' tk' F' N'; (try k_sweep))
  trivial
example : True := by
  k_with "call ref" => (k_here; (try dsimp only [List.nil_append, List.cons_append, List.append_nil]); (with_reducible show wpAny _ _ (call (Value.ref 373) [Value.ref _, Value.str _ _]) _ _ _); k_dflt (first | refine' skip_no (by ktr_rel) (by ktr_rel) (by ktr_rel) (by ktr_rel) (by ktr_rel) (by ktr_rel) (by ktr_rel) (by ktr_rel) (by ktr_rel) (by ktr_rel) (by ktr_rel) ?_); k_whole; intro h' tk' F' N'; (try k_sweep))
  trivial
example : True := by
  k_with "call ref" => (k_here; (try dsimp only [List.nil_append, List.cons_append, List.append_nil]); (with_reducible show wpAny _ _ (call (Value.ref 373) [Value.ref _, Value.str _ _]) _ _ _); k_dflt (first | refine' skip_yes (by ktr_rel) (by ktr_rel) (by ktr_rel) (by ktr_rel) (by ktr_rel) (by ktr_rel) (by ktr_rel) (by ktr_rel) (by ktr_rel) (by ktr_rel) (by ktr_rel) (by ktr_rel) ?_); k_whole; intro h' tk' t' F' N'; (try k_sweep))
  trivial
example : True := by
  k_with "call ref" => (k_here; (try dsimp only [List.nil_append, List.cons_append, List.append_nil]); (with_reducible show wpAny _ _ (call (Value.ref 195) [Value.ref _, Value.ref _]) _ _ _); k_dflt (first | refine' sign_c (by ktr_rel) (by ktr_rel) (by ktr_rel) (by ktr_rel) (by ktr_rel) (by ktr_rel) (by ktr_rel) (by ktr_rel) (by ktr_rel) (by ktr_rel) (by ktr_rel) (by ktr_rel) (by ktr_rel) ?_); k_whole; intro h' tk' tr' F' N'; (try k_sweep))
  trivial
theorem num_c {b : Bool} (B : Below A₀ base outer h₀) (F : Fr h₀ L s.heap m) (X : (Mine.frag.heap_1 w.params).In h₀) (N : News h₀ L s.heap news) (T : Top p loose mean mg mb h₀) (hk : cs.kind = .function) (hdp : dp ≤ 684) (hun : un ≤ 8700)
    (R : RdIn news rdr dct tl tas n ws) (hd : (dct, RdD hs1 hs2 hs3 u1 u2 u3 tl nd pos t) ∈ news) (hp : isSg ws[pos]? (Str.ofString "+") = false) (hm : isSg ws[pos]? (Str.ofString "-") = false) (hb : kdIs ws[pos]? (Str.ofString "number") = b)
    (ret : ∀ h' tk', Fr h₀ L h' m → News h₀ L h' news → Q (.bool b) { s with heap := h', toks := tk' }) :
    wpAny (model PySem.Challenge.rw_pc0133_01.prog w) (ktrTop dp un gd cn cs L a ccd cl outer) (call (.ref 387) [.ref rdr]) Q E s := by
  revert X; k_fill; intro X
  have hrd := R.rd
  refine wpAny_call ?_
  k_dflt k_enter
  k_extra "steps"
  all_goals first | exact ret _ _ (by k_asm) (by k_asm) | trace_state
example : True := by
  k_with "call ref" => (k_here; (try dsimp only [List.nil_append, List.cons_append, List.append_nil]); (with_reducible show wpAny _ _ (call (Value.ref 387) [Value.ref _]) _ _ _); k_dflt (first | refine' num_c (by ktr_rel) (by ktr_rel) (by ktr_rel) (by ktr_rel) (by ktr_rel) (by ktr_rel) (by ktr_rel) (by ktr_rel) (by ktr_rel) (by ktr_rel) (by ktr_rel) (by ktr_rel) (by ktr_rel) ?_); k_whole; intro h' tk' F' N'; (try k_sweep))
  trivial
example : True := by
  k_with "call ref" => (k_here; (try dsimp only [List.nil_append, List.cons_append, List.append_nil]); (with_reducible show wpAny _ _ (call (Value.ref 131) [Value.str _ _]) _ _ _); k_dflt (first | refine' dec5 (by ktr_rel) (by ktr_rel) (by ktr_rel) (by ktr_rel) (by ktr_rel) (by ktr_rel) (by ktr_rel) (by ktr_rel) ?_ | refine' dec25 (by ktr_rel) (by ktr_rel) (by ktr_rel) (by ktr_rel) (by ktr_rel) (by ktr_rel) (by ktr_rel) (by ktr_rel) ?_); k_whole; intro h' tk' tp' t1' t2' k' F' N'; (try k_sweep))
  trivial
example : True := by
  k_with "call ref" => (k_here; (try dsimp only [List.nil_append, List.cons_append, List.append_nil]); (with_reducible show wpAny _ _ (call (Value.ref 293) [Value.ref _]) _ _ _); k_dflt (first | refine' take_c (by ktr_rel) (by ktr_rel) (by ktr_rel) (by ktr_rel) (by ktr_rel) (by ktr_rel) (by ktr_rel) (by ktr_rel) (by ktr_rel) (by ktr_rel) (by ktr_rel) (by ktr_rel) ?_); k_whole; intro h' tk' t' F' N'; (have hz1 := mem_tail N' hrd); (have hz2 := mem_tail N' q1); (have hz3 := mem_tail N' q2); (try k_sweep))
  trivial
theorem signed5 {wd : Wd} (B : Below A₀ base outer h₀) (F : Fr h₀ L s.heap m) (X : (Mine.frag.heap_1 w.params).In h₀) (N : News h₀ L s.heap ((dct, RdD hs1 hs2 hs3 u1 u2 u3 tl nd pos t) :: news)) (T : Top p loose mean mg mb h₀) (hk : cs.kind = .function) (hdp : dp ≤ 682) (hun : un ≤ 8600)
    (R : RdIn news rdr dct tl tas n ws) (ap : ∀ p ∈ news, p.1 ≠ dct) (hw : ws[pos]? = some wd) (hkd : wd.kd = Str.ofString "number") (htx : wd.txt = Str.ofString "5")
    (ret : ∀ h' tk' t' tp t1 t2 k, Fr h₀ L h' m → News h₀ L h' ((tp, tupO [.int 5 t1, .int 0 t2] k) :: (dct, RdD hs1 hs2 hs3 u1 u2 u3 tl nd ((pos + 1 : Nat) : Int) t') :: news) → Q (.ref tp) { s with heap := h', toks := tk' }) :
    wpAny (model PySem.Challenge.rw_pc0133_01.prog w) (ktrTop dp un gd cn cs L a ccd cl outer) (call (.ref 394) [.ref rdr]) Q E s := by
  revert X; k_fill; intro X
  have hrd := R.rd
  obtain ⟨ta, hv, ht⟩ := R.tok _ _ hw
  have hn1 : isSg ws[pos]? (Str.ofString "+") = false := by rw [hw]; dsimp only [isSg]; rw [hkd, show (Str.ofString "number" == Str.ofString "sign") = false from by decide +kernel]; rfl
  have hn2 : isSg ws[pos]? (Str.ofString "-") = false := by rw [hw]; dsimp only [isSg]; rw [hkd, show (Str.ofString "number" == Str.ofString "sign") = false from by decide +kernel]; rfl
  have hn3 : kdIs ws[pos]? (Str.ofString "number") = true := by rw [hw]; dsimp only [kdIs]; rw [hkd]; decide +kernel
  cases ht with
  | mk q1 q2 q3 =>
  rw [hkd, htx] at q2
  have hrd2 := mem_tail N hrd
  refine wpAny_call ?_
  k_dflt k_enter
  k_extra "steps"
  all_goals first | exact ret _ _ _ _ _ _ _ (by k_asm) (by k_asm) | trace_state
theorem signed25 {wd : Wd} (B : Below A₀ base outer h₀) (F : Fr h₀ L s.heap m) (X : (Mine.frag.heap_1 w.params).In h₀) (N : News h₀ L s.heap ((dct, RdD hs1 hs2 hs3 u1 u2 u3 tl nd pos t) :: news)) (T : Top p loose mean mg mb h₀) (hk : cs.kind = .function) (hdp : dp ≤ 682) (hun : un ≤ 8600)
    (R : RdIn news rdr dct tl tas n ws) (ap : ∀ p ∈ news, p.1 ≠ dct) (hw : ws[pos]? = some wd) (hkd : wd.kd = Str.ofString "number") (htx : wd.txt = Str.ofString "0.25")
    (ret : ∀ h' tk' t' tp t1 t2 k, Fr h₀ L h' m → News h₀ L h' ((tp, tupO [.int 25 t1, .int 2 t2] k) :: (dct, RdD hs1 hs2 hs3 u1 u2 u3 tl nd ((pos + 1 : Nat) : Int) t') :: news) → Q (.ref tp) { s with heap := h', toks := tk' }) :
    wpAny (model PySem.Challenge.rw_pc0133_01.prog w) (ktrTop dp un gd cn cs L a ccd cl outer) (call (.ref 394) [.ref rdr]) Q E s := by
  revert X; k_fill; intro X
  have hrd := R.rd
  obtain ⟨ta, hv, ht⟩ := R.tok _ _ hw
  have hn1 : isSg ws[pos]? (Str.ofString "+") = false := by rw [hw]; dsimp only [isSg]; rw [hkd, show (Str.ofString "number" == Str.ofString "sign") = false from by decide +kernel]; rfl
  have hn2 : isSg ws[pos]? (Str.ofString "-") = false := by rw [hw]; dsimp only [isSg]; rw [hkd, show (Str.ofString "number" == Str.ofString "sign") = false from by decide +kernel]; rfl
  have hn3 : kdIs ws[pos]? (Str.ofString "number") = true := by rw [hw]; dsimp only [kdIs]; rw [hkd]; decide +kernel
  cases ht with
  | mk q1 q2 q3 =>
  rw [hkd, htx] at q2
  have hrd2 := mem_tail N hrd
  refine wpAny_call ?_
  k_dflt k_enter
  k_extra "steps"
  all_goals first | exact ret _ _ _ _ _ _ _ (by k_asm) (by k_asm) | trace_state
theorem neg_c {tp : Addr} {u sc : Int} {t1 t2 : Tok} {k : Nat} (B : Below A₀ base outer h₀) (F : Fr h₀ L s.heap m) (X : (Mine.frag.heap_1 w.params).In h₀) (N : News h₀ L s.heap news) (T : Top p loose mean mg mb h₀) (hk : cs.kind = .function) (hdp : dp ≤ 690) (hun : un ≤ 9000) (ht : (tp, tupO [.int u t1, .int sc t2] k) ∈ news)
    (ret : ∀ h' tk' tp' t1' t2' k', Fr h₀ L h' m → News h₀ L h' ((tp', tupO [.int (-u) t1', .int sc t2'] k') :: news) → Q (.ref tp') { s with heap := h', toks := tk' }) :
    wpAny (model PySem.Challenge.rw_pc0133_01.prog w) (ktrTop dp un gd cn cs L a ccd cl outer) (call (.ref 96) [.ref tp]) Q E s := by
  revert X; k_fill; intro X
  refine wpAny_call ?_
  k_dflt k_enter
  k_extra "steps"
  all_goals first | exact ret _ _ _ _ _ _ (by k_asm) (by k_asm) | trace_state
end
end Mine
end
section
open PySem PySem.W PyProof.Rows PySem.Spec PySem.Calls
set_option Elab.async false
example : True := by k_with_none; trivial
example : True := by
  k_with "fold" => (refine folds ?_; intro qk ek)
  k_with "at0" => (with_reducible show At _ _ _ _ (.Name _ _) _ _ _); exact at_L (by rfl) (by rfl) (by decide) (by k_asm) (Eq.refl (some _))
  k_with "atF" => k_dflt first | k_extra "at0" | ((with_reducible show At _ _ _ _ (.Name _ _) _ _ _); exact at_K (by rfl) (by rfl) (by decide) (by k_asm) (by k_asm) (by k_is) (by k_asm)) | fail
  k_with "atB" => k_dflt first | ((with_reducible show At _ _ _ _ (.Name _ _) _ _ _); exact at_B (by rfl) (by rfl) (by decide) (by k_asm) (by k_asm) (by k_is) (by boot_fast) (by decide) (by k_asm)) | fail
  k_with "at" => k_dflt first | ((with_reducible show At _ _ _ _ (.Constant _ _ _) _ _ _); first | exact at_S | exact at_I | exact at_N) | k_extra "at0" | ((with_reducible show At _ _ _ _ (.Attribute (.Name _ _) _ _) _ _ _); exact at_attr (by k_asm) (by k_asm) (by k_extra "at0") (by k_inst) (by k_get) (by k_is) (by k_is) (by k_is) (by k_is) (by first | exact rfl | k_handed)) | ((with_reducible show At _ _ _ _ (.BinOp _ .Add _ _) _ _ _); exact at_add (by k_extra "at") (by k_extra "at")) | k_extra "atF" | fail
  k_with "spl" => k_dflt first | exact spl0 | ((with_reducible show Spl _ _ _ _ [_] _ _ _); exact spl1 (by k_extra "at")) | ((with_reducible show Spl _ _ _ _ [_, _] _ _ _); exact spl2 (by k_extra "at") (by k_extra "at")) | ((with_reducible show Spl _ _ _ _ (_ :: _) _ _ _); exact splC (by k_extra "at") (by k_extra "spl")) | fail
  k_with "eval Call Attribute" => with_reducible (k_here; show wpAny _ _ (eval (.Call (.Attribute _ _ _) _ [] _) _) _ _ _; first | refine mcall (by k_extra "spl") (by k_dflt exact rfl) (by k_dflt k_asm) (by k_dflt k_asm) (by k_extra "at") (by k_dflt k_inst) (by k_get) (by k_is) (by k_is) (by k_is) (by k_is) (by k_dflt exact rfl) ?_ | fail)
  k_with "eval Call" => first | with_reducible (k_here; show wpAny _ _ (eval (.Call (.Name _ _) _ [] _) _) _ _ _; first | refine fcall (by k_extra "spl") (by k_dflt exact rfl) (by k_dflt k_asm) (by k_dflt k_asm) (by k_extra "atF") (by k_is) (by k_dflt exact rfl) ?_ | ((first | show wpAny _ _ (eval (.Call (.Name (Str.ofString "len") _) _ _ _) _) _ _ _ | show wpAny _ _ (eval (.Call (.Name (Str.ofString "min") _) _ _ _) _) _ _ _); refine bcall (by k_extra "spl") (by k_extra "atB") (by k_dflt exact rfl) ?_) | fail) | (k_here; k_dflt (refine Call_ ?_)) | fail
  k_with "spliced" => first | with_reducible (k_here; first | refine spl_use (by k_extra "spl") ?_ | fail) | (k_dflt (first | refine spliced_more ?_ | refine spliced_none ?_)) | fail
  k_with "eval Subscript" => with_reducible (k_here; show wpAny _ _ (eval (.Subscript _ _ _) _) _ _ _; first | refine sub_at (by k_extra "at") (by k_extra "at") ?_ | fail)
  k_with "eval BinOp" => with_reducible (k_here; show wpAny _ _ (eval (.BinOp _ _ _ _) _) _ _ _; first | refine at_use (by k_extra "at") ?_ | refine bin_at (by k_extra "at") (by k_extra "at") ?_ | fail)
  k_with "isTrue Compare" => with_reducible (k_here; show wpAny _ _ (PySem.isTrue (.Compare _ [_] [_] _) _ _) _ _ _; first | refine cmpT_at (by k_dflt rfl) (by k_extra "at") (by k_extra "at") ?_ | refine cmpT_atL (by k_dflt rfl) (by k_extra "at") ?_ | fail)
  k_with "eval Compare" => with_reducible (k_here; show wpAny _ _ (eval (.Compare _ [_] [_] _) _) _ _ _; first | refine cmp_at (by k_dflt rfl) (by k_extra "at") (by k_extra "at") ?_ | fail)
  k_with "eval Attribute Name" => with_reducible (k_here; first | refine at_use (by k_extra "at") ?_ | fail)
  k_with "eval Name" => with_reducible (k_here; first | refine at_use (by k_extra "at") ?_ | fail)
  k_with "itemAt" => (k_here; (with_reducible show wpAny _ _ (subscriptTail _ _ (Value.ref _) (Value.int _ _)) _ _ _); with_reducible first | refine item_litK (by with_unfolding_all is_list) (by k_dflt decide) (by k_dflt decide) (by with_unfolding_all rfl) ?_ (by with_unfolding_all rfl) | refine item_tupleT (by k_dflt exact News.isTup (by k_asm) (by k_mem)) (by k_dflt decide) (by k_dflt decide) (by k_dflt rfl) (by k_dflt rfl) ?_ | fail); k_whole
  k_with "turned" => (k_here; k_dflt (refine kba_turn (value' := PySem.Expr.Name (PySem.Str.ofString "_") ⟨0, 0, 0, 0⟩) (fun _ => rfl) ?_))
  k_with "subscriptTail Name Constant ref int" => first | k_extra "subscriptTail" | k_extra "itemAt" | fail
  k_with "subscriptTail Subscript Constant ref int" => k_extra "itemAt"
  k_with "subscriptTail Name" => k_extra "subscriptTail"
  k_with "subscriptTail Call" => k_extra "turned"
  k_with "subscriptTail BinOp" => k_extra "turned"
  k_with "seq" => first | (k_here; k_gentoks) | ((with_reducible refine wpAny_execs_cons ?_); try dsimp only) | fail
  k_with "execs cons Assign cons" => k_extra "seq"
  k_with "execs cons If cons" => k_extra "seq"
  k_with "execs cons Return nil" => k_extra "seq"
  k_with "exec Assign cons" => (with_reducible show wpAny _ _ (exec (.Assign [.Name _ _] _ _) _) _ _ _); k_dflt (refine wpAny_Assign_Name ?_)
  k_with "exec If" => refine wpAny_If ?_
  k_with "eval Call Name cons nil" => k_extra "eval Call"
  k_with "isTrue Compare Name cons cons" => k_extra "isTrue Compare"
  k_with "truthy bool false" => refine wpAny_truthy_bool ?_
  k_with "truthy bool" => refine wpAny_truthy_bool ?_
  k_with "room" => first | exact lb0 (j := 1) (by assumption) rfl | exact lb2 (j := 1) (by assumption) (by assumption) rfl
  k_with "om" => first | (k_whole; first | exact lb0 (by assumption) rfl | exact lb1 (by assumption) rfl | exact lb2 (by assumption) (by assumption) rfl | exact lb4 (by assumption) rfl | exact Nat.le_of_succ_le (by assumption)) | omega
  k_with "steps" => repeat' (first | ((with_reducible show wpAny _ _ (exec _ _) _ _ _); (fail_if_success (fail_if_success k_fold)); k_extra "fold") | ((fail_if_success (fail_if_success k_unfold)); first | dsimp only [qk] | dsimp only [ek] | (k_unfold; (try dsimp only))) | (k_end; wrow_close) | walk1 | (dsimp only; walk1) | (leave1; walk_say "STEP leave1"; try dsimp only) | fail)
  trivial
namespace Mine
set_option maxRecDepth 100000
set_option maxHeartbeats 0
theorem boolTo {Q : Value → Shared → Prop} {b v : Bool} {s : Shared} (h : v = b) (r : Q (.bool b) s) : Q (.bool v) s := h ▸ r
theorem lone1 {x k : Str} {r : Bool} (h : (x != k) = true) : false = (x == k && r) := by simp_all
theorem lone2 {x k : Str} (h : (x != k) = false) : true = (x == k) := by simp_all
theorem lone3 {x k x1 k1 : Str} {r : Bool} (h : (x != k) = false) (h' : (x1 != k1) = true) : (x1 != k1) = (x == k && !(x1 == k1 && r)) := by rw [h']; simp_all
theorem lone4 {x k x1 k1 y p : Str} (h : (x != k) = false) (h' : (x1 != k1) = false) : (y != p) = (x == k && !(x1 == k1 && y == p)) := by simp_all [bne]
theorem lone1' {x k : Str} (h : (x != k) = true) : false = (x == k) := by simp_all
example : True := by
  k_with "mem" => first | ktr_member | (refine List.mem_cons_of_mem _ ?_; k_mem)
  trivial
theorem newsTl {h₀ h' : Heap} {L : Addr} {x : Addr × Obj} {l : List (Addr × Obj)} (N : News h₀ L h' (x :: l)) : News h₀ L h' l := fun p hp => N p (.tail _ hp)
theorem newsTl2 {h₀ h' : Heap} {L : Addr} {x y : Addr × Obj} {l : List (Addr × Obj)} (N : News h₀ L h' (x :: y :: l)) : News h₀ L h' (x :: l) := fun p hp => N p (by cases hp with | head => exact .head _ | tail _ h => exact .tail _ (.tail _ h))
example : True := by
  k_with "nws" => first | k_asm | exact newsTl (by assumption) | exact newsTl (newsTl (by assumption)) | exact newsTl2 (by assumption)
  trivial
section
variable {w : World} {p : Program} {loose : List Str} {mean : ExcName → Option Value} {mg mb : Str → Option Value} {dp un : Nat} {gd : Option (List Code)} {cn : Str} {cs : Scope} {a : Addr} {ccd : Value} {cl : List (Str × Addr)} {outer : List Env} {A₀ : Around} {base h₀ : Heap} {L : Addr} {m : Str → Option Value}
  {news : List (Addr × Obj)} {s : Shared} {Q E : Value → Shared → Prop} {rdr dct tl nd : Addr} {hs1 hs2 hs3 : Int} {u1 u2 u3 t : Tok} {tas : List Addr} {n : Nat} {pos : Nat} {ws : List Wd} {keep : List (Addr × Obj)}
example : True := by
  k_with "upd" => exact updF_upd (by assumption) _
  trivial
example : True := by
  k_with "rel" => first | (with_reducible assumption) | exact dle1 (by with_reducible assumption) rfl | k_extra "om" | exact rfl | ((try dsimp only [ktrTop, Around.deeper]); k_extra "om") | assumption | k_mem | k_updF
  trivial
example : True := by
  k_with "call ref" => (k_here; (try dsimp only [List.nil_append, List.cons_append, List.append_nil]); (with_reducible show wpAny _ _ (call (Value.ref 272) [Value.ref _]) _ _ _); k_dflt (first | refine' peek0_some (by ktr_rel) (by ktr_rel) (by ktr_rel) (by ktr_rel) (by ktr_rel) (by ktr_rel) (by ktr_rel) (by ktr_rel) (by ktr_rel) (by ktr_rel) (by ktr_rel) ?_ | refine' peek0_none (by ktr_rel) (by ktr_rel) (by ktr_rel) (by ktr_rel) (by ktr_rel) (by ktr_rel) (by ktr_rel) (by ktr_rel) (by ktr_rel) (by ktr_rel) (by ktr_rel) ?_); k_whole; intro h' tk' F' N'; (try k_sweep))
  trivial
example : True := by
  k_with "call ref" => (k_here; (try dsimp only [List.nil_append, List.cons_append, List.append_nil]); (with_reducible show wpAny _ _ (call (Value.ref 272) [Value.ref _, Value.int _ _]) _ _ _); k_dflt (first | refine' peek_some0 (by ktr_rel) (by ktr_rel) (by ktr_rel) (by ktr_rel) (by ktr_rel) (by ktr_rel) (by ktr_rel) (by ktr_rel) (by ktr_rel) (by ktr_rel) (by ktr_rel) ?_ | refine' peek_none0 (by ktr_rel) (by ktr_rel) (by ktr_rel) (by ktr_rel) (by ktr_rel) (by ktr_rel) (by ktr_rel) (by ktr_rel) (by ktr_rel) (by ktr_rel) (by ktr_rel) ?_ | refine' peek_some1 (by ktr_rel) (by ktr_rel) (by ktr_rel) (by ktr_rel) (by ktr_rel) (by ktr_rel) (by ktr_rel) (by ktr_rel) (by ktr_rel) (by ktr_rel) (by ktr_rel) ?_ | refine' peek_none1 (by ktr_rel) (by ktr_rel) (by ktr_rel) (by ktr_rel) (by ktr_rel) (by ktr_rel) (by ktr_rel) (by ktr_rel) (by ktr_rel) (by ktr_rel) (by ktr_rel) ?_); k_whole; intro h' tk' F' N'; (try k_sweep))
  trivial
example : True := by
  k_with "call ref" => (k_here; (try dsimp only [List.nil_append, List.cons_append, List.append_nil]); (with_reducible show wpAny _ _ (call (Value.ref 301) [Value.ref _, Value.str _ _]) _ _ _); k_dflt (first | refine' isk_c (tk2 := 0) (by ktr_rel) (by ktr_rel) (by ktr_rel) (by ktr_rel) (by ktr_rel) (by ktr_rel) (by ktr_rel) (by ktr_rel) (by ktr_rel) (by ktr_rel) (by ktr_rel) ?_); k_whole; intro h' tk' F' N'; (try k_sweep))
  trivial
example : True := by
  k_with "call ref" => (k_here; (try dsimp only [List.nil_append, List.cons_append, List.append_nil]); (with_reducible show wpAny _ _ (call (Value.ref 301) [Value.ref _, Value.str _ _, Value.int _ _]) _ _ _); k_dflt (first | refine' isk0_c (by ktr_rel) (by ktr_rel) (by ktr_rel) (by ktr_rel) (by ktr_rel) (by ktr_rel) (by ktr_rel) (by ktr_rel) (by ktr_rel) (by ktr_rel) (by ktr_rel) ?_ | refine' isk1_c (by ktr_rel) (by ktr_rel) (by ktr_rel) (by ktr_rel) (by ktr_rel) (by ktr_rel) (by ktr_rel) (by ktr_rel) (by ktr_rel) (by ktr_rel) (by ktr_rel) ?_); k_whole; intro h' tk' F' N'; (try k_sweep))
  trivial
example : True := by
  k_with "call ref" => (k_here; (try dsimp only [List.nil_append, List.cons_append, List.append_nil]); (with_reducible show wpAny _ _ (call (Value.ref 366) [Value.ref _, Value.str _ _]) _ _ _); k_dflt (first | refine' iss_c (by ktr_rel) (by ktr_rel) (by ktr_rel) (by ktr_rel) (by ktr_rel) (by ktr_rel) (by ktr_rel) (by ktr_rel) (by ktr_rel) (by ktr_rel) (by ktr_rel) ?_); k_whole; intro h' tk' F' N'; (try k_sweep))
  trivial
example : True := by
  k_with "call ref" => (k_here; (try dsimp only [List.nil_append, List.cons_append, List.append_nil]); (with_reducible show wpAny _ _ (call (Value.ref 293) [Value.ref _]) _ _ _); k_dflt (first | refine' take_c (by ktr_rel) (by ktr_rel) (by ktr_rel) (by ktr_rel) (by ktr_rel) (by ktr_rel) (by ktr_rel) (by ktr_rel) (by ktr_rel) (by ktr_rel) (by ktr_rel) (by ktr_rel) ?_); k_whole; intro h' tk' t' F' N'; (try k_sweep))
  trivial
example : True := by
  k_with "call ref" => (k_here; (try dsimp only [List.nil_append, List.cons_append, List.append_nil]); (with_reducible show wpAny _ _ (call (Value.ref 373) [Value.ref _, Value.str _ _]) _ _ _); k_dflt (first | refine' skip_no (by ktr_rel) (by ktr_rel) (by ktr_rel) (by ktr_rel) (by ktr_rel) (by ktr_rel) (by ktr_rel) (by ktr_rel) (by ktr_rel) (by ktr_rel) (by ktr_rel) ?_); k_whole; intro h' tk' F' N'; (try k_sweep))
  trivial
example : True := by
  k_with "call ref" => (k_here; (try dsimp only [List.nil_append, List.cons_append, List.append_nil]); (with_reducible show wpAny _ _ (call (Value.ref 373) [Value.ref _, Value.str _ _]) _ _ _); k_dflt (first | refine' skip_yes (by ktr_rel) (by ktr_rel) (by ktr_rel) (by ktr_rel) (by ktr_rel) (by ktr_rel) (by ktr_rel) (by ktr_rel) (by ktr_rel) (by ktr_rel) (by ktr_rel) (by ktr_rel) ?_); k_whole; intro h' tk' t' F' N'; (try k_sweep))
  trivial
example : True := by
  k_with "call ref" => (k_here; (try dsimp only [List.nil_append, List.cons_append, List.append_nil]); (with_reducible show wpAny _ _ (call (Value.ref 195) [Value.ref _, Value.ref _]) _ _ _); k_dflt (first | refine' sign_c (by ktr_rel) (by ktr_rel) (by ktr_rel) (by ktr_rel) (by ktr_rel) (by ktr_rel) (by ktr_rel) (by ktr_rel) (by ktr_rel) (by ktr_rel) (by ktr_rel) (by ktr_rel) (by ktr_rel) ?_); k_whole; intro h' tk' tr' F' N'; (try k_sweep))
  trivial
theorem lone_c {b : Bool} (B : Below A₀ base outer h₀) (F : Fr h₀ L s.heap m) (X : (Mine.frag.heap_1 w.params).In h₀) (N : News h₀ L s.heap news) (T : Top p loose mean mg mb h₀) (hk : cs.kind = .function) (hdp : dp ≤ 684) (hun : un ≤ 8700)
    (R : RdIn news rdr dct tl tas n ws) (hd : (dct, RdD hs1 hs2 hs3 u1 u2 u3 tl nd pos t) ∈ news) (hb : (kdIs ws[pos]? (Str.ofString "number") && !(isSg ws[pos + 1]? (Str.ofString "**"))) = b)
    (ret : ∀ h' tk', Fr h₀ L h' m → News h₀ L h' news → Q (.bool b) { s with heap := h', toks := tk' }) :
    wpAny (model PySem.Challenge.rw_pc0133_01.prog w) (ktrTop dp un gd cn cs L a ccd cl outer) (call (.ref 223) [.ref rdr]) Q E s := by
  revert X; k_fill; intro X
  have hrd := R.rd
  have e1 := ret
  cases hw : ws[pos]? with
  | none =>
    have hv := tas_none R.len hw
    rw [hw] at hb; have hb : false = b := by rw [← hb]; rfl
    subst hb
    cases hw1 : ws[pos + 1]? with
    | none =>
      have hv1 := tas_none R.len hw1
      refine wpAny_call ?_
      k_dflt k_enter
      k_extra "steps"
      all_goals first | exact ret _ _ (by k_asm) (by k_extra "nws") | exact boolTo (lone1 (by assumption)) (ret _ _ (by k_asm) (by k_extra "nws")) | exact boolTo (lone2 (by assumption)) (ret _ _ (by k_asm) (by k_extra "nws")) | exact boolTo (lone1' (by assumption)) (ret _ _ (by k_asm) (by k_extra "nws")) | exact boolTo (lone3 (by assumption) (by assumption)) (ret _ _ (by k_asm) (by k_extra "nws")) | exact boolTo (lone4 (by assumption) (by assumption)) (ret _ _ (by k_asm) (by k_extra "nws")) | trace_state
    | some wd1 =>
      have := List.getElem?_eq_none_iff.mp hw
      have := (List.getElem?_eq_some_iff.mp hw1).1
      omega
  | some wd =>
    obtain ⟨ta, hv, ht⟩ := R.tok _ _ hw
    cases ht with
    | mk q1 q2 q3 =>
    rw [hw] at hb
    dsimp only [kdIs] at hb
    generalize wd.kd = x at *
    cases hw1 : ws[pos + 1]? with
    | none =>
      have hv1 := tas_none R.len hw1
      rw [hw1] at hb; have hb : (x == Str.ofString "number") = b := by rw [← hb]; exact (Bool.and_true _).symm
      subst hb
      refine wpAny_call ?_
      k_dflt k_enter
      k_extra "steps"
      all_goals first | exact ret _ _ (by k_asm) (by k_extra "nws") | exact boolTo (lone1 (by assumption)) (ret _ _ (by k_asm) (by k_extra "nws")) | exact boolTo (lone2 (by assumption)) (ret _ _ (by k_asm) (by k_extra "nws")) | exact boolTo (lone1' (by assumption)) (ret _ _ (by k_asm) (by k_extra "nws")) | exact boolTo (lone3 (by assumption) (by assumption)) (ret _ _ (by k_asm) (by k_extra "nws")) | exact boolTo (lone4 (by assumption) (by assumption)) (ret _ _ (by k_asm) (by k_extra "nws")) | trace_state
    | some wd1 =>
      obtain ⟨ta1, hv1, ht1⟩ := R.tok _ _ hw1
      cases ht1 with
      | mk p1 p2 p3 =>
      rw [hw1] at hb; dsimp only [isSg] at hb
      have hp0 := hrd
      generalize wd1.kd = x1 at *
      generalize wd1.txt = y1 at *
      subst hb
      refine wpAny_call ?_
      k_dflt k_enter
      k_extra "steps"
      all_goals first | exact ret _ _ (by k_asm) (by k_extra "nws") | exact boolTo (lone1 (by assumption)) (ret _ _ (by k_asm) (by k_extra "nws")) | exact boolTo (lone2 (by assumption)) (ret _ _ (by k_asm) (by k_extra "nws")) | exact boolTo (lone1' (by assumption)) (ret _ _ (by k_asm) (by k_extra "nws")) | exact boolTo (lone3 (by assumption) (by assumption)) (ret _ _ (by k_asm) (by k_extra "nws")) | exact boolTo (lone4 (by assumption) (by assumption)) (ret _ _ (by k_asm) (by k_extra "nws")) | trace_state
end
end Mine
end
section
open PySem PySem.W PyProof.Rows PySem.Spec PySem.Calls
set_option Elab.async false
example : True := by k_with_none; trivial
example : True := by
  k_with "fold" => (refine folds ?_; intro qk ek)
  k_with "at0" => (with_reducible show At _ _ _ _ (.Name _ _) _ _ _); exact at_L (by rfl) (by rfl) (by decide) (by k_asm) (Eq.refl (some _))
  k_with "atF" => k_dflt first | k_extra "at0" | ((with_reducible show At _ _ _ _ (.Name _ _) _ _ _); exact at_K (by rfl) (by rfl) (by decide) (by k_asm) (by k_asm) (by k_is) (by k_asm)) | fail
  k_with "atB" => k_dflt first | ((with_reducible show At _ _ _ _ (.Name _ _) _ _ _); exact at_B (by rfl) (by rfl) (by decide) (by k_asm) (by k_asm) (by k_is) (by boot_fast) (by decide) (by k_asm)) | fail
  k_with "at" => k_dflt first | ((with_reducible show At _ _ _ _ (.Constant _ _ _) _ _ _); first | exact at_S | exact at_I | exact at_N) | k_extra "at0" | ((with_reducible show At _ _ _ _ (.Attribute (.Name _ _) _ _) _ _ _); exact at_attr (by k_asm) (by k_asm) (by k_extra "at0") (by k_inst) (by k_get) (by k_is) (by k_is) (by k_is) (by k_is) (by first | exact rfl | k_handed)) | ((with_reducible show At _ _ _ _ (.BinOp _ .Add _ _) _ _ _); exact at_add (by k_extra "at") (by k_extra "at")) | k_extra "atF" | fail
  k_with "spl" => k_dflt first | exact spl0 | ((with_reducible show Spl _ _ _ _ [_] _ _ _); exact spl1 (by k_extra "at")) | ((with_reducible show Spl _ _ _ _ [_, _] _ _ _); exact spl2 (by k_extra "at") (by k_extra "at")) | ((with_reducible show Spl _ _ _ _ (_ :: _) _ _ _); exact splC (by k_extra "at") (by k_extra "spl")) | fail
  k_with "eval Call Attribute" => with_reducible (k_here; show wpAny _ _ (eval (.Call (.Attribute _ _ _) _ [] _) _) _ _ _; first | refine mcall (by k_extra "spl") (by k_dflt exact rfl) (by k_dflt k_asm) (by k_dflt k_asm) (by k_extra "at") (by k_dflt k_inst) (by k_get) (by k_is) (by k_is) (by k_is) (by k_is) (by k_dflt exact rfl) ?_ | fail)
  k_with "eval Call" => first | with_reducible (k_here; show wpAny _ _ (eval (.Call (.Name _ _) _ [] _) _) _ _ _; first | refine fcall (by k_extra "spl") (by k_dflt exact rfl) (by k_dflt k_asm) (by k_dflt k_asm) (by k_extra "atF") (by k_is) (by k_dflt exact rfl) ?_ | ((first | show wpAny _ _ (eval (.Call (.Name (Str.ofString "len") _) _ _ _) _) _ _ _ | show wpAny _ _ (eval (.Call (.Name (Str.ofString "min") _) _ _ _) _) _ _ _); refine bcall (by k_extra "spl") (by k_extra "atB") (by k_dflt exact rfl) ?_) | fail) | (k_here; k_dflt (refine Call_ ?_)) | fail
  k_with "spliced" => first | with_reducible (k_here; first | refine spl_use (by k_extra "spl") ?_ | fail) | (k_dflt (first | refine spliced_more ?_ | refine spliced_none ?_)) | fail
  k_with "eval Subscript" => with_reducible (k_here; show wpAny _ _ (eval (.Subscript _ _ _) _) _ _ _; first | refine sub_at (by k_extra "at") (by k_extra "at") ?_ | fail)
  k_with "eval BinOp" => with_reducible (k_here; show wpAny _ _ (eval (.BinOp _ _ _ _) _) _ _ _; first | refine at_use (by k_extra "at") ?_ | refine bin_at (by k_extra "at") (by k_extra "at") ?_ | fail)
  k_with "isTrue Compare" => with_reducible (k_here; show wpAny _ _ (PySem.isTrue (.Compare _ [_] [_] _) _ _) _ _ _; first | refine cmpT_at (by k_dflt rfl) (by k_extra "at") (by k_extra "at") ?_ | refine cmpT_atL (by k_dflt rfl) (by k_extra "at") ?_ | fail)
  k_with "eval Compare" => with_reducible (k_here; show wpAny _ _ (eval (.Compare _ [_] [_] _) _) _ _ _; first | refine cmp_at (by k_dflt rfl) (by k_extra "at") (by k_extra "at") ?_ | fail)
  k_with "eval Attribute Name" => with_reducible (k_here; first | refine at_use (by k_extra "at") ?_ | fail)
  k_with "eval Name" => with_reducible (k_here; first | refine at_use (by k_extra "at") ?_ | fail)
  k_with "itemAt" => (k_here; (with_reducible show wpAny _ _ (subscriptTail _ _ (Value.ref _) (Value.int _ _)) _ _ _); with_reducible first | refine item_litK (by with_unfolding_all is_list) (by k_dflt decide) (by k_dflt decide) (by with_unfolding_all rfl) ?_ (by with_unfolding_all rfl) | refine item_tupleT (by k_dflt exact News.isTup (by k_asm) (by k_mem)) (by k_dflt decide) (by k_dflt decide) (by k_dflt rfl) (by k_dflt rfl) ?_ | fail); k_whole
  k_with "turned" => (k_here; k_dflt (refine kba_turn (value' := PySem.Expr.Name (PySem.Str.ofString "_") ⟨0, 0, 0, 0⟩) (fun _ => rfl) ?_))
  k_with "subscriptTail Name Constant ref int" => first | k_extra "subscriptTail" | k_extra "itemAt" | fail
  k_with "subscriptTail Subscript Constant ref int" => k_extra "itemAt"
  k_with "subscriptTail Name" => k_extra "subscriptTail"
  k_with "subscriptTail Call" => k_extra "turned"
  k_with "subscriptTail BinOp" => k_extra "turned"
  k_with "seq" => first | (k_here; k_gentoks) | ((with_reducible refine wpAny_execs_cons ?_); try dsimp only) | fail
  k_with "execs cons Assign cons" => k_extra "seq"
  k_with "execs cons If cons" => k_extra "seq"
  k_with "execs cons Return nil" => k_extra "seq"
  k_with "exec Assign cons" => (with_reducible show wpAny _ _ (exec (.Assign [.Name _ _] _ _) _) _ _ _); k_dflt (refine wpAny_Assign_Name ?_)
  k_with "exec If" => refine wpAny_If ?_
  k_with "eval Call Name cons nil" => k_extra "eval Call"
  k_with "isTrue Compare Name cons cons" => k_extra "isTrue Compare"
  k_with "truthy bool false" => refine wpAny_truthy_bool ?_
  k_with "truthy bool" => refine wpAny_truthy_bool ?_
  k_with "room" => first | exact lb0 (j := 1) (by assumption) rfl | exact lb2 (j := 1) (by assumption) (by assumption) rfl
  k_with "om" => first | (k_whole; first | exact lb0 (by assumption) rfl | exact lb1 (by assumption) rfl | exact lb2 (by assumption) (by assumption) rfl | exact lb4 (by assumption) rfl | exact Nat.le_of_succ_le (by assumption)) | omega
  k_with "steps" => repeat' (first | ((with_reducible show wpAny _ _ (exec _ _) _ _ _); (fail_if_success (fail_if_success k_fold)); k_extra "fold") | ((fail_if_success (fail_if_success k_unfold)); first | dsimp only [qk] | dsimp only [ek] | (k_unfold; (try dsimp only))) | (k_end; wrow_close) | walk1 | (dsimp only; walk1) | (leave1; walk_say "STEP leave1"; try dsimp only) | fail)
  trivial
namespace Mine
set_option maxRecDepth 100000
set_option maxHeartbeats 0
example : True := by
  k_with "mem" => first | ktr_member | (refine List.mem_cons_of_mem _ ?_; k_mem)
  trivial
example : True := by
  k_with "nws" => first | k_asm | exact newsTl (by assumption) | exact newsTl (newsTl (by assumption)) | exact newsTl2 (by assumption)
  trivial
section
variable {w : World} {p : Program} {loose : List Str} {mean : ExcName → Option Value} {mg mb : Str → Option Value} {dp un : Nat} {gd : Option (List Code)} {cn : Str} {cs : Scope} {a : Addr} {ccd : Value} {cl : List (Str × Addr)} {outer : List Env} {A₀ : Around} {base h₀ : Heap} {L : Addr} {m : Str → Option Value}
  {news : List (Addr × Obj)} {s : Shared} {Q E : Value → Shared → Prop} {rdr dct tl nd : Addr} {hs1 hs2 hs3 : Int} {u1 u2 u3 t : Tok} {tas : List Addr} {n : Nat} {pos : Nat} {ws : List Wd} {keep : List (Addr × Obj)}
example : True := by
  k_with "upd" => exact updF_upd (by assumption) _
  trivial
example : True := by
  k_with "rel" => first | (with_reducible assumption) | exact dle1 (by with_reducible assumption) rfl | k_extra "om" | exact rfl | (refine RdIn.mono (by with_reducible assumption) ?_; (intro _ hz; (repeat' (first | exact hz | refine List.Mem.tail _ ?_)))) | exact UpdF.head (by with_reducible assumption) | (refine Kept.mono (by with_reducible assumption) ?_; (intro _ hz; first | exact hz | exact .tail _ hz | exact .tail _ (.tail _ hz) | exact .tail _ (.tail _ (.tail _ hz)) | exact .tail _ (.tail _ (.tail _ (.tail _ hz))) | exact .tail _ (.tail _ (.tail _ (.tail _ (.tail _ hz)))) | exact .tail _ (.tail _ (.tail _ (.tail _ (.tail _ (.tail _ hz))))))) | ((try dsimp only [ktrTop, Around.deeper]); k_extra "om") | assumption | k_mem | k_updF
  trivial
example : True := by
  k_with "call ref" => (k_here; (try dsimp only [List.nil_append, List.cons_append, List.append_nil]); (with_reducible show wpAny _ _ (call (Value.ref 272) [Value.ref _]) _ _ _); k_dflt (first | refine' peek0_some (by ktr_rel) (by ktr_rel) (by ktr_rel) (by ktr_rel) (by ktr_rel) (by ktr_rel) (by ktr_rel) (by ktr_rel) (by ktr_rel) (by ktr_rel) (by ktr_rel) ?_ | refine' peek0_none (by ktr_rel) (by ktr_rel) (by ktr_rel) (by ktr_rel) (by ktr_rel) (by ktr_rel) (by ktr_rel) (by ktr_rel) (by ktr_rel) (by ktr_rel) (by ktr_rel) ?_); k_whole; intro h' tk' F' N'; (try k_sweep))
  trivial
example : True := by
  k_with "call ref" => (k_here; (try dsimp only [List.nil_append, List.cons_append, List.append_nil]); (with_reducible show wpAny _ _ (call (Value.ref 272) [Value.ref _, Value.int _ _]) _ _ _); k_dflt (first | refine' peek_some0 (by ktr_rel) (by ktr_rel) (by ktr_rel) (by ktr_rel) (by ktr_rel) (by ktr_rel) (by ktr_rel) (by ktr_rel) (by ktr_rel) (by ktr_rel) (by ktr_rel) ?_ | refine' peek_none0 (by ktr_rel) (by ktr_rel) (by ktr_rel) (by ktr_rel) (by ktr_rel) (by ktr_rel) (by ktr_rel) (by ktr_rel) (by ktr_rel) (by ktr_rel) (by ktr_rel) ?_ | refine' peek_some1 (by ktr_rel) (by ktr_rel) (by ktr_rel) (by ktr_rel) (by ktr_rel) (by ktr_rel) (by ktr_rel) (by ktr_rel) (by ktr_rel) (by ktr_rel) (by ktr_rel) ?_ | refine' peek_none1 (by ktr_rel) (by ktr_rel) (by ktr_rel) (by ktr_rel) (by ktr_rel) (by ktr_rel) (by ktr_rel) (by ktr_rel) (by ktr_rel) (by ktr_rel) (by ktr_rel) ?_); k_whole; intro h' tk' F' N'; (try k_sweep))
  trivial
example : True := by
  k_with "call ref" => (k_here; (try dsimp only [List.nil_append, List.cons_append, List.append_nil]); (with_reducible show wpAny _ _ (call (Value.ref 301) [Value.ref _, Value.str _ _]) _ _ _); k_dflt (first | refine' isk_c (tk2 := 0) (by ktr_rel) (by ktr_rel) (by ktr_rel) (by ktr_rel) (by ktr_rel) (by ktr_rel) (by ktr_rel) (by ktr_rel) (by ktr_rel) (by ktr_rel) (by ktr_rel) ?_); k_whole; intro h' tk' F' N'; (try k_sweep))
  trivial
example : True := by
  k_with "call ref" => (k_here; (try dsimp only [List.nil_append, List.cons_append, List.append_nil]); (with_reducible show wpAny _ _ (call (Value.ref 301) [Value.ref _, Value.str _ _, Value.int _ _]) _ _ _); k_dflt (first | refine' isk0_c (by ktr_rel) (by ktr_rel) (by ktr_rel) (by ktr_rel) (by ktr_rel) (by ktr_rel) (by ktr_rel) (by ktr_rel) (by ktr_rel) (by ktr_rel) (by ktr_rel) ?_ | refine' isk1_c (by ktr_rel) (by ktr_rel) (by ktr_rel) (by ktr_rel) (by ktr_rel) (by ktr_rel) (by ktr_rel) (by ktr_rel) (by ktr_rel) (by ktr_rel) (by ktr_rel) ?_); k_whole; intro h' tk' F' N'; (try k_sweep))
  trivial
example : True := by
  k_with "call ref" => (k_here; (try dsimp only [List.nil_append, List.cons_append, List.append_nil]); (with_reducible show wpAny _ _ (call (Value.ref 366) [Value.ref _, Value.str _ _]) _ _ _); k_dflt (first | refine' iss_c (by ktr_rel) (by ktr_rel) (by ktr_rel) (by ktr_rel) (by ktr_rel) (by ktr_rel) (by ktr_rel) (by ktr_rel) (by ktr_rel) (by ktr_rel) (by ktr_rel) ?_); k_whole; intro h' tk' F' N'; (try k_sweep))
  trivial
example : True := by
  k_with "call ref" => (k_here; (try dsimp only [List.nil_append, List.cons_append, List.append_nil]); (with_reducible show wpAny _ _ (call (Value.ref 286) [Value.ref _, Value.str _ _]) _ _ _); k_dflt (refine' fault_c (by ktr_rel) (by ktr_rel) (by ktr_rel) (by ktr_rel) (by ktr_rel) (by ktr_rel) (by ktr_rel) (by ktr_rel) (by ktr_rel) (by ktr_rel) (by first | assumption | exact Fr.keep (by assumption) _ _ (by assumption)) (by ktr_rel) (by ktr_rel) ?_; k_whole); intro h' tk' e' dx' ax' k1' k2' t1' t2' att' t3' t4' n' F' N' hatt'; (try k_sweep))
  trivial
example : True := by
  k_with "exec Raise some none" => (k_here; k_dflt (refine' raise_K ?k1 ?k2 ?k3 ?_; (case k1 => exact rfl); (case k2 => k_asm); (case k3 => k_asm)); (try k_fold))
  trivial
example : True := by
  k_with "pyIter ref" => ((with_reducible show wpAny _ _ (pyIter (Value.ref _)) (fun it s₂ => LoopAtV _ _ _ _ _ _ _ _ _ it s₂) _ _); k_here; (with_unfolding_all refine iter_listUnr (by rfl) (by k_asm) (by k_asm) (List.Mem.head _) (by rfl) (by rfl) ?_); intro i' l1; (try k_lt l1))
  trivial
theorem isw_nw {tk : Tok} (B : Below A₀ base outer h₀) (F : Fr h₀ L s.heap m) (X : (Mine.frag.heap_1 w.params).In h₀) (N : News h₀ L s.heap news) (T : Top p loose mean mg mb h₀) (hk : cs.kind = .function) (hdp : dp ≤ 686) (hun : un ≤ 8800)
    (R : RdIn news rdr dct tl tas n ws) (hd : (dct, RdD hs1 hs2 hs3 u1 u2 u3 tl nd pos t) ∈ news) (hkw : kdIs ws[pos]? (Str.ofString "word") = false)
    (ret : ∀ h' tk', Fr h₀ L h' m → News h₀ L h' news → Q (.bool false) { s with heap := h', toks := tk' }) :
    wpAny (model PySem.Challenge.rw_pc0133_01.prog w) (ktrTop dp un gd cn cs L a ccd cl outer) (call (.ref 308) [.ref rdr, .str (Str.ofString "ALL") tk]) Q E s := by
  revert X; k_fill; intro X
  have hrd := R.rd
  refine wpAny_call ?_
  k_dflt k_enter
  k_extra "steps"
  all_goals first | exact ret _ _ (by k_asm) (by k_extra "nws") | trace_state
theorem isw_th {tk : Tok} (B : Below A₀ base outer h₀) (F : Fr h₀ L s.heap m) (X : (Mine.frag.heap_1 w.params).In h₀) (N : News h₀ L s.heap news) (T : Top p loose mean mg mb h₀) (hk : cs.kind = .function) (hdp : dp ≤ 686) (hun : un ≤ 8800)
    (R : RdIn news rdr dct tl tas n ws) (hd : (dct, RdD hs1 hs2 hs3 u1 u2 u3 tl nd pos t) ∈ news) (hw : ws[pos]? = some Wd.th)
    (ret : ∀ h' tk', Fr h₀ L h' m → News h₀ L h' news → Q (.bool false) { s with heap := h', toks := tk' }) :
    wpAny (model PySem.Challenge.rw_pc0133_01.prog w) (ktrTop dp un gd cn cs L a ccd cl outer) (call (.ref 308) [.ref rdr, .str (Str.ofString "ALL") tk]) Q E s := by
  revert X; k_fill; intro X
  have hrd := R.rd
  obtain ⟨ta, hv, ht⟩ := R.tok _ _ hw
  cases ht with
  | mk q1 q2 q3 =>
  rw [show Wd.kd .th = Str.ofString "word" from rfl, show Wd.txt .th = Str.ofString "THEN" from rfl] at q2
  have hkw : kdIs ws[pos]? (Str.ofString "word") = true := by rw [hw]; decide +kernel
  refine wpAny_call ?_
  k_dflt k_enter
  k_extra "steps"
  all_goals first | exact ret _ _ (by k_asm) (by k_extra "nws") | trace_state
end
end Mine
end
section
open PySem PySem.W PyProof.Rows PySem.Spec PySem.Calls
set_option Elab.async false
example : True := by k_with_none; trivial
example : True := by
  k_with "fold" => (refine folds ?_; intro qk ek)
  k_with "at0" => (with_reducible show At _ _ _ _ (.Name _ _) _ _ _); exact at_L (by rfl) (by rfl) (by decide) (by k_asm) (Eq.refl (some _))
  k_with "atF" => k_dflt first | k_extra "at0" | ((with_reducible show At _ _ _ _ (.Name _ _) _ _ _); exact at_K (by rfl) (by rfl) (by decide) (by k_asm) (by k_asm) (by k_is) (by k_asm)) | fail
  k_with "atB" => k_dflt first | ((with_reducible show At _ _ _ _ (.Name _ _) _ _ _); exact at_B (by rfl) (by rfl) (by decide) (by k_asm) (by k_asm) (by k_is) (by boot_fast) (by decide) (by k_asm)) | fail
  k_with "at" => k_dflt first | ((with_reducible show At _ _ _ _ (.Constant _ _ _) _ _ _); first | exact at_S | exact at_I | exact at_N) | k_extra "at0" | ((with_reducible show At _ _ _ _ (.Attribute (.Name _ _) _ _) _ _ _); exact at_attr (by k_asm) (by k_asm) (by k_extra "at0") (by k_inst) (by k_get) (by k_is) (by k_is) (by k_is) (by k_is) (by first | exact rfl | k_handed)) | ((with_reducible show At _ _ _ _ (.BinOp _ .Add _ _) _ _ _); exact at_add (by k_extra "at") (by k_extra "at")) | k_extra "atF" | fail
  k_with "spl" => k_dflt first | exact spl0 | ((with_reducible show Spl _ _ _ _ [_] _ _ _); exact spl1 (by k_extra "at")) | ((with_reducible show Spl _ _ _ _ [_, _] _ _ _); exact spl2 (by k_extra "at") (by k_extra "at")) | ((with_reducible show Spl _ _ _ _ (_ :: _) _ _ _); exact splC (by k_extra "at") (by k_extra "spl")) | fail
  k_with "eval Call Attribute" => with_reducible (k_here; show wpAny _ _ (eval (.Call (.Attribute _ _ _) _ [] _) _) _ _ _; first | refine mcall (by k_extra "spl") (by k_dflt exact rfl) (by k_dflt k_asm) (by k_dflt k_asm) (by k_extra "at") (by k_dflt k_inst) (by k_get) (by k_is) (by k_is) (by k_is) (by k_is) (by k_dflt exact rfl) ?_ | fail)
  k_with "eval Call" => first | with_reducible (k_here; show wpAny _ _ (eval (.Call (.Name _ _) _ [] _) _) _ _ _; first | refine fcall (by k_extra "spl") (by k_dflt exact rfl) (by k_dflt k_asm) (by k_dflt k_asm) (by k_extra "atF") (by k_is) (by k_dflt exact rfl) ?_ | ((first | show wpAny _ _ (eval (.Call (.Name (Str.ofString "len") _) _ _ _) _) _ _ _ | show wpAny _ _ (eval (.Call (.Name (Str.ofString "min") _) _ _ _) _) _ _ _); refine bcall (by k_extra "spl") (by k_extra "atB") (by k_dflt exact rfl) ?_) | fail) | (k_here; k_dflt (refine Call_ ?_)) | fail
  k_with "spliced" => first | with_reducible (k_here; first | refine spl_use (by k_extra "spl") ?_ | fail) | (k_dflt (first | refine spliced_more ?_ | refine spliced_none ?_)) | fail
  k_with "eval Subscript" => with_reducible (k_here; show wpAny _ _ (eval (.Subscript _ _ _) _) _ _ _; first | refine sub_at (by k_extra "at") (by k_extra "at") ?_ | fail)
  k_with "eval BinOp" => with_reducible (k_here; show wpAny _ _ (eval (.BinOp _ _ _ _) _) _ _ _; first | refine at_use (by k_extra "at") ?_ | refine bin_at (by k_extra "at") (by k_extra "at") ?_ | fail)
  k_with "isTrue Compare" => with_reducible (k_here; show wpAny _ _ (PySem.isTrue (.Compare _ [_] [_] _) _ _) _ _ _; first | refine cmpT_at (by k_dflt rfl) (by k_extra "at") (by k_extra "at") ?_ | refine cmpT_atL (by k_dflt rfl) (by k_extra "at") ?_ | fail)
  k_with "eval Compare" => with_reducible (k_here; show wpAny _ _ (eval (.Compare _ [_] [_] _) _) _ _ _; first | refine cmp_at (by k_dflt rfl) (by k_extra "at") (by k_extra "at") ?_ | fail)
  k_with "eval Attribute Name" => with_reducible (k_here; first | refine at_use (by k_extra "at") ?_ | fail)
  k_with "eval Name" => with_reducible (k_here; first | refine at_use (by k_extra "at") ?_ | fail)
  k_with "itemAt" => (k_here; (with_reducible show wpAny _ _ (subscriptTail _ _ (Value.ref _) (Value.int _ _)) _ _ _); with_reducible first | refine item_litK (by with_unfolding_all is_list) (by k_dflt decide) (by k_dflt decide) (by with_unfolding_all rfl) ?_ (by with_unfolding_all rfl) | refine item_tupleT (by k_dflt exact News.isTup (by k_asm) (by k_mem)) (by k_dflt decide) (by k_dflt decide) (by k_dflt rfl) (by k_dflt rfl) ?_ | fail); k_whole
  k_with "turned" => (k_here; k_dflt (refine kba_turn (value' := PySem.Expr.Name (PySem.Str.ofString "_") ⟨0, 0, 0, 0⟩) (fun _ => rfl) ?_))
  k_with "subscriptTail Name Constant ref int" => first | k_extra "subscriptTail" | k_extra "itemAt" | fail
  k_with "subscriptTail Subscript Constant ref int" => k_extra "itemAt"
  k_with "subscriptTail Name" => k_extra "subscriptTail"
  k_with "subscriptTail Call" => k_extra "turned"
  k_with "subscriptTail BinOp" => k_extra "turned"
  k_with "seq" => first | (k_here; k_gentoks) | ((with_reducible refine wpAny_execs_cons ?_); try dsimp only) | fail
  k_with "execs cons Assign cons" => k_extra "seq"
  k_with "execs cons If cons" => k_extra "seq"
  k_with "execs cons Return nil" => k_extra "seq"
  k_with "exec Assign cons" => (with_reducible show wpAny _ _ (exec (.Assign [.Name _ _] _ _) _) _ _ _); k_dflt (refine wpAny_Assign_Name ?_)
  k_with "exec If" => refine wpAny_If ?_
  k_with "eval Call Name cons nil" => k_extra "eval Call"
  k_with "isTrue Compare Name cons cons" => k_extra "isTrue Compare"
  k_with "truthy bool false" => refine wpAny_truthy_bool ?_
  k_with "truthy bool" => refine wpAny_truthy_bool ?_
  k_with "room" => first | exact lb0 (j := 1) (by assumption) rfl | exact lb2 (j := 1) (by assumption) (by assumption) rfl
  k_with "om" => first | (k_whole; first | exact lb0 (by assumption) rfl | exact lb1 (by assumption) rfl | exact lb2 (by assumption) (by assumption) rfl | exact lb4 (by assumption) rfl | exact Nat.le_of_succ_le (by assumption)) | omega
  k_with "steps" => repeat' (first | ((with_reducible show wpAny _ _ (exec _ _) _ _ _); (fail_if_success (fail_if_success k_fold)); k_extra "fold") | ((fail_if_success (fail_if_success k_unfold)); first | dsimp only [qk] | dsimp only [ek] | (k_unfold; (try dsimp only))) | (k_end; wrow_close) | walk1 | (dsimp only; walk1) | (leave1; walk_say "STEP leave1"; try dsimp only) | fail)
  trivial
namespace Mine
set_option maxRecDepth 100000
set_option maxHeartbeats 0
section
variable {w : World} {p : Program} {loose : List Str} {mean : ExcName → Option Value} {mg mb : Str → Option Value} {dp un : Nat} {gd : Option (List Code)} {cn : Str} {cs : Scope} {a : Addr} {ccd : Value} {cl : List (Str × Addr)} {outer : List Env} {A₀ : Around} {base h₀ : Heap} {L : Addr} {m : Str → Option Value}
  {news : List (Addr × Obj)} {s : Shared} {Q E : Value → Shared → Prop} {rdr dct tl nd : Addr} {hs1 hs2 hs3 : Int} {u1 u2 u3 t : Tok} {tas : List Addr} {n : Nat} {pos : Nat} {ws : List Wd} {keep : List (Addr × Obj)}
example : True := by
  k_with "upd" => exact updF_upd (by assumption) _
  trivial
example : True := by
  k_with "rel" => first | (with_reducible assumption) | exact dle1 (by with_reducible assumption) rfl | k_extra "om" | exact rfl | (refine RdIn.mono (by with_reducible assumption) ?_; (intro _ hz; (repeat' (first | exact hz | refine List.Mem.tail _ ?_)))) | exact UpdF.head (by with_reducible assumption) | (refine Kept.mono (by with_reducible assumption) ?_; (intro _ hz; first | exact hz | exact .tail _ hz | exact .tail _ (.tail _ hz) | exact .tail _ (.tail _ (.tail _ hz)) | exact .tail _ (.tail _ (.tail _ (.tail _ hz))) | exact .tail _ (.tail _ (.tail _ (.tail _ (.tail _ hz)))) | exact .tail _ (.tail _ (.tail _ (.tail _ (.tail _ (.tail _ hz))))))) | ((try dsimp only [ktrTop, Around.deeper]); k_extra "om") | assumption | k_mem | k_updF
  trivial
example : True := by
  k_with "call ref" => (k_here; (try dsimp only [List.nil_append, List.cons_append, List.append_nil]); (with_reducible show wpAny _ _ (call (Value.ref 272) [Value.ref _]) _ _ _); k_dflt (first | refine' peek0_some (by ktr_rel) (by ktr_rel) (by ktr_rel) (by ktr_rel) (by ktr_rel) (by ktr_rel) (by ktr_rel) (by ktr_rel) (by ktr_rel) (by ktr_rel) (by ktr_rel) ?_ | refine' peek0_none (by ktr_rel) (by ktr_rel) (by ktr_rel) (by ktr_rel) (by ktr_rel) (by ktr_rel) (by ktr_rel) (by ktr_rel) (by ktr_rel) (by ktr_rel) (by ktr_rel) ?_); k_whole; intro h' tk' F' N'; (try k_sweep))
  trivial
example : True := by
  k_with "call ref" => (k_here; (try dsimp only [List.nil_append, List.cons_append, List.append_nil]); (with_reducible show wpAny _ _ (call (Value.ref 272) [Value.ref _, Value.int _ _]) _ _ _); k_dflt (first | refine' peek_some0 (by ktr_rel) (by ktr_rel) (by ktr_rel) (by ktr_rel) (by ktr_rel) (by ktr_rel) (by ktr_rel) (by ktr_rel) (by ktr_rel) (by ktr_rel) (by ktr_rel) ?_ | refine' peek_none0 (by ktr_rel) (by ktr_rel) (by ktr_rel) (by ktr_rel) (by ktr_rel) (by ktr_rel) (by ktr_rel) (by ktr_rel) (by ktr_rel) (by ktr_rel) (by ktr_rel) ?_ | refine' peek_some1 (by ktr_rel) (by ktr_rel) (by ktr_rel) (by ktr_rel) (by ktr_rel) (by ktr_rel) (by ktr_rel) (by ktr_rel) (by ktr_rel) (by ktr_rel) (by ktr_rel) ?_ | refine' peek_none1 (by ktr_rel) (by ktr_rel) (by ktr_rel) (by ktr_rel) (by ktr_rel) (by ktr_rel) (by ktr_rel) (by ktr_rel) (by ktr_rel) (by ktr_rel) (by ktr_rel) ?_); k_whole; intro h' tk' F' N'; (try k_sweep))
  trivial
example : True := by
  k_with "call ref" => (k_here; (try dsimp only [List.nil_append, List.cons_append, List.append_nil]); (with_reducible show wpAny _ _ (call (Value.ref 301) [Value.ref _, Value.str _ _]) _ _ _); k_dflt (first | refine' isk_c (tk2 := 0) (by ktr_rel) (by ktr_rel) (by ktr_rel) (by ktr_rel) (by ktr_rel) (by ktr_rel) (by ktr_rel) (by ktr_rel) (by ktr_rel) (by ktr_rel) (by ktr_rel) ?_); k_whole; intro h' tk' F' N'; (try k_sweep))
  trivial
example : True := by
  k_with "call ref" => (k_here; (try dsimp only [List.nil_append, List.cons_append, List.append_nil]); (with_reducible show wpAny _ _ (call (Value.ref 301) [Value.ref _, Value.str _ _, Value.int _ _]) _ _ _); k_dflt (first | refine' isk0_c (by ktr_rel) (by ktr_rel) (by ktr_rel) (by ktr_rel) (by ktr_rel) (by ktr_rel) (by ktr_rel) (by ktr_rel) (by ktr_rel) (by ktr_rel) (by ktr_rel) ?_ | refine' isk1_c (by ktr_rel) (by ktr_rel) (by ktr_rel) (by ktr_rel) (by ktr_rel) (by ktr_rel) (by ktr_rel) (by ktr_rel) (by ktr_rel) (by ktr_rel) (by ktr_rel) ?_); k_whole; intro h' tk' F' N'; (try k_sweep))
  trivial
example : True := by
  k_with "call ref" => (k_here; (try dsimp only [List.nil_append, List.cons_append, List.append_nil]); (with_reducible show wpAny _ _ (call (Value.ref 366) [Value.ref _, Value.str _ _]) _ _ _); k_dflt (first | refine' iss_c (by ktr_rel) (by ktr_rel) (by ktr_rel) (by ktr_rel) (by ktr_rel) (by ktr_rel) (by ktr_rel) (by ktr_rel) (by ktr_rel) (by ktr_rel) (by ktr_rel) ?_); k_whole; intro h' tk' F' N'; (try k_sweep))
  trivial
example : True := by
  k_with "call ref" => (k_here; (try dsimp only [List.nil_append, List.cons_append, List.append_nil]); (with_reducible show wpAny _ _ (call (Value.ref 286) [Value.ref _, Value.str _ _]) _ _ _); k_dflt (refine' fault_c (by ktr_rel) (by ktr_rel) (by ktr_rel) (by ktr_rel) (by ktr_rel) (by ktr_rel) (by ktr_rel) (by ktr_rel) (by ktr_rel) (by ktr_rel) (by first | assumption | exact Fr.keep (by assumption) _ _ (by assumption)) (by ktr_rel) (by ktr_rel) ?_; k_whole); intro h' tk' e' dx' ax' k1' k2' t1' t2' att' t3' t4' n' F' N' hatt'; (try k_sweep))
  trivial
example : True := by
  k_with "exec Raise some none" => (k_here; k_dflt (refine' raise_K ?k1 ?k2 ?k3 ?_; (case k1 => exact rfl); (case k2 => k_asm); (case k3 => k_asm)); (try k_fold))
  trivial
example : True := by
  k_with "nws" => first | k_asm | exact newsTl (by assumption) | exact newsTl (newsTl (by assumption)) | exact newsTl2 (by assumption)
  trivial
example : True := by
  k_with "call ref" => (k_here; (try dsimp only [List.nil_append, List.cons_append, List.append_nil]); (with_reducible show wpAny _ _ (call (Value.ref 308) [Value.ref _, Value.str _ _]) _ _ _); k_dflt (first | refine' isw_nw (by ktr_rel) (by ktr_rel) (by ktr_rel) (by ktr_rel) (by ktr_rel) (by ktr_rel) (by ktr_rel) (by ktr_rel) (by ktr_rel) (by ktr_rel) (by ktr_rel) ?_ | refine' isw_th (by ktr_rel) (by ktr_rel) (by ktr_rel) (by ktr_rel) (by ktr_rel) (by ktr_rel) (by ktr_rel) (by ktr_rel) (by ktr_rel) (by ktr_rel) (by ktr_rel) ?_); k_whole; intro h' tk' F' N'; (try k_sweep))
  trivial
theorem skipall_nw {tk : Tok} (B : Below A₀ base outer h₀) (F : Fr h₀ L s.heap m) (X : (Mine.frag.heap_1 w.params).In h₀) (N : News h₀ L s.heap news) (T : Top p loose mean mg mb h₀) (hk : cs.kind = .function) (hdp : dp ≤ 684) (hun : un ≤ 8700)
    (R : RdIn news rdr dct tl tas n ws) (hd : (dct, RdD hs1 hs2 hs3 u1 u2 u3 tl nd pos t) ∈ news) (hkw : kdIs ws[pos]? (Str.ofString "word") = false)
    (ret : ∀ h' tk', Fr h₀ L h' m → News h₀ L h' news → Q (.bool false) { s with heap := h', toks := tk' }) :
    wpAny (model PySem.Challenge.rw_pc0133_01.prog w) (ktrTop dp un gd cn cs L a ccd cl outer) (call (.ref 315) [.ref rdr, .str (Str.ofString "ALL") tk]) Q E s := by
  revert X; k_fill; intro X
  have hrd := R.rd
  refine wpAny_call ?_
  k_dflt k_enter
  k_extra "steps"
  all_goals first | exact ret _ _ (by k_asm) (by k_extra "nws") | trace_state
theorem skipall_th {tk : Tok} (B : Below A₀ base outer h₀) (F : Fr h₀ L s.heap m) (X : (Mine.frag.heap_1 w.params).In h₀) (N : News h₀ L s.heap news) (T : Top p loose mean mg mb h₀) (hk : cs.kind = .function) (hdp : dp ≤ 684) (hun : un ≤ 8700)
    (R : RdIn news rdr dct tl tas n ws) (hd : (dct, RdD hs1 hs2 hs3 u1 u2 u3 tl nd pos t) ∈ news) (hw : ws[pos]? = some Wd.th)
    (ret : ∀ h' tk', Fr h₀ L h' m → News h₀ L h' news → Q (.bool false) { s with heap := h', toks := tk' }) :
    wpAny (model PySem.Challenge.rw_pc0133_01.prog w) (ktrTop dp un gd cn cs L a ccd cl outer) (call (.ref 315) [.ref rdr, .str (Str.ofString "ALL") tk]) Q E s := by
  revert X; k_fill; intro X
  have hrd := R.rd
  obtain ⟨ta, hv, ht⟩ := R.tok _ _ hw
  cases ht with
  | mk q1 q2 q3 =>
  rw [show Wd.kd .th = Str.ofString "word" from rfl, show Wd.txt .th = Str.ofString "THEN" from rfl] at q2
  have hkw : kdIs ws[pos]? (Str.ofString "word") = true := by rw [hw]; decide +kernel
  refine wpAny_call ?_
  k_dflt k_enter
  k_extra "steps"
  all_goals first | exact ret _ _ (by k_asm) (by k_extra "nws") | trace_state
theorem fig_tab {h : Heap} (X : (Mine.frag.heap_1 w.params).In h) : KTD.TextTab h 132 [(Str.ofString "ZERO", .flat (.str (Str.ofString "ZERO"))), (Str.ofString "ZEROS", .flat (.str (Str.ofString "ZERO"))), (Str.ofString "ZEROES", .flat (.str (Str.ofString "ZERO"))), (Str.ofString "SPACE", .flat (.str (Str.ofString "SPACE"))), (Str.ofString "SPACES", .flat (.str (Str.ofString "SPACE"))), (Str.ofString "HIGH-VALUE", .flat (.str (Str.ofString "HIGH"))), (Str.ofString "HIGH-VALUES", .flat (.str (Str.ofString "HIGH"))), (Str.ofString "LOW-VALUE", .flat (.str (Str.ofString "LOW"))), (Str.ofString "LOW-VALUES", .flat (.str (Str.ofString "LOW"))), (Str.ofString "QUOTE", .flat (.str (Str.ofString "QUOTE"))), (Str.ofString "QUOTES", .flat (.str (Str.ofString "QUOTE")))] := kt_text_in X (by kernel_rfl)
theorem fig_notin {A : Around} {tk : Tok} (F : Fr h₀ L s.heap m) (X : (Mine.frag.heap_1 w.params).In h₀) (h : Q (.bool true) { s with toks := s.toks + 1 }) :
    wpAny (model PySem.Challenge.rw_pc0133_01.prog w) A (compareOp .NotIn (.str (Str.ofString "THEN") tk) (.ref 132)) Q E s :=
  KTD.notin_text ⟨fig_tab X, F.keep⟩ h
example : True := by
  k_with "compareOp NotIn str ref" => (k_here; (with_reducible show wpAny _ _ (compareOp CmpOp.NotIn (Value.str _ _) (Value.ref 132)) _ _ _); k_dflt (refine' fig_notin ?k1 ?k2 ?_; (case k1 => k_asm); (case k2 => k_asm)); (try k_fold))
  trivial
theorem figure_nw (B : Below A₀ base outer h₀) (F : Fr h₀ L s.heap m) (X : (Mine.frag.heap_1 w.params).In h₀) (N : News h₀ L s.heap news) (T : Top p loose mean mg mb h₀) (hk : cs.kind = .function) (hdp : dp ≤ 684) (hun : un ≤ 8700)
    (R : RdIn news rdr dct tl tas n ws) (hd : (dct, RdD hs1 hs2 hs3 u1 u2 u3 tl nd pos t) ∈ news) (hkw : kdIs ws[pos]? (Str.ofString "word") = false)
    (ret : ∀ h' tk', Fr h₀ L h' m → News h₀ L h' news → Q .none { s with heap := h', toks := tk' }) :
    wpAny (model PySem.Challenge.rw_pc0133_01.prog w) (ktrTop dp un gd cn cs L a ccd cl outer) (call (.ref 174) [.ref rdr]) Q E s := by
  revert X; k_fill; intro X
  have hrd := R.rd
  refine wpAny_call ?_
  k_dflt k_enter
  k_extra "steps"
  all_goals first | exact ret _ _ (by k_asm) (by k_extra "nws") | trace_state
theorem figure_th (B : Below A₀ base outer h₀) (F : Fr h₀ L s.heap m) (X : (Mine.frag.heap_1 w.params).In h₀) (N : News h₀ L s.heap news) (T : Top p loose mean mg mb h₀) (hk : cs.kind = .function) (hdp : dp ≤ 684) (hun : un ≤ 8700)
    (R : RdIn news rdr dct tl tas n ws) (hd : (dct, RdD hs1 hs2 hs3 u1 u2 u3 tl nd pos t) ∈ news) (hw : ws[pos]? = some Wd.th)
    (ret : ∀ h' tk', Fr h₀ L h' m → News h₀ L h' news → Q .none { s with heap := h', toks := tk' }) :
    wpAny (model PySem.Challenge.rw_pc0133_01.prog w) (ktrTop dp un gd cn cs L a ccd cl outer) (call (.ref 174) [.ref rdr]) Q E s := by
  revert X; k_fill; intro X
  have hrd := R.rd
  obtain ⟨ta, hv, ht⟩ := R.tok _ _ hw
  cases ht with
  | mk q1 q2 q3 =>
  rw [show Wd.kd .th = Str.ofString "word" from rfl, show Wd.txt .th = Str.ofString "THEN" from rfl] at q2
  have hkw : kdIs ws[pos]? (Str.ofString "word") = true := by rw [hw]; decide +kernel
  refine wpAny_call ?_
  k_dflt k_enter
  k_extra "steps"
  all_goals first | exact ret _ _ (by k_asm) (by k_extra "nws") | trace_state
theorem then_in : (!(Builtin.Str.occurrences resO (Str.ofString " " ++ Str.ofString "THEN" ++ Str.ofString " ") 0 resO.length 1).isEmpty) = true := by
  rw [res_eq]
  exact (StrLaws.found_iff _ _).mpr ⟨1712, by decide +kernel, by decide +kernel⟩
theorem resv_c {tk : Tok} (B : Below A₀ base outer h₀) (F : Fr h₀ L s.heap m) (X : (Mine.frag.heap_1 w.params).In h₀) (N : News h₀ L s.heap news) (T : Top p loose mean mg mb h₀) (hk : cs.kind = .function) (hdp : dp ≤ 690) (hun : un ≤ 9000)
    (ret : ∀ h' tk', Fr h₀ L h' m → News h₀ L h' news → Q (.bool true) { s with heap := h', toks := tk' }) :
    wpAny (model PySem.Challenge.rw_pc0133_01.prog w) (ktrTop dp un gd cn cs L a ccd cl outer) (call (.ref 244) [.str (Str.ofString "THEN") tk]) Q E s := by
  revert X; k_fill; intro X
  refine wpAny_call ?_
  k_dflt k_enter
  k_extra "steps"
  all_goals first | exact boolTo then_in (ret _ _ (by k_asm) (by k_extra "nws")) | trace_state
example : True := by
  k_with "call ref" => (k_here; (try dsimp only [List.nil_append, List.cons_append, List.append_nil]); (with_reducible show wpAny _ _ (call (Value.ref 244) [Value.str _ _]) _ _ _); k_dflt (first | refine' resv_c (by ktr_rel) (by ktr_rel) (by ktr_rel) (by ktr_rel) (by ktr_rel) (by ktr_rel) (by ktr_rel) (by ktr_rel) ?_); k_whole; intro h' tk' F' N'; (try k_sweep))
  trivial
theorem isname_nw (B : Below A₀ base outer h₀) (F : Fr h₀ L s.heap m) (X : (Mine.frag.heap_1 w.params).In h₀) (N : News h₀ L s.heap news) (T : Top p loose mean mg mb h₀) (hk : cs.kind = .function) (hdp : dp ≤ 684) (hun : un ≤ 8700)
    (R : RdIn news rdr dct tl tas n ws) (hd : (dct, RdD hs1 hs2 hs3 u1 u2 u3 tl nd pos t) ∈ news) (hkw : kdIs ws[pos]? (Str.ofString "word") = false)
    (ret : ∀ h' tk', Fr h₀ L h' m → News h₀ L h' news → Q (.bool false) { s with heap := h', toks := tk' }) :
    wpAny (model PySem.Challenge.rw_pc0133_01.prog w) (ktrTop dp un gd cn cs L a ccd cl outer) (call (.ref 344) [.ref rdr]) Q E s := by
  revert X; k_fill; intro X
  have hrd := R.rd
  refine wpAny_call ?_
  k_dflt k_enter
  k_extra "steps"
  all_goals first | exact ret _ _ (by k_asm) (by k_extra "nws") | trace_state
theorem isname_th (B : Below A₀ base outer h₀) (F : Fr h₀ L s.heap m) (X : (Mine.frag.heap_1 w.params).In h₀) (N : News h₀ L s.heap news) (T : Top p loose mean mg mb h₀) (hk : cs.kind = .function) (hdp : dp ≤ 684) (hun : un ≤ 8700)
    (R : RdIn news rdr dct tl tas n ws) (hd : (dct, RdD hs1 hs2 hs3 u1 u2 u3 tl nd pos t) ∈ news) (hw : ws[pos]? = some Wd.th)
    (ret : ∀ h' tk', Fr h₀ L h' m → News h₀ L h' news → Q (.bool false) { s with heap := h', toks := tk' }) :
    wpAny (model PySem.Challenge.rw_pc0133_01.prog w) (ktrTop dp un gd cn cs L a ccd cl outer) (call (.ref 344) [.ref rdr]) Q E s := by
  revert X; k_fill; intro X
  have hrd := R.rd
  obtain ⟨ta, hv, ht⟩ := R.tok _ _ hw
  cases ht with
  | mk q1 q2 q3 =>
  rw [show Wd.kd .th = Str.ofString "word" from rfl, show Wd.txt .th = Str.ofString "THEN" from rfl] at q2
  have hkw : kdIs ws[pos]? (Str.ofString "word") = true := by rw [hw]; decide +kernel
  refine wpAny_call ?_
  k_dflt k_enter
  k_extra "steps"
  all_goals first | exact ret _ _ (by k_asm) (by k_extra "nws") | trace_state
example : True := by
  k_with "call ref" => (k_here; (try dsimp only [List.nil_append, List.cons_append, List.append_nil]); (with_reducible show wpAny _ _ (call (Value.ref 344) [Value.ref _]) _ _ _); k_dflt (first | refine' isname_nw (by ktr_rel) (by ktr_rel) (by ktr_rel) (by ktr_rel) (by ktr_rel) (by ktr_rel) (by ktr_rel) (by ktr_rel) (by ktr_rel) (by ktr_rel) (by ktr_rel) ?_ | refine' isname_th (by ktr_rel) (by ktr_rel) (by ktr_rel) (by ktr_rel) (by ktr_rel) (by ktr_rel) (by ktr_rel) (by ktr_rel) (by ktr_rel) (by ktr_rel) (by ktr_rel) ?_); k_whole; intro h' tk' F' N'; (try k_sweep))
  trivial
theorem name_nw (B : Below A₀ base outer h₀) (F : Fr h₀ L s.heap m) (X : (Mine.frag.heap_1 w.params).In h₀) (N : News h₀ L s.heap news) (T : Top p loose mean mg mb h₀) (hk : cs.kind = .function) (hdp : dp ≤ 682) (hun : un ≤ 8600)
    (R : RdIn news rdr dct tl tas n ws) (hd : (dct, RdD hs1 hs2 hs3 u1 u2 u3 tl nd pos t) ∈ news) (hb : h₀.get? (nat_lit 0) = some (boot_o_0 w.params)) (hp : pos ≤ ws.length) (hne : 0 < ws.length) (hkw : kdIs ws[pos]? (Str.ofString "word") = false)
    (hkp : Kept keep news) (err : ∀ e h' tk' hh, ErrIn base (envX cn cs L a ccd cl :: outer) e (min pos (ws.length - 1)) keep hh h' → Fr h₀ L hh m → hh.UpToSlots h' → E (.ref e) { s with heap := h', toks := tk' }) :
    wpAny (model PySem.Challenge.rw_pc0133_01.prog w) (ktrTop dp un gd cn cs L a ccd cl outer) (call (.ref 351) [.ref rdr]) Q E s := by
  revert X; k_fill; intro X
  have hrd := R.rd
  refine wpAny_call ?_
  k_dflt k_enter
  k_extra "steps"
  all_goals first | (unfold RzK; refine ⟨_, _, _, rfl, by k_asm, (News.get (by k_asm) (by k_mem)), ?_⟩; (try k_unfold); (try dsimp only); refine err_first (by assumption) (by k_asm) (by k_asm) (by k_mem) (by k_mem) (List.Mem.tail _ (List.Mem.tail _ (by assumption))) (by first | (with_reducible assumption) | (refine Kept.mono (by with_reducible assumption) ?_; (intro _ hz; first | exact hz | exact .tail _ hz | exact .tail _ (.tail _ hz) | exact .tail _ (.tail _ (.tail _ hz)) | exact .tail _ (.tail _ (.tail _ (.tail _ hz))) | exact .tail _ (.tail _ (.tail _ (.tail _ (.tail _ hz)))) | exact .tail _ (.tail _ (.tail _ (.tail _ (.tail _ (.tail _ hz)))))))) ?_; intro h9 r9 u9; (try dsimp only); exact err _ _ _ _ r9 (by assumption) u9) | trace_state
theorem name_th (B : Below A₀ base outer h₀) (F : Fr h₀ L s.heap m) (X : (Mine.frag.heap_1 w.params).In h₀) (N : News h₀ L s.heap news) (T : Top p loose mean mg mb h₀) (hk : cs.kind = .function) (hdp : dp ≤ 682) (hun : un ≤ 8600)
    (R : RdIn news rdr dct tl tas n ws) (hd : (dct, RdD hs1 hs2 hs3 u1 u2 u3 tl nd pos t) ∈ news) (hb : h₀.get? (nat_lit 0) = some (boot_o_0 w.params)) (hp : pos ≤ ws.length) (hne : 0 < ws.length) (hw : ws[pos]? = some Wd.th)
    (hkp : Kept keep news) (err : ∀ e h' tk' hh, ErrIn base (envX cn cs L a ccd cl :: outer) e (min pos (ws.length - 1)) keep hh h' → Fr h₀ L hh m → hh.UpToSlots h' → E (.ref e) { s with heap := h', toks := tk' }) :
    wpAny (model PySem.Challenge.rw_pc0133_01.prog w) (ktrTop dp un gd cn cs L a ccd cl outer) (call (.ref 351) [.ref rdr]) Q E s := by
  revert X; k_fill; intro X
  have hrd := R.rd
  obtain ⟨ta, hv, ht⟩ := R.tok _ _ hw
  cases ht with
  | mk q1 q2 q3 =>
  rw [show Wd.kd .th = Str.ofString "word" from rfl, show Wd.txt .th = Str.ofString "THEN" from rfl] at q2
  have hkw : kdIs ws[pos]? (Str.ofString "word") = true := by rw [hw]; decide +kernel
  refine wpAny_call ?_
  k_dflt k_enter
  k_extra "steps"
  all_goals first | (unfold RzK; refine ⟨_, _, _, rfl, by k_asm, (News.get (by k_asm) (by k_mem)), ?_⟩; (try k_unfold); (try dsimp only); refine err_first (by assumption) (by k_asm) (by k_asm) (by k_mem) (by k_mem) (List.Mem.tail _ (List.Mem.tail _ (by assumption))) (by first | (with_reducible assumption) | (refine Kept.mono (by with_reducible assumption) ?_; (intro _ hz; first | exact hz | exact .tail _ hz | exact .tail _ (.tail _ hz) | exact .tail _ (.tail _ (.tail _ hz)) | exact .tail _ (.tail _ (.tail _ (.tail _ hz))) | exact .tail _ (.tail _ (.tail _ (.tail _ (.tail _ hz)))) | exact .tail _ (.tail _ (.tail _ (.tail _ (.tail _ (.tail _ hz)))))))) ?_; intro h9 r9 u9; (try dsimp only); exact err _ _ _ _ r9 (by assumption) u9) | trace_state
example : True := by
  k_with "call ref" => (k_here; (try dsimp only [List.nil_append, List.cons_append, List.append_nil]); (with_reducible show wpAny _ _ (call (Value.ref 351) [Value.ref _]) _ _ _); k_dflt (first | refine' name_nw (by ktr_rel) (by ktr_rel) (by ktr_rel) (by ktr_rel) (by ktr_rel) (by ktr_rel) (by ktr_rel) (by ktr_rel) (by ktr_rel) (by ktr_rel) (by first | assumption | exact Fr.keep (by assumption) _ _ (by assumption)) (by ktr_rel) (by ktr_rel) (by ktr_rel) (by ktr_rel) ?_ | refine' name_th (by ktr_rel) (by ktr_rel) (by ktr_rel) (by ktr_rel) (by ktr_rel) (by ktr_rel) (by ktr_rel) (by ktr_rel) (by ktr_rel) (by ktr_rel) (by first | assumption | exact Fr.keep (by assumption) _ _ (by assumption)) (by ktr_rel) (by ktr_rel) (by ktr_rel) (by ktr_rel) ?_); k_whole; intro e' h' tk' hh' r' Fh' uh')
  trivial
theorem ref_nw {fn : Value} (B : Below A₀ base outer h₀) (F : Fr h₀ L s.heap m) (X : (Mine.frag.heap_1 w.params).In h₀) (N : News h₀ L s.heap news) (T : Top p loose mean mg mb h₀) (hk : cs.kind = .function) (hdp : dp ≤ 680) (hun : un ≤ 8500)
    (R : RdIn news rdr dct tl tas n ws) (hd : (dct, RdD hs1 hs2 hs3 u1 u2 u3 tl nd pos t) ∈ news) (hb : h₀.get? (nat_lit 0) = some (boot_o_0 w.params)) (hp : pos ≤ ws.length) (hne : 0 < ws.length) (hkw : kdIs ws[pos]? (Str.ofString "word") = false)
    (hkp : Kept keep news) (err : ∀ e h' tk' hh, ErrIn base (envX cn cs L a ccd cl :: outer) e (min pos (ws.length - 1)) keep hh h' → Fr h₀ L hh m → hh.UpToSlots h' → E (.ref e) { s with heap := h', toks := tk' }) :
    wpAny (model PySem.Challenge.rw_pc0133_01.prog w) (ktrTop dp un gd cn cs L a ccd cl outer) (call (.ref 160) [.ref rdr, fn]) Q E s := by
  revert X; k_fill; intro X
  have hrd := R.rd
  refine wpAny_call ?_
  k_dflt k_enter
  k_extra "steps"
  all_goals first | ((try k_unfold); (try dsimp only); refine err_next (by assumption) (by assumption) (by assumption) (by assumption) ?_; intro h9 r9 u9; (try dsimp only); exact err _ _ _ _ r9 (by assumption) u9) | trace_state
theorem ref_th {fn : Value} (B : Below A₀ base outer h₀) (F : Fr h₀ L s.heap m) (X : (Mine.frag.heap_1 w.params).In h₀) (N : News h₀ L s.heap news) (T : Top p loose mean mg mb h₀) (hk : cs.kind = .function) (hdp : dp ≤ 680) (hun : un ≤ 8500)
    (R : RdIn news rdr dct tl tas n ws) (hd : (dct, RdD hs1 hs2 hs3 u1 u2 u3 tl nd pos t) ∈ news) (hb : h₀.get? (nat_lit 0) = some (boot_o_0 w.params)) (hp : pos ≤ ws.length) (hne : 0 < ws.length) (hw : ws[pos]? = some Wd.th)
    (hkp : Kept keep news) (err : ∀ e h' tk' hh, ErrIn base (envX cn cs L a ccd cl :: outer) e (min pos (ws.length - 1)) keep hh h' → Fr h₀ L hh m → hh.UpToSlots h' → E (.ref e) { s with heap := h', toks := tk' }) :
    wpAny (model PySem.Challenge.rw_pc0133_01.prog w) (ktrTop dp un gd cn cs L a ccd cl outer) (call (.ref 160) [.ref rdr, fn]) Q E s := by
  revert X; k_fill; intro X
  have hrd := R.rd
  obtain ⟨ta, hv, ht⟩ := R.tok _ _ hw
  cases ht with
  | mk q1 q2 q3 =>
  rw [show Wd.kd .th = Str.ofString "word" from rfl, show Wd.txt .th = Str.ofString "THEN" from rfl] at q2
  have hkw : kdIs ws[pos]? (Str.ofString "word") = true := by rw [hw]; decide +kernel
  refine wpAny_call ?_
  k_dflt k_enter
  k_extra "steps"
  all_goals first | ((try k_unfold); (try dsimp only); refine err_next (by assumption) (by assumption) (by assumption) (by assumption) ?_; intro h9 r9 u9; (try dsimp only); exact err _ _ _ _ r9 (by assumption) u9) | trace_state
example : True := by
  k_with "call ref" => (k_here; (try dsimp only [List.nil_append, List.cons_append, List.append_nil]); (with_reducible show wpAny _ _ (call (Value.ref 160) [Value.ref _, _]) _ _ _); k_dflt (first | refine' ref_nw (by ktr_rel) (by ktr_rel) (by ktr_rel) (by ktr_rel) (by ktr_rel) (by ktr_rel) (by ktr_rel) (by ktr_rel) (by ktr_rel) (by ktr_rel) (by first | assumption | exact Fr.keep (by assumption) _ _ (by assumption)) (by ktr_rel) (by ktr_rel) (by ktr_rel) (by ktr_rel) ?_ | refine' ref_th (by ktr_rel) (by ktr_rel) (by ktr_rel) (by ktr_rel) (by ktr_rel) (by ktr_rel) (by ktr_rel) (by ktr_rel) (by ktr_rel) (by ktr_rel) (by first | assumption | exact Fr.keep (by assumption) _ _ (by assumption)) (by ktr_rel) (by ktr_rel) (by ktr_rel) (by ktr_rel) ?_); k_whole; intro e' h' tk' hh' r' Fh' uh')
  trivial
example : True := by
  k_with "call ref" => (k_here; (try dsimp only [List.nil_append, List.cons_append, List.append_nil]); (with_reducible show wpAny _ _ (call (Value.ref 315) [Value.ref _, Value.str _ _]) _ _ _); k_dflt (first | refine' skipall_nw (by ktr_rel) (by ktr_rel) (by ktr_rel) (by ktr_rel) (by ktr_rel) (by ktr_rel) (by ktr_rel) (by ktr_rel) (by ktr_rel) (by ktr_rel) (by ktr_rel) ?_ | refine' skipall_th (by ktr_rel) (by ktr_rel) (by ktr_rel) (by ktr_rel) (by ktr_rel) (by ktr_rel) (by ktr_rel) (by ktr_rel) (by ktr_rel) (by ktr_rel) (by ktr_rel) ?_); k_whole; intro h' tk' F' N'; (try k_sweep))
  trivial
example : True := by
  k_with "call ref" => (k_here; (try dsimp only [List.nil_append, List.cons_append, List.append_nil]); (with_reducible show wpAny _ _ (call (Value.ref 174) [Value.ref _]) _ _ _); k_dflt (first | refine' figure_nw (by ktr_rel) (by ktr_rel) (by ktr_rel) (by ktr_rel) (by ktr_rel) (by ktr_rel) (by ktr_rel) (by ktr_rel) (by ktr_rel) (by ktr_rel) (by ktr_rel) ?_ | refine' figure_th (by ktr_rel) (by ktr_rel) (by ktr_rel) (by ktr_rel) (by ktr_rel) (by ktr_rel) (by ktr_rel) (by ktr_rel) (by ktr_rel) (by ktr_rel) (by ktr_rel) ?_); k_whole; intro h' tk' F' N'; (try k_sweep))
  trivial
example : True := by
  k_with "call ref" => (k_here; (try dsimp only [List.nil_append, List.cons_append, List.append_nil]); (with_reducible show wpAny _ _ (call (Value.ref 387) [Value.ref _]) _ _ _); k_dflt (first | refine' num_c (by ktr_rel) (by ktr_rel) (by ktr_rel) (by ktr_rel) (by ktr_rel) (by ktr_rel) (by ktr_rel) (by ktr_rel) (by ktr_rel) (by ktr_rel) (by ktr_rel) (by ktr_rel) (by ktr_rel) ?_); k_whole; intro h' tk' F' N'; (try k_sweep))
  trivial
theorem operand_nw {fn : Value} (B : Below A₀ base outer h₀) (F : Fr h₀ L s.heap m) (X : (Mine.frag.heap_1 w.params).In h₀) (N : News h₀ L s.heap news) (T : Top p loose mean mg mb h₀) (hk : cs.kind = .function) (hdp : dp ≤ 678) (hun : un ≤ 8400)
    (R : RdIn news rdr dct tl tas n ws) (hd : (dct, RdD hs1 hs2 hs3 u1 u2 u3 tl nd pos t) ∈ news) (hb : h₀.get? (nat_lit 0) = some (boot_o_0 w.params)) (hp : pos ≤ ws.length) (hne : 0 < ws.length) (hkw : kdIs ws[pos]? (Str.ofString "word") = false) (hs1 : isSg ws[pos]? (Str.ofString "+") = false) (hs2 : isSg ws[pos]? (Str.ofString "-") = false) (hs3 : kdIs ws[pos]? (Str.ofString "number") = false) (hs4 : kdIs ws[pos]? (Str.ofString "literal") = false)
    (hkp : Kept keep news) (err : ∀ e h' tk' hh, ErrIn base (envX cn cs L a ccd cl :: outer) e (min pos (ws.length - 1)) keep hh h' → Fr h₀ L hh m → hh.UpToSlots h' → E (.ref e) { s with heap := h', toks := tk' }) :
    wpAny (model PySem.Challenge.rw_pc0133_01.prog w) (ktrTop dp un gd cn cs L a ccd cl outer) (call (.ref 181) [.ref rdr, fn]) Q E s := by
  revert X; k_fill; intro X
  have hrd := R.rd
  refine wpAny_call ?_
  k_dflt k_enter
  k_extra "steps"
  all_goals first | ((try k_unfold); (try dsimp only); refine err_next (by assumption) (by assumption) (by assumption) (by assumption) ?_; intro h9 r9 u9; (try dsimp only); exact err _ _ _ _ r9 (by assumption) u9) | trace_state
theorem operand_th {fn : Value} (B : Below A₀ base outer h₀) (F : Fr h₀ L s.heap m) (X : (Mine.frag.heap_1 w.params).In h₀) (N : News h₀ L s.heap news) (T : Top p loose mean mg mb h₀) (hk : cs.kind = .function) (hdp : dp ≤ 678) (hun : un ≤ 8400)
    (R : RdIn news rdr dct tl tas n ws) (hd : (dct, RdD hs1 hs2 hs3 u1 u2 u3 tl nd pos t) ∈ news) (hb : h₀.get? (nat_lit 0) = some (boot_o_0 w.params)) (hp : pos ≤ ws.length) (hne : 0 < ws.length) (hw : ws[pos]? = some Wd.th) (hs1 : isSg ws[pos]? (Str.ofString "+") = false) (hs2 : isSg ws[pos]? (Str.ofString "-") = false) (hs3 : kdIs ws[pos]? (Str.ofString "number") = false) (hs4 : kdIs ws[pos]? (Str.ofString "literal") = false)
    (hkp : Kept keep news) (err : ∀ e h' tk' hh, ErrIn base (envX cn cs L a ccd cl :: outer) e (min pos (ws.length - 1)) keep hh h' → Fr h₀ L hh m → hh.UpToSlots h' → E (.ref e) { s with heap := h', toks := tk' }) :
    wpAny (model PySem.Challenge.rw_pc0133_01.prog w) (ktrTop dp un gd cn cs L a ccd cl outer) (call (.ref 181) [.ref rdr, fn]) Q E s := by
  revert X; k_fill; intro X
  have hrd := R.rd
  obtain ⟨ta, hv, ht⟩ := R.tok _ _ hw
  cases ht with
  | mk q1 q2 q3 =>
  rw [show Wd.kd .th = Str.ofString "word" from rfl, show Wd.txt .th = Str.ofString "THEN" from rfl] at q2
  have hkw : kdIs ws[pos]? (Str.ofString "word") = true := by rw [hw]; decide +kernel
  refine wpAny_call ?_
  k_dflt k_enter
  k_extra "steps"
  all_goals first | ((try k_unfold); (try dsimp only); refine err_next (by assumption) (by assumption) (by assumption) (by assumption) ?_; intro h9 r9 u9; (try dsimp only); exact err _ _ _ _ r9 (by assumption) u9) | trace_state
end
end Mine
end
section
open PySem PySem.W PyProof.Rows PySem.Spec PySem.Calls
set_option Elab.async false
example : True := by k_with_none; trivial
example : True := by
  k_with "fold" => (refine folds ?_; intro qk ek)
  k_with "at0" => (with_reducible show At _ _ _ _ (.Name _ _) _ _ _); exact at_L (by rfl) (by rfl) (by decide) (by k_asm) (Eq.refl (some _))
  k_with "atF" => k_dflt first | k_extra "at0" | ((with_reducible show At _ _ _ _ (.Name _ _) _ _ _); exact at_K (by rfl) (by rfl) (by decide) (by k_asm) (by k_asm) (by k_is) (by k_asm)) | fail
  k_with "atB" => k_dflt first | ((with_reducible show At _ _ _ _ (.Name _ _) _ _ _); exact at_B (by rfl) (by rfl) (by decide) (by k_asm) (by k_asm) (by k_is) (by boot_fast) (by decide) (by k_asm)) | fail
  k_with "at" => k_dflt first | ((with_reducible show At _ _ _ _ (.Constant _ _ _) _ _ _); first | exact at_S | exact at_I | exact at_N) | k_extra "at0" | ((with_reducible show At _ _ _ _ (.Attribute (.Name _ _) _ _) _ _ _); exact at_attr (by k_asm) (by k_asm) (by k_extra "at0") (by k_inst) (by k_get) (by k_is) (by k_is) (by k_is) (by k_is) (by first | exact rfl | k_handed)) | ((with_reducible show At _ _ _ _ (.BinOp _ .Add _ _) _ _ _); exact at_add (by k_extra "at") (by k_extra "at")) | k_extra "atF" | fail
  k_with "spl" => k_dflt first | exact spl0 | ((with_reducible show Spl _ _ _ _ [_] _ _ _); exact spl1 (by k_extra "at")) | ((with_reducible show Spl _ _ _ _ [_, _] _ _ _); exact spl2 (by k_extra "at") (by k_extra "at")) | ((with_reducible show Spl _ _ _ _ (_ :: _) _ _ _); exact splC (by k_extra "at") (by k_extra "spl")) | fail
  k_with "eval Call Attribute" => with_reducible (k_here; show wpAny _ _ (eval (.Call (.Attribute _ _ _) _ [] _) _) _ _ _; first | refine mcall (by k_extra "spl") (by k_dflt exact rfl) (by k_dflt k_asm) (by k_dflt k_asm) (by k_extra "at") (by k_dflt k_inst) (by k_get) (by k_is) (by k_is) (by k_is) (by k_is) (by k_dflt exact rfl) ?_ | fail)
  k_with "eval Call" => first | with_reducible (k_here; show wpAny _ _ (eval (.Call (.Name _ _) _ [] _) _) _ _ _; first | refine fcall (by k_extra "spl") (by k_dflt exact rfl) (by k_dflt k_asm) (by k_dflt k_asm) (by k_extra "atF") (by k_is) (by k_dflt exact rfl) ?_ | ((first | show wpAny _ _ (eval (.Call (.Name (Str.ofString "len") _) _ _ _) _) _ _ _ | show wpAny _ _ (eval (.Call (.Name (Str.ofString "min") _) _ _ _) _) _ _ _); refine bcall (by k_extra "spl") (by k_extra "atB") (by k_dflt exact rfl) ?_) | fail) | (k_here; k_dflt (refine Call_ ?_)) | fail
  k_with "spliced" => first | with_reducible (k_here; first | refine spl_use (by k_extra "spl") ?_ | fail) | (k_dflt (first | refine spliced_more ?_ | refine spliced_none ?_)) | fail
  k_with "eval Subscript" => with_reducible (k_here; show wpAny _ _ (eval (.Subscript _ _ _) _) _ _ _; first | refine sub_at (by k_extra "at") (by k_extra "at") ?_ | fail)
  k_with "eval BinOp" => with_reducible (k_here; show wpAny _ _ (eval (.BinOp _ _ _ _) _) _ _ _; first | refine at_use (by k_extra "at") ?_ | refine bin_at (by k_extra "at") (by k_extra "at") ?_ | fail)
  k_with "isTrue Compare" => with_reducible (k_here; show wpAny _ _ (PySem.isTrue (.Compare _ [_] [_] _) _ _) _ _ _; first | refine cmpT_at (by k_dflt rfl) (by k_extra "at") (by k_extra "at") ?_ | refine cmpT_atL (by k_dflt rfl) (by k_extra "at") ?_ | fail)
  k_with "eval Compare" => with_reducible (k_here; show wpAny _ _ (eval (.Compare _ [_] [_] _) _) _ _ _; first | refine cmp_at (by k_dflt rfl) (by k_extra "at") (by k_extra "at") ?_ | fail)
  k_with "eval Attribute Name" => with_reducible (k_here; first | refine at_use (by k_extra "at") ?_ | fail)
  k_with "eval Name" => with_reducible (k_here; first | refine at_use (by k_extra "at") ?_ | fail)
  k_with "itemAt" => (k_here; (with_reducible show wpAny _ _ (subscriptTail _ _ (Value.ref _) (Value.int _ _)) _ _ _); with_reducible first | refine item_litK (by with_unfolding_all is_list) (by k_dflt decide) (by k_dflt decide) (by with_unfolding_all rfl) ?_ (by with_unfolding_all rfl) | refine item_tupleT (by k_dflt exact News.isTup (by k_asm) (by k_mem)) (by k_dflt decide) (by k_dflt decide) (by k_dflt rfl) (by k_dflt rfl) ?_ | fail); k_whole
  k_with "turned" => (k_here; k_dflt (refine kba_turn (value' := PySem.Expr.Name (PySem.Str.ofString "_") ⟨0, 0, 0, 0⟩) (fun _ => rfl) ?_))
  k_with "subscriptTail Name Constant ref int" => first | k_extra "subscriptTail" | k_extra "itemAt" | fail
  k_with "subscriptTail Subscript Constant ref int" => k_extra "itemAt"
  k_with "subscriptTail Name" => k_extra "subscriptTail"
  k_with "subscriptTail Call" => k_extra "turned"
  k_with "subscriptTail BinOp" => k_extra "turned"
  k_with "seq" => first | (k_here; k_gentoks) | ((with_reducible refine wpAny_execs_cons ?_); try dsimp only) | fail
  k_with "execs cons Assign cons" => k_extra "seq"
  k_with "execs cons If cons" => k_extra "seq"
  k_with "execs cons Return nil" => k_extra "seq"
  k_with "exec Assign cons" => (with_reducible show wpAny _ _ (exec (.Assign [.Name _ _] _ _) _) _ _ _); k_dflt (refine wpAny_Assign_Name ?_)
  k_with "exec If" => refine wpAny_If ?_
  k_with "eval Call Name cons nil" => k_extra "eval Call"
  k_with "isTrue Compare Name cons cons" => k_extra "isTrue Compare"
  k_with "truthy bool false" => refine wpAny_truthy_bool ?_
  k_with "truthy bool" => refine wpAny_truthy_bool ?_
  k_with "room" => first | exact lb0 (j := 1) (by assumption) rfl | exact lb2 (j := 1) (by assumption) (by assumption) rfl
  k_with "om" => first | (k_whole; first | exact lb0 (by assumption) rfl | exact lb1 (by assumption) rfl | exact lb2 (by assumption) (by assumption) rfl | exact lb4 (by assumption) rfl | exact Nat.le_of_succ_le (by assumption)) | omega
  k_with "steps" => repeat' (first | ((with_reducible show wpAny _ _ (exec _ _) _ _ _); (fail_if_success (fail_if_success k_fold)); k_extra "fold") | ((fail_if_success (fail_if_success k_unfold)); first | dsimp only [qk] | dsimp only [ek] | (k_unfold; (try dsimp only))) | (k_end; wrow_close) | walk1 | (dsimp only; walk1) | (leave1; walk_say "STEP leave1"; try dsimp only) | fail)
  trivial
namespace Mine
set_option maxRecDepth 100000
set_option maxHeartbeats 0
def Wd.dec : Wd → Option (Int × Int)
  | .n5 => some (5, 0)
  | .n25 => some (25, 2)
  | _ => none
theorem newsSwap {h₀ h' : Heap} {L : Addr} {x y : Addr × Obj} {l : List (Addr × Obj)} (N : News h₀ L h' (x :: y :: l)) : News h₀ L h' (y :: x :: l) := fun p hp => N p (by
  cases hp with
  | head => exact .tail _ (.head _)
  | tail _ h => cases h with
    | head => exact .head _
    | tail _ h => exact .tail _ (.tail _ h))
/-- nothing of the ledger lies at the reader's dict nor at the table of codes -/
def Ap (dct : Addr) (news : List (Addr × Obj)) : Prop := ∀ p ∈ news, p.1 ≠ dct ∧ p.1 ≠ 232
theorem Ap.one {dct : Addr} {news : List (Addr × Obj)} (A : Ap dct news) : ∀ p ∈ news, p.1 ≠ dct := fun p h => (A p h).1
theorem ne_of_objs {h₀ h' : Heap} {L a b : Addr} {o o' : Obj} {l : List (Addr × Obj)} (N : News h₀ L h' l) (ha : (a, o) ∈ l) (hb : (b, o') ∈ l) (hne : o ≠ o') : a ≠ b := fun e => by
  have q1 := N.get ha; have q2 := N.get hb; rw [e, q2] at q1; exact hne (Option.some.inj q1).symm
theorem tup_ne_rd {vs : List Value} {k : Nat} {hs1 hs2 hs3 : Int} {u1 u2 u3 t : Tok} {tl nd : Addr} {pos : Int} : tupO vs k ≠ RdD hs1 hs2 hs3 u1 u2 u3 tl nd pos t := fun e => by have e := congrArg Obj.data e; cases e
theorem tup_ne_tab {vs : List Value} {k : Nat} {ps : Array Value} : tupO vs k ≠ tabObj ps := fun e => by have e := congrArg Obj.data e; cases e
section
variable {w : World} {p : Program} {loose : List Str} {mean : ExcName → Option Value} {mg mb : Str → Option Value} {dp un : Nat} {gd : Option (List Code)} {cn : Str} {cs : Scope} {a : Addr} {ccd : Value} {cl : List (Str × Addr)} {outer : List Env} {A₀ : Around} {base h₀ : Heap} {L : Addr} {m : Str → Option Value}
  {news : List (Addr × Obj)} {s : Shared} {Q E : Value → Shared → Prop} {rdr dct tl nd : Addr} {hs1 hs2 hs3 : Int} {u1 u2 u3 t : Tok} {tas : List Addr} {n : Nat} {pos : Nat} {ws : List Wd} {keep : List (Addr × Obj)}
example : True := by
  k_with "upd" => exact updF_upd (by assumption) _
  trivial
example : True := by
  k_with "rel" => first | (with_reducible assumption) | exact dle1 (by with_reducible assumption) rfl | k_extra "om" | exact rfl | (refine RdIn.mono (by with_reducible assumption) ?_; (intro _ hz; (repeat' (first | exact hz | refine List.Mem.tail _ ?_)))) | exact UpdF.head (by with_reducible assumption) | (refine Kept.mono (by with_reducible assumption) ?_; (intro _ hz; first | exact hz | exact .tail _ hz | exact .tail _ (.tail _ hz) | exact .tail _ (.tail _ (.tail _ hz)) | exact .tail _ (.tail _ (.tail _ (.tail _ hz))) | exact .tail _ (.tail _ (.tail _ (.tail _ (.tail _ hz)))) | exact .tail _ (.tail _ (.tail _ (.tail _ (.tail _ (.tail _ hz))))))) | ((try dsimp only [ktrTop, Around.deeper]); k_extra "om") | assumption | k_mem | k_updF
  trivial
example : True := by
  k_with "call ref" => (k_here; (try dsimp only [List.nil_append, List.cons_append, List.append_nil]); (with_reducible show wpAny _ _ (call (Value.ref 272) [Value.ref _]) _ _ _); k_dflt (first | refine' peek0_some (by ktr_rel) (by ktr_rel) (by ktr_rel) (by ktr_rel) (by ktr_rel) (by ktr_rel) (by ktr_rel) (by ktr_rel) (by ktr_rel) (by ktr_rel) (by ktr_rel) ?_ | refine' peek0_none (by ktr_rel) (by ktr_rel) (by ktr_rel) (by ktr_rel) (by ktr_rel) (by ktr_rel) (by ktr_rel) (by ktr_rel) (by ktr_rel) (by ktr_rel) (by ktr_rel) ?_); k_whole; intro h' tk' F' N'; (try k_sweep))
  trivial
example : True := by
  k_with "call ref" => (k_here; (try dsimp only [List.nil_append, List.cons_append, List.append_nil]); (with_reducible show wpAny _ _ (call (Value.ref 272) [Value.ref _, Value.int _ _]) _ _ _); k_dflt (first | refine' peek_some0 (by ktr_rel) (by ktr_rel) (by ktr_rel) (by ktr_rel) (by ktr_rel) (by ktr_rel) (by ktr_rel) (by ktr_rel) (by ktr_rel) (by ktr_rel) (by ktr_rel) ?_ | refine' peek_none0 (by ktr_rel) (by ktr_rel) (by ktr_rel) (by ktr_rel) (by ktr_rel) (by ktr_rel) (by ktr_rel) (by ktr_rel) (by ktr_rel) (by ktr_rel) (by ktr_rel) ?_ | refine' peek_some1 (by ktr_rel) (by ktr_rel) (by ktr_rel) (by ktr_rel) (by ktr_rel) (by ktr_rel) (by ktr_rel) (by ktr_rel) (by ktr_rel) (by ktr_rel) (by ktr_rel) ?_ | refine' peek_none1 (by ktr_rel) (by ktr_rel) (by ktr_rel) (by ktr_rel) (by ktr_rel) (by ktr_rel) (by ktr_rel) (by ktr_rel) (by ktr_rel) (by ktr_rel) (by ktr_rel) ?_); k_whole; intro h' tk' F' N'; (try k_sweep))
  trivial
example : True := by
  k_with "call ref" => (k_here; (try dsimp only [List.nil_append, List.cons_append, List.append_nil]); (with_reducible show wpAny _ _ (call (Value.ref 301) [Value.ref _, Value.str _ _]) _ _ _); k_dflt (first | refine' isk_c (tk2 := 0) (by ktr_rel) (by ktr_rel) (by ktr_rel) (by ktr_rel) (by ktr_rel) (by ktr_rel) (by ktr_rel) (by ktr_rel) (by ktr_rel) (by ktr_rel) (by ktr_rel) ?_); k_whole; intro h' tk' F' N'; (try k_sweep))
  trivial
example : True := by
  k_with "call ref" => (k_here; (try dsimp only [List.nil_append, List.cons_append, List.append_nil]); (with_reducible show wpAny _ _ (call (Value.ref 301) [Value.ref _, Value.str _ _, Value.int _ _]) _ _ _); k_dflt (first | refine' isk0_c (by ktr_rel) (by ktr_rel) (by ktr_rel) (by ktr_rel) (by ktr_rel) (by ktr_rel) (by ktr_rel) (by ktr_rel) (by ktr_rel) (by ktr_rel) (by ktr_rel) ?_ | refine' isk1_c (by ktr_rel) (by ktr_rel) (by ktr_rel) (by ktr_rel) (by ktr_rel) (by ktr_rel) (by ktr_rel) (by ktr_rel) (by ktr_rel) (by ktr_rel) (by ktr_rel) ?_); k_whole; intro h' tk' F' N'; (try k_sweep))
  trivial
example : True := by
  k_with "call ref" => (k_here; (try dsimp only [List.nil_append, List.cons_append, List.append_nil]); (with_reducible show wpAny _ _ (call (Value.ref 366) [Value.ref _, Value.str _ _]) _ _ _); k_dflt (first | refine' iss_c (by ktr_rel) (by ktr_rel) (by ktr_rel) (by ktr_rel) (by ktr_rel) (by ktr_rel) (by ktr_rel) (by ktr_rel) (by ktr_rel) (by ktr_rel) (by ktr_rel) ?_); k_whole; intro h' tk' F' N'; (try k_sweep))
  trivial
theorem signed_c {wd : Wd} {u sc : Int} (B : Below A₀ base outer h₀) (F : Fr h₀ L s.heap m) (X : (Mine.frag.heap_1 w.params).In h₀) (N : News h₀ L s.heap ((dct, RdD hs1 hs2 hs3 u1 u2 u3 tl nd pos t) :: news)) (T : Top p loose mean mg mb h₀) (hk : cs.kind = .function) (hdp : dp ≤ 682) (hun : un ≤ 8600)
    (R : RdIn news rdr dct tl tas n ws) (ap : ∀ p ∈ news, p.1 ≠ dct) (hw : ws[pos]? = some wd) (hv : wd.dec = some (u, sc))
    (ret : ∀ h' tk' t' tp t1 t2 k, Fr h₀ L h' m → News h₀ L h' ((dct, RdD hs1 hs2 hs3 u1 u2 u3 tl nd ((pos + 1 : Nat) : Int) t') :: (tp, tupO [.int u t1, .int sc t2] k) :: news) → Q (.ref tp) { s with heap := h', toks := tk' }) :
    wpAny (model PySem.Challenge.rw_pc0133_01.prog w) (ktrTop dp un gd cn cs L a ccd cl outer) (call (.ref 394) [.ref rdr]) Q E s := by
  cases wd with
  | n5 => injection hv with hv; injection hv with a b; subst a; subst b; exact signed5 B F X N T hk hdp hun R ap hw rfl rfl fun h' tk' t' tp t1 t2 k F' N' => ret h' tk' t' tp t1 t2 k F' (newsSwap N')
  | n25 => injection hv with hv; injection hv with a b; subst a; subst b; exact signed25 B F X N T hk hdp hun R ap hw rfl rfl fun h' tk' t' tp t1 t2 k F' N' => ret h' tk' t' tp t1 t2 k F' (newsSwap N')
  | _ => cases hv
example : True := by
  k_with "call ref" => (k_here; (try dsimp only [List.nil_append, List.cons_append, List.append_nil]); (with_reducible show wpAny _ _ (call (Value.ref 387) [Value.ref _]) _ _ _); k_dflt (first | refine' num_c (by ktr_rel) (by ktr_rel) (by ktr_rel) (by ktr_rel) (by ktr_rel) (by ktr_rel) (by ktr_rel) (by ktr_rel) (by ktr_rel) (by ktr_rel) (by ktr_rel) (by ktr_rel) (by ktr_rel) ?_); k_whole; intro h' tk' F' N'; (try k_sweep))
  trivial
example : True := by
  k_with "call ref" => (k_here; (try dsimp only [List.nil_append, List.cons_append, List.append_nil]); (with_reducible show wpAny _ _ (call (Value.ref 394) [Value.ref _]) _ _ _); k_dflt (first | refine' signed_c (by ktr_rel) (by ktr_rel) (by ktr_rel) (by ktr_rel) (by ktr_rel) (by ktr_rel) (by ktr_rel) (by ktr_rel) (by ktr_rel) (by ktr_rel) (by ktr_rel) (by ktr_rel) ?_); k_whole; intro h' tk' t' tp' t1' t2' k' F' N'; (try k_sweep))
  trivial
theorem operand_c {wd : Wd} {u sc : Int} {fn : Value} (B : Below A₀ base outer h₀) (F : Fr h₀ L s.heap m) (X : (Mine.frag.heap_1 w.params).In h₀) (N : News h₀ L s.heap ((dct, RdD hs1 hs2 hs3 u1 u2 u3 tl nd pos t) :: news)) (T : Top p loose mean mg mb h₀) (hk : cs.kind = .function) (hdp : dp ≤ 680) (hun : un ≤ 8500)
    (R : RdIn news rdr dct tl tas n ws) (ap : ∀ p ∈ news, p.1 ≠ dct) (hw : ws[pos]? = some wd) (hv : wd.dec = some (u, sc))
    (ret : ∀ h' tk' t' tp ta t1 t2 t3 k1 k2, Fr h₀ L h' m → News h₀ L h' ((dct, RdD hs1 hs2 hs3 u1 u2 u3 tl nd ((pos + 1 : Nat) : Int) t') :: (ta, tupO [.str (Str.ofString "number") t3, .ref tp] k2) :: (tp, tupO [.int u t1, .int sc t2] k1) :: news) → Q (.ref ta) { s with heap := h', toks := tk' }) :
    wpAny (model PySem.Challenge.rw_pc0133_01.prog w) (ktrTop dp un gd cn cs L a ccd cl outer) (call (.ref 181) [.ref rdr, fn]) Q E s := by
  revert X; k_fill; intro X
  have hrd := R.rd
  have hkd : wd.kd = Str.ofString "number" := by cases wd <;> first | rfl | cases hv
  have hn1 : isSg ws[pos]? (Str.ofString "+") = false := by rw [hw]; dsimp only [isSg]; rw [hkd, show (Str.ofString "number" == Str.ofString "sign") = false from by decide +kernel]; rfl
  have hn2 : isSg ws[pos]? (Str.ofString "-") = false := by rw [hw]; dsimp only [isSg]; rw [hkd, show (Str.ofString "number" == Str.ofString "sign") = false from by decide +kernel]; rfl
  have hn3 : kdIs ws[pos]? (Str.ofString "number") = true := by rw [hw]; dsimp only [kdIs]; rw [hkd]; decide +kernel
  have hrd2 := mem_tail N hrd
  refine wpAny_call ?_
  k_dflt k_enter
  k_extra "steps"
  all_goals first | exact ret _ _ _ _ _ _ _ _ _ _ (by k_asm) (newsSwap (by k_asm)) | trace_state
end
end Mine
end
section
open PySem PySem.W PyProof.Rows PySem.Spec PySem.Calls
set_option Elab.async false
namespace Mine
set_option maxRecDepth 100000
set_option maxHeartbeats 0
def TabOk (l c : Nat) (ps : Array Value) : Prop := ps = #[] ∨ ∃ c' : Addr, ps = #[rawInt l, rawInt c, .ref c']
theorem updF_same {d : Addr} {o : Obj} {l : List (Addr × Obj)} {g : Obj → List (Addr × Obj)} (U : UpdF d o l g) : g o = l := by
  induction U with
  | head h => rfl
  | tail h _ ih => dsimp only; rw [ih]
theorem lam_K {prog : Program} {w : World} {A : Around} {E : Value → Shared → Prop} {s : Shared} {h₀ : Heap} {L a : Addr} {m mg mb : Str → Option Value} {cn : Str} {cs : Scope} {ccd : Value} {cl : List (Str × Addr)} {news : List (Addr × Obj)} {g : Obj → List (Addr × Obj)}
    {p : Program} {loose : List Str} {mean : ExcName → Option Value} {params : Arguments} {body : PySem.Expr} {scope : Scope} {ps : Array Value} {pos : Pos} {clos : List (Str × Addr)} {Q : Value → Shared → Prop}
    (F : Fr h₀ L s.heap m) (N : News h₀ L s.heap news) (T : Top p loose mean mg mb h₀) (X : (Mine.frag.heap_1 w.params).In h₀) (hcd : ccd = .ref 236) (U : UpdF 232 (tabObj ps) news g) (hps : TabOk pos.line pos.col ps)
    (hcl : closureFor scope (envX cn cs L a ccd cl) = pure clos) (hdef : defaultsOf params (envX cn cs L a ccd cl) = ([], []))
    (h : ∀ f h' tk' ps', TabOk pos.line pos.col ps' → Fr h₀ L h' m → News h₀ L h' (g (tabObj ps')) → Q (.ref f) { s with heap := h', toks := tk' }) :
    wpAny (model prog w) A (eval (.Lambda params body scope pos) (envX cn cs L a ccd cl)) Q E s := by
  have C : CodeHd h₀ 236 232 := codeHd_of_K X (by kernel_rfl)
  refine kla_eval hdef ?_
  rcases hps with rfl | ⟨c', rfl⟩
  · refine kla_nest F N T C hcd U (by kn_triples) (by kn_among) hcl fun f c' oc vs t ctv h' tk F' N' _ _ _ _ => ?_
    exact h f h' tk _ (.inr ⟨c', rfl⟩) F' fun q hq => N' q (.tail _ (.tail _ hq))
  · refine kla_hit (c' := c') (ps := #[rawInt pos.line, rawInt pos.col, .ref c']) F N T C hcd ?_ (by kn_triples) (by simp [codeAmong, rawInt]) hcl fun f ctv h' tk F' N' _ => ?_
    · obtain ⟨own, rest, e, _⟩ := U.split; rw [e]; exact List.mem_append_right _ (.head _)
    · refine h f h' tk _ (.inr ⟨c', rfl⟩) F' fun q hq => N' q (.tail _ ?_)
      rw [updF_same U] at hq; exact hq
end Mine
end
section
open PySem PySem.W PyProof.Rows PySem.Spec PySem.Calls
set_option Elab.async false
namespace Mine
set_option maxRecDepth 100000
set_option maxHeartbeats 0
def lineL : Nat := 174
def colL : Nat := 36
/-- what a reading function of the program does: the same as `run` -/
def Does (w : World) (p : Program) (loose : List Str) (mean : ExcName → Option Value) (mg mb : Str → Option Value) (rdr dct tl nd : Addr) (hs1 hs2 hs3 : Int) (u1 u2 u3 : Tok) (tas : List Addr) (n : Nat) (ws : List Wd) (f : Addr) (bd dm : Nat) (lv : Lv) (k : Nat) : Prop :=
  ∀ (dp un : Nat) (gd : Option (List Code)) (cn : Str) (cs : Scope) (a : Addr) (ccd : Value) (cl : List (Str × Addr)) (outer : List Env) (A₀ : Around) (base h₀ : Heap) (L : Addr) (m : Str → Option Value) (news : List (Addr × Obj)) (s : Shared) (Q E : Value → Shared → Prop) (t : Tok) (pos d : Nat) (td : Tok) (ps : Array Value) (r : Option Dat) (q : Nat) (keep : List (Addr × Obj)),
    Below A₀ base outer h₀ → Fr h₀ L s.heap m → (Mine.frag.heap_1 w.params).In h₀ → News h₀ L s.heap ((dct, RdD hs1 hs2 hs3 u1 u2 u3 tl nd pos t) :: (232, tabObj ps) :: news) → Top p loose mean mg mb h₀ → cs.kind = .function → dp ≤ 400 + 10 * d + bd → un ≤ 3000 + 100 * d + 10 * bd →
    RdIn news rdr dct tl tas n ws → Ap dct news → dct ≠ 232 → TabOk lineL colL ps → h₀.get? (nat_lit 0) = some (boot_o_0 w.params) → 0 < ws.length → pos ≤ ws.length → d ≤ dm → run ws k lv d pos = some (r, q) → Kept keep news →
    (∀ v t' h' tk' tr ps' news', r = some tr → Fr h₀ L h' m → News h₀ L h' ((dct, RdD hs1 hs2 hs3 u1 u2 u3 tl nd q t') :: (232, tabObj ps') :: news') → RdIn news' rdr dct tl tas n ws → Ap dct news' → TabOk lineL colL ps' → (∀ z ∈ news, z ∈ news') → DatIn news' v tr → q ≤ ws.length → Q v { s with heap := h', toks := tk' }) →
    (r = none → ∀ e h' tk' ps' hh, TabOk lineL colL ps' → ErrIn base (envX cn cs L a ccd cl :: outer) e (min q (ws.length - 1)) ((232, tabObj ps') :: keep) hh h' → Fr h₀ L hh m → hh.UpToSlots h' → E (.ref e) { s with heap := h', toks := tk' }) →
    wpAny (model PySem.Challenge.rw_pc0133_01.prog w) (ktrTop dp un gd cn cs L a ccd cl outer) (call (.ref f) [.ref rdr, .int d td]) Q E s
section
variable {w : World} {p : Program} {loose : List Str} {mean : ExcName → Option Value} {mg mb : Str → Option Value} {dp un : Nat} {gd : Option (List Code)} {cn : Str} {cs : Scope} {a : Addr} {ccd : Value} {cl : List (Str × Addr)} {outer : List Env} {A₀ : Around} {base h₀ : Heap} {L : Addr} {m : Str → Option Value}
  {news : List (Addr × Obj)} {s : Shared} {Q E : Value → Shared → Prop} {rdr dct tl nd : Addr} {hs1 hs2 hs3 : Int} {u1 u2 u3 t : Tok} {tas : List Addr} {n : Nat} {pos : Nat} {ws : List Wd} {f : Addr} {bd dm k d : Nat} {lv : Lv} {td : Tok} {ps : Array Value} {r : Option Dat} {q : Nat} {keep : List (Addr × Obj)}
theorem does_use (S : Does w p loose mean mg mb rdr dct tl nd hs1 hs2 hs3 u1 u2 u3 tas n ws f bd dm lv k) (hrun : run ws k lv d pos = some (r, q)) (B : Below A₀ base outer h₀) (F : Fr h₀ L s.heap m) (X : (Mine.frag.heap_1 w.params).In h₀) (N : News h₀ L s.heap ((dct, RdD hs1 hs2 hs3 u1 u2 u3 tl nd pos t) :: (232, tabObj ps) :: news)) (T : Top p loose mean mg mb h₀) (hk : cs.kind = .function) (hdp : dp ≤ 400 + 10 * d + bd) (hun : un ≤ 3000 + 100 * d + 10 * bd)
    (R : RdIn news rdr dct tl tas n ws) (ap : Ap dct news) (h232 : dct ≠ 232) (tb : TabOk lineL colL ps) (hb : h₀.get? (nat_lit 0) = some (boot_o_0 w.params)) (hne : 0 < ws.length) (hp : pos ≤ ws.length) (hd : d ≤ dm) (hkp : Kept keep news)
    (ret : ∀ v t' h' tk' tr ps' news', r = some tr → Fr h₀ L h' m → News h₀ L h' ((dct, RdD hs1 hs2 hs3 u1 u2 u3 tl nd q t') :: (232, tabObj ps') :: news') → RdIn news' rdr dct tl tas n ws → Ap dct news' → TabOk lineL colL ps' → (∀ z ∈ news, z ∈ news') → DatIn news' v tr → q ≤ ws.length → Q v { s with heap := h', toks := tk' })
    (err : r = none → ∀ e h' tk' ps' hh, TabOk lineL colL ps' → ErrIn base (envX cn cs L a ccd cl :: outer) e (min q (ws.length - 1)) ((232, tabObj ps') :: keep) hh h' → Fr h₀ L hh m → hh.UpToSlots h' → E (.ref e) { s with heap := h', toks := tk' }) :
    wpAny (model PySem.Challenge.rw_pc0133_01.prog w) (ktrTop dp un gd cn cs L a ccd cl outer) (call (.ref f) [.ref rdr, .int d td]) Q E s :=
  S _ _ _ _ _ _ _ _ _ _ _ _ _ _ _ _ _ _ _ _ _ _ _ _ _ _ B F X N T hk hdp hun R ap h232 tb hb hne hp hd hrun hkp ret err
end
/-- the loop's word -/
structure LS where
  k : Nat
  t : Dat
  q : Nat
  v : Value
  tq : Tok
  ps : Array Value
  news : List (Addr × Obj)
structure LF (rdr dct tl : Addr) (tas : List Addr) (n : Nat) (ws : List Wd) (c : LS) : Prop where
  R : RdIn c.news rdr dct tl tas n ws
  ap : Ap dct c.news
  tb : TabOk lineL colL c.ps
  D : DatIn c.news c.v c.t
structure LP (ws : List Wd) (lvL : Dat → Lv) (d k : Nat) (news : List (Addr × Obj)) (r : Option Dat) (q : Nat) (c : LS) : Prop where
  run : run ws c.k (lvL c.t) d c.q = some (r, q)
  hq : c.q ≤ ws.length
  hk : c.k ≤ k
  sub : ∀ z ∈ news, z ∈ c.news
theorem mem_t2 {h₀ h' : Heap} {L : Addr} {x y q : Addr × Obj} {l : List (Addr × Obj)} (_ : News h₀ L h' (x :: y :: l)) (h : q ∈ l) : q ∈ x :: y :: l := .tail _ (.tail _ h)
theorem mem_t3 {h₀ h' : Heap} {L : Addr} {x y z q : Addr × Obj} {l : List (Addr × Obj)} (_ : News h₀ L h' (x :: y :: z :: l)) (h : q ∈ l) : q ∈ x :: y :: z :: l := .tail _ (.tail _ (.tail _ h))
theorem mem_t4 {h₀ h' : Heap} {L : Addr} {x y z u q : Addr × Obj} {l : List (Addr × Obj)} (_ : News h₀ L h' (x :: y :: z :: u :: l)) (h : q ∈ l) : q ∈ x :: y :: z :: u :: l := .tail _ (.tail _ (.tail _ (.tail _ h)))
/-- a loop of the reading by what the next word is -/
inductive Turn (ws : List Wd) (lvN : Lv) (lvL : Dat → Lv) (xs : List Str) (k d q : Nat) (t : Dat) (r : Option Dat) (qf : Nat) : Prop
  | stop : sgn ws[q]? xs = Str.ofString "" → r = some t → qf = q → Turn ws lvN lvL xs k d q t r qf
  | go {wd : Wd} {k' : Nat} {r1 : Option Dat} {q1 : Nat} : ws[q]? = some wd → sgn ws[q]? xs = wd.txt → (wd.txt != Str.ofString "") = true → k = k' + 1 → run ws k' lvN d (q + 1) = some (r1, q1) → (r1 = none → r = none ∧ qf = q1) → (∀ u, r1 = some u → run ws k' (lvL (bin wd.txt t u)) d q1 = some (r, qf)) → Turn ws lvN lvL xs k d q t r qf
theorem bind_cases {ws : List Wd} {k' : Nat} {lv : Lv} {lvL : Dat → Lv} {d d' q : Nat} {r : Option Dat} {qf : Nat}
    (h : (match run ws k' lv d' q with
      | some (some u, q) => run ws k' (lvL u) d q
      | r => r) = some (r, qf)) : ∃ r1 q1, run ws k' lv d' q = some (r1, q1) ∧ (r1 = none → r = none ∧ qf = q1) ∧ (∀ u, r1 = some u → run ws k' (lvL u) d q1 = some (r, qf)) := by
  cases e : run ws k' lv d' q with
  | none => rw [e] at h; cases h
  | some x =>
    obtain ⟨r1, q1⟩ := x
    rw [e] at h
    cases r1 with
    | none => injection h with h; injection h with h1 h2; exact ⟨none, q1, rfl, fun _ => ⟨h1.symm, h2.symm⟩, fun u hu => (nomatch hu)⟩
    | some u => exact ⟨some u, q1, rfl, fun hu => (nomatch hu), fun u' hu => by injection hu with hu; subst hu; exact h⟩
theorem sum_turn {ws : List Wd} {k d q : Nat} {t : Dat} {r : Option Dat} {qf : Nat} (h : run ws k (.sumL t) d q = some (r, qf)) : Turn ws .prod .sumL [Str.ofString "+", Str.ofString "-"] k d q t r qf := by
  cases k with
  | zero => cases h
  | succ k =>
    simp only [run] at h
    split at h
    · rename_i hw
      obtain ⟨r1, q1, e, h1, h2⟩ := bind_cases (lvL := fun u => .sumL (bin (Str.ofString "+") t u)) h
      exact .go hw (by rw [hw]; decide +kernel) (by decide +kernel) rfl e h1 h2
    · rename_i hw
      obtain ⟨r1, q1, e, h1, h2⟩ := bind_cases (lvL := fun u => .sumL (bin (Str.ofString "-") t u)) h
      exact .go hw (by rw [hw]; decide +kernel) (by decide +kernel) rfl e h1 h2
    · rename_i h1 h2
      injection h with h; injection h with ha hb
      refine .stop ?_ ha.symm hb.symm
      cases hw : ws[q]? with
      | none => rfl
      | some x => cases x <;> first | (exact absurd hw h1) | (exact absurd hw h2) | decide +kernel
theorem prod_turn {ws : List Wd} {k d q : Nat} {t : Dat} {r : Option Dat} {qf : Nat} (h : run ws k (.prodL t) d q = some (r, qf)) : Turn ws .fac .prodL [Str.ofString "*", Str.ofString "/"] k d q t r qf := by
  cases k with
  | zero => cases h
  | succ k =>
    simp only [run] at h
    split at h
    · rename_i hw
      obtain ⟨r1, q1, e, h1, h2⟩ := bind_cases (lvL := fun u => .prodL (bin (Str.ofString "*") t u)) h
      exact .go hw (by rw [hw]; decide +kernel) (by decide +kernel) rfl e h1 h2
    · rename_i hw
      obtain ⟨r1, q1, e, h1, h2⟩ := bind_cases (lvL := fun u => .prodL (bin (Str.ofString "/") t u)) h
      exact .go hw (by rw [hw]; decide +kernel) (by decide +kernel) rfl e h1 h2
    · rename_i h1 h2
      injection h with h; injection h with ha hb
      refine .stop ?_ ha.symm hb.symm
      cases hw : ws[q]? with
      | none => rfl
      | some x => cases x <;> first | (exact absurd hw h1) | (exact absurd hw h2) | decide +kernel
theorem pow_turn {ws : List Wd} {k d q : Nat} {t : Dat} {r : Option Dat} {qf : Nat} (h : run ws k (.powL t) d q = some (r, qf)) : Turn ws .prim .powL [Str.ofString "**"] k d q t r qf := by
  cases k with
  | zero => cases h
  | succ k =>
    simp only [run] at h
    split at h
    · rename_i hw
      obtain ⟨r1, q1, e, h1, h2⟩ := bind_cases (lvL := fun u => .powL (bin (Str.ofString "**") t u)) h
      exact .go hw (by rw [hw]; decide +kernel) (by decide +kernel) rfl e h1 h2
    · rename_i h1
      injection h with h; injection h with ha hb
      refine .stop ?_ ha.symm hb.symm
      cases hw : ws[q]? with
      | none => rfl
      | some x => cases x <;> first | (exact absurd hw h1) | decide +kernel
/-- a factor by its first word -/
inductive FTurn (ws : List Wd) (k d p : Nat) (r : Option Dat) (q : Nat) : Prop
  | plain : sgn ws[p]? [Str.ofString "+", Str.ofString "-"] = Str.ofString "" → run ws k .pow d p = some (r, q) → FTurn ws k d p r q
  | plus {wd : Wd} : ws[p]? = some wd → sgn ws[p]? [Str.ofString "+", Str.ofString "-"] = Str.ofString "+" → run ws k .pow d (p + 1) = some (r, q) → FTurn ws k d p r q
  | own {wd : Wd} {u sc : Int} : ws[p]? = some wd → sgn ws[p]? [Str.ofString "+", Str.ofString "-"] = Str.ofString "-" → (kdIs ws[p + 1]? (Str.ofString "number") && !(isSg ws[p + 1 + 1]? (Str.ofString "**"))) = true → run ws k .pow d (p + 1) = some (some (num u sc), q) → r = some (num (-u) sc) → FTurn ws k d p r q
  | neg {wd : Wd} {r1 : Option Dat} : ws[p]? = some wd → sgn ws[p]? [Str.ofString "+", Str.ofString "-"] = Str.ofString "-" → (kdIs ws[p + 1]? (Str.ofString "number") && !(isSg ws[p + 1 + 1]? (Str.ofString "**"))) = false → run ws k .pow d (p + 1) = some (r1, q) → (r1 = none → r = none) → (∀ t, r1 = some t → r = some (Mine.neg t)) → FTurn ws k d p r q
theorem own_eq (ws : List Wd) (p : Nat) : (kdIs ws[p]? (Str.ofString "number") && !(isSg ws[p + 1]? (Str.ofString "**"))) = own ws p := by
  have e (o o' : Option Wd) : (kdIs o (Str.ofString "number") && !(isSg o' (Str.ofString "**"))) = ((Wd.num? o).isSome && !isPw o') := by
    have e1 : kdIs o (Str.ofString "number") = (Wd.num? o).isSome := by cases o with
      | none => rfl
      | some w => cases w <;> decide +kernel
    have e2 : isSg o' (Str.ofString "**") = isPw o' := by cases o' with
      | none => rfl
      | some w => cases w <;> decide +kernel
    rw [e1, e2]
  exact e _ _
theorem own_run {ws : List Wd} {k d p : Nat} {r : Option Dat} {q : Nat} (h : own ws p = true) (hr : run ws k .pow d p = some (r, q)) : ∃ u sc, r = some (num u sc) ∧ Wd.nnum ws[p]? = num (-u) sc := by
  unfold own at h
  simp only [Bool.and_eq_true, Bool.not_eq_true'] at h
  obtain ⟨h1, h2⟩ := h
  have last (k : Nat) (t : Dat) {x} (e : run ws k (.powL t) d (p + 1) = some x) : x = (some t, p + 1) := by
    cases k with
    | zero => cases e
    | succ k =>
      simp only [run] at e
      split at e
      · rename_i hw; rw [hw] at h2; cases h2
      · exact (Option.some.inj e).symm
  cases k with
  | zero => cases hr
  | succ k =>
    simp only [run] at hr
    cases k with
    | zero => cases hr
    | succ k =>
      cases hw : ws[p]? with
      | none => rw [hw] at h1; cases h1
      | some w =>
        rw [hw] at h1
        cases w <;> first
          | (have e : run ws (k + 1) .prim d p = some (some (num 5 0), p + 1) := by simp only [run, hw]
             rw [e] at hr
             have := last _ _ hr
             injection this with a b
             exact ⟨5, 0, a, rfl⟩)
          | (have e : run ws (k + 1) .prim d p = some (some (num 25 2), p + 1) := by simp only [run, hw]
             rw [e] at hr
             have := last _ _ hr
             injection this with a b
             exact ⟨25, 2, a, rfl⟩)
          | cases h1
theorem fac_turn {ws : List Wd} {k d p : Nat} {r : Option Dat} {q : Nat} (h : run ws (k + 1) .fac d p = some (r, q)) : FTurn ws k d p r q := by
  simp only [run] at h
  split at h
  · rename_i hw
    exact .plus hw (by rw [hw]; decide +kernel) h
  · rename_i hw
    cases ho : own ws (p + 1) with
    | true =>
      rw [ho] at h
      cases e : run ws k .pow d (p + 1) with
      | none => rw [e] at h; cases h
      | some x =>
        obtain ⟨r1, q1⟩ := x
        obtain ⟨u, sc, e1, e2⟩ := own_run ho e
        subst e1
        rw [e, e2] at h
        injection h with h; injection h with ha hb; subst hb
        exact .own hw (by rw [hw]; decide +kernel) ((own_eq ws (p + 1)).trans ho) e ha.symm
    | false =>
      rw [ho] at h
      cases e : run ws k .pow d (p + 1) with
      | none => rw [e] at h; cases h
      | some x =>
        obtain ⟨r1, q1⟩ := x
        rw [e] at h
        cases r1 with
        | none =>
          injection h with h; injection h with ha hb; subst hb
          exact .neg hw (by rw [hw]; decide +kernel) ((own_eq ws (p + 1)).trans ho) e (fun _ => ha.symm) fun t ht => (nomatch ht)
        | some t =>
          injection h with h; injection h with ha hb; subst hb
          exact .neg hw (by rw [hw]; decide +kernel) ((own_eq ws (p + 1)).trans ho) e (fun ht => (nomatch ht)) fun t' ht => by injection ht with ht; subst ht; exact ha.symm
  · rename_i h1 h2
    refine .plain ?_ h
    cases hw : ws[p]? with
    | none => rfl
    | some x => cases x <;> first | (exact absurd hw h1) | (exact absurd hw h2) | decide +kernel
/-- a primary by its first word -/
inductive PTurn (ws : List Wd) (k d p : Nat) (r : Option Dat) (q : Nat) : Prop
  | bad {wd : Wd} : sgn ws[p]? [Str.ofString "+", Str.ofString "-"] = wd.txt → (wd.txt != Str.ofString "") = true → r = none → q = p → PTurn ws k d p r q
  | num {wd : Wd} {u sc : Int} : sgn ws[p]? [Str.ofString "+", Str.ofString "-"] = Str.ofString "" → isSg ws[p]? (Str.ofString "(") = false → ws[p]? = some wd → wd.dec = some (u, sc) → r = some (num u sc) → q = p + 1 → PTurn ws k d p r q
  | nw : sgn ws[p]? [Str.ofString "+", Str.ofString "-"] = Str.ofString "" → isSg ws[p]? (Str.ofString "(") = false → kdIs ws[p]? (Str.ofString "word") = false → isSg ws[p]? (Str.ofString "+") = false → isSg ws[p]? (Str.ofString "-") = false → kdIs ws[p]? (Str.ofString "number") = false → kdIs ws[p]? (Str.ofString "literal") = false → r = none → q = p → PTurn ws k d p r q
  | th : sgn ws[p]? [Str.ofString "+", Str.ofString "-"] = Str.ofString "" → isSg ws[p]? (Str.ofString "(") = false → ws[p]? = some Wd.th → isSg ws[p]? (Str.ofString "+") = false → isSg ws[p]? (Str.ofString "-") = false → kdIs ws[p]? (Str.ofString "number") = false → kdIs ws[p]? (Str.ofString "literal") = false → r = none → q = p → PTurn ws k d p r q
  | par {r1 : Option Dat} {q1 : Nat} : sgn ws[p]? [Str.ofString "+", Str.ofString "-"] = Str.ofString "" → isSg ws[p]? (Str.ofString "(") = true → p + 1 ≤ ws.length → run ws k .sum (d + 1) (p + 1) = some (r1, q1) → (r1 = none → r = none ∧ q = q1) → (∀ t, r1 = some t → (isSg ws[q1]? (Str.ofString ")") = true ∧ r = some t ∧ q = q1 + 1 ∧ q1 + 1 ≤ ws.length) ∨ (isSg ws[q1]? (Str.ofString ")") = false ∧ r = none ∧ q = q1)) → PTurn ws k d p r q
theorem prim_turn {ws : List Wd} {k d p : Nat} {r : Option Dat} {q : Nat} (h : run ws (k + 1) .prim d p = some (r, q)) : PTurn ws k d p r q := by
  simp only [run] at h
  split at h
  · rename_i hw
    injection h with h; injection h with ha hb
    exact .num (by rw [hw]; decide +kernel) (by rw [hw]; decide +kernel) hw rfl ha.symm hb.symm
  · rename_i hw
    injection h with h; injection h with ha hb
    exact .num (by rw [hw]; decide +kernel) (by rw [hw]; decide +kernel) hw rfl ha.symm hb.symm
  · rename_i hw
    cases e : run ws k .sum (d + 1) (p + 1) with
    | none => rw [e] at h; cases h
    | some x =>
      obtain ⟨r1, q1⟩ := x
      rw [e] at h
      have hp := lt_of_get hw
      cases r1 with
      | none =>
        injection h with h; injection h with ha hb
        exact .par (by rw [hw]; decide +kernel) (by rw [hw]; decide +kernel) hp e (fun _ => ⟨ha.symm, hb.symm⟩) fun t ht => (nomatch ht)
      | some t =>
        simp only at h
        split at h
        · rename_i hw'
          injection h with h; injection h with ha hb
          exact .par (by rw [hw]; decide +kernel) (by rw [hw]; decide +kernel) hp e (fun ht => (nomatch ht)) fun t' ht => .inl ⟨by rw [hw']; decide +kernel, by rw [← ht]; exact ha.symm, hb.symm, lt_of_get hw'⟩
        · rename_i hw'
          injection h with h; injection h with ha hb
          refine .par (by rw [hw]; decide +kernel) (by rw [hw]; decide +kernel) hp e (fun ht => (nomatch ht)) fun t' ht => .inr ⟨?_, ha.symm, hb.symm⟩
          cases hq : ws[q1]? with
          | none => rfl
          | some x => cases x <;> first | (exact absurd hq hw') | decide +kernel
  · rename_i h1 h2 h3
    injection h with h; injection h with ha hb
    cases hw : ws[p]? with
    | none => exact .nw (by rw [hw]; rfl) (by rw [hw]; rfl) (by rw [hw]; rfl) (by rw [hw]; rfl) (by rw [hw]; rfl) (by rw [hw]; rfl) (by rw [hw]; rfl) ha.symm hb.symm
    | some x =>
      cases x <;> first
        | (exact absurd hw h1)
        | (exact absurd hw h2)
        | (exact absurd hw h3)
        | exact .nw (by rw [hw]; decide +kernel) (by rw [hw]; decide +kernel) (by rw [hw]; decide +kernel) (by rw [hw]; decide +kernel) (by rw [hw]; decide +kernel) (by rw [hw]; decide +kernel) (by rw [hw]; decide +kernel) ha.symm hb.symm
        | exact .th (by rw [hw]; decide +kernel) (by rw [hw]; decide +kernel) hw (by rw [hw]; decide +kernel) (by rw [hw]; decide +kernel) (by rw [hw]; decide +kernel) (by rw [hw]; decide +kernel) ha.symm hb.symm
        | exact .bad (wd := .pl) (by rw [hw]; decide +kernel) (by decide +kernel) ha.symm hb.symm
        | exact .bad (wd := .mi) (by rw [hw]; decide +kernel) (by decide +kernel) ha.symm hb.symm
/-- a number's tuple in the ledger -/
theorem dat_tup {news : List (Addr × Obj)} {v : Value} {ds : List Dat} : DatIn news v (.tuple ds) → ∃ a vs k, v = .ref a ∧ (a, tupO vs k) ∈ news ∧ DatAll news vs ds
  | .tuple hm hd => ⟨_, _, _, rfl, hm, hd⟩
theorem dat_int {news : List (Addr × Obj)} {v : Value} {i : Int} : DatIn news v (.int i) → ∃ t, v = .int i t
  | .int _ _ => ⟨_, rfl⟩
theorem dat_str {news : List (Addr × Obj)} {v : Value} {i : Str} : DatIn news v (.str i) → ∃ t, v = .str i t
  | .str _ _ => ⟨_, rfl⟩
theorem all_cons {news : List (Addr × Obj)} {vs : List Value} {d : Dat} {ds : List Dat} : DatAll news vs (d :: ds) → ∃ v us, vs = v :: us ∧ DatIn news v d ∧ DatAll news us ds
  | .cons h h' => ⟨_, _, rfl, h, h'⟩
theorem all_nil {news : List (Addr × Obj)} {vs : List Value} : DatAll news vs [] → vs = []
  | .nil => rfl
theorem all_two {news : List (Addr × Obj)} {vs : List Value} {d e : Dat} (h : DatAll news vs [d, e]) : ∃ v u, vs = [v, u] ∧ DatIn news v d ∧ DatIn news u e := by
  obtain ⟨v, us, e1, d1, h1⟩ := all_cons h
  obtain ⟨u, ws, e2, d2, h2⟩ := all_cons h1
  exact ⟨v, u, by rw [e1, e2, all_nil h2], d1, d2⟩
theorem num_in {news : List (Addr × Obj)} {v : Value} {u sc : Int} (D : DatIn news v (num u sc)) : ∃ a b t1 t2 t3 k1 k2, v = .ref a ∧ (a, tupO [.str (Str.ofString "number") t3, .ref b] k1) ∈ news ∧ (b, tupO [.int u t1, .int sc t2] k2) ∈ news := by
  obtain ⟨a, vs, k, e1, m1, h1⟩ := dat_tup D
  obtain ⟨x, y, e2, d1, d2⟩ := all_two h1
  obtain ⟨b, vs2, k2, e3, m2, h2⟩ := dat_tup d2
  obtain ⟨x2, y2, e4, d3, d4⟩ := all_two h2
  obtain ⟨t3, e5⟩ := dat_str d1
  obtain ⟨t1, e6⟩ := dat_int d3
  obtain ⟨t2, e7⟩ := dat_int d4
  rw [e2, e5, e3] at m1
  rw [e4, e6, e7] at m2
  exact ⟨a, b, t1, t2, t3, k, k2, e1, m1, m2⟩
section
variable {h₀ h' : Heap} {L ta tp rdr dct tl nd : Addr} {hs1 hs2 hs3 : Int} {u1 u2 u3 t' tx : Tok} {kk : Nat} {news' : List (Addr × Obj)} {x : Str} {u sc : Int} {ps' : Array Value} {pos : Int} {vs vs2 : List Value} {k2 : Nat}
theorem lift1 (N : News h₀ L h' ((ta, tupO vs kk) :: (dct, RdD hs1 hs2 hs3 u1 u2 u3 tl nd pos t') :: (232, tabObj ps') :: news')) : News h₀ L h' ((dct, RdD hs1 hs2 hs3 u1 u2 u3 tl nd pos t') :: (232, tabObj ps') :: (ta, tupO vs kk) :: news') := fun z hz => N z (by
  cases hz with
  | head => exact .tail _ (.head _)
  | tail _ h => cases h with
    | head => exact .tail _ (.tail _ (.head _))
    | tail _ h => cases h with
      | head => exact .head _
      | tail _ h => exact .tail _ (.tail _ (.tail _ h)))
theorem apl1 (N : News h₀ L h' ((ta, tupO vs kk) :: (dct, RdD hs1 hs2 hs3 u1 u2 u3 tl nd pos t') :: (232, tabObj ps') :: news')) (ap : Ap dct news') : Ap dct ((ta, tupO vs kk) :: news') := by
  intro z hz
  cases hz with
  | head => exact ⟨ne_of_objs N (.head _) (.tail _ (.head _)) tup_ne_rd, ne_of_objs N (.head _) (.tail _ (.tail _ (.head _))) tup_ne_tab⟩
  | tail _ h => exact ap z h
theorem apT (ap : Ap dct news') (h : dct ≠ 232) : ∀ p ∈ (232, tabObj ps') :: news', p.1 ≠ dct := fun z hz => by
  cases hz with
  | head => exact h.symm
  | tail _ hz => exact (ap z hz).1
theorem upd0 {o : Obj} (ap : Ap dct news') (h : dct ≠ 232) : UpdF dct o ((dct, o) :: (232, tabObj ps') :: news') (fun o => (dct, o) :: (232, tabObj ps') :: news') := .head (apT ap h)
theorem upd1 (N : News h₀ L h' ((ta, tupO vs kk) :: (dct, RdD hs1 hs2 hs3 u1 u2 u3 tl nd pos t') :: (232, tabObj ps') :: news')) (ap : Ap dct news') (h : dct ≠ 232) :
    UpdF dct (RdD hs1 hs2 hs3 u1 u2 u3 tl nd pos t') ((ta, tupO vs kk) :: (dct, RdD hs1 hs2 hs3 u1 u2 u3 tl nd pos t') :: (232, tabObj ps') :: news') (fun o => (ta, tupO vs kk) :: (dct, o) :: (232, tabObj ps') :: news') :=
  .tail (ne_of_objs N (.head _) (.tail _ (.head _)) tup_ne_rd) (upd0 ap h)
theorem lift2 (N : News h₀ L h' ((ta, tupO vs kk) :: (tp, tupO vs2 k2) :: (dct, RdD hs1 hs2 hs3 u1 u2 u3 tl nd pos t') :: (232, tabObj ps') :: news')) : News h₀ L h' ((ta, tupO vs kk) :: (dct, RdD hs1 hs2 hs3 u1 u2 u3 tl nd pos t') :: (232, tabObj ps') :: (tp, tupO vs2 k2) :: news') := fun z hz => N z (by
  cases hz with
  | head => exact .head _
  | tail _ h => cases h with
    | head => exact .tail _ (.tail _ (.head _))
    | tail _ h => cases h with
      | head => exact .tail _ (.tail _ (.tail _ (.head _)))
      | tail _ h => cases h with
        | head => exact .tail _ (.head _)
        | tail _ h => exact .tail _ (.tail _ (.tail _ (.tail _ h))))
theorem lift3 (N : News h₀ L h' ((dct, RdD hs1 hs2 hs3 u1 u2 u3 tl nd pos t') :: (ta, tupO vs kk) :: (tp, tupO vs2 k2) :: (232, tabObj ps') :: news')) : News h₀ L h' ((ta, tupO vs kk) :: (tp, tupO vs2 k2) :: (dct, RdD hs1 hs2 hs3 u1 u2 u3 tl nd pos t') :: (232, tabObj ps') :: news') := fun z hz => N z (by
  cases hz with
  | head => exact .tail _ (.head _)
  | tail _ h => cases h with
    | head => exact .tail _ (.tail _ (.head _))
    | tail _ h => cases h with
      | head => exact .head _
      | tail _ h => exact .tail _ (.tail _ (.tail _ h)))
theorem datNum {t1 t2 t3 : Tok} {k1 : Nat} {l : List (Addr × Obj)} (m1 : (ta, tupO [.str (Str.ofString "number") t3, .ref tp] k1) ∈ l) (m2 : (tp, tupO [.int u t1, .int sc t2] k2) ∈ l) : DatIn l (.ref ta) (num u sc) :=
  .tuple m1 (.cons (.str _ _) (.cons (.tuple m2 (.cons (.int _ _) (.cons (.int _ _) .nil))) .nil))
end
section
variable {h₀ h' : Heap} {L ta rdr dct tl nd : Addr} {hs1 hs2 hs3 : Int} {u1 u2 u3 t' tx : Tok} {tas : List Addr} {n kk : Nat} {ws : List Wd} {s : Shared} {m' m₀ : Str → Option Value} {lvL : Dat → Lv} {d k k' qf q1 : Nat} {news news' : List (Addr × Obj)} {r r1 : Option Dat} {c : LS} {x : Str} {u : Dat} {v' : Value} {ps' : Array Value} {stored : List Str} {tk : Nat}
theorem sgn_one {o : Option Wd} {x y : Str} (h : sgn o [x] = y) (hn : (y != Str.ofString "") = true) : y = x := by
  subst h
  cases o with
  | none => dsimp only [sgn] at hn; exact absurd hn (by decide +kernel)
  | some w =>
    dsimp only [sgn] at hn ⊢
    split at hn
    · rename_i hw; rw [if_pos hw]; exact List.mem_singleton.mp hw.2
    · exact absurd hn (by decide +kernel)
theorem ls_end (hu : r1 = some u) (hkk : c.k = k' + 1) (P : LP ws lvL d k news r qf c) (D₀ : LF rdr dct tl tas n ws c) (hsome : ∀ u, r1 = some u → run ws k' (lvL (bin x c.t u)) d q1 = some (r, qf))
    (F : Fr h₀ L h' m') (N : News h₀ L h' ((ta, tupO [.str x tx, c.v, v'] kk) :: (dct, RdD hs1 hs2 hs3 u1 u2 u3 tl nd q1 t') :: (232, tabObj ps') :: news')) (R : RdIn news' rdr dct tl tas n ws) (ap : Ap dct news') (tb : TabOk lineL colL ps') (sub : ∀ z ∈ c.news, z ∈ news') (D : DatIn news' v' u) (hq : q1 ≤ ws.length)
    (hk9 : m' (Str.ofString "found") = some (.ref ta)) (hr9 : ∀ z, z ≠ Str.ofString "found" → stored.contains z = false → m' z = m₀ z) :
    KswEnd h₀ L s (fun c : LS => (dct, RdD hs1 hs2 hs3 u1 u2 u3 tl nd c.q c.tq) :: (232, tabObj c.ps) :: c.news) (fun c => [(Str.ofString "found", c.v)]) (LF rdr dct tl tas n ws) stored m₀ (LP ws lvL d k news r qf) LS.k c { s with heap := h', toks := tk } := by
  have ap' : Ap dct ((ta, tupO [.str x tx, c.v, v'] kk) :: news') := by
    intro z hz
    cases hz with
    | head => exact ⟨ne_of_objs N (.head _) (.tail _ (.head _)) tup_ne_rd, ne_of_objs N (.head _) (.tail _ (.tail _ (.head _))) tup_ne_tab⟩
    | tail _ h => exact ap z h
  refine ksw_end ⟨k', bin x c.t u, q1, .ref ta, t', ps', (ta, tupO [.str x tx, c.v, v'] kk) :: news'⟩ F N ?_ ⟨R.mono fun z h => .tail _ h, ap', tb, ?_⟩ ?_ ?_ ⟨hsome u hu, hq, ?_, ?_⟩ ?_
  · intro z hz
    cases hz with
    | head => exact .tail _ (.head _)
    | tail _ h => cases h with
      | head => exact .tail _ (.tail _ (.head _))
      | tail _ h => cases h with
        | head => exact .head _
        | tail _ h => exact .tail _ (.tail _ (.tail _ h))
  · exact .tuple (.head _) (.cons (.str _ _) (.cons (D₀.D.mono fun z h => .tail _ (sub z h)) (.cons (D.mono fun z h => .tail _ h) .nil)))
  · intro z hz; cases hz with
    | head => exact hk9
    | tail _ h => cases h
  · intro z hz hs; exact hr9 z (hz _ (.head _)) hs
  · have := P.hk; dsimp only; omega
  · intro z hz; exact .tail _ (sub z (P.sub z hz))
  · dsimp only; omega
end
theorem kept_tab {h₀ h' : Heap} {L dct : Addr} {o : Obj} {ps : Array Value} {news keep : List (Addr × Obj)} (_ : News h₀ L h' ((dct, o) :: (232, tabObj ps) :: news)) (K : Kept keep news) : Kept ((232, tabObj ps) :: keep) ((dct, o) :: (232, tabObj ps) :: news) := fun z hz => by
  cases hz with
  | head => exact ⟨.tail _ (.head _), .inl fun e => by cases e⟩
  | tail _ hz => exact ⟨.tail _ (.tail _ (K z hz).1), (K z hz).2⟩
theorem kept_l4 {h₀ h' : Heap} {L dct : Addr} {o : Obj} {x y : Addr × Obj} {ps : Array Value} {news keep : List (Addr × Obj)} (N : News h₀ L h' (x :: y :: (dct, o) :: (232, tabObj ps) :: news)) (K : Kept keep news) : Kept ((232, tabObj ps) :: keep) (x :: y :: (dct, o) :: (232, tabObj ps) :: news) :=
  (kept_tab (newsTl (newsTl N)) K).mono fun _ h => .tail _ (.tail _ h)
section
variable {h₀ h' : Heap} {L ta c rdr dct tl nd : Addr} {hs1 hs2 hs3 : Int} {u1 u2 u3 t' : Tok} {kk : Nat} {news' : List (Addr × Obj)} {ps' : Array Value} {pos : Int} {vs : List Value} {o : Obj}
theorem updC1 (N : News h₀ L h' ((ta, tupO vs kk) :: (c, o) :: (dct, RdD hs1 hs2 hs3 u1 u2 u3 tl nd pos t') :: (232, tabObj ps') :: news')) (ap : Ap dct news') (h : dct ≠ 232) (hc : c ≠ dct) :
    UpdF dct (RdD hs1 hs2 hs3 u1 u2 u3 tl nd pos t') ((ta, tupO vs kk) :: (c, o) :: (dct, RdD hs1 hs2 hs3 u1 u2 u3 tl nd pos t') :: (232, tabObj ps') :: news') (fun o' => (ta, tupO vs kk) :: (c, o) :: (dct, o') :: (232, tabObj ps') :: news') :=
  .tail (ne_of_objs N (.head _) (.tail _ (.tail _ (.head _))) tup_ne_rd) (.tail hc (upd0 ap h))
theorem updC2 (N : News h₀ L h' ((ta, tupO vs kk) :: (c, o) :: (dct, RdD hs1 hs2 hs3 u1 u2 u3 tl nd pos t') :: (232, tabObj ps') :: news')) (ap : Ap dct news') (h : dct ≠ 232) (hc : c ≠ 232) :
    UpdF 232 (tabObj ps') ((ta, tupO vs kk) :: (c, o) :: (dct, RdD hs1 hs2 hs3 u1 u2 u3 tl nd pos t') :: (232, tabObj ps') :: news') (fun o' => (ta, tupO vs kk) :: (c, o) :: (dct, RdD hs1 hs2 hs3 u1 u2 u3 tl nd pos t') :: (232, o') :: news') :=
  .tail (ne_of_objs N (.head _) (.tail _ (.tail _ (.tail _ (.head _)))) tup_ne_tab) (.tail hc (.tail h (.head fun z hz => (ap z hz).2)))
end
end Mine
end
section
open PySem PySem.W PyProof.Rows PySem.Spec PySem.Calls
set_option Elab.async false
example : True := by k_with_none; trivial
example : True := by
  k_with "fold" => (refine folds ?_; intro qk ek)
  k_with "at0" => (with_reducible show At _ _ _ _ (.Name _ _) _ _ _); exact at_L (by rfl) (by rfl) (by decide) (by k_asm) (Eq.refl (some _))
  k_with "atF" => k_dflt first | k_extra "at0" | ((with_reducible show At _ _ _ _ (.Name _ _) _ _ _); exact at_K (by rfl) (by rfl) (by decide) (by k_asm) (by k_asm) (by k_is) (by k_asm)) | fail
  k_with "atB" => k_dflt first | ((with_reducible show At _ _ _ _ (.Name _ _) _ _ _); exact at_B (by rfl) (by rfl) (by decide) (by k_asm) (by k_asm) (by k_is) (by boot_fast) (by decide) (by k_asm)) | fail
  k_with "at" => k_dflt first | ((with_reducible show At _ _ _ _ (.Constant _ _ _) _ _ _); first | exact at_S | exact at_I | exact at_N) | k_extra "at0" | ((with_reducible show At _ _ _ _ (.Attribute (.Name _ _) _ _) _ _ _); exact at_attr (by k_asm) (by k_asm) (by k_extra "at0") (by k_inst) (by k_get) (by k_is) (by k_is) (by k_is) (by k_is) (by first | exact rfl | k_handed)) | ((with_reducible show At _ _ _ _ (.BinOp _ .Add _ _) _ _ _); exact at_add (by k_extra "at") (by k_extra "at")) | k_extra "atF" | fail
  k_with "spl" => k_dflt first | exact spl0 | ((with_reducible show Spl _ _ _ _ [_] _ _ _); exact spl1 (by k_extra "at")) | ((with_reducible show Spl _ _ _ _ [_, _] _ _ _); exact spl2 (by k_extra "at") (by k_extra "at")) | ((with_reducible show Spl _ _ _ _ (_ :: _) _ _ _); exact splC (by k_extra "at") (by k_extra "spl")) | fail
  k_with "eval Call Attribute" => with_reducible (k_here; show wpAny _ _ (eval (.Call (.Attribute _ _ _) _ [] _) _) _ _ _; first | refine mcall (by k_extra "spl") (by k_dflt exact rfl) (by k_dflt k_asm) (by k_dflt k_asm) (by k_extra "at") (by k_dflt k_inst) (by k_get) (by k_is) (by k_is) (by k_is) (by k_is) (by k_dflt exact rfl) ?_ | fail)
  k_with "eval Call" => first | with_reducible (k_here; show wpAny _ _ (eval (.Call (.Name _ _) _ [] _) _) _ _ _; first | refine fcall (by k_extra "spl") (by k_dflt exact rfl) (by k_dflt k_asm) (by k_dflt k_asm) (by k_extra "atF") (by k_is) (by k_dflt exact rfl) ?_ | ((first | show wpAny _ _ (eval (.Call (.Name (Str.ofString "len") _) _ _ _) _) _ _ _ | show wpAny _ _ (eval (.Call (.Name (Str.ofString "min") _) _ _ _) _) _ _ _); refine bcall (by k_extra "spl") (by k_extra "atB") (by k_dflt exact rfl) ?_) | fail) | (k_here; k_dflt (refine Call_ ?_)) | fail
  k_with "spliced" => first | with_reducible (k_here; first | refine spl_use (by k_extra "spl") ?_ | fail) | (k_dflt (first | refine spliced_more ?_ | refine spliced_none ?_)) | fail
  k_with "eval Subscript" => with_reducible (k_here; show wpAny _ _ (eval (.Subscript _ _ _) _) _ _ _; first | refine sub_at (by k_extra "at") (by k_extra "at") ?_ | fail)
  k_with "eval BinOp" => with_reducible (k_here; show wpAny _ _ (eval (.BinOp _ _ _ _) _) _ _ _; first | refine at_use (by k_extra "at") ?_ | refine bin_at (by k_extra "at") (by k_extra "at") ?_ | fail)
  k_with "isTrue Compare" => with_reducible (k_here; show wpAny _ _ (PySem.isTrue (.Compare _ [_] [_] _) _ _) _ _ _; first | refine cmpT_at (by k_dflt rfl) (by k_extra "at") (by k_extra "at") ?_ | refine cmpT_atL (by k_dflt rfl) (by k_extra "at") ?_ | fail)
  k_with "eval Compare" => with_reducible (k_here; show wpAny _ _ (eval (.Compare _ [_] [_] _) _) _ _ _; first | refine cmp_at (by k_dflt rfl) (by k_extra "at") (by k_extra "at") ?_ | fail)
  k_with "eval Attribute Name" => with_reducible (k_here; first | refine at_use (by k_extra "at") ?_ | fail)
  k_with "eval Name" => with_reducible (k_here; first | refine at_use (by k_extra "at") ?_ | fail)
  k_with "itemAt" => (k_here; (with_reducible show wpAny _ _ (subscriptTail _ _ (Value.ref _) (Value.int _ _)) _ _ _); with_reducible first | refine item_litK (by with_unfolding_all is_list) (by k_dflt decide) (by k_dflt decide) (by with_unfolding_all rfl) ?_ (by with_unfolding_all rfl) | refine item_tupleT (by k_dflt exact News.isTup (by k_asm) (by k_mem)) (by k_dflt decide) (by k_dflt decide) (by k_dflt rfl) (by k_dflt rfl) ?_ | fail); k_whole
  k_with "turned" => (k_here; k_dflt (refine kba_turn (value' := PySem.Expr.Name (PySem.Str.ofString "_") ⟨0, 0, 0, 0⟩) (fun _ => rfl) ?_))
  k_with "subscriptTail Name Constant ref int" => first | k_extra "subscriptTail" | k_extra "itemAt" | fail
  k_with "subscriptTail Subscript Constant ref int" => k_extra "itemAt"
  k_with "subscriptTail Name" => k_extra "subscriptTail"
  k_with "subscriptTail Call" => k_extra "turned"
  k_with "subscriptTail BinOp" => k_extra "turned"
  k_with "seq" => first | (k_here; k_gentoks) | ((with_reducible refine wpAny_execs_cons ?_); try dsimp only) | fail
  k_with "execs cons Assign cons" => k_extra "seq"
  k_with "execs cons If cons" => k_extra "seq"
  k_with "execs cons Return nil" => k_extra "seq"
  k_with "exec Assign cons" => (with_reducible show wpAny _ _ (exec (.Assign [.Name _ _] _ _) _) _ _ _); k_dflt (refine wpAny_Assign_Name ?_)
  k_with "exec If" => refine wpAny_If ?_
  k_with "eval Call Name cons nil" => k_extra "eval Call"
  k_with "isTrue Compare Name cons cons" => k_extra "isTrue Compare"
  k_with "truthy bool false" => refine wpAny_truthy_bool ?_
  k_with "truthy bool" => refine wpAny_truthy_bool ?_
  k_with "room" => first | exact lb0 (j := 1) (by assumption) rfl | exact lb2 (j := 1) (by assumption) (by assumption) rfl
  k_with "om" => first | (k_whole; first | exact lb0 (by assumption) rfl | exact lb1 (by assumption) rfl | exact lb2 (by assumption) (by assumption) rfl | exact lb4 (by assumption) rfl | exact Nat.le_of_succ_le (by assumption)) | omega
  k_with "steps" => repeat' (first | ((with_reducible show wpAny _ _ (exec _ _) _ _ _); (fail_if_success (fail_if_success k_fold)); k_extra "fold") | ((fail_if_success (fail_if_success k_unfold)); first | dsimp only [qk] | dsimp only [ek] | (k_unfold; (try dsimp only))) | (k_end; wrow_close) | walk1 | (dsimp only; walk1) | (leave1; walk_say "STEP leave1"; try dsimp only) | fail)
  trivial
namespace Mine
set_option maxRecDepth 100000
set_option maxHeartbeats 0
example : True := by
  k_with "mem" => first | ktr_member | (refine List.mem_cons_of_mem _ ?_; k_mem)
  trivial
example : True := by
  k_with "nws" => first | k_asm | exact newsTl (by assumption) | exact newsTl (newsTl (by assumption)) | exact newsTl2 (by assumption)
  trivial
section
variable {w : World} {p : Program} {loose : List Str} {mean : ExcName → Option Value} {mg mb : Str → Option Value} {dp un : Nat} {gd : Option (List Code)} {cn : Str} {cs : Scope} {a : Addr} {ccd : Value} {cl : List (Str × Addr)} {outer : List Env} {A₀ : Around} {base h₀ : Heap} {L : Addr} {m : Str → Option Value}
  {news : List (Addr × Obj)} {s : Shared} {Q E : Value → Shared → Prop} {rdr dct tl nd : Addr} {hs1 hs2 hs3 : Int} {u1 u2 u3 t : Tok} {tas : List Addr} {n : Nat} {pos : Nat} {ws : List Wd} {keep : List (Addr × Obj)}
example : True := by
  k_with "upd" => exact updF_upd (by assumption) _
  trivial
example : True := by
  k_with "rel" => first | (with_reducible assumption) | exact dle1 (by with_reducible assumption) rfl | k_extra "om" | exact rfl | (refine RdIn.mono (by with_reducible assumption) ?_; (intro _ hz; first | exact hz | exact .tail _ hz | exact .tail _ (.tail _ hz) | exact .tail _ (.tail _ (.tail _ hz)) | exact .tail _ (.tail _ (.tail _ (.tail _ hz))))) | exact upd1 (by assumption) (by with_reducible assumption) (by with_reducible assumption) | exact upd0 (by with_reducible assumption) (by with_reducible assumption) | exact updC1 (by with_reducible assumption) (by with_reducible assumption) (by with_reducible assumption) (by exact Nat.ne_of_gt (Nat.lt_succ_of_lt (by k_extra "om"))) | exact apT (by with_reducible assumption) (by with_reducible assumption) | exact newsTl (newsTl (by with_reducible assumption)) | (refine Kept.mono (by with_reducible assumption) ?_; (intro _ hz; first | exact hz | exact .tail _ hz | exact .tail _ (.tail _ hz) | exact .tail _ (.tail _ (.tail _ hz)) | exact .tail _ (.tail _ (.tail _ (.tail _ hz))) | exact .tail _ (.tail _ (.tail _ (.tail _ (.tail _ hz)))) | exact .tail _ (.tail _ (.tail _ (.tail _ (.tail _ (.tail _ hz))))))) | ((try dsimp only [ktrTop, Around.deeper]); k_extra "om") | assumption | k_mem | k_updF
  trivial
example : True := by
  k_with "call ref" => (k_here; (try dsimp only [List.nil_append, List.cons_append, List.append_nil]); (with_reducible show wpAny _ _ (call (Value.ref 272) [Value.ref _]) _ _ _); k_dflt (first | refine' peek0_some (by ktr_rel) (by ktr_rel) (by ktr_rel) (by ktr_rel) (by ktr_rel) (by ktr_rel) (by ktr_rel) (by ktr_rel) (by ktr_rel) (by ktr_rel) (by ktr_rel) ?_ | refine' peek0_none (by ktr_rel) (by ktr_rel) (by ktr_rel) (by ktr_rel) (by ktr_rel) (by ktr_rel) (by ktr_rel) (by ktr_rel) (by ktr_rel) (by ktr_rel) (by ktr_rel) ?_); k_whole; intro h' tk' F' N'; (try k_sweep))
  trivial
example : True := by
  k_with "call ref" => (k_here; (try dsimp only [List.nil_append, List.cons_append, List.append_nil]); (with_reducible show wpAny _ _ (call (Value.ref 272) [Value.ref _, Value.int _ _]) _ _ _); k_dflt (first | refine' peek_some0 (by ktr_rel) (by ktr_rel) (by ktr_rel) (by ktr_rel) (by ktr_rel) (by ktr_rel) (by ktr_rel) (by ktr_rel) (by ktr_rel) (by ktr_rel) (by ktr_rel) ?_ | refine' peek_none0 (by ktr_rel) (by ktr_rel) (by ktr_rel) (by ktr_rel) (by ktr_rel) (by ktr_rel) (by ktr_rel) (by ktr_rel) (by ktr_rel) (by ktr_rel) (by ktr_rel) ?_ | refine' peek_some1 (by ktr_rel) (by ktr_rel) (by ktr_rel) (by ktr_rel) (by ktr_rel) (by ktr_rel) (by ktr_rel) (by ktr_rel) (by ktr_rel) (by ktr_rel) (by ktr_rel) ?_ | refine' peek_none1 (by ktr_rel) (by ktr_rel) (by ktr_rel) (by ktr_rel) (by ktr_rel) (by ktr_rel) (by ktr_rel) (by ktr_rel) (by ktr_rel) (by ktr_rel) (by ktr_rel) ?_); k_whole; intro h' tk' F' N'; (try k_sweep))
  trivial
example : True := by
  k_with "call ref" => (k_here; (try dsimp only [List.nil_append, List.cons_append, List.append_nil]); (with_reducible show wpAny _ _ (call (Value.ref 301) [Value.ref _, Value.str _ _]) _ _ _); k_dflt (first | refine' isk_c (tk2 := 0) (by ktr_rel) (by ktr_rel) (by ktr_rel) (by ktr_rel) (by ktr_rel) (by ktr_rel) (by ktr_rel) (by ktr_rel) (by ktr_rel) (by ktr_rel) (by ktr_rel) ?_); k_whole; intro h' tk' F' N'; (try k_sweep))
  trivial
example : True := by
  k_with "call ref" => (k_here; (try dsimp only [List.nil_append, List.cons_append, List.append_nil]); (with_reducible show wpAny _ _ (call (Value.ref 301) [Value.ref _, Value.str _ _, Value.int _ _]) _ _ _); k_dflt (first | refine' isk0_c (by ktr_rel) (by ktr_rel) (by ktr_rel) (by ktr_rel) (by ktr_rel) (by ktr_rel) (by ktr_rel) (by ktr_rel) (by ktr_rel) (by ktr_rel) (by ktr_rel) ?_ | refine' isk1_c (by ktr_rel) (by ktr_rel) (by ktr_rel) (by ktr_rel) (by ktr_rel) (by ktr_rel) (by ktr_rel) (by ktr_rel) (by ktr_rel) (by ktr_rel) (by ktr_rel) ?_); k_whole; intro h' tk' F' N'; (try k_sweep))
  trivial
example : True := by
  k_with "call ref" => (k_here; (try dsimp only [List.nil_append, List.cons_append, List.append_nil]); (with_reducible show wpAny _ _ (call (Value.ref 366) [Value.ref _, Value.str _ _]) _ _ _); k_dflt (first | refine' iss_c (by ktr_rel) (by ktr_rel) (by ktr_rel) (by ktr_rel) (by ktr_rel) (by ktr_rel) (by ktr_rel) (by ktr_rel) (by ktr_rel) (by ktr_rel) (by ktr_rel) ?_); k_whole; intro h' tk' F' N'; (try k_sweep))
  trivial
example : True := by
  k_with "call ref" => (k_here; (try dsimp only [List.nil_append, List.cons_append, List.append_nil]); (with_reducible show wpAny _ _ (call (Value.ref 293) [Value.ref _]) _ _ _); k_dflt (first | refine' take_c (by ktr_rel) (by ktr_rel) (by ktr_rel) (by ktr_rel) (by ktr_rel) (by ktr_rel) (by ktr_rel) (by ktr_rel) (by ktr_rel) (by ktr_rel) (by ktr_rel) (by ktr_rel) ?_); k_whole; intro h' tk' t' F' N'; (try k_sweep))
  trivial
example : True := by
  k_with "call ref" => (k_here; (try dsimp only [List.nil_append, List.cons_append, List.append_nil]); (with_reducible show wpAny _ _ (call (Value.ref 373) [Value.ref _, Value.str _ _]) _ _ _); k_dflt (first | refine' skip_no (by ktr_rel) (by ktr_rel) (by ktr_rel) (by ktr_rel) (by ktr_rel) (by ktr_rel) (by ktr_rel) (by ktr_rel) (by ktr_rel) (by ktr_rel) (by ktr_rel) ?_); k_whole; intro h' tk' F' N'; (try k_sweep))
  trivial
example : True := by
  k_with "call ref" => (k_here; (try dsimp only [List.nil_append, List.cons_append, List.append_nil]); (with_reducible show wpAny _ _ (call (Value.ref 373) [Value.ref _, Value.str _ _]) _ _ _); k_dflt (first | refine' skip_yes (by ktr_rel) (by ktr_rel) (by ktr_rel) (by ktr_rel) (by ktr_rel) (by ktr_rel) (by ktr_rel) (by ktr_rel) (by ktr_rel) (by ktr_rel) (by ktr_rel) (by ktr_rel) ?_); k_whole; intro h' tk' t' F' N'; (try k_sweep))
  trivial
example : True := by
  k_with "call ref" => (k_here; (try dsimp only [List.nil_append, List.cons_append, List.append_nil]); (with_reducible show wpAny _ _ (call (Value.ref 195) [Value.ref _, Value.ref _]) _ _ _); k_dflt (refine' sign_c (by ktr_rel) (by ktr_rel) (by ktr_rel) (by ktr_rel) (by ktr_rel) (by ktr_rel) (by ktr_rel) (by ktr_rel) (by ktr_rel) (by ktr_rel) (by ktr_rel) (by first | exact .cons _ _ (.cons _ _ .nil) | exact .cons _ _ .nil) (by ktr_rel) ?_); k_whole; intro h' tk' tr' F' N'; (try k_sweep))
  trivial
example : True := by
  k_with "call ref" => (k_here; (try dsimp only [List.nil_append, List.cons_append, List.append_nil]); (with_reducible show wpAny _ _ (call (Value.ref 286) [Value.ref _, Value.str _ _]) _ _ _); k_dflt (refine' fault_c (by ktr_rel) (by ktr_rel) (by ktr_rel) (by ktr_rel) (by ktr_rel) (by ktr_rel) (by ktr_rel) (by ktr_rel) (by ktr_rel) (by ktr_rel) (by first | assumption | exact Fr.keep (by assumption) _ _ (by assumption)) (by ktr_rel) (by ktr_rel) ?_; k_whole); intro h' tk' e' dx' ax' k1' k2' t1' t2' att' t3' t4' n' F' N' hatt'; (try k_sweep))
  trivial
example : True := by
  k_with "exec Raise some none" => (k_here; k_dflt (refine' raise_K ?k1 ?k2 ?k3 ?_; (case k1 => exact rfl); (case k2 => k_asm); (case k3 => k_asm)); (try k_fold))
  trivial
example : True := by
  k_with "call ref" => (k_here; (try dsimp only [List.nil_append, List.cons_append, List.append_nil]); (with_reducible show wpAny _ _ (call (Value.ref 209) [Value.ref _, Value.int _ _]) _ _ _); k_dflt (refine' does_use (by assumption) (by assumption) (by ktr_rel) (by ktr_rel) (by ktr_rel) (by first | (with_reducible assumption) | exact newsTl (by with_reducible assumption) | exact newsTl (newsTl (by with_reducible assumption)) | exact newsTl2 (by with_reducible assumption)) (by ktr_rel) (by ktr_rel) (by ktr_rel) (by ktr_rel) (by ktr_rel) (by ktr_rel) (by ktr_rel) (by ktr_rel) (by first | assumption | exact Fr.keep (by assumption) _ _ (by assumption)) (by ktr_rel) (by ktr_rel) (by ktr_rel) (by ktr_rel) ?_ ?_); k_whole; intro v' t' h' tk' tr' ps' news' e' F' N' R' ap' tb' sub' D' hq'; (have hz2 := mem_t2 N' R'.rd); (try k_sweep); rotate_left; k_whole; intro e0' e' h' tk' ps9' hh' tb9' r' Fh' uh'; rotate_right)
  trivial
example : True := by
  k_with "exec While Compare cons nil" => (k_here; refine' ksw_while (fun c : LS => (dct, RdD hs1 hs2 hs3 u1 u2 u3 tl nd c.q c.tq) :: (232, tabObj c.ps) :: c.news) (fun c => [(Str.ofString "found", c.v)]) (LF rdr dct tl tas n ws) [Str.ofString "sign", Str.ofString "found"] (LP ws .sumL d k news r q) LS.k ⟨k, tr', q1, v', t', ps', news'⟩ ?kF ?kN ?kf ?kk ?kp ?kt; (case kF => assumption); (case kN => (dsimp only; assumption)); (case kf => exact ⟨R', ap', tb', D'⟩); (case kk => kst_all); (case kp => exact ⟨hsome0 _ e', hq', Nat.le_refl _, sub'⟩); (case' kt => (intro c uu hh tkk Fc Pc Fu Nu; dsimp only [kstB] at Fu; (have hzr := mem_t2 Nu Fc.R.rd); (have R2 := Fc.R); (have ap2 := Fc.ap); (have tb2 := Fc.tb); (have kp2 := hkp.mono Pc.sub); rcases sum_turn Pc.run with ⟨hsg, hrr, hqq⟩ | ⟨hw, hsg, hnz, hkk, hrun1, hnone, hsome⟩; all_goals try (obtain ⟨ta, hv, ht⟩ := R2.tok _ _ hw; rcases ht with ⟨z1, z2, z3⟩; have hq3 := lt_of_get hw; have S2 := IH _ (Nat.le_trans (Nat.le_of_lt (Nat.lt_of_lt_of_eq (Nat.lt_succ_self _) hkk.symm)) Pc.hk)))))
  trivial
theorem sum_lv {k : Nat} (IH : ∀ k', k' ≤ k → Does w p loose mean mg mb rdr dct tl nd hs1 hs2 hs3 u1 u2 u3 tas n ws 209 2 20 .prod k') : Does w p loose mean mg mb rdr dct tl nd hs1 hs2 hs3 u1 u2 u3 tas n ws 202 0 21 .sum (k + 1) := by
  intro dp un gd cn cs a ccd cl outer A₀ base h₀ L m news s Q E t pos d td ps r q keep B F X N T hk hdp hun R ap h232 tb hb hne hp hd hrun hkp ret err
  revert X; k_fill; intro X
  have hrd := mem_t2 N R.rd
  have hkq := kept_tab N hkp
  have S := IH k (Nat.le_refl k)
  simp only [run] at hrun
  split at hrun
  · rename_i hdeep
    injection hrun with hrun; injection hrun with hr0 hq0; subst hr0; subst hq0
    clear S
    have hz := R.rd
    refine wpAny_call ?_
    k_dflt k_enter
    k_extra "steps"
    all_goals first | (unfold RzK; refine ⟨_, _, _, rfl, by k_asm, (News.get (by k_asm) (by k_mem)), ?_⟩; (try k_unfold); (try dsimp only); refine err_first (by assumption) (by k_asm) (by k_asm) (by k_mem) (by k_mem) (List.Mem.tail _ (List.Mem.tail _ (by assumption))) (by first | (with_reducible assumption) | (refine Kept.mono (by with_reducible assumption) ?_; (intro _ hz; first | exact hz | exact .tail _ hz | exact .tail _ (.tail _ hz) | exact .tail _ (.tail _ (.tail _ hz)) | exact .tail _ (.tail _ (.tail _ (.tail _ hz))) | exact .tail _ (.tail _ (.tail _ (.tail _ (.tail _ hz)))) | exact .tail _ (.tail _ (.tail _ (.tail _ (.tail _ (.tail _ hz)))))))) ?_; intro h9 r9 u9; (try dsimp only); exact err rfl _ _ _ _ _ tb r9 (by assumption) u9) | trace_state
  rename_i hdeep
  obtain ⟨r1, q1, hrun0, hnone0, hsome0⟩ := bind_cases (lvL := .sumL) hrun
  refine wpAny_call ?_
  k_dflt k_enter
  k_extra "steps"
  all_goals first
    | ((rw [hqq] at ret); exact ret _ _ _ _ _ _ _ hrr (by k_asm) (by k_extra "nws") Fc.R Fc.ap Fc.tb Pc.sub Fc.D Pc.hq)
    | exact ls_end e' hkk Pc Fc hsome (by k_asm) (by k_asm) R' ap' tb' sub' D' hq' (if_pos rfl) (by intro z h2 h3; simp only [List.contains_cons, List.contains_nil, Bool.or_false, Bool.or_eq_false_iff, beq_eq_false_iff_ne, ne_eq] at h3; simp [h2, h3])
    | (have hxx := sgn_one hsg hnz; rw [hxx] at hsome; exact ls_end e' hkk Pc Fc hsome (by k_asm) (by k_asm) R' ap' tb' sub' D' hq' (if_pos rfl) (by intro z h2 h3; simp only [List.contains_cons, List.contains_nil, Bool.or_false, Bool.or_eq_false_iff, beq_eq_false_iff_ne, ne_eq] at h3; simp [h2, h3]))
    | ((try k_unfold); (try dsimp only); (obtain ⟨hz1, hz2⟩ := hnone e0'); (rw [hz2] at err); refine err_next (by assumption) (by assumption) (by assumption) (by assumption) ?_; intro h9 r9 u9; (try dsimp only); exact err hz1 _ _ _ _ _ tb9' r9 (by assumption) u9)
    | ((try k_unfold); (try dsimp only); (obtain ⟨hz1, hz2⟩ := hnone0 e0'); (rw [hz2] at err); refine err_next (by assumption) (by assumption) (by assumption) (by assumption) ?_; intro h9 r9 u9; (try dsimp only); exact err hz1 _ _ _ _ _ tb9' r9 (by assumption) u9)
    | trace_state
end
end Mine
end
section
open PySem PySem.W PyProof.Rows PySem.Spec PySem.Calls
set_option Elab.async false
example : True := by k_with_none; trivial
example : True := by
  k_with "fold" => (refine folds ?_; intro qk ek)
  k_with "at0" => (with_reducible show At _ _ _ _ (.Name _ _) _ _ _); exact at_L (by rfl) (by rfl) (by decide) (by k_asm) (Eq.refl (some _))
  k_with "atF" => k_dflt first | k_extra "at0" | ((with_reducible show At _ _ _ _ (.Name _ _) _ _ _); exact at_K (by rfl) (by rfl) (by decide) (by k_asm) (by k_asm) (by k_is) (by k_asm)) | fail
  k_with "atB" => k_dflt first | ((with_reducible show At _ _ _ _ (.Name _ _) _ _ _); exact at_B (by rfl) (by rfl) (by decide) (by k_asm) (by k_asm) (by k_is) (by boot_fast) (by decide) (by k_asm)) | fail
  k_with "at" => k_dflt first | ((with_reducible show At _ _ _ _ (.Constant _ _ _) _ _ _); first | exact at_S | exact at_I | exact at_N) | k_extra "at0" | ((with_reducible show At _ _ _ _ (.Attribute (.Name _ _) _ _) _ _ _); exact at_attr (by k_asm) (by k_asm) (by k_extra "at0") (by k_inst) (by k_get) (by k_is) (by k_is) (by k_is) (by k_is) (by first | exact rfl | k_handed)) | ((with_reducible show At _ _ _ _ (.BinOp _ .Add _ _) _ _ _); exact at_add (by k_extra "at") (by k_extra "at")) | k_extra "atF" | fail
  k_with "spl" => k_dflt first | exact spl0 | ((with_reducible show Spl _ _ _ _ [_] _ _ _); exact spl1 (by k_extra "at")) | ((with_reducible show Spl _ _ _ _ [_, _] _ _ _); exact spl2 (by k_extra "at") (by k_extra "at")) | ((with_reducible show Spl _ _ _ _ (_ :: _) _ _ _); exact splC (by k_extra "at") (by k_extra "spl")) | fail
  k_with "eval Call Attribute" => with_reducible (k_here; show wpAny _ _ (eval (.Call (.Attribute _ _ _) _ [] _) _) _ _ _; first | refine mcall (by k_extra "spl") (by k_dflt exact rfl) (by k_dflt k_asm) (by k_dflt k_asm) (by k_extra "at") (by k_dflt k_inst) (by k_get) (by k_is) (by k_is) (by k_is) (by k_is) (by k_dflt exact rfl) ?_ | fail)
  k_with "eval Call" => first | with_reducible (k_here; show wpAny _ _ (eval (.Call (.Name _ _) _ [] _) _) _ _ _; first | refine fcall (by k_extra "spl") (by k_dflt exact rfl) (by k_dflt k_asm) (by k_dflt k_asm) (by k_extra "atF") (by k_is) (by k_dflt exact rfl) ?_ | ((first | show wpAny _ _ (eval (.Call (.Name (Str.ofString "len") _) _ _ _) _) _ _ _ | show wpAny _ _ (eval (.Call (.Name (Str.ofString "min") _) _ _ _) _) _ _ _); refine bcall (by k_extra "spl") (by k_extra "atB") (by k_dflt exact rfl) ?_) | fail) | (k_here; k_dflt (refine Call_ ?_)) | fail
  k_with "spliced" => first | with_reducible (k_here; first | refine spl_use (by k_extra "spl") ?_ | fail) | (k_dflt (first | refine spliced_more ?_ | refine spliced_none ?_)) | fail
  k_with "eval Subscript" => with_reducible (k_here; show wpAny _ _ (eval (.Subscript _ _ _) _) _ _ _; first | refine sub_at (by k_extra "at") (by k_extra "at") ?_ | fail)
  k_with "eval BinOp" => with_reducible (k_here; show wpAny _ _ (eval (.BinOp _ _ _ _) _) _ _ _; first | refine at_use (by k_extra "at") ?_ | refine bin_at (by k_extra "at") (by k_extra "at") ?_ | fail)
  k_with "isTrue Compare" => with_reducible (k_here; show wpAny _ _ (PySem.isTrue (.Compare _ [_] [_] _) _ _) _ _ _; first | refine cmpT_at (by k_dflt rfl) (by k_extra "at") (by k_extra "at") ?_ | refine cmpT_atL (by k_dflt rfl) (by k_extra "at") ?_ | fail)
  k_with "eval Compare" => with_reducible (k_here; show wpAny _ _ (eval (.Compare _ [_] [_] _) _) _ _ _; first | refine cmp_at (by k_dflt rfl) (by k_extra "at") (by k_extra "at") ?_ | fail)
  k_with "eval Attribute Name" => with_reducible (k_here; first | refine at_use (by k_extra "at") ?_ | fail)
  k_with "eval Name" => with_reducible (k_here; first | refine at_use (by k_extra "at") ?_ | fail)
  k_with "itemAt" => (k_here; (with_reducible show wpAny _ _ (subscriptTail _ _ (Value.ref _) (Value.int _ _)) _ _ _); with_reducible first | refine item_litK (by with_unfolding_all is_list) (by k_dflt decide) (by k_dflt decide) (by with_unfolding_all rfl) ?_ (by with_unfolding_all rfl) | refine item_tupleT (by k_dflt exact News.isTup (by k_asm) (by k_mem)) (by k_dflt decide) (by k_dflt decide) (by k_dflt rfl) (by k_dflt rfl) ?_ | fail); k_whole
  k_with "turned" => (k_here; k_dflt (refine kba_turn (value' := PySem.Expr.Name (PySem.Str.ofString "_") ⟨0, 0, 0, 0⟩) (fun _ => rfl) ?_))
  k_with "subscriptTail Name Constant ref int" => first | k_extra "subscriptTail" | k_extra "itemAt" | fail
  k_with "subscriptTail Subscript Constant ref int" => k_extra "itemAt"
  k_with "subscriptTail Name" => k_extra "subscriptTail"
  k_with "subscriptTail Call" => k_extra "turned"
  k_with "subscriptTail BinOp" => k_extra "turned"
  k_with "seq" => first | (k_here; k_gentoks) | ((with_reducible refine wpAny_execs_cons ?_); try dsimp only) | fail
  k_with "execs cons Assign cons" => k_extra "seq"
  k_with "execs cons If cons" => k_extra "seq"
  k_with "execs cons Return nil" => k_extra "seq"
  k_with "exec Assign cons" => (with_reducible show wpAny _ _ (exec (.Assign [.Name _ _] _ _) _) _ _ _); k_dflt (refine wpAny_Assign_Name ?_)
  k_with "exec If" => refine wpAny_If ?_
  k_with "eval Call Name cons nil" => k_extra "eval Call"
  k_with "isTrue Compare Name cons cons" => k_extra "isTrue Compare"
  k_with "truthy bool false" => refine wpAny_truthy_bool ?_
  k_with "truthy bool" => refine wpAny_truthy_bool ?_
  k_with "room" => first | exact lb0 (j := 1) (by assumption) rfl | exact lb2 (j := 1) (by assumption) (by assumption) rfl
  k_with "om" => first | (k_whole; first | exact lb0 (by assumption) rfl | exact lb1 (by assumption) rfl | exact lb2 (by assumption) (by assumption) rfl | exact lb4 (by assumption) rfl | exact Nat.le_of_succ_le (by assumption)) | omega
  k_with "steps" => repeat' (first | ((with_reducible show wpAny _ _ (exec _ _) _ _ _); (fail_if_success (fail_if_success k_fold)); k_extra "fold") | ((fail_if_success (fail_if_success k_unfold)); first | dsimp only [qk] | dsimp only [ek] | (k_unfold; (try dsimp only))) | (k_end; wrow_close) | walk1 | (dsimp only; walk1) | (leave1; walk_say "STEP leave1"; try dsimp only) | fail)
  trivial
namespace Mine
set_option maxRecDepth 100000
set_option maxHeartbeats 0
example : True := by
  k_with "mem" => first | ktr_member | (refine List.mem_cons_of_mem _ ?_; k_mem)
  trivial
example : True := by
  k_with "nws" => first | k_asm | exact newsTl (by assumption) | exact newsTl (newsTl (by assumption)) | exact newsTl2 (by assumption)
  trivial
section
variable {w : World} {p : Program} {loose : List Str} {mean : ExcName → Option Value} {mg mb : Str → Option Value} {dp un : Nat} {gd : Option (List Code)} {cn : Str} {cs : Scope} {a : Addr} {ccd : Value} {cl : List (Str × Addr)} {outer : List Env} {A₀ : Around} {base h₀ : Heap} {L : Addr} {m : Str → Option Value}
  {news : List (Addr × Obj)} {s : Shared} {Q E : Value → Shared → Prop} {rdr dct tl nd : Addr} {hs1 hs2 hs3 : Int} {u1 u2 u3 t : Tok} {tas : List Addr} {n : Nat} {pos : Nat} {ws : List Wd} {keep : List (Addr × Obj)}
example : True := by
  k_with "upd" => exact updF_upd (by assumption) _
  trivial
example : True := by
  k_with "rel" => first | (with_reducible assumption) | exact dle1 (by with_reducible assumption) rfl | k_extra "om" | exact rfl | (refine RdIn.mono (by with_reducible assumption) ?_; (intro _ hz; first | exact hz | exact .tail _ hz | exact .tail _ (.tail _ hz) | exact .tail _ (.tail _ (.tail _ hz)) | exact .tail _ (.tail _ (.tail _ (.tail _ hz))))) | exact upd1 (by assumption) (by with_reducible assumption) (by with_reducible assumption) | exact upd0 (by with_reducible assumption) (by with_reducible assumption) | exact updC1 (by with_reducible assumption) (by with_reducible assumption) (by with_reducible assumption) (by exact Nat.ne_of_gt (Nat.lt_succ_of_lt (by k_extra "om"))) | exact apT (by with_reducible assumption) (by with_reducible assumption) | exact newsTl (newsTl (by with_reducible assumption)) | (refine Kept.mono (by with_reducible assumption) ?_; (intro _ hz; first | exact hz | exact .tail _ hz | exact .tail _ (.tail _ hz) | exact .tail _ (.tail _ (.tail _ hz)) | exact .tail _ (.tail _ (.tail _ (.tail _ hz))) | exact .tail _ (.tail _ (.tail _ (.tail _ (.tail _ hz)))) | exact .tail _ (.tail _ (.tail _ (.tail _ (.tail _ (.tail _ hz))))))) | ((try dsimp only [ktrTop, Around.deeper]); k_extra "om") | assumption | k_mem | k_updF
  trivial
example : True := by
  k_with "call ref" => (k_here; (try dsimp only [List.nil_append, List.cons_append, List.append_nil]); (with_reducible show wpAny _ _ (call (Value.ref 272) [Value.ref _]) _ _ _); k_dflt (first | refine' peek0_some (by ktr_rel) (by ktr_rel) (by ktr_rel) (by ktr_rel) (by ktr_rel) (by ktr_rel) (by ktr_rel) (by ktr_rel) (by ktr_rel) (by ktr_rel) (by ktr_rel) ?_ | refine' peek0_none (by ktr_rel) (by ktr_rel) (by ktr_rel) (by ktr_rel) (by ktr_rel) (by ktr_rel) (by ktr_rel) (by ktr_rel) (by ktr_rel) (by ktr_rel) (by ktr_rel) ?_); k_whole; intro h' tk' F' N'; (try k_sweep))
  trivial
example : True := by
  k_with "call ref" => (k_here; (try dsimp only [List.nil_append, List.cons_append, List.append_nil]); (with_reducible show wpAny _ _ (call (Value.ref 272) [Value.ref _, Value.int _ _]) _ _ _); k_dflt (first | refine' peek_some0 (by ktr_rel) (by ktr_rel) (by ktr_rel) (by ktr_rel) (by ktr_rel) (by ktr_rel) (by ktr_rel) (by ktr_rel) (by ktr_rel) (by ktr_rel) (by ktr_rel) ?_ | refine' peek_none0 (by ktr_rel) (by ktr_rel) (by ktr_rel) (by ktr_rel) (by ktr_rel) (by ktr_rel) (by ktr_rel) (by ktr_rel) (by ktr_rel) (by ktr_rel) (by ktr_rel) ?_ | refine' peek_some1 (by ktr_rel) (by ktr_rel) (by ktr_rel) (by ktr_rel) (by ktr_rel) (by ktr_rel) (by ktr_rel) (by ktr_rel) (by ktr_rel) (by ktr_rel) (by ktr_rel) ?_ | refine' peek_none1 (by ktr_rel) (by ktr_rel) (by ktr_rel) (by ktr_rel) (by ktr_rel) (by ktr_rel) (by ktr_rel) (by ktr_rel) (by ktr_rel) (by ktr_rel) (by ktr_rel) ?_); k_whole; intro h' tk' F' N'; (try k_sweep))
  trivial
example : True := by
  k_with "call ref" => (k_here; (try dsimp only [List.nil_append, List.cons_append, List.append_nil]); (with_reducible show wpAny _ _ (call (Value.ref 301) [Value.ref _, Value.str _ _]) _ _ _); k_dflt (first | refine' isk_c (tk2 := 0) (by ktr_rel) (by ktr_rel) (by ktr_rel) (by ktr_rel) (by ktr_rel) (by ktr_rel) (by ktr_rel) (by ktr_rel) (by ktr_rel) (by ktr_rel) (by ktr_rel) ?_); k_whole; intro h' tk' F' N'; (try k_sweep))
  trivial
example : True := by
  k_with "call ref" => (k_here; (try dsimp only [List.nil_append, List.cons_append, List.append_nil]); (with_reducible show wpAny _ _ (call (Value.ref 301) [Value.ref _, Value.str _ _, Value.int _ _]) _ _ _); k_dflt (first | refine' isk0_c (by ktr_rel) (by ktr_rel) (by ktr_rel) (by ktr_rel) (by ktr_rel) (by ktr_rel) (by ktr_rel) (by ktr_rel) (by ktr_rel) (by ktr_rel) (by ktr_rel) ?_ | refine' isk1_c (by ktr_rel) (by ktr_rel) (by ktr_rel) (by ktr_rel) (by ktr_rel) (by ktr_rel) (by ktr_rel) (by ktr_rel) (by ktr_rel) (by ktr_rel) (by ktr_rel) ?_); k_whole; intro h' tk' F' N'; (try k_sweep))
  trivial
example : True := by
  k_with "call ref" => (k_here; (try dsimp only [List.nil_append, List.cons_append, List.append_nil]); (with_reducible show wpAny _ _ (call (Value.ref 366) [Value.ref _, Value.str _ _]) _ _ _); k_dflt (first | refine' iss_c (by ktr_rel) (by ktr_rel) (by ktr_rel) (by ktr_rel) (by ktr_rel) (by ktr_rel) (by ktr_rel) (by ktr_rel) (by ktr_rel) (by ktr_rel) (by ktr_rel) ?_); k_whole; intro h' tk' F' N'; (try k_sweep))
  trivial
example : True := by
  k_with "call ref" => (k_here; (try dsimp only [List.nil_append, List.cons_append, List.append_nil]); (with_reducible show wpAny _ _ (call (Value.ref 293) [Value.ref _]) _ _ _); k_dflt (first | refine' take_c (by ktr_rel) (by ktr_rel) (by ktr_rel) (by ktr_rel) (by ktr_rel) (by ktr_rel) (by ktr_rel) (by ktr_rel) (by ktr_rel) (by ktr_rel) (by ktr_rel) (by ktr_rel) ?_); k_whole; intro h' tk' t' F' N'; (try k_sweep))
  trivial
example : True := by
  k_with "call ref" => (k_here; (try dsimp only [List.nil_append, List.cons_append, List.append_nil]); (with_reducible show wpAny _ _ (call (Value.ref 373) [Value.ref _, Value.str _ _]) _ _ _); k_dflt (first | refine' skip_no (by ktr_rel) (by ktr_rel) (by ktr_rel) (by ktr_rel) (by ktr_rel) (by ktr_rel) (by ktr_rel) (by ktr_rel) (by ktr_rel) (by ktr_rel) (by ktr_rel) ?_); k_whole; intro h' tk' F' N'; (try k_sweep))
  trivial
example : True := by
  k_with "call ref" => (k_here; (try dsimp only [List.nil_append, List.cons_append, List.append_nil]); (with_reducible show wpAny _ _ (call (Value.ref 373) [Value.ref _, Value.str _ _]) _ _ _); k_dflt (first | refine' skip_yes (by ktr_rel) (by ktr_rel) (by ktr_rel) (by ktr_rel) (by ktr_rel) (by ktr_rel) (by ktr_rel) (by ktr_rel) (by ktr_rel) (by ktr_rel) (by ktr_rel) (by ktr_rel) ?_); k_whole; intro h' tk' t' F' N'; (try k_sweep))
  trivial
example : True := by
  k_with "call ref" => (k_here; (try dsimp only [List.nil_append, List.cons_append, List.append_nil]); (with_reducible show wpAny _ _ (call (Value.ref 195) [Value.ref _, Value.ref _]) _ _ _); k_dflt (refine' sign_c (by ktr_rel) (by ktr_rel) (by ktr_rel) (by ktr_rel) (by ktr_rel) (by ktr_rel) (by ktr_rel) (by ktr_rel) (by ktr_rel) (by ktr_rel) (by ktr_rel) (by first | exact .cons _ _ (.cons _ _ .nil) | exact .cons _ _ .nil) (by ktr_rel) ?_); k_whole; intro h' tk' tr' F' N'; (try k_sweep))
  trivial
example : True := by
  k_with "call ref" => (k_here; (try dsimp only [List.nil_append, List.cons_append, List.append_nil]); (with_reducible show wpAny _ _ (call (Value.ref 286) [Value.ref _, Value.str _ _]) _ _ _); k_dflt (refine' fault_c (by ktr_rel) (by ktr_rel) (by ktr_rel) (by ktr_rel) (by ktr_rel) (by ktr_rel) (by ktr_rel) (by ktr_rel) (by ktr_rel) (by ktr_rel) (by first | assumption | exact Fr.keep (by assumption) _ _ (by assumption)) (by ktr_rel) (by ktr_rel) ?_; k_whole); intro h' tk' e' dx' ax' k1' k2' t1' t2' att' t3' t4' n' F' N' hatt'; (try k_sweep))
  trivial
example : True := by
  k_with "exec Raise some none" => (k_here; k_dflt (refine' raise_K ?k1 ?k2 ?k3 ?_; (case k1 => exact rfl); (case k2 => k_asm); (case k3 => k_asm)); (try k_fold))
  trivial
example : True := by
  k_with "call ref" => (k_here; (try dsimp only [List.nil_append, List.cons_append, List.append_nil]); (with_reducible show wpAny _ _ (call (Value.ref 216) [Value.ref _, Value.int _ _]) _ _ _); k_dflt (refine' does_use (by assumption) (by assumption) (by ktr_rel) (by ktr_rel) (by ktr_rel) (by first | (with_reducible assumption) | exact newsTl (by with_reducible assumption) | exact newsTl (newsTl (by with_reducible assumption)) | exact newsTl2 (by with_reducible assumption)) (by ktr_rel) (by ktr_rel) (by ktr_rel) (by ktr_rel) (by ktr_rel) (by ktr_rel) (by ktr_rel) (by ktr_rel) (by first | assumption | exact Fr.keep (by assumption) _ _ (by assumption)) (by ktr_rel) (by ktr_rel) (by ktr_rel) (by ktr_rel) ?_ ?_); k_whole; intro v' t' h' tk' tr' ps' news' e' F' N' R' ap' tb' sub' D' hq'; (have hz2 := mem_t2 N' R'.rd); (try k_sweep); rotate_left; k_whole; intro e0' e' h' tk' ps9' hh' tb9' r' Fh' uh'; rotate_right)
  trivial
example : True := by
  k_with "exec While Compare cons nil" => (k_here; refine' ksw_while (fun c : LS => (dct, RdD hs1 hs2 hs3 u1 u2 u3 tl nd c.q c.tq) :: (232, tabObj c.ps) :: c.news) (fun c => [(Str.ofString "found", c.v)]) (LF rdr dct tl tas n ws) [Str.ofString "sign", Str.ofString "found"] (LP ws .prodL d k news r q) LS.k ⟨k, tr', q1, v', t', ps', news'⟩ ?kF ?kN ?kf ?kk ?kp ?kt; (case kF => assumption); (case kN => (dsimp only; assumption)); (case kf => exact ⟨R', ap', tb', D'⟩); (case kk => kst_all); (case kp => exact ⟨hsome0 _ e', hq', Nat.le_refl _, sub'⟩); (case' kt => (intro c uu hh tkk Fc Pc Fu Nu; dsimp only [kstB] at Fu; (have hzr := mem_t2 Nu Fc.R.rd); (have R2 := Fc.R); (have ap2 := Fc.ap); (have tb2 := Fc.tb); (have kp2 := hkp.mono Pc.sub); rcases prod_turn Pc.run with ⟨hsg, hrr, hqq⟩ | ⟨hw, hsg, hnz, hkk, hrun1, hnone, hsome⟩; all_goals try (obtain ⟨ta, hv, ht⟩ := R2.tok _ _ hw; rcases ht with ⟨z1, z2, z3⟩; have hq3 := lt_of_get hw; have S2 := IH _ (Nat.le_trans (Nat.le_of_lt (Nat.lt_of_lt_of_eq (Nat.lt_succ_self _) hkk.symm)) Pc.hk)))))
  trivial
theorem prod_lv {k : Nat} (IH : ∀ k', k' ≤ k → Does w p loose mean mg mb rdr dct tl nd hs1 hs2 hs3 u1 u2 u3 tas n ws 216 4 20 .fac k') : Does w p loose mean mg mb rdr dct tl nd hs1 hs2 hs3 u1 u2 u3 tas n ws 209 2 20 .prod (k + 1) := by
  intro dp un gd cn cs a ccd cl outer A₀ base h₀ L m news s Q E t pos d td ps r q keep B F X N T hk hdp hun R ap h232 tb hb hne hp hd hrun hkp ret err
  revert X; k_fill; intro X
  have hrd := mem_t2 N R.rd
  have hkq := kept_tab N hkp
  have S := IH k (Nat.le_refl k)
  simp only [run] at hrun
  obtain ⟨r1, q1, hrun0, hnone0, hsome0⟩ := bind_cases (lvL := .prodL) hrun
  refine wpAny_call ?_
  k_dflt k_enter
  k_extra "steps"
  all_goals first
    | ((rw [hqq] at ret); exact ret _ _ _ _ _ _ _ hrr (by k_asm) (by k_extra "nws") Fc.R Fc.ap Fc.tb Pc.sub Fc.D Pc.hq)
    | exact ls_end e' hkk Pc Fc hsome (by k_asm) (by k_asm) R' ap' tb' sub' D' hq' (if_pos rfl) (by intro z h2 h3; simp only [List.contains_cons, List.contains_nil, Bool.or_false, Bool.or_eq_false_iff, beq_eq_false_iff_ne, ne_eq] at h3; simp [h2, h3])
    | (have hxx := sgn_one hsg hnz; rw [hxx] at hsome; exact ls_end e' hkk Pc Fc hsome (by k_asm) (by k_asm) R' ap' tb' sub' D' hq' (if_pos rfl) (by intro z h2 h3; simp only [List.contains_cons, List.contains_nil, Bool.or_false, Bool.or_eq_false_iff, beq_eq_false_iff_ne, ne_eq] at h3; simp [h2, h3]))
    | ((try k_unfold); (try dsimp only); (obtain ⟨hz1, hz2⟩ := hnone e0'); (rw [hz2] at err); refine err_next (by assumption) (by assumption) (by assumption) (by assumption) ?_; intro h9 r9 u9; (try dsimp only); exact err hz1 _ _ _ _ _ tb9' r9 (by assumption) u9)
    | ((try k_unfold); (try dsimp only); (obtain ⟨hz1, hz2⟩ := hnone0 e0'); (rw [hz2] at err); refine err_next (by assumption) (by assumption) (by assumption) (by assumption) ?_; intro h9 r9 u9; (try dsimp only); exact err hz1 _ _ _ _ _ tb9' r9 (by assumption) u9)
    | trace_state
end
end Mine
end
section
open PySem PySem.W PyProof.Rows PySem.Spec PySem.Calls
set_option Elab.async false
example : True := by k_with_none; trivial
example : True := by
  k_with "fold" => (refine folds ?_; intro qk ek)
  k_with "at0" => (with_reducible show At _ _ _ _ (.Name _ _) _ _ _); exact at_L (by rfl) (by rfl) (by decide) (by k_asm) (Eq.refl (some _))
  k_with "atF" => k_dflt first | k_extra "at0" | ((with_reducible show At _ _ _ _ (.Name _ _) _ _ _); exact at_K (by rfl) (by rfl) (by decide) (by k_asm) (by k_asm) (by k_is) (by k_asm)) | fail
  k_with "atB" => k_dflt first | ((with_reducible show At _ _ _ _ (.Name _ _) _ _ _); exact at_B (by rfl) (by rfl) (by decide) (by k_asm) (by k_asm) (by k_is) (by boot_fast) (by decide) (by k_asm)) | fail
  k_with "at" => k_dflt first | ((with_reducible show At _ _ _ _ (.Constant _ _ _) _ _ _); first | exact at_S | exact at_I | exact at_N) | k_extra "at0" | ((with_reducible show At _ _ _ _ (.Attribute (.Name _ _) _ _) _ _ _); exact at_attr (by k_asm) (by k_asm) (by k_extra "at0") (by k_inst) (by k_get) (by k_is) (by k_is) (by k_is) (by k_is) (by first | exact rfl | k_handed)) | ((with_reducible show At _ _ _ _ (.BinOp _ .Add _ _) _ _ _); exact at_add (by k_extra "at") (by k_extra "at")) | k_extra "atF" | fail
  k_with "spl" => k_dflt first | exact spl0 | ((with_reducible show Spl _ _ _ _ [_] _ _ _); exact spl1 (by k_extra "at")) | ((with_reducible show Spl _ _ _ _ [_, _] _ _ _); exact spl2 (by k_extra "at") (by k_extra "at")) | ((with_reducible show Spl _ _ _ _ (_ :: _) _ _ _); exact splC (by k_extra "at") (by k_extra "spl")) | fail
  k_with "eval Call Attribute" => with_reducible (k_here; show wpAny _ _ (eval (.Call (.Attribute _ _ _) _ [] _) _) _ _ _; first | refine mcall (by k_extra "spl") (by k_dflt exact rfl) (by k_dflt k_asm) (by k_dflt k_asm) (by k_extra "at") (by k_dflt k_inst) (by k_get) (by k_is) (by k_is) (by k_is) (by k_is) (by k_dflt exact rfl) ?_ | fail)
  k_with "eval Call" => first | with_reducible (k_here; show wpAny _ _ (eval (.Call (.Name _ _) _ [] _) _) _ _ _; first | refine fcall (by k_extra "spl") (by k_dflt exact rfl) (by k_dflt k_asm) (by k_dflt k_asm) (by k_extra "atF") (by k_is) (by k_dflt exact rfl) ?_ | ((first | show wpAny _ _ (eval (.Call (.Name (Str.ofString "len") _) _ _ _) _) _ _ _ | show wpAny _ _ (eval (.Call (.Name (Str.ofString "min") _) _ _ _) _) _ _ _); refine bcall (by k_extra "spl") (by k_extra "atB") (by k_dflt exact rfl) ?_) | fail) | (k_here; k_dflt (refine Call_ ?_)) | fail
  k_with "spliced" => first | with_reducible (k_here; first | refine spl_use (by k_extra "spl") ?_ | fail) | (k_dflt (first | refine spliced_more ?_ | refine spliced_none ?_)) | fail
  k_with "eval Subscript" => with_reducible (k_here; show wpAny _ _ (eval (.Subscript _ _ _) _) _ _ _; first | refine sub_at (by k_extra "at") (by k_extra "at") ?_ | fail)
  k_with "eval BinOp" => with_reducible (k_here; show wpAny _ _ (eval (.BinOp _ _ _ _) _) _ _ _; first | refine at_use (by k_extra "at") ?_ | refine bin_at (by k_extra "at") (by k_extra "at") ?_ | fail)
  k_with "isTrue Compare" => with_reducible (k_here; show wpAny _ _ (PySem.isTrue (.Compare _ [_] [_] _) _ _) _ _ _; first | refine cmpT_at (by k_dflt rfl) (by k_extra "at") (by k_extra "at") ?_ | refine cmpT_atL (by k_dflt rfl) (by k_extra "at") ?_ | fail)
  k_with "eval Compare" => with_reducible (k_here; show wpAny _ _ (eval (.Compare _ [_] [_] _) _) _ _ _; first | refine cmp_at (by k_dflt rfl) (by k_extra "at") (by k_extra "at") ?_ | fail)
  k_with "eval Attribute Name" => with_reducible (k_here; first | refine at_use (by k_extra "at") ?_ | fail)
  k_with "eval Name" => with_reducible (k_here; first | refine at_use (by k_extra "at") ?_ | fail)
  k_with "itemAt" => (k_here; (with_reducible show wpAny _ _ (subscriptTail _ _ (Value.ref _) (Value.int _ _)) _ _ _); with_reducible first | refine item_litK (by with_unfolding_all is_list) (by k_dflt decide) (by k_dflt decide) (by with_unfolding_all rfl) ?_ (by with_unfolding_all rfl) | refine item_tupleT (by k_dflt exact News.isTup (by k_asm) (by k_mem)) (by k_dflt decide) (by k_dflt decide) (by k_dflt rfl) (by k_dflt rfl) ?_ | fail); k_whole
  k_with "turned" => (k_here; k_dflt (refine kba_turn (value' := PySem.Expr.Name (PySem.Str.ofString "_") ⟨0, 0, 0, 0⟩) (fun _ => rfl) ?_))
  k_with "subscriptTail Name Constant ref int" => first | k_extra "subscriptTail" | k_extra "itemAt" | fail
  k_with "subscriptTail Subscript Constant ref int" => k_extra "itemAt"
  k_with "subscriptTail Name" => k_extra "subscriptTail"
  k_with "subscriptTail Call" => k_extra "turned"
  k_with "subscriptTail BinOp" => k_extra "turned"
  k_with "seq" => first | (k_here; k_gentoks) | ((with_reducible refine wpAny_execs_cons ?_); try dsimp only) | fail
  k_with "execs cons Assign cons" => k_extra "seq"
  k_with "execs cons If cons" => k_extra "seq"
  k_with "execs cons Return nil" => k_extra "seq"
  k_with "exec Assign cons" => (with_reducible show wpAny _ _ (exec (.Assign [.Name _ _] _ _) _) _ _ _); k_dflt (refine wpAny_Assign_Name ?_)
  k_with "exec If" => refine wpAny_If ?_
  k_with "eval Call Name cons nil" => k_extra "eval Call"
  k_with "isTrue Compare Name cons cons" => k_extra "isTrue Compare"
  k_with "truthy bool false" => refine wpAny_truthy_bool ?_
  k_with "truthy bool" => refine wpAny_truthy_bool ?_
  k_with "room" => first | exact lb0 (j := 1) (by assumption) rfl | exact lb2 (j := 1) (by assumption) (by assumption) rfl
  k_with "om" => first | (k_whole; first | exact lb0 (by assumption) rfl | exact lb1 (by assumption) rfl | exact lb2 (by assumption) (by assumption) rfl | exact lb4 (by assumption) rfl | exact Nat.le_of_succ_le (by assumption)) | omega
  k_with "steps" => repeat' (first | ((with_reducible show wpAny _ _ (exec _ _) _ _ _); (fail_if_success (fail_if_success k_fold)); k_extra "fold") | ((fail_if_success (fail_if_success k_unfold)); first | dsimp only [qk] | dsimp only [ek] | (k_unfold; (try dsimp only))) | (k_end; wrow_close) | walk1 | (dsimp only; walk1) | (leave1; walk_say "STEP leave1"; try dsimp only) | fail)
  trivial
namespace Mine
set_option maxRecDepth 100000
set_option maxHeartbeats 0
example : True := by
  k_with "mem" => first | ktr_member | (refine List.mem_cons_of_mem _ ?_; k_mem)
  trivial
example : True := by
  k_with "nws" => first | k_asm | exact newsTl (by assumption) | exact newsTl (newsTl (by assumption)) | exact newsTl2 (by assumption)
  trivial
section
variable {w : World} {p : Program} {loose : List Str} {mean : ExcName → Option Value} {mg mb : Str → Option Value} {dp un : Nat} {gd : Option (List Code)} {cn : Str} {cs : Scope} {a : Addr} {ccd : Value} {cl : List (Str × Addr)} {outer : List Env} {A₀ : Around} {base h₀ : Heap} {L : Addr} {m : Str → Option Value}
  {news : List (Addr × Obj)} {s : Shared} {Q E : Value → Shared → Prop} {rdr dct tl nd : Addr} {hs1 hs2 hs3 : Int} {u1 u2 u3 t : Tok} {tas : List Addr} {n : Nat} {pos : Nat} {ws : List Wd} {keep : List (Addr × Obj)}
example : True := by
  k_with "upd" => exact updF_upd (by assumption) _
  trivial
example : True := by
  k_with "rel" => first | (with_reducible assumption) | exact dle1 (by with_reducible assumption) rfl | k_extra "om" | exact rfl | (refine RdIn.mono (by with_reducible assumption) ?_; (intro _ hz; first | exact hz | exact .tail _ hz | exact .tail _ (.tail _ hz) | exact .tail _ (.tail _ (.tail _ hz)) | exact .tail _ (.tail _ (.tail _ (.tail _ hz))))) | exact upd1 (by assumption) (by with_reducible assumption) (by with_reducible assumption) | exact upd0 (by with_reducible assumption) (by with_reducible assumption) | exact updC1 (by with_reducible assumption) (by with_reducible assumption) (by with_reducible assumption) (by exact Nat.ne_of_gt (Nat.lt_succ_of_lt (by k_extra "om"))) | exact apT (by with_reducible assumption) (by with_reducible assumption) | exact newsTl (newsTl (by with_reducible assumption)) | (refine Kept.mono (by with_reducible assumption) ?_; (intro _ hz; first | exact hz | exact .tail _ hz | exact .tail _ (.tail _ hz) | exact .tail _ (.tail _ (.tail _ hz)) | exact .tail _ (.tail _ (.tail _ (.tail _ hz))) | exact .tail _ (.tail _ (.tail _ (.tail _ (.tail _ hz)))) | exact .tail _ (.tail _ (.tail _ (.tail _ (.tail _ (.tail _ hz))))))) | ((try dsimp only [ktrTop, Around.deeper]); k_extra "om") | assumption | k_mem | k_updF
  trivial
example : True := by
  k_with "call ref" => (k_here; (try dsimp only [List.nil_append, List.cons_append, List.append_nil]); (with_reducible show wpAny _ _ (call (Value.ref 272) [Value.ref _]) _ _ _); k_dflt (first | refine' peek0_some (by ktr_rel) (by ktr_rel) (by ktr_rel) (by ktr_rel) (by ktr_rel) (by ktr_rel) (by ktr_rel) (by ktr_rel) (by ktr_rel) (by ktr_rel) (by ktr_rel) ?_ | refine' peek0_none (by ktr_rel) (by ktr_rel) (by ktr_rel) (by ktr_rel) (by ktr_rel) (by ktr_rel) (by ktr_rel) (by ktr_rel) (by ktr_rel) (by ktr_rel) (by ktr_rel) ?_); k_whole; intro h' tk' F' N'; (try k_sweep))
  trivial
example : True := by
  k_with "call ref" => (k_here; (try dsimp only [List.nil_append, List.cons_append, List.append_nil]); (with_reducible show wpAny _ _ (call (Value.ref 272) [Value.ref _, Value.int _ _]) _ _ _); k_dflt (first | refine' peek_some0 (by ktr_rel) (by ktr_rel) (by ktr_rel) (by ktr_rel) (by ktr_rel) (by ktr_rel) (by ktr_rel) (by ktr_rel) (by ktr_rel) (by ktr_rel) (by ktr_rel) ?_ | refine' peek_none0 (by ktr_rel) (by ktr_rel) (by ktr_rel) (by ktr_rel) (by ktr_rel) (by ktr_rel) (by ktr_rel) (by ktr_rel) (by ktr_rel) (by ktr_rel) (by ktr_rel) ?_ | refine' peek_some1 (by ktr_rel) (by ktr_rel) (by ktr_rel) (by ktr_rel) (by ktr_rel) (by ktr_rel) (by ktr_rel) (by ktr_rel) (by ktr_rel) (by ktr_rel) (by ktr_rel) ?_ | refine' peek_none1 (by ktr_rel) (by ktr_rel) (by ktr_rel) (by ktr_rel) (by ktr_rel) (by ktr_rel) (by ktr_rel) (by ktr_rel) (by ktr_rel) (by ktr_rel) (by ktr_rel) ?_); k_whole; intro h' tk' F' N'; (try k_sweep))
  trivial
example : True := by
  k_with "call ref" => (k_here; (try dsimp only [List.nil_append, List.cons_append, List.append_nil]); (with_reducible show wpAny _ _ (call (Value.ref 301) [Value.ref _, Value.str _ _]) _ _ _); k_dflt (first | refine' isk_c (tk2 := 0) (by ktr_rel) (by ktr_rel) (by ktr_rel) (by ktr_rel) (by ktr_rel) (by ktr_rel) (by ktr_rel) (by ktr_rel) (by ktr_rel) (by ktr_rel) (by ktr_rel) ?_); k_whole; intro h' tk' F' N'; (try k_sweep))
  trivial
example : True := by
  k_with "call ref" => (k_here; (try dsimp only [List.nil_append, List.cons_append, List.append_nil]); (with_reducible show wpAny _ _ (call (Value.ref 301) [Value.ref _, Value.str _ _, Value.int _ _]) _ _ _); k_dflt (first | refine' isk0_c (by ktr_rel) (by ktr_rel) (by ktr_rel) (by ktr_rel) (by ktr_rel) (by ktr_rel) (by ktr_rel) (by ktr_rel) (by ktr_rel) (by ktr_rel) (by ktr_rel) ?_ | refine' isk1_c (by ktr_rel) (by ktr_rel) (by ktr_rel) (by ktr_rel) (by ktr_rel) (by ktr_rel) (by ktr_rel) (by ktr_rel) (by ktr_rel) (by ktr_rel) (by ktr_rel) ?_); k_whole; intro h' tk' F' N'; (try k_sweep))
  trivial
example : True := by
  k_with "call ref" => (k_here; (try dsimp only [List.nil_append, List.cons_append, List.append_nil]); (with_reducible show wpAny _ _ (call (Value.ref 366) [Value.ref _, Value.str _ _]) _ _ _); k_dflt (first | refine' iss_c (by ktr_rel) (by ktr_rel) (by ktr_rel) (by ktr_rel) (by ktr_rel) (by ktr_rel) (by ktr_rel) (by ktr_rel) (by ktr_rel) (by ktr_rel) (by ktr_rel) ?_); k_whole; intro h' tk' F' N'; (try k_sweep))
  trivial
example : True := by
  k_with "call ref" => (k_here; (try dsimp only [List.nil_append, List.cons_append, List.append_nil]); (with_reducible show wpAny _ _ (call (Value.ref 293) [Value.ref _]) _ _ _); k_dflt (first | refine' take_c (by ktr_rel) (by ktr_rel) (by ktr_rel) (by ktr_rel) (by ktr_rel) (by ktr_rel) (by ktr_rel) (by ktr_rel) (by ktr_rel) (by ktr_rel) (by ktr_rel) (by ktr_rel) ?_); k_whole; intro h' tk' t' F' N'; (try k_sweep))
  trivial
example : True := by
  k_with "call ref" => (k_here; (try dsimp only [List.nil_append, List.cons_append, List.append_nil]); (with_reducible show wpAny _ _ (call (Value.ref 373) [Value.ref _, Value.str _ _]) _ _ _); k_dflt (first | refine' skip_no (by ktr_rel) (by ktr_rel) (by ktr_rel) (by ktr_rel) (by ktr_rel) (by ktr_rel) (by ktr_rel) (by ktr_rel) (by ktr_rel) (by ktr_rel) (by ktr_rel) ?_); k_whole; intro h' tk' F' N'; (try k_sweep))
  trivial
example : True := by
  k_with "call ref" => (k_here; (try dsimp only [List.nil_append, List.cons_append, List.append_nil]); (with_reducible show wpAny _ _ (call (Value.ref 373) [Value.ref _, Value.str _ _]) _ _ _); k_dflt (first | refine' skip_yes (by ktr_rel) (by ktr_rel) (by ktr_rel) (by ktr_rel) (by ktr_rel) (by ktr_rel) (by ktr_rel) (by ktr_rel) (by ktr_rel) (by ktr_rel) (by ktr_rel) (by ktr_rel) ?_); k_whole; intro h' tk' t' F' N'; (try k_sweep))
  trivial
example : True := by
  k_with "call ref" => (k_here; (try dsimp only [List.nil_append, List.cons_append, List.append_nil]); (with_reducible show wpAny _ _ (call (Value.ref 195) [Value.ref _, Value.ref _]) _ _ _); k_dflt (refine' sign_c (by ktr_rel) (by ktr_rel) (by ktr_rel) (by ktr_rel) (by ktr_rel) (by ktr_rel) (by ktr_rel) (by ktr_rel) (by ktr_rel) (by ktr_rel) (by ktr_rel) (by first | exact .cons _ _ (.cons _ _ .nil) | exact .cons _ _ .nil) (by ktr_rel) ?_); k_whole; intro h' tk' tr' F' N'; (try k_sweep))
  trivial
example : True := by
  k_with "call ref" => (k_here; (try dsimp only [List.nil_append, List.cons_append, List.append_nil]); (with_reducible show wpAny _ _ (call (Value.ref 286) [Value.ref _, Value.str _ _]) _ _ _); k_dflt (refine' fault_c (by ktr_rel) (by ktr_rel) (by ktr_rel) (by ktr_rel) (by ktr_rel) (by ktr_rel) (by ktr_rel) (by ktr_rel) (by ktr_rel) (by ktr_rel) (by first | assumption | exact Fr.keep (by assumption) _ _ (by assumption)) (by ktr_rel) (by ktr_rel) ?_; k_whole); intro h' tk' e' dx' ax' k1' k2' t1' t2' att' t3' t4' n' F' N' hatt'; (try k_sweep))
  trivial
example : True := by
  k_with "exec Raise some none" => (k_here; k_dflt (refine' raise_K ?k1 ?k2 ?k3 ?_; (case k1 => exact rfl); (case k2 => k_asm); (case k3 => k_asm)); (try k_fold))
  trivial
example : True := by
  k_with "call ref" => (k_here; (try dsimp only [List.nil_append, List.cons_append, List.append_nil]); (with_reducible show wpAny _ _ (call (Value.ref 237) [Value.ref _, Value.int _ _]) _ _ _); k_dflt (refine' does_use (by assumption) (by assumption) (by ktr_rel) (by ktr_rel) (by ktr_rel) (by first | (with_reducible assumption) | exact newsTl (by with_reducible assumption) | exact newsTl (newsTl (by with_reducible assumption)) | exact newsTl2 (by with_reducible assumption)) (by ktr_rel) (by ktr_rel) (by ktr_rel) (by ktr_rel) (by ktr_rel) (by ktr_rel) (by ktr_rel) (by ktr_rel) (by first | assumption | exact Fr.keep (by assumption) _ _ (by assumption)) (by ktr_rel) (by ktr_rel) (by ktr_rel) (by ktr_rel) ?_ ?_); k_whole; intro v' t' h' tk' tr' ps' news' e' F' N' R' ap' tb' sub' D' hq'; (have hz2 := mem_t2 N' R'.rd); (try k_sweep); rotate_left; k_whole; intro e0' e' h' tk' ps9' hh' tb9' r' Fh' uh'; rotate_right)
  trivial
example : True := by
  k_with "exec While Compare cons nil" => (k_here; refine' ksw_while (fun c : LS => (dct, RdD hs1 hs2 hs3 u1 u2 u3 tl nd c.q c.tq) :: (232, tabObj c.ps) :: c.news) (fun c => [(Str.ofString "found", c.v)]) (LF rdr dct tl tas n ws) [Str.ofString "found"] (LP ws .powL d k news r q) LS.k ⟨k, tr', q1, v', t', ps', news'⟩ ?kF ?kN ?kf ?kk ?kp ?kt; (case kF => assumption); (case kN => (dsimp only; assumption)); (case kf => exact ⟨R', ap', tb', D'⟩); (case kk => kst_all); (case kp => exact ⟨hsome0 _ e', hq', Nat.le_refl _, sub'⟩); (case' kt => (intro c uu hh tkk Fc Pc Fu Nu; dsimp only [kstB] at Fu; (have hzr := mem_t2 Nu Fc.R.rd); (have R2 := Fc.R); (have ap2 := Fc.ap); (have tb2 := Fc.tb); (have kp2 := hkp.mono Pc.sub); rcases pow_turn Pc.run with ⟨hsg, hrr, hqq⟩ | ⟨hw, hsg, hnz, hkk, hrun1, hnone, hsome⟩; all_goals try (obtain ⟨ta, hv, ht⟩ := R2.tok _ _ hw; rcases ht with ⟨z1, z2, z3⟩; have hq3 := lt_of_get hw; have S2 := IH _ (Nat.le_trans (Nat.le_of_lt (Nat.lt_of_lt_of_eq (Nat.lt_succ_self _) hkk.symm)) Pc.hk)))))
  trivial
theorem pow_lv {k : Nat} (IH : ∀ k', k' ≤ k → Does w p loose mean mg mb rdr dct tl nd hs1 hs2 hs3 u1 u2 u3 tas n ws 237 8 20 .prim k') : Does w p loose mean mg mb rdr dct tl nd hs1 hs2 hs3 u1 u2 u3 tas n ws 230 6 20 .pow (k + 1) := by
  intro dp un gd cn cs a ccd cl outer A₀ base h₀ L m news s Q E t pos d td ps r q keep B F X N T hk hdp hun R ap h232 tb hb hne hp hd hrun hkp ret err
  revert X; k_fill; intro X
  have hrd := mem_t2 N R.rd
  have hkq := kept_tab N hkp
  have S := IH k (Nat.le_refl k)
  simp only [run] at hrun
  obtain ⟨r1, q1, hrun0, hnone0, hsome0⟩ := bind_cases (lvL := .powL) hrun
  refine wpAny_call ?_
  k_dflt k_enter
  k_extra "steps"
  all_goals first
    | ((rw [hqq] at ret); exact ret _ _ _ _ _ _ _ hrr (by k_asm) (by k_extra "nws") Fc.R Fc.ap Fc.tb Pc.sub Fc.D Pc.hq)
    | exact ls_end e' hkk Pc Fc hsome (by k_asm) (by k_asm) R' ap' tb' sub' D' hq' (if_pos rfl) (by intro z h2 h3; simp only [List.contains_cons, List.contains_nil, Bool.or_false, Bool.or_eq_false_iff, beq_eq_false_iff_ne, ne_eq] at h3; simp [h2, h3])
    | (have hxx := sgn_one hsg hnz; rw [hxx] at hsome; exact ls_end e' hkk Pc Fc hsome (by k_asm) (by k_asm) R' ap' tb' sub' D' hq' (if_pos rfl) (by intro z h2 h3; simp only [List.contains_cons, List.contains_nil, Bool.or_false, Bool.or_eq_false_iff, beq_eq_false_iff_ne, ne_eq] at h3; simp [h2, h3]))
    | ((try k_unfold); (try dsimp only); (obtain ⟨hz1, hz2⟩ := hnone e0'); (rw [hz2] at err); refine err_next (by assumption) (by assumption) (by assumption) (by assumption) ?_; intro h9 r9 u9; (try dsimp only); exact err hz1 _ _ _ _ _ tb9' r9 (by assumption) u9)
    | ((try k_unfold); (try dsimp only); (obtain ⟨hz1, hz2⟩ := hnone0 e0'); (rw [hz2] at err); refine err_next (by assumption) (by assumption) (by assumption) (by assumption) ?_; intro h9 r9 u9; (try dsimp only); exact err hz1 _ _ _ _ _ tb9' r9 (by assumption) u9)
    | trace_state
end
end Mine
end
section
open PySem PySem.W PyProof.Rows PySem.Spec PySem.Calls
set_option Elab.async false
example : True := by k_with_none; trivial
example : True := by
  k_with "fold" => (refine folds ?_; intro qk ek)
  k_with "at0" => (with_reducible show At _ _ _ _ (.Name _ _) _ _ _); exact at_L (by rfl) (by rfl) (by decide) (by k_asm) (Eq.refl (some _))
  k_with "atF" => k_dflt first | k_extra "at0" | ((with_reducible show At _ _ _ _ (.Name _ _) _ _ _); exact at_K (by rfl) (by rfl) (by decide) (by k_asm) (by k_asm) (by k_is) (by k_asm)) | fail
  k_with "atB" => k_dflt first | ((with_reducible show At _ _ _ _ (.Name _ _) _ _ _); exact at_B (by rfl) (by rfl) (by decide) (by k_asm) (by k_asm) (by k_is) (by boot_fast) (by decide) (by k_asm)) | fail
  k_with "at" => k_dflt first | ((with_reducible show At _ _ _ _ (.Constant _ _ _) _ _ _); first | exact at_S | exact at_I | exact at_N) | k_extra "at0" | ((with_reducible show At _ _ _ _ (.Attribute (.Name _ _) _ _) _ _ _); exact at_attr (by k_asm) (by k_asm) (by k_extra "at0") (by k_inst) (by k_get) (by k_is) (by k_is) (by k_is) (by k_is) (by first | exact rfl | k_handed)) | ((with_reducible show At _ _ _ _ (.BinOp _ .Add _ _) _ _ _); exact at_add (by k_extra "at") (by k_extra "at")) | k_extra "atF" | fail
  k_with "spl" => k_dflt first | exact spl0 | ((with_reducible show Spl _ _ _ _ [_] _ _ _); exact spl1 (by k_extra "at")) | ((with_reducible show Spl _ _ _ _ [_, _] _ _ _); exact spl2 (by k_extra "at") (by k_extra "at")) | ((with_reducible show Spl _ _ _ _ (_ :: _) _ _ _); exact splC (by k_extra "at") (by k_extra "spl")) | fail
  k_with "eval Call Attribute" => with_reducible (k_here; show wpAny _ _ (eval (.Call (.Attribute _ _ _) _ [] _) _) _ _ _; first | refine mcall (by k_extra "spl") (by k_dflt exact rfl) (by k_dflt k_asm) (by k_dflt k_asm) (by k_extra "at") (by k_dflt k_inst) (by k_get) (by k_is) (by k_is) (by k_is) (by k_is) (by k_dflt exact rfl) ?_ | fail)
  k_with "eval Call" => first | with_reducible (k_here; show wpAny _ _ (eval (.Call (.Name _ _) _ [] _) _) _ _ _; first | refine fcall (by k_extra "spl") (by k_dflt exact rfl) (by k_dflt k_asm) (by k_dflt k_asm) (by k_extra "atF") (by k_is) (by k_dflt exact rfl) ?_ | ((first | show wpAny _ _ (eval (.Call (.Name (Str.ofString "len") _) _ _ _) _) _ _ _ | show wpAny _ _ (eval (.Call (.Name (Str.ofString "min") _) _ _ _) _) _ _ _); refine bcall (by k_extra "spl") (by k_extra "atB") (by k_dflt exact rfl) ?_) | fail) | (k_here; k_dflt (refine Call_ ?_)) | fail
  k_with "spliced" => first | with_reducible (k_here; first | refine spl_use (by k_extra "spl") ?_ | fail) | (k_dflt (first | refine spliced_more ?_ | refine spliced_none ?_)) | fail
  k_with "eval Subscript" => with_reducible (k_here; show wpAny _ _ (eval (.Subscript _ _ _) _) _ _ _; first | refine sub_at (by k_extra "at") (by k_extra "at") ?_ | fail)
  k_with "eval BinOp" => with_reducible (k_here; show wpAny _ _ (eval (.BinOp _ _ _ _) _) _ _ _; first | refine at_use (by k_extra "at") ?_ | refine bin_at (by k_extra "at") (by k_extra "at") ?_ | fail)
  k_with "isTrue Compare" => with_reducible (k_here; show wpAny _ _ (PySem.isTrue (.Compare _ [_] [_] _) _ _) _ _ _; first | refine cmpT_at (by k_dflt rfl) (by k_extra "at") (by k_extra "at") ?_ | refine cmpT_atL (by k_dflt rfl) (by k_extra "at") ?_ | fail)
  k_with "eval Compare" => with_reducible (k_here; show wpAny _ _ (eval (.Compare _ [_] [_] _) _) _ _ _; first | refine cmp_at (by k_dflt rfl) (by k_extra "at") (by k_extra "at") ?_ | fail)
  k_with "eval Attribute Name" => with_reducible (k_here; first | refine at_use (by k_extra "at") ?_ | fail)
  k_with "eval Name" => with_reducible (k_here; first | refine at_use (by k_extra "at") ?_ | fail)
  k_with "itemAt" => (k_here; (with_reducible show wpAny _ _ (subscriptTail _ _ (Value.ref _) (Value.int _ _)) _ _ _); with_reducible first | refine item_litK (by with_unfolding_all is_list) (by k_dflt decide) (by k_dflt decide) (by with_unfolding_all rfl) ?_ (by with_unfolding_all rfl) | refine item_tupleT (by k_dflt exact News.isTup (by k_asm) (by k_mem)) (by k_dflt decide) (by k_dflt decide) (by k_dflt rfl) (by k_dflt rfl) ?_ | fail); k_whole
  k_with "turned" => (k_here; k_dflt (refine kba_turn (value' := PySem.Expr.Name (PySem.Str.ofString "_") ⟨0, 0, 0, 0⟩) (fun _ => rfl) ?_))
  k_with "subscriptTail Name Constant ref int" => first | k_extra "subscriptTail" | k_extra "itemAt" | fail
  k_with "subscriptTail Subscript Constant ref int" => k_extra "itemAt"
  k_with "subscriptTail Name" => k_extra "subscriptTail"
  k_with "subscriptTail Call" => k_extra "turned"
  k_with "subscriptTail BinOp" => k_extra "turned"
  k_with "seq" => first | (k_here; k_gentoks) | ((with_reducible refine wpAny_execs_cons ?_); try dsimp only) | fail
  k_with "execs cons Assign cons" => k_extra "seq"
  k_with "execs cons If cons" => k_extra "seq"
  k_with "execs cons Return nil" => k_extra "seq"
  k_with "exec Assign cons" => (with_reducible show wpAny _ _ (exec (.Assign [.Name _ _] _ _) _) _ _ _); k_dflt (refine wpAny_Assign_Name ?_)
  k_with "exec If" => refine wpAny_If ?_
  k_with "eval Call Name cons nil" => k_extra "eval Call"
  k_with "isTrue Compare Name cons cons" => k_extra "isTrue Compare"
  k_with "truthy bool false" => refine wpAny_truthy_bool ?_
  k_with "truthy bool" => refine wpAny_truthy_bool ?_
  k_with "room" => first | exact lb0 (j := 1) (by assumption) rfl | exact lb2 (j := 1) (by assumption) (by assumption) rfl
  k_with "om" => first | (k_whole; first | exact lb0 (by assumption) rfl | exact lb1 (by assumption) rfl | exact lb2 (by assumption) (by assumption) rfl | exact lb4 (by assumption) rfl | exact Nat.le_of_succ_le (by assumption)) | omega
  k_with "steps" => repeat' (first | ((with_reducible show wpAny _ _ (exec _ _) _ _ _); (fail_if_success (fail_if_success k_fold)); k_extra "fold") | ((fail_if_success (fail_if_success k_unfold)); first | dsimp only [qk] | dsimp only [ek] | (k_unfold; (try dsimp only))) | (k_end; wrow_close) | walk1 | (dsimp only; walk1) | (leave1; walk_say "STEP leave1"; try dsimp only) | fail)
  trivial
namespace Mine
set_option maxRecDepth 100000
set_option maxHeartbeats 0
example : True := by
  k_with "mem" => first | ktr_member | (refine List.mem_cons_of_mem _ ?_; k_mem)
  trivial
example : True := by
  k_with "nws" => first | k_asm | exact newsTl (by assumption) | exact newsTl (newsTl (by assumption)) | exact newsTl2 (by assumption)
  trivial
section
variable {w : World} {p : Program} {loose : List Str} {mean : ExcName → Option Value} {mg mb : Str → Option Value} {dp un : Nat} {gd : Option (List Code)} {cn : Str} {cs : Scope} {a : Addr} {ccd : Value} {cl : List (Str × Addr)} {outer : List Env} {A₀ : Around} {base h₀ : Heap} {L : Addr} {m : Str → Option Value}
  {news : List (Addr × Obj)} {s : Shared} {Q E : Value → Shared → Prop} {rdr dct tl nd : Addr} {hs1 hs2 hs3 : Int} {u1 u2 u3 t : Tok} {tas : List Addr} {n : Nat} {pos : Nat} {ws : List Wd} {keep : List (Addr × Obj)}
example : True := by
  k_with "upd" => exact updF_upd (by assumption) _
  trivial
example : True := by
  k_with "rel" => first | (with_reducible assumption) | exact dle1 (by with_reducible assumption) rfl | k_extra "om" | exact rfl | (refine RdIn.mono (by with_reducible assumption) ?_; (intro _ hz; first | exact hz | exact .tail _ hz | exact .tail _ (.tail _ hz) | exact .tail _ (.tail _ (.tail _ hz)) | exact .tail _ (.tail _ (.tail _ (.tail _ hz))))) | exact upd1 (by assumption) (by with_reducible assumption) (by with_reducible assumption) | exact upd0 (by with_reducible assumption) (by with_reducible assumption) | exact updC1 (by with_reducible assumption) (by with_reducible assumption) (by with_reducible assumption) (by exact Nat.ne_of_gt (Nat.lt_succ_of_lt (by k_extra "om"))) | exact apT (by with_reducible assumption) (by with_reducible assumption) | exact newsTl (newsTl (by with_reducible assumption)) | (refine Kept.mono (by with_reducible assumption) ?_; (intro _ hz; first | exact hz | exact .tail _ hz | exact .tail _ (.tail _ hz) | exact .tail _ (.tail _ (.tail _ hz)) | exact .tail _ (.tail _ (.tail _ (.tail _ hz))) | exact .tail _ (.tail _ (.tail _ (.tail _ (.tail _ hz)))) | exact .tail _ (.tail _ (.tail _ (.tail _ (.tail _ (.tail _ hz))))))) | ((try dsimp only [ktrTop, Around.deeper]); k_extra "om") | assumption | k_mem | k_updF
  trivial
example : True := by
  k_with "call ref" => (k_here; (try dsimp only [List.nil_append, List.cons_append, List.append_nil]); (with_reducible show wpAny _ _ (call (Value.ref 272) [Value.ref _]) _ _ _); k_dflt (first | refine' peek0_some (by ktr_rel) (by ktr_rel) (by ktr_rel) (by ktr_rel) (by ktr_rel) (by ktr_rel) (by ktr_rel) (by ktr_rel) (by ktr_rel) (by ktr_rel) (by ktr_rel) ?_ | refine' peek0_none (by ktr_rel) (by ktr_rel) (by ktr_rel) (by ktr_rel) (by ktr_rel) (by ktr_rel) (by ktr_rel) (by ktr_rel) (by ktr_rel) (by ktr_rel) (by ktr_rel) ?_); k_whole; intro h' tk' F' N'; (try k_sweep))
  trivial
example : True := by
  k_with "call ref" => (k_here; (try dsimp only [List.nil_append, List.cons_append, List.append_nil]); (with_reducible show wpAny _ _ (call (Value.ref 272) [Value.ref _, Value.int _ _]) _ _ _); k_dflt (first | refine' peek_some0 (by ktr_rel) (by ktr_rel) (by ktr_rel) (by ktr_rel) (by ktr_rel) (by ktr_rel) (by ktr_rel) (by ktr_rel) (by ktr_rel) (by ktr_rel) (by ktr_rel) ?_ | refine' peek_none0 (by ktr_rel) (by ktr_rel) (by ktr_rel) (by ktr_rel) (by ktr_rel) (by ktr_rel) (by ktr_rel) (by ktr_rel) (by ktr_rel) (by ktr_rel) (by ktr_rel) ?_ | refine' peek_some1 (by ktr_rel) (by ktr_rel) (by ktr_rel) (by ktr_rel) (by ktr_rel) (by ktr_rel) (by ktr_rel) (by ktr_rel) (by ktr_rel) (by ktr_rel) (by ktr_rel) ?_ | refine' peek_none1 (by ktr_rel) (by ktr_rel) (by ktr_rel) (by ktr_rel) (by ktr_rel) (by ktr_rel) (by ktr_rel) (by ktr_rel) (by ktr_rel) (by ktr_rel) (by ktr_rel) ?_); k_whole; intro h' tk' F' N'; (try k_sweep))
  trivial
example : True := by
  k_with "call ref" => (k_here; (try dsimp only [List.nil_append, List.cons_append, List.append_nil]); (with_reducible show wpAny _ _ (call (Value.ref 301) [Value.ref _, Value.str _ _]) _ _ _); k_dflt (first | refine' isk_c (tk2 := 0) (by ktr_rel) (by ktr_rel) (by ktr_rel) (by ktr_rel) (by ktr_rel) (by ktr_rel) (by ktr_rel) (by ktr_rel) (by ktr_rel) (by ktr_rel) (by ktr_rel) ?_); k_whole; intro h' tk' F' N'; (try k_sweep))
  trivial
example : True := by
  k_with "call ref" => (k_here; (try dsimp only [List.nil_append, List.cons_append, List.append_nil]); (with_reducible show wpAny _ _ (call (Value.ref 301) [Value.ref _, Value.str _ _, Value.int _ _]) _ _ _); k_dflt (first | refine' isk0_c (by ktr_rel) (by ktr_rel) (by ktr_rel) (by ktr_rel) (by ktr_rel) (by ktr_rel) (by ktr_rel) (by ktr_rel) (by ktr_rel) (by ktr_rel) (by ktr_rel) ?_ | refine' isk1_c (by ktr_rel) (by ktr_rel) (by ktr_rel) (by ktr_rel) (by ktr_rel) (by ktr_rel) (by ktr_rel) (by ktr_rel) (by ktr_rel) (by ktr_rel) (by ktr_rel) ?_); k_whole; intro h' tk' F' N'; (try k_sweep))
  trivial
example : True := by
  k_with "call ref" => (k_here; (try dsimp only [List.nil_append, List.cons_append, List.append_nil]); (with_reducible show wpAny _ _ (call (Value.ref 366) [Value.ref _, Value.str _ _]) _ _ _); k_dflt (first | refine' iss_c (by ktr_rel) (by ktr_rel) (by ktr_rel) (by ktr_rel) (by ktr_rel) (by ktr_rel) (by ktr_rel) (by ktr_rel) (by ktr_rel) (by ktr_rel) (by ktr_rel) ?_); k_whole; intro h' tk' F' N'; (try k_sweep))
  trivial
example : True := by
  k_with "call ref" => (k_here; (try dsimp only [List.nil_append, List.cons_append, List.append_nil]); (with_reducible show wpAny _ _ (call (Value.ref 293) [Value.ref _]) _ _ _); k_dflt (first | refine' take_c (by ktr_rel) (by ktr_rel) (by ktr_rel) (by ktr_rel) (by ktr_rel) (by ktr_rel) (by ktr_rel) (by ktr_rel) (by ktr_rel) (by ktr_rel) (by ktr_rel) (by ktr_rel) ?_); k_whole; intro h' tk' t' F' N'; (try k_sweep))
  trivial
example : True := by
  k_with "call ref" => (k_here; (try dsimp only [List.nil_append, List.cons_append, List.append_nil]); (with_reducible show wpAny _ _ (call (Value.ref 373) [Value.ref _, Value.str _ _]) _ _ _); k_dflt (first | refine' skip_no (by ktr_rel) (by ktr_rel) (by ktr_rel) (by ktr_rel) (by ktr_rel) (by ktr_rel) (by ktr_rel) (by ktr_rel) (by ktr_rel) (by ktr_rel) (by ktr_rel) ?_); k_whole; intro h' tk' F' N'; (try k_sweep))
  trivial
example : True := by
  k_with "call ref" => (k_here; (try dsimp only [List.nil_append, List.cons_append, List.append_nil]); (with_reducible show wpAny _ _ (call (Value.ref 373) [Value.ref _, Value.str _ _]) _ _ _); k_dflt (first | refine' skip_yes (by ktr_rel) (by ktr_rel) (by ktr_rel) (by ktr_rel) (by ktr_rel) (by ktr_rel) (by ktr_rel) (by ktr_rel) (by ktr_rel) (by ktr_rel) (by ktr_rel) (by ktr_rel) ?_); k_whole; intro h' tk' t' F' N'; (try k_sweep))
  trivial
example : True := by
  k_with "call ref" => (k_here; (try dsimp only [List.nil_append, List.cons_append, List.append_nil]); (with_reducible show wpAny _ _ (call (Value.ref 195) [Value.ref _, Value.ref _]) _ _ _); k_dflt (refine' sign_c (by ktr_rel) (by ktr_rel) (by ktr_rel) (by ktr_rel) (by ktr_rel) (by ktr_rel) (by ktr_rel) (by ktr_rel) (by ktr_rel) (by ktr_rel) (by ktr_rel) (by first | exact .cons _ _ (.cons _ _ .nil) | exact .cons _ _ .nil) (by ktr_rel) ?_); k_whole; intro h' tk' tr' F' N'; (try k_sweep))
  trivial
example : True := by
  k_with "call ref" => (k_here; (try dsimp only [List.nil_append, List.cons_append, List.append_nil]); (with_reducible show wpAny _ _ (call (Value.ref 286) [Value.ref _, Value.str _ _]) _ _ _); k_dflt (refine' fault_c (by ktr_rel) (by ktr_rel) (by ktr_rel) (by ktr_rel) (by ktr_rel) (by ktr_rel) (by ktr_rel) (by ktr_rel) (by ktr_rel) (by ktr_rel) (by first | assumption | exact Fr.keep (by assumption) _ _ (by assumption)) (by ktr_rel) (by ktr_rel) ?_; k_whole); intro h' tk' e' dx' ax' k1' k2' t1' t2' att' t3' t4' n' F' N' hatt'; (try k_sweep))
  trivial
example : True := by
  k_with "exec Raise some none" => (k_here; k_dflt (refine' raise_K ?k1 ?k2 ?k3 ?_; (case k1 => exact rfl); (case k2 => k_asm); (case k3 => k_asm)); (try k_fold))
  trivial
example : True := by
  k_with "call ref" => (k_here; (try dsimp only [List.nil_append, List.cons_append, List.append_nil]); (with_reducible show wpAny _ _ (call (Value.ref 230) [Value.ref _, Value.int _ _]) _ _ _); k_dflt (refine' does_use (by assumption) (by assumption) (by ktr_rel) (by ktr_rel) (by ktr_rel) (by first | (with_reducible assumption) | exact newsTl (by with_reducible assumption) | exact newsTl (newsTl (by with_reducible assumption)) | exact newsTl2 (by with_reducible assumption)) (by ktr_rel) (by ktr_rel) (by ktr_rel) (by ktr_rel) (by ktr_rel) (by ktr_rel) (by ktr_rel) (by ktr_rel) (by first | assumption | exact Fr.keep (by assumption) _ _ (by assumption)) (by ktr_rel) (by ktr_rel) (by ktr_rel) (by ktr_rel) ?_ ?_); k_whole; intro v' t' h' tk' tr' ps' news' e' F' N' R' ap' tb' sub' D' hq'; (have hz2 := mem_t2 N' R'.rd); (try (injection e' with en'; subst en'; obtain ⟨a1', b1', t1', t2', t3', k1', k2', hv', m1', m2'⟩ := num_in D'; subst hv')); (try k_sweep); rotate_left; k_whole; intro e0' e' h' tk' ps9' hh' tb9' r' Fh' uh'; rotate_right)
  trivial
example : True := by
  k_with "call ref" => (k_here; (try dsimp only [List.nil_append, List.cons_append, List.append_nil]); (with_reducible show wpAny _ _ (call (Value.ref 96) [Value.ref _]) _ _ _); k_dflt (first | refine' neg_c (by ktr_rel) (by ktr_rel) (by ktr_rel) (by ktr_rel) (by ktr_rel) (by ktr_rel) (by ktr_rel) (by ktr_rel) (by ktr_rel) ?_); k_whole; intro h' tk' tp2' t12' t22' k2' F' N'; (try k_sweep))
  trivial
example : True := by
  k_with "call ref" => (k_here; (try dsimp only [List.nil_append, List.cons_append, List.append_nil]); (with_reducible show wpAny _ _ (call (Value.ref 223) [Value.ref _]) _ _ _); k_dflt (first | refine' lone_c (by ktr_rel) (by ktr_rel) (by ktr_rel) (by ktr_rel) (by ktr_rel) (by ktr_rel) (by ktr_rel) (by ktr_rel) (by ktr_rel) (by ktr_rel) (by ktr_rel) ?_); k_whole; intro h' tk' F' N'; (try k_sweep))
  trivial
theorem fac_lv {k : Nat} (IH : Does w p loose mean mg mb rdr dct tl nd hs1 hs2 hs3 u1 u2 u3 tas n ws 230 6 20 .pow k) : Does w p loose mean mg mb rdr dct tl nd hs1 hs2 hs3 u1 u2 u3 tas n ws 216 4 20 .fac (k + 1) := by
  intro dp un gd cn cs a ccd cl outer A₀ base h₀ L m news s Q E t pos d td ps r q keep B F X N T hk hdp hun R ap h232 tb hb hne hp hd hrun hkp ret err
  revert X; k_fill; intro X
  have hrd := mem_t2 N R.rd
  have hkq := kept_tab N hkp
  rcases fac_turn hrun with ⟨hsg, hrun0⟩ | ⟨hw, hsg, hrun0⟩ | ⟨hw, hsg, ho, hrun0, hres⟩ | ⟨hw, hsg, ho, hrun0, hnone, hsome⟩
  · refine wpAny_call ?_
    k_dflt k_enter
    k_extra "steps"
    all_goals first
      | exact ret _ _ _ _ _ _ _ e' (by k_asm) (by k_extra "nws") R' ap' tb' sub' D' hq'
      | ((try k_unfold); (try dsimp only); refine err_next (by assumption) (by assumption) (by assumption) (by assumption) ?_; intro h9 r9 u9; (try dsimp only); exact err e0' _ _ _ _ _ tb9' r9 (by assumption) u9)
      | trace_state
  · obtain ⟨ta, hv, ht⟩ := R.tok _ _ hw
    have hq3 := lt_of_get hw
    refine wpAny_call ?_
    k_dflt k_enter
    k_extra "steps"
    all_goals first
      | exact ret _ _ _ _ _ _ _ e' (by k_asm) (by k_extra "nws") R' ap' tb' sub' D' hq'
      | ((try k_unfold); (try dsimp only); refine err_next (by assumption) (by assumption) (by assumption) (by assumption) ?_; intro h9 r9 u9; (try dsimp only); exact err e0' _ _ _ _ _ tb9' r9 (by assumption) u9)
      | trace_state
  · obtain ⟨ta, hv, ht⟩ := R.tok _ _ hw
    have hq3 := lt_of_get hw
    refine wpAny_call ?_
    k_dflt k_enter
    k_extra "steps"
    all_goals first
      | (cases e0'; done)
      | (rename News _ _ _ _ => NN; exact ret _ _ _ _ _ _ _ hres (by k_asm) (lift1 (lift2 NN)) (R'.mono fun z h => .tail _ (.tail _ h)) (apl1 (lift2 NN) (apl1 (newsTl NN) ap')) tb' (fun z h => .tail _ (.tail _ (sub' z h))) (datNum (.head _) (.tail _ (.head _))) hq')
      | trace_state
  · obtain ⟨ta, hv, ht⟩ := R.tok _ _ hw
    have hq3 := lt_of_get hw
    refine wpAny_call ?_
    k_dflt k_enter
    k_extra "steps"
    all_goals first
      | (have e0' := hnone e0'; ((try k_unfold); (try dsimp only); refine err_next (by assumption) (by assumption) (by assumption) (by assumption) ?_; intro h9 r9 u9; (try dsimp only); exact err e0' _ _ _ _ _ tb9' r9 (by assumption) u9))
      | (rename News _ _ _ _ => NN; exact ret _ _ _ _ _ _ _ (hsome _ e') (by k_asm) (lift1 NN) (R'.mono fun z h => .tail _ h) (apl1 NN ap') tb' (fun z h => .tail _ (sub' z h)) (.tuple (.head _) (.cons (.str _ _) (.cons (D'.mono fun z h => .tail _ h) .nil))) hq')
      | trace_state
end
end Mine
end
section
open PySem PySem.W PyProof.Rows PySem.Spec PySem.Calls
set_option Elab.async false
example : True := by k_with_none; trivial
example : True := by
  k_with "fold" => (refine folds ?_; intro qk ek)
  k_with "at0" => (with_reducible show At _ _ _ _ (.Name _ _) _ _ _); exact at_L (by rfl) (by rfl) (by decide) (by k_asm) (Eq.refl (some _))
  k_with "atF" => k_dflt first | k_extra "at0" | ((with_reducible show At _ _ _ _ (.Name _ _) _ _ _); exact at_K (by rfl) (by rfl) (by decide) (by k_asm) (by k_asm) (by k_is) (by k_asm)) | fail
  k_with "atB" => k_dflt first | ((with_reducible show At _ _ _ _ (.Name _ _) _ _ _); exact at_B (by rfl) (by rfl) (by decide) (by k_asm) (by k_asm) (by k_is) (by boot_fast) (by decide) (by k_asm)) | fail
  k_with "at" => k_dflt first | ((with_reducible show At _ _ _ _ (.Constant _ _ _) _ _ _); first | exact at_S | exact at_I | exact at_N) | k_extra "at0" | ((with_reducible show At _ _ _ _ (.Attribute (.Name _ _) _ _) _ _ _); exact at_attr (by k_asm) (by k_asm) (by k_extra "at0") (by k_inst) (by k_get) (by k_is) (by k_is) (by k_is) (by k_is) (by first | exact rfl | k_handed)) | ((with_reducible show At _ _ _ _ (.BinOp _ .Add _ _) _ _ _); exact at_add (by k_extra "at") (by k_extra "at")) | k_extra "atF" | fail
  k_with "spl" => k_dflt first | exact spl0 | ((with_reducible show Spl _ _ _ _ [_] _ _ _); exact spl1 (by k_extra "at")) | ((with_reducible show Spl _ _ _ _ [_, _] _ _ _); exact spl2 (by k_extra "at") (by k_extra "at")) | ((with_reducible show Spl _ _ _ _ (_ :: _) _ _ _); exact splC (by k_extra "at") (by k_extra "spl")) | fail
  k_with "eval Call Attribute" => with_reducible (k_here; show wpAny _ _ (eval (.Call (.Attribute _ _ _) _ [] _) _) _ _ _; first | refine mcall (by k_extra "spl") (by k_dflt exact rfl) (by k_dflt k_asm) (by k_dflt k_asm) (by k_extra "at") (by k_dflt k_inst) (by k_get) (by k_is) (by k_is) (by k_is) (by k_is) (by k_dflt exact rfl) ?_ | fail)
  k_with "eval Call" => first | with_reducible (k_here; show wpAny _ _ (eval (.Call (.Name _ _) _ [] _) _) _ _ _; first | refine fcall (by k_extra "spl") (by k_dflt exact rfl) (by k_dflt k_asm) (by k_dflt k_asm) (by k_extra "atF") (by k_is) (by k_dflt exact rfl) ?_ | ((first | show wpAny _ _ (eval (.Call (.Name (Str.ofString "len") _) _ _ _) _) _ _ _ | show wpAny _ _ (eval (.Call (.Name (Str.ofString "min") _) _ _ _) _) _ _ _); refine bcall (by k_extra "spl") (by k_extra "atB") (by k_dflt exact rfl) ?_) | fail) | (k_here; k_dflt (refine Call_ ?_)) | fail
  k_with "spliced" => first | with_reducible (k_here; first | refine spl_use (by k_extra "spl") ?_ | fail) | (k_dflt (first | refine spliced_more ?_ | refine spliced_none ?_)) | fail
  k_with "eval Subscript" => with_reducible (k_here; show wpAny _ _ (eval (.Subscript _ _ _) _) _ _ _; first | refine sub_at (by k_extra "at") (by k_extra "at") ?_ | fail)
  k_with "eval BinOp" => with_reducible (k_here; show wpAny _ _ (eval (.BinOp _ _ _ _) _) _ _ _; first | refine at_use (by k_extra "at") ?_ | refine bin_at (by k_extra "at") (by k_extra "at") ?_ | fail)
  k_with "isTrue Compare" => with_reducible (k_here; show wpAny _ _ (PySem.isTrue (.Compare _ [_] [_] _) _ _) _ _ _; first | refine cmpT_at (by k_dflt rfl) (by k_extra "at") (by k_extra "at") ?_ | refine cmpT_atL (by k_dflt rfl) (by k_extra "at") ?_ | fail)
  k_with "eval Compare" => with_reducible (k_here; show wpAny _ _ (eval (.Compare _ [_] [_] _) _) _ _ _; first | refine cmp_at (by k_dflt rfl) (by k_extra "at") (by k_extra "at") ?_ | fail)
  k_with "eval Attribute Name" => with_reducible (k_here; first | refine at_use (by k_extra "at") ?_ | fail)
  k_with "eval Name" => with_reducible (k_here; first | refine at_use (by k_extra "at") ?_ | fail)
  k_with "itemAt" => (k_here; (with_reducible show wpAny _ _ (subscriptTail _ _ (Value.ref _) (Value.int _ _)) _ _ _); with_reducible first | refine item_litK (by with_unfolding_all is_list) (by k_dflt decide) (by k_dflt decide) (by with_unfolding_all rfl) ?_ (by with_unfolding_all rfl) | refine item_tupleT (by k_dflt exact News.isTup (by k_asm) (by k_mem)) (by k_dflt decide) (by k_dflt decide) (by k_dflt rfl) (by k_dflt rfl) ?_ | fail); k_whole
  k_with "turned" => (k_here; k_dflt (refine kba_turn (value' := PySem.Expr.Name (PySem.Str.ofString "_") ⟨0, 0, 0, 0⟩) (fun _ => rfl) ?_))
  k_with "subscriptTail Name Constant ref int" => first | k_extra "subscriptTail" | k_extra "itemAt" | fail
  k_with "subscriptTail Subscript Constant ref int" => k_extra "itemAt"
  k_with "subscriptTail Name" => k_extra "subscriptTail"
  k_with "subscriptTail Call" => k_extra "turned"
  k_with "subscriptTail BinOp" => k_extra "turned"
  k_with "seq" => first | (k_here; k_gentoks) | ((with_reducible refine wpAny_execs_cons ?_); try dsimp only) | fail
  k_with "execs cons Assign cons" => k_extra "seq"
  k_with "execs cons If cons" => k_extra "seq"
  k_with "execs cons Return nil" => k_extra "seq"
  k_with "exec Assign cons" => (with_reducible show wpAny _ _ (exec (.Assign [.Name _ _] _ _) _) _ _ _); k_dflt (refine wpAny_Assign_Name ?_)
  k_with "exec If" => refine wpAny_If ?_
  k_with "eval Call Name cons nil" => k_extra "eval Call"
  k_with "isTrue Compare Name cons cons" => k_extra "isTrue Compare"
  k_with "truthy bool false" => refine wpAny_truthy_bool ?_
  k_with "truthy bool" => refine wpAny_truthy_bool ?_
  k_with "room" => first | exact lb0 (j := 1) (by assumption) rfl | exact lb2 (j := 1) (by assumption) (by assumption) rfl
  k_with "om" => first | (k_whole; first | exact lb0 (by assumption) rfl | exact lb1 (by assumption) rfl | exact lb2 (by assumption) (by assumption) rfl | exact lb4 (by assumption) rfl | exact Nat.le_of_succ_le (by assumption)) | omega
  k_with "steps" => repeat' (first | ((with_reducible show wpAny _ _ (exec _ _) _ _ _); (fail_if_success (fail_if_success k_fold)); k_extra "fold") | ((fail_if_success (fail_if_success k_unfold)); first | dsimp only [qk] | dsimp only [ek] | (k_unfold; (try dsimp only))) | (k_end; wrow_close) | walk1 | (dsimp only; walk1) | (leave1; walk_say "STEP leave1"; try dsimp only) | fail)
  trivial
namespace Mine
set_option maxRecDepth 100000
set_option maxHeartbeats 0
example : True := by
  k_with "mem" => first | ktr_member | (refine List.mem_cons_of_mem _ ?_; k_mem)
  trivial
example : True := by
  k_with "nws" => first | k_asm | exact newsTl (by assumption) | exact newsTl (newsTl (by assumption)) | exact newsTl2 (by assumption)
  trivial
section
variable {w : World} {p : Program} {loose : List Str} {mean : ExcName → Option Value} {mg mb : Str → Option Value} {dp un : Nat} {gd : Option (List Code)} {cn : Str} {cs : Scope} {a : Addr} {ccd : Value} {cl : List (Str × Addr)} {outer : List Env} {A₀ : Around} {base h₀ : Heap} {L : Addr} {m : Str → Option Value}
  {news : List (Addr × Obj)} {s : Shared} {Q E : Value → Shared → Prop} {rdr dct tl nd : Addr} {hs1 hs2 hs3 : Int} {u1 u2 u3 t : Tok} {tas : List Addr} {n : Nat} {pos : Nat} {ws : List Wd} {keep : List (Addr × Obj)}
example : True := by
  k_with "upd" => exact updF_upd (by assumption) _
  trivial
example : True := by
  k_with "rel" => first | (with_reducible assumption) | exact dle1 (by with_reducible assumption) rfl | k_extra "om" | exact rfl | (refine RdIn.mono (by with_reducible assumption) ?_; (intro _ hz; first | exact hz | exact .tail _ hz | exact .tail _ (.tail _ hz) | exact .tail _ (.tail _ (.tail _ hz)) | exact .tail _ (.tail _ (.tail _ (.tail _ hz))))) | exact upd1 (by assumption) (by with_reducible assumption) (by with_reducible assumption) | exact upd0 (by with_reducible assumption) (by with_reducible assumption) | exact updC1 (by with_reducible assumption) (by with_reducible assumption) (by with_reducible assumption) (by exact Nat.ne_of_gt (Nat.lt_succ_of_lt (by k_extra "om"))) | exact apT (by with_reducible assumption) (by with_reducible assumption) | exact newsTl (newsTl (by with_reducible assumption)) | (refine Kept.mono (by with_reducible assumption) ?_; (intro _ hz; first | exact hz | exact .tail _ hz | exact .tail _ (.tail _ hz) | exact .tail _ (.tail _ (.tail _ hz)) | exact .tail _ (.tail _ (.tail _ (.tail _ hz))) | exact .tail _ (.tail _ (.tail _ (.tail _ (.tail _ hz)))) | exact .tail _ (.tail _ (.tail _ (.tail _ (.tail _ (.tail _ hz))))))) | ((try dsimp only [ktrTop, Around.deeper]); k_extra "om") | assumption | k_mem | k_updF
  trivial
example : True := by
  k_with "call ref" => (k_here; (try dsimp only [List.nil_append, List.cons_append, List.append_nil]); (with_reducible show wpAny _ _ (call (Value.ref 272) [Value.ref _]) _ _ _); k_dflt (first | refine' peek0_some (by ktr_rel) (by ktr_rel) (by ktr_rel) (by ktr_rel) (by ktr_rel) (by ktr_rel) (by ktr_rel) (by ktr_rel) (by ktr_rel) (by ktr_rel) (by ktr_rel) ?_ | refine' peek0_none (by ktr_rel) (by ktr_rel) (by ktr_rel) (by ktr_rel) (by ktr_rel) (by ktr_rel) (by ktr_rel) (by ktr_rel) (by ktr_rel) (by ktr_rel) (by ktr_rel) ?_); k_whole; intro h' tk' F' N'; (try k_sweep))
  trivial
example : True := by
  k_with "call ref" => (k_here; (try dsimp only [List.nil_append, List.cons_append, List.append_nil]); (with_reducible show wpAny _ _ (call (Value.ref 272) [Value.ref _, Value.int _ _]) _ _ _); k_dflt (first | refine' peek_some0 (by ktr_rel) (by ktr_rel) (by ktr_rel) (by ktr_rel) (by ktr_rel) (by ktr_rel) (by ktr_rel) (by ktr_rel) (by ktr_rel) (by ktr_rel) (by ktr_rel) ?_ | refine' peek_none0 (by ktr_rel) (by ktr_rel) (by ktr_rel) (by ktr_rel) (by ktr_rel) (by ktr_rel) (by ktr_rel) (by ktr_rel) (by ktr_rel) (by ktr_rel) (by ktr_rel) ?_ | refine' peek_some1 (by ktr_rel) (by ktr_rel) (by ktr_rel) (by ktr_rel) (by ktr_rel) (by ktr_rel) (by ktr_rel) (by ktr_rel) (by ktr_rel) (by ktr_rel) (by ktr_rel) ?_ | refine' peek_none1 (by ktr_rel) (by ktr_rel) (by ktr_rel) (by ktr_rel) (by ktr_rel) (by ktr_rel) (by ktr_rel) (by ktr_rel) (by ktr_rel) (by ktr_rel) (by ktr_rel) ?_); k_whole; intro h' tk' F' N'; (try k_sweep))
  trivial
example : True := by
  k_with "call ref" => (k_here; (try dsimp only [List.nil_append, List.cons_append, List.append_nil]); (with_reducible show wpAny _ _ (call (Value.ref 301) [Value.ref _, Value.str _ _]) _ _ _); k_dflt (first | refine' isk_c (tk2 := 0) (by ktr_rel) (by ktr_rel) (by ktr_rel) (by ktr_rel) (by ktr_rel) (by ktr_rel) (by ktr_rel) (by ktr_rel) (by ktr_rel) (by ktr_rel) (by ktr_rel) ?_); k_whole; intro h' tk' F' N'; (try k_sweep))
  trivial
example : True := by
  k_with "call ref" => (k_here; (try dsimp only [List.nil_append, List.cons_append, List.append_nil]); (with_reducible show wpAny _ _ (call (Value.ref 301) [Value.ref _, Value.str _ _, Value.int _ _]) _ _ _); k_dflt (first | refine' isk0_c (by ktr_rel) (by ktr_rel) (by ktr_rel) (by ktr_rel) (by ktr_rel) (by ktr_rel) (by ktr_rel) (by ktr_rel) (by ktr_rel) (by ktr_rel) (by ktr_rel) ?_ | refine' isk1_c (by ktr_rel) (by ktr_rel) (by ktr_rel) (by ktr_rel) (by ktr_rel) (by ktr_rel) (by ktr_rel) (by ktr_rel) (by ktr_rel) (by ktr_rel) (by ktr_rel) ?_); k_whole; intro h' tk' F' N'; (try k_sweep))
  trivial
example : True := by
  k_with "call ref" => (k_here; (try dsimp only [List.nil_append, List.cons_append, List.append_nil]); (with_reducible show wpAny _ _ (call (Value.ref 366) [Value.ref _, Value.str _ _]) _ _ _); k_dflt (first | refine' iss_c (by ktr_rel) (by ktr_rel) (by ktr_rel) (by ktr_rel) (by ktr_rel) (by ktr_rel) (by ktr_rel) (by ktr_rel) (by ktr_rel) (by ktr_rel) (by ktr_rel) ?_); k_whole; intro h' tk' F' N'; (try k_sweep))
  trivial
example : True := by
  k_with "call ref" => (k_here; (try dsimp only [List.nil_append, List.cons_append, List.append_nil]); (with_reducible show wpAny _ _ (call (Value.ref 293) [Value.ref _]) _ _ _); k_dflt (first | refine' take_c (by ktr_rel) (by ktr_rel) (by ktr_rel) (by ktr_rel) (by ktr_rel) (by ktr_rel) (by ktr_rel) (by ktr_rel) (by ktr_rel) (by ktr_rel) (by ktr_rel) (by ktr_rel) ?_); k_whole; intro h' tk' t' F' N'; (try k_sweep))
  trivial
example : True := by
  k_with "call ref" => (k_here; (try dsimp only [List.nil_append, List.cons_append, List.append_nil]); (with_reducible show wpAny _ _ (call (Value.ref 373) [Value.ref _, Value.str _ _]) _ _ _); k_dflt (first | refine' skip_no (by ktr_rel) (by ktr_rel) (by ktr_rel) (by ktr_rel) (by ktr_rel) (by ktr_rel) (by ktr_rel) (by ktr_rel) (by ktr_rel) (by ktr_rel) (by ktr_rel) ?_); k_whole; intro h' tk' F' N'; (try k_sweep))
  trivial
example : True := by
  k_with "call ref" => (k_here; (try dsimp only [List.nil_append, List.cons_append, List.append_nil]); (with_reducible show wpAny _ _ (call (Value.ref 373) [Value.ref _, Value.str _ _]) _ _ _); k_dflt (first | refine' skip_yes (by ktr_rel) (by ktr_rel) (by ktr_rel) (by ktr_rel) (by ktr_rel) (by ktr_rel) (by ktr_rel) (by ktr_rel) (by ktr_rel) (by ktr_rel) (by ktr_rel) (by ktr_rel) ?_); k_whole; intro h' tk' t' F' N'; (try k_sweep))
  trivial
example : True := by
  k_with "call ref" => (k_here; (try dsimp only [List.nil_append, List.cons_append, List.append_nil]); (with_reducible show wpAny _ _ (call (Value.ref 195) [Value.ref _, Value.ref _]) _ _ _); k_dflt (refine' sign_c (by ktr_rel) (by ktr_rel) (by ktr_rel) (by ktr_rel) (by ktr_rel) (by ktr_rel) (by ktr_rel) (by ktr_rel) (by ktr_rel) (by ktr_rel) (by ktr_rel) (by first | exact .cons _ _ (.cons _ _ .nil) | exact .cons _ _ .nil) (by ktr_rel) ?_); k_whole; intro h' tk' tr' F' N'; (try k_sweep))
  trivial
example : True := by
  k_with "call ref" => (k_here; (try dsimp only [List.nil_append, List.cons_append, List.append_nil]); (with_reducible show wpAny _ _ (call (Value.ref 286) [Value.ref _, Value.str _ _]) _ _ _); k_dflt (refine' fault_c (by ktr_rel) (by ktr_rel) (by ktr_rel) (by ktr_rel) (by ktr_rel) (by ktr_rel) (by ktr_rel) (by ktr_rel) (by ktr_rel) (by ktr_rel) (by first | assumption | exact Fr.keep (by assumption) _ _ (by assumption)) (by ktr_rel) (by ktr_rel) ?_; k_whole); intro h' tk' e' dx' ax' k1' k2' t1' t2' att' t3' t4' n' F' N' hatt'; (try k_sweep))
  trivial
example : True := by
  k_with "exec Raise some none" => (k_here; k_dflt (refine' raise_K ?k1 ?k2 ?k3 ?_; (case k1 => exact rfl); (case k2 => k_asm); (case k3 => k_asm)); (try k_fold))
  trivial
example : True := by
  k_with "call ref" => (k_here; (try dsimp only [List.nil_append, List.cons_append, List.append_nil]); (with_reducible show wpAny _ _ (call (Value.ref 202) [Value.ref _, Value.int _ _]) _ _ _); k_dflt (show wpAny _ _ (call (Value.ref 202) [Value.ref _, Value.int ((d + 1 : Nat) : Int) _]) _ _ _); k_dflt (refine' does_use (by assumption) (by assumption) (by ktr_rel) (by ktr_rel) (by ktr_rel) (by first | (with_reducible assumption) | exact newsTl (by with_reducible assumption) | exact newsTl (newsTl (by with_reducible assumption)) | exact newsTl2 (by with_reducible assumption)) (by ktr_rel) (by ktr_rel) (by ktr_rel) (by ktr_rel) (by ktr_rel) (by ktr_rel) (by ktr_rel) (by ktr_rel) (by first | assumption | exact Fr.keep (by assumption) _ _ (by assumption)) (by ktr_rel) (by ktr_rel) (by ktr_rel) (by ktr_rel) ?_ ?_); k_whole; intro v' t' h' tk' tr' ps' news' e' F' N' R' ap' tb' sub' D' hq'; (have hz2 := mem_t2 N' R'.rd); (have hkq2 := kept_tab N' (hkp.mono sub')); (rcases hsome _ e' with ⟨hb1, hr1, hqq1, hq2⟩ | ⟨hb1, hr1, hqq1⟩); (all_goals (try k_sweep)); rotate_left; rotate_left; k_whole; intro e0' e' h' tk' ps9' hh' tb9' r' Fh' uh'; rotate_right)
  trivial
example : True := by
  k_with "eval Lambda" => (k_here; k_dflt (refine' lam_K (by ktr_rel) (by ktr_rel) (by ktr_rel) (by ktr_rel) (by exact rfl) (updC2 (by with_reducible assumption) (by with_reducible assumption) (by with_reducible assumption) (by exact Nat.ne_of_gt (Nat.lt_succ_of_lt (by omega)))) (by exact tb) (by exact rfl) (by exact rfl) ?_); k_whole; intro f' h' tk' ps' tb' F' N'; (have hz2 := mem_t4 N' R.rd); (have hkq' := kept_l4 N' hkp); (try k_sweep))
  trivial
example : True := by
  k_with "call ref" => (k_here; (try dsimp only [List.nil_append, List.cons_append, List.append_nil]); (with_reducible show wpAny _ _ (call (Value.ref 181) [Value.ref _, Value.ref _]) _ _ _); k_dflt (first | refine' operand_c (by ktr_rel) (by ktr_rel) (by ktr_rel) (by ktr_rel) (by ktr_rel) (by ktr_rel) (by ktr_rel) (by ktr_rel) (by ktr_rel) (by ktr_rel) (by ktr_rel) (by ktr_rel) ?_); k_whole; intro h' tk' t' tp' ta' t1' t2' t3' k1' k2' F' N'; (try k_sweep))
  trivial
example : True := by
  k_with "call ref" => (k_here; (try dsimp only [List.nil_append, List.cons_append, List.append_nil]); (with_reducible show wpAny _ _ (call (Value.ref 181) [Value.ref _, Value.ref _]) _ _ _); k_dflt (first | refine' operand_nw (by ktr_rel) (by ktr_rel) (by ktr_rel) (by ktr_rel) (by ktr_rel) (by ktr_rel) (by ktr_rel) (by ktr_rel) (by ktr_rel) (by ktr_rel) (by first | assumption | exact Fr.keep (by assumption) _ _ (by assumption)) (by ktr_rel) (by ktr_rel) (by ktr_rel) (by ktr_rel) (by ktr_rel) (by ktr_rel) (by ktr_rel) (by ktr_rel) ?_ | refine' operand_th (by ktr_rel) (by ktr_rel) (by ktr_rel) (by ktr_rel) (by ktr_rel) (by ktr_rel) (by ktr_rel) (by ktr_rel) (by ktr_rel) (by ktr_rel) (by first | assumption | exact Fr.keep (by assumption) _ _ (by assumption)) (by ktr_rel) (by ktr_rel) (by ktr_rel) (by ktr_rel) (by ktr_rel) (by ktr_rel) (by ktr_rel) (by ktr_rel) ?_); k_whole; intro e' h' tk' hh' r' Fh' uh')
  trivial
example : True := by
  k_with "call ref" => (k_here; (try dsimp only [List.nil_append, List.cons_append, List.append_nil]); (with_reducible show wpAny _ _ (call (Value.ref 380) [Value.ref _, Value.str _ _]) _ _ _); k_dflt (first | refine' need_yes (by ktr_rel) (by ktr_rel) (by ktr_rel) (by ktr_rel) (by ktr_rel) (by ktr_rel) (by ktr_rel) (by ktr_rel) (by ktr_rel) (by ktr_rel) (by ktr_rel) (by ktr_rel) ?_); k_whole; intro h' tk' t' F' N'; (try k_sweep))
  trivial
example : True := by
  k_with "call ref" => (k_here; (try dsimp only [List.nil_append, List.cons_append, List.append_nil]); (with_reducible show wpAny _ _ (call (Value.ref 380) [Value.ref _, Value.str _ _]) _ _ _); k_dflt (first | refine' need_no (by ktr_rel) (by ktr_rel) (by ktr_rel) (by ktr_rel) (by ktr_rel) (by ktr_rel) (by ktr_rel) (by ktr_rel) (by ktr_rel) (by ktr_rel) (by first | assumption | exact Fr.keep (by assumption) _ _ (by assumption)) (by ktr_rel) (by ktr_rel) (by ktr_rel) (by ktr_rel) ?_); k_whole; intro e' h' tk' hh' r' Fh' uh')
  trivial
theorem prim_lv {k : Nat} (IH : Does w p loose mean mg mb rdr dct tl nd hs1 hs2 hs3 u1 u2 u3 tas n ws 202 0 21 .sum k) : Does w p loose mean mg mb rdr dct tl nd hs1 hs2 hs3 u1 u2 u3 tas n ws 237 8 20 .prim (k + 1) := by
  intro dp un gd cn cs a ccd cl outer A₀ base h₀ L m news s Q E t pos d td ps r q keep B F X N T hk hdp hun R ap h232 tb hb hne hp hd hrun hkp ret err
  revert X; k_fill; intro X
  have hrd := mem_t2 N R.rd
  have hkq := kept_tab N hkp
  rcases prim_turn hrun with ⟨hsg, hnz, hrr, hqq⟩ | ⟨hsg, hlp, hw, hdec, hrr, hqq⟩ | ⟨hsg, hlp, hkw, hs1, hs2, hs3, hs4, hrr, hqq⟩ | ⟨hsg, hlp, hw, hs1, hs2, hs3, hs4, hrr, hqq⟩ | ⟨hsg, hlp, hq3, hrun0, hnone, hsome⟩
  · rw [hqq] at err
    refine wpAny_call ?_
    k_dflt k_enter
    k_extra "steps"
    all_goals first
      | (unfold RzK; refine ⟨_, _, _, rfl, by k_asm, (News.get (by k_asm) (by k_mem)), ?_⟩; (try k_unfold); (try dsimp only); refine err_firstC (by assumption) (by k_asm) (by k_asm) (by k_mem) (by k_mem) (List.Mem.tail _ (List.Mem.tail _ (by assumption))) (by first | (with_reducible assumption) | (refine Kept.mono (by with_reducible assumption) ?_; (intro _ hz; first | exact hz | exact .tail _ hz | exact .tail _ (.tail _ hz) | exact .tail _ (.tail _ (.tail _ hz)) | exact .tail _ (.tail _ (.tail _ (.tail _ hz))) | exact .tail _ (.tail _ (.tail _ (.tail _ (.tail _ hz)))) | exact .tail _ (.tail _ (.tail _ (.tail _ (.tail _ (.tail _ hz)))))))) ?_; intro h9 r9 u9; (try dsimp only); exact err hrr _ _ _ _ _ tb r9 (by assumption) u9)
      | trace_state
  · 
    refine wpAny_call ?_
    k_dflt k_enter
    k_extra "steps"
    all_goals first
      | (rw [hqq] at ret; rename News _ _ _ _ => NN; exact ret _ _ _ _ _ _ _ hrr (by k_asm) (lift1 (lift2 (lift3 NN))) (R.mono fun z h => .tail _ (.tail _ h)) (apl1 (lift2 (lift3 NN)) (apl1 (newsTl (lift3 NN)) ap)) tb' (fun z h => .tail _ (.tail _ h)) (datNum (.head _) (.tail _ (.head _))) (lt_of_get hw))
      | trace_state
  · 
    refine wpAny_call ?_
    k_dflt k_enter
    k_extra "steps"
    all_goals first
      | ((try k_unfold); (try dsimp only); (rw [hqq] at err); refine err_nextC (by assumption) (by assumption) (by assumption) (by assumption) ?_; intro h9 r9 u9; (try dsimp only); exact err hrr _ _ _ _ _ tb' r9 (by assumption) u9)
      | trace_state
  · 
    refine wpAny_call ?_
    k_dflt k_enter
    k_extra "steps"
    all_goals first
      | ((try k_unfold); (try dsimp only); (rw [hqq] at err); refine err_nextC (by assumption) (by assumption) (by assumption) (by assumption) ?_; intro h9 r9 u9; (try dsimp only); exact err hrr _ _ _ _ _ tb' r9 (by assumption) u9)
      | trace_state
  · 
    refine wpAny_call ?_
    k_dflt k_enter
    k_extra "steps"
    all_goals first
      | (rw [hqq1] at ret; exact ret _ _ _ _ _ _ _ hr1 (by k_asm) (by k_extra "nws") R' ap' tb' sub' D' hq2)
      | ((try k_unfold); (try dsimp only); (rw [hqq1] at err); refine err_nextC (by assumption) (by assumption) (by assumption) (by assumption) ?_; intro h9 r9 u9; (try dsimp only); exact err hr1 _ _ _ _ _ tb' r9 (by assumption) u9)
      | ((try k_unfold); (try dsimp only); (obtain ⟨hz1, hz2⟩ := hnone e0'); (rw [hz2] at err); refine err_nextC (by assumption) (by assumption) (by assumption) (by assumption) ?_; intro h9 r9 u9; (try dsimp only); exact err hz1 _ _ _ _ _ tb9' r9 (by assumption) u9)
      | trace_state
end
end Mine
end
section
open PySem PySem.W PyProof.Rows PySem.Spec PySem.Calls
set_option Elab.async false
example : True := by k_with_none; trivial
example : True := by
  k_with "fold" => (refine folds ?_; intro qk ek)
  k_with "at0" => (with_reducible show At _ _ _ _ (.Name _ _) _ _ _); exact at_L (by rfl) (by rfl) (by decide) (by k_asm) (Eq.refl (some _))
  k_with "atF" => k_dflt first | k_extra "at0" | ((with_reducible show At _ _ _ _ (.Name _ _) _ _ _); exact at_K (by rfl) (by rfl) (by decide) (by k_asm) (by k_asm) (by k_is) (by k_asm)) | fail
  k_with "atB" => k_dflt first | ((with_reducible show At _ _ _ _ (.Name _ _) _ _ _); exact at_B (by rfl) (by rfl) (by decide) (by k_asm) (by k_asm) (by k_is) (by boot_fast) (by decide) (by k_asm)) | fail
  k_with "at" => k_dflt first | ((with_reducible show At _ _ _ _ (.Constant _ _ _) _ _ _); first | exact at_S | exact at_I | exact at_N) | k_extra "at0" | ((with_reducible show At _ _ _ _ (.Attribute (.Name _ _) _ _) _ _ _); exact at_attr (by k_asm) (by k_asm) (by k_extra "at0") (by k_inst) (by k_get) (by k_is) (by k_is) (by k_is) (by k_is) (by first | exact rfl | k_handed)) | ((with_reducible show At _ _ _ _ (.BinOp _ .Add _ _) _ _ _); exact at_add (by k_extra "at") (by k_extra "at")) | k_extra "atF" | fail
  k_with "spl" => k_dflt first | exact spl0 | ((with_reducible show Spl _ _ _ _ [_] _ _ _); exact spl1 (by k_extra "at")) | ((with_reducible show Spl _ _ _ _ [_, _] _ _ _); exact spl2 (by k_extra "at") (by k_extra "at")) | ((with_reducible show Spl _ _ _ _ (_ :: _) _ _ _); exact splC (by k_extra "at") (by k_extra "spl")) | fail
  k_with "eval Call Attribute" => with_reducible (k_here; show wpAny _ _ (eval (.Call (.Attribute _ _ _) _ [] _) _) _ _ _; first | refine mcall (by k_extra "spl") (by k_dflt exact rfl) (by k_dflt k_asm) (by k_dflt k_asm) (by k_extra "at") (by k_dflt k_inst) (by k_get) (by k_is) (by k_is) (by k_is) (by k_is) (by k_dflt exact rfl) ?_ | fail)
  k_with "eval Call" => first | with_reducible (k_here; show wpAny _ _ (eval (.Call (.Name _ _) _ [] _) _) _ _ _; first | refine fcall (by k_extra "spl") (by k_dflt exact rfl) (by k_dflt k_asm) (by k_dflt k_asm) (by k_extra "atF") (by k_is) (by k_dflt exact rfl) ?_ | ((first | show wpAny _ _ (eval (.Call (.Name (Str.ofString "len") _) _ _ _) _) _ _ _ | show wpAny _ _ (eval (.Call (.Name (Str.ofString "min") _) _ _ _) _) _ _ _); refine bcall (by k_extra "spl") (by k_extra "atB") (by k_dflt exact rfl) ?_) | fail) | (k_here; k_dflt (refine Call_ ?_)) | fail
  k_with "spliced" => first | with_reducible (k_here; first | refine spl_use (by k_extra "spl") ?_ | fail) | (k_dflt (first | refine spliced_more ?_ | refine spliced_none ?_)) | fail
  k_with "eval Subscript" => with_reducible (k_here; show wpAny _ _ (eval (.Subscript _ _ _) _) _ _ _; first | refine sub_at (by k_extra "at") (by k_extra "at") ?_ | fail)
  k_with "eval BinOp" => with_reducible (k_here; show wpAny _ _ (eval (.BinOp _ _ _ _) _) _ _ _; first | refine at_use (by k_extra "at") ?_ | refine bin_at (by k_extra "at") (by k_extra "at") ?_ | fail)
  k_with "isTrue Compare" => with_reducible (k_here; show wpAny _ _ (PySem.isTrue (.Compare _ [_] [_] _) _ _) _ _ _; first | refine cmpT_at (by k_dflt rfl) (by k_extra "at") (by k_extra "at") ?_ | refine cmpT_atL (by k_dflt rfl) (by k_extra "at") ?_ | fail)
  k_with "eval Compare" => with_reducible (k_here; show wpAny _ _ (eval (.Compare _ [_] [_] _) _) _ _ _; first | refine cmp_at (by k_dflt rfl) (by k_extra "at") (by k_extra "at") ?_ | fail)
  k_with "eval Attribute Name" => with_reducible (k_here; first | refine at_use (by k_extra "at") ?_ | fail)
  k_with "eval Name" => with_reducible (k_here; first | refine at_use (by k_extra "at") ?_ | fail)
  k_with "itemAt" => (k_here; (with_reducible show wpAny _ _ (subscriptTail _ _ (Value.ref _) (Value.int _ _)) _ _ _); with_reducible first | refine item_litK (by with_unfolding_all is_list) (by k_dflt decide) (by k_dflt decide) (by with_unfolding_all rfl) ?_ (by with_unfolding_all rfl) | refine item_tupleT (by k_dflt exact News.isTup (by k_asm) (by k_mem)) (by k_dflt decide) (by k_dflt decide) (by k_dflt rfl) (by k_dflt rfl) ?_ | fail); k_whole
  k_with "turned" => (k_here; k_dflt (refine kba_turn (value' := PySem.Expr.Name (PySem.Str.ofString "_") ⟨0, 0, 0, 0⟩) (fun _ => rfl) ?_))
  k_with "subscriptTail Name Constant ref int" => first | k_extra "subscriptTail" | k_extra "itemAt" | fail
  k_with "subscriptTail Subscript Constant ref int" => k_extra "itemAt"
  k_with "subscriptTail Name" => k_extra "subscriptTail"
  k_with "subscriptTail Call" => k_extra "turned"
  k_with "subscriptTail BinOp" => k_extra "turned"
  k_with "seq" => first | (k_here; k_gentoks) | ((with_reducible refine wpAny_execs_cons ?_); try dsimp only) | fail
  k_with "execs cons Assign cons" => k_extra "seq"
  k_with "execs cons If cons" => k_extra "seq"
  k_with "execs cons Return nil" => k_extra "seq"
  k_with "exec Assign cons" => (with_reducible show wpAny _ _ (exec (.Assign [.Name _ _] _ _) _) _ _ _); k_dflt (refine wpAny_Assign_Name ?_)
  k_with "exec If" => refine wpAny_If ?_
  k_with "eval Call Name cons nil" => k_extra "eval Call"
  k_with "isTrue Compare Name cons cons" => k_extra "isTrue Compare"
  k_with "truthy bool false" => refine wpAny_truthy_bool ?_
  k_with "truthy bool" => refine wpAny_truthy_bool ?_
  k_with "room" => first | exact lb0 (j := 1) (by assumption) rfl | exact lb2 (j := 1) (by assumption) (by assumption) rfl
  k_with "om" => first | (k_whole; first | exact lb0 (by assumption) rfl | exact lb1 (by assumption) rfl | exact lb2 (by assumption) (by assumption) rfl | exact lb4 (by assumption) rfl | exact Nat.le_of_succ_le (by assumption)) | omega
  k_with "steps" => repeat' (first | ((with_reducible show wpAny _ _ (exec _ _) _ _ _); (fail_if_success (fail_if_success k_fold)); k_extra "fold") | ((fail_if_success (fail_if_success k_unfold)); first | dsimp only [qk] | dsimp only [ek] | (k_unfold; (try dsimp only))) | (k_end; wrow_close) | walk1 | (dsimp only; walk1) | (leave1; walk_say "STEP leave1"; try dsimp only) | fail)
  trivial
namespace Mine
set_option maxRecDepth 100000
set_option maxHeartbeats 0
example : True := by
  k_with "mem" => first | ktr_member | (refine List.mem_cons_of_mem _ ?_; k_mem)
  trivial
example : True := by
  k_with "nws" => first | k_asm | exact newsTl (by assumption) | exact newsTl (newsTl (by assumption)) | exact newsTl2 (by assumption)
  trivial
section
variable {w : World} {p : Program} {loose : List Str} {mean : ExcName → Option Value} {mg mb : Str → Option Value} {dp un : Nat} {gd : Option (List Code)} {cn : Str} {cs : Scope} {a : Addr} {ccd : Value} {cl : List (Str × Addr)} {outer : List Env} {A₀ : Around} {base h₀ : Heap} {L : Addr} {m : Str → Option Value}
  {news : List (Addr × Obj)} {s : Shared} {Q E : Value → Shared → Prop} {rdr dct tl nd : Addr} {hs1 hs2 hs3 : Int} {u1 u2 u3 t : Tok} {tas : List Addr} {n : Nat} {pos : Nat} {ws : List Wd} {keep : List (Addr × Obj)}
example : True := by
  k_with "upd" => exact updF_upd (by assumption) _
  trivial
example : True := by
  k_with "rel" => first | (with_reducible assumption) | exact dle1 (by with_reducible assumption) rfl | k_extra "om" | exact rfl | (refine RdIn.mono (by with_reducible assumption) ?_; (intro _ hz; first | exact hz | exact .tail _ hz | exact .tail _ (.tail _ hz) | exact .tail _ (.tail _ (.tail _ hz)) | exact .tail _ (.tail _ (.tail _ (.tail _ hz))))) | exact upd1 (by assumption) (by with_reducible assumption) (by with_reducible assumption) | exact upd0 (by with_reducible assumption) (by with_reducible assumption) | exact updC1 (by with_reducible assumption) (by with_reducible assumption) (by with_reducible assumption) (by exact Nat.ne_of_gt (Nat.lt_succ_of_lt (by k_extra "om"))) | exact apT (by with_reducible assumption) (by with_reducible assumption) | exact newsTl (newsTl (by with_reducible assumption)) | (refine Kept.mono (by with_reducible assumption) ?_; (intro _ hz; first | exact hz | exact .tail _ hz | exact .tail _ (.tail _ hz) | exact .tail _ (.tail _ (.tail _ hz)) | exact .tail _ (.tail _ (.tail _ (.tail _ hz))) | exact .tail _ (.tail _ (.tail _ (.tail _ (.tail _ hz)))) | exact .tail _ (.tail _ (.tail _ (.tail _ (.tail _ (.tail _ hz))))))) | ((try dsimp only [ktrTop, Around.deeper]); k_extra "om") | assumption | k_mem | k_updF
  trivial
example : True := by
  k_with "call ref" => (k_here; (try dsimp only [List.nil_append, List.cons_append, List.append_nil]); (with_reducible show wpAny _ _ (call (Value.ref 272) [Value.ref _]) _ _ _); k_dflt (first | refine' peek0_some (by ktr_rel) (by ktr_rel) (by ktr_rel) (by ktr_rel) (by ktr_rel) (by ktr_rel) (by ktr_rel) (by ktr_rel) (by ktr_rel) (by ktr_rel) (by ktr_rel) ?_ | refine' peek0_none (by ktr_rel) (by ktr_rel) (by ktr_rel) (by ktr_rel) (by ktr_rel) (by ktr_rel) (by ktr_rel) (by ktr_rel) (by ktr_rel) (by ktr_rel) (by ktr_rel) ?_); k_whole; intro h' tk' F' N'; (try k_sweep))
  trivial
example : True := by
  k_with "call ref" => (k_here; (try dsimp only [List.nil_append, List.cons_append, List.append_nil]); (with_reducible show wpAny _ _ (call (Value.ref 272) [Value.ref _, Value.int _ _]) _ _ _); k_dflt (first | refine' peek_some0 (by ktr_rel) (by ktr_rel) (by ktr_rel) (by ktr_rel) (by ktr_rel) (by ktr_rel) (by ktr_rel) (by ktr_rel) (by ktr_rel) (by ktr_rel) (by ktr_rel) ?_ | refine' peek_none0 (by ktr_rel) (by ktr_rel) (by ktr_rel) (by ktr_rel) (by ktr_rel) (by ktr_rel) (by ktr_rel) (by ktr_rel) (by ktr_rel) (by ktr_rel) (by ktr_rel) ?_ | refine' peek_some1 (by ktr_rel) (by ktr_rel) (by ktr_rel) (by ktr_rel) (by ktr_rel) (by ktr_rel) (by ktr_rel) (by ktr_rel) (by ktr_rel) (by ktr_rel) (by ktr_rel) ?_ | refine' peek_none1 (by ktr_rel) (by ktr_rel) (by ktr_rel) (by ktr_rel) (by ktr_rel) (by ktr_rel) (by ktr_rel) (by ktr_rel) (by ktr_rel) (by ktr_rel) (by ktr_rel) ?_); k_whole; intro h' tk' F' N'; (try k_sweep))
  trivial
example : True := by
  k_with "call ref" => (k_here; (try dsimp only [List.nil_append, List.cons_append, List.append_nil]); (with_reducible show wpAny _ _ (call (Value.ref 301) [Value.ref _, Value.str _ _]) _ _ _); k_dflt (first | refine' isk_c (tk2 := 0) (by ktr_rel) (by ktr_rel) (by ktr_rel) (by ktr_rel) (by ktr_rel) (by ktr_rel) (by ktr_rel) (by ktr_rel) (by ktr_rel) (by ktr_rel) (by ktr_rel) ?_); k_whole; intro h' tk' F' N'; (try k_sweep))
  trivial
example : True := by
  k_with "call ref" => (k_here; (try dsimp only [List.nil_append, List.cons_append, List.append_nil]); (with_reducible show wpAny _ _ (call (Value.ref 301) [Value.ref _, Value.str _ _, Value.int _ _]) _ _ _); k_dflt (first | refine' isk0_c (by ktr_rel) (by ktr_rel) (by ktr_rel) (by ktr_rel) (by ktr_rel) (by ktr_rel) (by ktr_rel) (by ktr_rel) (by ktr_rel) (by ktr_rel) (by ktr_rel) ?_ | refine' isk1_c (by ktr_rel) (by ktr_rel) (by ktr_rel) (by ktr_rel) (by ktr_rel) (by ktr_rel) (by ktr_rel) (by ktr_rel) (by ktr_rel) (by ktr_rel) (by ktr_rel) ?_); k_whole; intro h' tk' F' N'; (try k_sweep))
  trivial
example : True := by
  k_with "call ref" => (k_here; (try dsimp only [List.nil_append, List.cons_append, List.append_nil]); (with_reducible show wpAny _ _ (call (Value.ref 366) [Value.ref _, Value.str _ _]) _ _ _); k_dflt (first | refine' iss_c (by ktr_rel) (by ktr_rel) (by ktr_rel) (by ktr_rel) (by ktr_rel) (by ktr_rel) (by ktr_rel) (by ktr_rel) (by ktr_rel) (by ktr_rel) (by ktr_rel) ?_); k_whole; intro h' tk' F' N'; (try k_sweep))
  trivial
example : True := by
  k_with "call ref" => (k_here; (try dsimp only [List.nil_append, List.cons_append, List.append_nil]); (with_reducible show wpAny _ _ (call (Value.ref 293) [Value.ref _]) _ _ _); k_dflt (first | refine' take_c (by ktr_rel) (by ktr_rel) (by ktr_rel) (by ktr_rel) (by ktr_rel) (by ktr_rel) (by ktr_rel) (by ktr_rel) (by ktr_rel) (by ktr_rel) (by ktr_rel) (by ktr_rel) ?_); k_whole; intro h' tk' t' F' N'; (try k_sweep))
  trivial
example : True := by
  k_with "call ref" => (k_here; (try dsimp only [List.nil_append, List.cons_append, List.append_nil]); (with_reducible show wpAny _ _ (call (Value.ref 373) [Value.ref _, Value.str _ _]) _ _ _); k_dflt (first | refine' skip_no (by ktr_rel) (by ktr_rel) (by ktr_rel) (by ktr_rel) (by ktr_rel) (by ktr_rel) (by ktr_rel) (by ktr_rel) (by ktr_rel) (by ktr_rel) (by ktr_rel) ?_); k_whole; intro h' tk' F' N'; (try k_sweep))
  trivial
example : True := by
  k_with "call ref" => (k_here; (try dsimp only [List.nil_append, List.cons_append, List.append_nil]); (with_reducible show wpAny _ _ (call (Value.ref 373) [Value.ref _, Value.str _ _]) _ _ _); k_dflt (first | refine' skip_yes (by ktr_rel) (by ktr_rel) (by ktr_rel) (by ktr_rel) (by ktr_rel) (by ktr_rel) (by ktr_rel) (by ktr_rel) (by ktr_rel) (by ktr_rel) (by ktr_rel) (by ktr_rel) ?_); k_whole; intro h' tk' t' F' N'; (try k_sweep))
  trivial
example : True := by
  k_with "call ref" => (k_here; (try dsimp only [List.nil_append, List.cons_append, List.append_nil]); (with_reducible show wpAny _ _ (call (Value.ref 195) [Value.ref _, Value.ref _]) _ _ _); k_dflt (refine' sign_c (by ktr_rel) (by ktr_rel) (by ktr_rel) (by ktr_rel) (by ktr_rel) (by ktr_rel) (by ktr_rel) (by ktr_rel) (by ktr_rel) (by ktr_rel) (by ktr_rel) (by first | exact .cons _ _ (.cons _ _ .nil) | exact .cons _ _ .nil) (by ktr_rel) ?_); k_whole; intro h' tk' tr' F' N'; (try k_sweep))
  trivial
example : True := by
  k_with "call ref" => (k_here; (try dsimp only [List.nil_append, List.cons_append, List.append_nil]); (with_reducible show wpAny _ _ (call (Value.ref 286) [Value.ref _, Value.str _ _]) _ _ _); k_dflt (refine' fault_c (by ktr_rel) (by ktr_rel) (by ktr_rel) (by ktr_rel) (by ktr_rel) (by ktr_rel) (by ktr_rel) (by ktr_rel) (by ktr_rel) (by ktr_rel) (by first | assumption | exact Fr.keep (by assumption) _ _ (by assumption)) (by ktr_rel) (by ktr_rel) ?_; k_whole); intro h' tk' e' dx' ax' k1' k2' t1' t2' att' t3' t4' n' F' N' hatt'; (try k_sweep))
  trivial
example : True := by
  k_with "exec Raise some none" => (k_here; k_dflt (refine' raise_K ?k1 ?k2 ?k3 ?_; (case k1 => exact rfl); (case k2 => k_asm); (case k3 => k_asm)); (try k_fold))
  trivial
theorem does_zero {f : Addr} {bd dm : Nat} {lv : Lv} : Does w p loose mean mg mb rdr dct tl nd hs1 hs2 hs3 u1 u2 u3 tas n ws f bd dm lv 0 := by
  intro dp un gd cn cs a ccd cl outer A₀ base h₀ L m news s Q E t pos d td ps r q keep B F X N T hk hdp hun R ap h232 tb hb hne hp hd hrun hkp ret err
  cases lv <;> cases hrun
theorem lev_all : ∀ k, Does w p loose mean mg mb rdr dct tl nd hs1 hs2 hs3 u1 u2 u3 tas n ws 202 0 21 .sum k ∧ Does w p loose mean mg mb rdr dct tl nd hs1 hs2 hs3 u1 u2 u3 tas n ws 209 2 20 .prod k ∧ Does w p loose mean mg mb rdr dct tl nd hs1 hs2 hs3 u1 u2 u3 tas n ws 216 4 20 .fac k ∧ Does w p loose mean mg mb rdr dct tl nd hs1 hs2 hs3 u1 u2 u3 tas n ws 230 6 20 .pow k ∧ Does w p loose mean mg mb rdr dct tl nd hs1 hs2 hs3 u1 u2 u3 tas n ws 237 8 20 .prim k := by
  intro k
  induction k using Nat.strongRecOn with
  | ind k ih =>
    cases k with
    | zero => exact ⟨does_zero, does_zero, does_zero, does_zero, does_zero⟩
    | succ k => exact ⟨sum_lv fun k' h => (ih k' (Nat.lt_succ_of_le h)).2.1, prod_lv fun k' h => (ih k' (Nat.lt_succ_of_le h)).2.2.1, fac_lv (ih k (Nat.lt_succ_self k)).2.2.2.1, pow_lv fun k' h => (ih k' (Nat.lt_succ_of_le h)).2.2.2.2, prim_lv (ih k (Nat.lt_succ_self k)).1⟩
example : True := by
  k_with "call ref" => (k_here; (try dsimp only [List.nil_append, List.cons_append, List.append_nil]); (with_reducible show wpAny _ _ (call (Value.ref 202) [Value.ref _, Value.int _ _]) _ _ _); k_dflt (show wpAny _ _ (call (Value.ref 202) [Value.ref _, Value.int ((0 : Nat) : Int) _]) _ _ _); k_dflt (refine' does_use (by assumption) (by assumption) (by ktr_rel) (by ktr_rel) (by ktr_rel) (by first | (with_reducible assumption) | exact newsTl (by with_reducible assumption) | exact newsTl (newsTl (by with_reducible assumption)) | exact newsTl2 (by with_reducible assumption)) (by ktr_rel) (by ktr_rel) (by ktr_rel) (by ktr_rel) (by ktr_rel) (by ktr_rel) (by ktr_rel) (by ktr_rel) (by first | assumption | exact Fr.keep (by assumption) _ _ (by assumption)) (by ktr_rel) (by ktr_rel) (by ktr_rel) (by ktr_rel) ?_ ?_); k_whole; intro v' t' h' tk' tr' ps' news' e' F' N' R' ap' tb' sub' D' hq'; (have hz2 := mem_t2 N' R'.rd); (try k_sweep); rotate_left; k_whole; intro e0' e' h' tk' ps9' hh' tb9' r' Fh' uh'; rotate_right)
  trivial
theorem expr_c {k : Nat} {ps : Array Value} {r : Option Dat} {q : Nat} (hrun : run ws k .sum 0 pos = some (r, q)) (B : Below A₀ base outer h₀) (F : Fr h₀ L s.heap m) (X : (Mine.frag.heap_1 w.params).In h₀) (N : News h₀ L s.heap ((dct, RdD hs1 hs2 hs3 u1 u2 u3 tl nd pos t) :: (232, tabObj ps) :: news)) (T : Top p loose mean mg mb h₀) (hk : cs.kind = .function) (hdp : dp ≤ 390) (hun : un ≤ 2900)
    (R : RdIn news rdr dct tl tas n ws) (ap : Ap dct news) (h232 : dct ≠ 232) (tb : TabOk lineL colL ps) (hb : h₀.get? (nat_lit 0) = some (boot_o_0 w.params)) (hne : 0 < ws.length) (hp : pos ≤ ws.length) (hkp : Kept keep news)
    (ret : ∀ v t' h' tk' tr ps' news', r = some tr → Fr h₀ L h' m → News h₀ L h' ((dct, RdD hs1 hs2 hs3 u1 u2 u3 tl nd q t') :: (232, tabObj ps') :: news') → RdIn news' rdr dct tl tas n ws → Ap dct news' → TabOk lineL colL ps' → (∀ z ∈ news, z ∈ news') → DatIn news' v tr → q ≤ ws.length → Q v { s with heap := h', toks := tk' })
    (err : r = none → ∀ e h' tk' ps' hh, TabOk lineL colL ps' → ErrIn base (envX cn cs L a ccd cl :: outer) e (min q (ws.length - 1)) ((232, tabObj ps') :: keep) hh h' → Fr h₀ L hh m → hh.UpToSlots h' → E (.ref e) { s with heap := h', toks := tk' }) :
    wpAny (model PySem.Challenge.rw_pc0133_01.prog w) (ktrTop dp un gd cn cs L a ccd cl outer) (call (.ref 188) [.ref rdr]) Q E s := by
  have S : Does w p loose mean mg mb rdr dct tl nd hs1 hs2 hs3 u1 u2 u3 tas n ws 202 0 21 .sum k := (lev_all k).1
  revert X; k_fill; intro X
  have hrd := mem_t2 N R.rd
  have hkq := kept_tab N hkp
  refine wpAny_call ?_
  k_dflt k_enter
  k_extra "steps"
  all_goals first
    | exact ret _ _ _ _ _ _ _ e' (by k_asm) (by k_extra "nws") R' ap' tb' sub' D' hq'
    | ((try k_unfold); (try dsimp only); refine err_next (by assumption) (by assumption) (by assumption) (by assumption) ?_; intro h9 r9 u9; (try dsimp only); exact err e0' _ _ _ _ _ tb9' r9 (by assumption) u9)
    | trace_state
end
end Mine
end
section
open PySem PySem.W PyProof.Rows PySem.Spec PySem.Calls
set_option Elab.async false
example : True := by k_with_none; trivial
example : True := by
  k_with "fold" => (refine folds ?_; intro qk ek)
  k_with "at0" => (with_reducible show At _ _ _ _ (.Name _ _) _ _ _); exact at_L (by rfl) (by rfl) (by decide) (by k_asm) (Eq.refl (some _))
  k_with "atF" => k_dflt first | k_extra "at0" | ((with_reducible show At _ _ _ _ (.Name _ _) _ _ _); exact at_K (by rfl) (by rfl) (by decide) (by k_asm) (by k_asm) (by k_is) (by k_asm)) | fail
  k_with "atB" => k_dflt first | ((with_reducible show At _ _ _ _ (.Name _ _) _ _ _); exact at_B (by rfl) (by rfl) (by decide) (by k_asm) (by k_asm) (by k_is) (by boot_fast) (by decide) (by k_asm)) | fail
  k_with "at" => k_dflt first | ((with_reducible show At _ _ _ _ (.Constant _ _ _) _ _ _); first | exact at_S | exact at_I | exact at_N) | k_extra "at0" | ((with_reducible show At _ _ _ _ (.Attribute (.Name _ _) _ _) _ _ _); exact at_attr (by k_asm) (by k_asm) (by k_extra "at0") (by k_inst) (by k_get) (by k_is) (by k_is) (by k_is) (by k_is) (by first | exact rfl | k_handed)) | ((with_reducible show At _ _ _ _ (.BinOp _ .Add _ _) _ _ _); exact at_add (by k_extra "at") (by k_extra "at")) | k_extra "atF" | fail
  k_with "spl" => k_dflt first | exact spl0 | ((with_reducible show Spl _ _ _ _ [_] _ _ _); exact spl1 (by k_extra "at")) | ((with_reducible show Spl _ _ _ _ [_, _] _ _ _); exact spl2 (by k_extra "at") (by k_extra "at")) | ((with_reducible show Spl _ _ _ _ (_ :: _) _ _ _); exact splC (by k_extra "at") (by k_extra "spl")) | fail
  k_with "eval Call Attribute" => with_reducible (k_here; show wpAny _ _ (eval (.Call (.Attribute _ _ _) _ [] _) _) _ _ _; first | refine mcall (by k_extra "spl") (by k_dflt exact rfl) (by k_dflt k_asm) (by k_dflt k_asm) (by k_extra "at") (by k_dflt k_inst) (by k_get) (by k_is) (by k_is) (by k_is) (by k_is) (by k_dflt exact rfl) ?_ | fail)
  k_with "eval Call" => first | with_reducible (k_here; show wpAny _ _ (eval (.Call (.Name _ _) _ [] _) _) _ _ _; first | refine fcall (by k_extra "spl") (by k_dflt exact rfl) (by k_dflt k_asm) (by k_dflt k_asm) (by k_extra "atF") (by k_is) (by k_dflt exact rfl) ?_ | ((first | show wpAny _ _ (eval (.Call (.Name (Str.ofString "len") _) _ _ _) _) _ _ _ | show wpAny _ _ (eval (.Call (.Name (Str.ofString "min") _) _ _ _) _) _ _ _); refine bcall (by k_extra "spl") (by k_extra "atB") (by k_dflt exact rfl) ?_) | fail) | (k_here; k_dflt (refine Call_ ?_)) | fail
  k_with "spliced" => first | with_reducible (k_here; first | refine spl_use (by k_extra "spl") ?_ | fail) | (k_dflt (first | refine spliced_more ?_ | refine spliced_none ?_)) | fail
  k_with "eval Subscript" => with_reducible (k_here; show wpAny _ _ (eval (.Subscript _ _ _) _) _ _ _; first | refine sub_at (by k_extra "at") (by k_extra "at") ?_ | fail)
  k_with "eval BinOp" => with_reducible (k_here; show wpAny _ _ (eval (.BinOp _ _ _ _) _) _ _ _; first | refine at_use (by k_extra "at") ?_ | refine bin_at (by k_extra "at") (by k_extra "at") ?_ | fail)
  k_with "isTrue Compare" => with_reducible (k_here; show wpAny _ _ (PySem.isTrue (.Compare _ [_] [_] _) _ _) _ _ _; first | refine cmpT_at (by k_dflt rfl) (by k_extra "at") (by k_extra "at") ?_ | refine cmpT_atL (by k_dflt rfl) (by k_extra "at") ?_ | fail)
  k_with "eval Compare" => with_reducible (k_here; show wpAny _ _ (eval (.Compare _ [_] [_] _) _) _ _ _; first | refine cmp_at (by k_dflt rfl) (by k_extra "at") (by k_extra "at") ?_ | fail)
  k_with "eval Attribute Name" => with_reducible (k_here; first | refine at_use (by k_extra "at") ?_ | fail)
  k_with "eval Name" => with_reducible (k_here; first | refine at_use (by k_extra "at") ?_ | fail)
  k_with "itemAt" => (k_here; (with_reducible show wpAny _ _ (subscriptTail _ _ (Value.ref _) (Value.int _ _)) _ _ _); with_reducible first | refine item_litK (by with_unfolding_all is_list) (by k_dflt decide) (by k_dflt decide) (by with_unfolding_all rfl) ?_ (by with_unfolding_all rfl) | refine item_tupleT (by k_dflt exact News.isTup (by k_asm) (by k_mem)) (by k_dflt decide) (by k_dflt decide) (by k_dflt rfl) (by k_dflt rfl) ?_ | fail); k_whole
  k_with "turned" => (k_here; k_dflt (refine kba_turn (value' := PySem.Expr.Name (PySem.Str.ofString "_") ⟨0, 0, 0, 0⟩) (fun _ => rfl) ?_))
  k_with "subscriptTail Name Constant ref int" => first | k_extra "subscriptTail" | k_extra "itemAt" | fail
  k_with "subscriptTail Subscript Constant ref int" => k_extra "itemAt"
  k_with "subscriptTail Name" => k_extra "subscriptTail"
  k_with "subscriptTail Call" => k_extra "turned"
  k_with "subscriptTail BinOp" => k_extra "turned"
  k_with "seq" => first | (k_here; k_gentoks) | ((with_reducible refine wpAny_execs_cons ?_); try dsimp only) | fail
  k_with "execs cons Assign cons" => k_extra "seq"
  k_with "execs cons If cons" => k_extra "seq"
  k_with "execs cons Return nil" => k_extra "seq"
  k_with "exec Assign cons" => (with_reducible show wpAny _ _ (exec (.Assign [.Name _ _] _ _) _) _ _ _); k_dflt (refine wpAny_Assign_Name ?_)
  k_with "exec If" => refine wpAny_If ?_
  k_with "eval Call Name cons nil" => k_extra "eval Call"
  k_with "isTrue Compare Name cons cons" => k_extra "isTrue Compare"
  k_with "truthy bool false" => refine wpAny_truthy_bool ?_
  k_with "truthy bool" => refine wpAny_truthy_bool ?_
  k_with "room" => first | exact lb0 (j := 1) (by assumption) rfl | exact lb2 (j := 1) (by assumption) (by assumption) rfl
  k_with "om" => first | (k_whole; first | exact lb0 (by assumption) rfl | exact lb1 (by assumption) rfl | exact lb2 (by assumption) (by assumption) rfl | exact lb4 (by assumption) rfl | exact Nat.le_of_succ_le (by assumption)) | omega
  k_with "steps" => repeat' (first | ((with_reducible show wpAny _ _ (exec _ _) _ _ _); (fail_if_success (fail_if_success k_fold)); k_extra "fold") | ((fail_if_success (fail_if_success k_unfold)); first | dsimp only [qk] | dsimp only [ek] | (k_unfold; (try dsimp only))) | (k_end; wrow_close) | walk1 | (dsimp only; walk1) | (leave1; walk_say "STEP leave1"; try dsimp only) | fail)
  trivial
namespace Mine
set_option maxRecDepth 100000
set_option maxHeartbeats 0
abbrev StD (wl : Addr) (pos : Int) (t : Tok) (cap : Nat) : Obj := listOf #[.ref wl, .int pos t] cap
structure StIn (news : List (Addr × Obj)) (wl : Addr) (vs : List Value) (n : Nat) (ws : List Wd) : Prop where
  wl : (wl, listOf vs.toArray n) ∈ news
  are : StrsAre vs (ws.map Wd.txt)
  few : ws.length ≤ 60
theorem StIn.mono {news news' : List (Addr × Obj)} {wl : Addr} {vs : List Value} {n : Nat} {ws : List Wd} (R : StIn news wl vs n ws) (hs : ∀ p ∈ news, p ∈ news') : StIn news' wl vs n ws := ⟨hs _ R.wl, R.are, R.few⟩
def txtAt (o : Option Wd) : Str := match o with
  | some w => w.txt
  | none => Str.ofString ""
theorem StIn.len {news : List (Addr × Obj)} {wl : Addr} {vs : List Value} {n : Nat} {ws : List Wd} (R : StIn news wl vs n ws) : vs.length = ws.length := by
  have h := StrsAre.len_eq R.are
  rw [List.length_map] at h; exact h
theorem StIn.get {news : List (Addr × Obj)} {wl : Addr} {vs : List Value} {n : Nat} {ws : List Wd} (R : StIn news wl vs n ws) {p : Nat} {w : Wd} (h : ws[p]? = some w) : ∃ t, vs[(p : Int).toNat]? = some (.str w.txt t) := by
  obtain ⟨t, e⟩ := R.are.get p w.txt (by rw [List.getElem?_map, h]; rfl)
  exact ⟨t, e⟩
section
variable {w : World} {p : Program} {loose : List Str} {mean : ExcName → Option Value} {mg mb : Str → Option Value} {dp un : Nat} {gd : Option (List Code)} {cn : Str} {cs : Scope} {a : Addr} {ccd : Value} {cl : List (Str × Addr)} {outer : List Env} {A₀ : Around} {base h₀ : Heap} {L : Addr} {m : Str → Option Value}
  {news : List (Addr × Obj)} {s : Shared} {Q E : Value → Shared → Prop} {st wl : Addr} {t : Tok} {vs : List Value} {n cap : Nat} {pos : Nat} {ws : List Wd}
example : True := by
  k_with "upd" => exact updF_upd (by assumption) _
  trivial
example : True := by
  k_with "rel" => first | (with_reducible assumption) | exact dle1 (by with_reducible assumption) rfl | k_extra "om" | exact rfl | (refine RdIn.mono (by with_reducible assumption) ?_; (intro _ hz; (repeat' (first | exact hz | refine List.Mem.tail _ ?_)))) | exact UpdF.head (by with_reducible assumption) | ((try dsimp only [ktrTop, Around.deeper]); k_extra "om") | assumption | k_mem | k_updF
  trivial
example : True := by
  k_with "mem" => first | ktr_member | (refine List.mem_cons_of_mem _ ?_; k_mem)
  trivial
example : True := by
  k_with "nws" => first | k_asm | exact newsTl (by assumption) | exact newsTl (newsTl (by assumption)) | exact newsTl2 (by assumption)
  trivial
theorem word_c {x : Str} (B : Below A₀ base outer h₀) (F : Fr h₀ L s.heap m) (X : (Mine.frag.heap_1 w.params).In h₀) (N : News h₀ L s.heap news) (T : Top p loose mean mg mb h₀) (hk : cs.kind = .function) (hdp : dp ≤ 690) (hun : un ≤ 9000)
    (R : StIn news wl vs n ws) (hd : (st, StD wl pos t cap) ∈ news) (hx : txtAt ws[pos]? = x)
    (ret : ∀ h' tk' t', Fr h₀ L h' m → News h₀ L h' news → Q (.str x t') { s with heap := h', toks := tk' }) :
    wpAny (model PySem.Challenge.rw_pc0133_01.prog w) (ktrTop dp un gd cn cs L a ccd cl outer) (call (.ref 481) [.ref st]) Q E s := by
  revert X; k_fill; intro X
  have hwl := R.wl
  have hlen := R.len
  have hfew := R.few
  cases hw : ws[pos]? with
  | none =>
    rw [hw] at hx; dsimp only [txtAt] at hx; subst hx
    have hge : ws.length ≤ pos := List.getElem?_eq_none_iff.mp hw
    refine wpAny_call ?_
    k_dflt k_enter
    k_extra "steps"
    all_goals first | exact ret _ _ _ (by k_asm) (by k_extra "nws") | trace_state
  | some wd =>
    rw [hw] at hx; dsimp only [txtAt] at hx; subst hx
    obtain ⟨tv, hv⟩ := R.get hw
    have hlt := lt_of_get hw
    refine wpAny_call ?_
    k_dflt k_enter
    k_extra "steps"
    all_goals first | exact ret _ _ _ (by k_asm) (by k_extra "nws") | trace_state
end
end Mine
end
section
open PySem PySem.W PyProof.Rows PySem.Spec PySem.Calls
set_option Elab.async false
namespace Mine
set_option maxRecDepth 100000
set_option maxHeartbeats 0
mutual
theorem datFilt {news news' : List (Addr × Obj)} (hs : ∀ a o, (a, o) ∈ news → (∃ vs k, o.data = .seq vs k) → (a, o) ∈ news') : ∀ {v : Value} {d : Dat}, DatIn news v d → DatIn news' v d
  | _, _, .none => .none
  | _, _, .bool b => .bool b
  | _, _, .int i t => .int i t
  | _, _, .str x t => .str x t
  | _, _, .bytes b t => .bytes b t
  | _, _, .tuple h r => .tuple (hs _ _ h ⟨_, _, rfl⟩) (datFiltAll hs r)
  | _, _, .list h r => .list (hs _ _ h ⟨_, _, rfl⟩) (datFiltAll hs r)
theorem datFiltAll {news news' : List (Addr × Obj)} (hs : ∀ a o, (a, o) ∈ news → (∃ vs k, o.data = .seq vs k) → (a, o) ∈ news') : ∀ {vs : List Value} {ds : List Dat}, DatAll news vs ds → DatAll news' vs ds
  | _, _, .nil => .nil
  | _, _, .cons h r => .cons (datFilt hs h) (datFiltAll hs r)
end
inductive GrowEnd (h₀ : Heap) (L : Addr) (J : (Str → Option Value) → List (Addr × Obj) → Prop) (I : Addr) (own : List (Addr × Obj)) (s₁ s₂ : Shared) : Prop
  | mk (h' : Heap) (tk : Nat) (m' : Str → Option Value) (l : List (Addr × Obj)) (nx : List (Addr × Obj)) (c0 : s₂ = { s₁ with heap := h', toks := tk }) (c1 : Fr h₀ L h' m') (c2 : News h₀ L h' l) (c3 : (∀ p ∈ own, p ∈ l)) (c4 : (∀ p ∈ nx, p ∈ l)) (c5 : (∀ p ∈ nx, p.1 ≠ I)) (c6 : J m' nx) : GrowEnd h₀ L J I own s₁ s₂
def GrowPost (h₀ : Heap) (L : Addr) (J : (Str → Option Value) → List (Addr × Obj) → Prop) (I : Addr) (own : List (Addr × Obj)) (s₁ : Shared) (Q : Flow → Shared → Prop) (f : Flow) (s₂ : Shared) : Prop :=
  match f with
  | .ret v => Q (.ret v) s₂
  | .brk => Q .next s₂
  | _ => GrowEnd h₀ L J I own s₁ s₂
section
variable {prog : Program} {w : World} {A : Around} {E : Value → Shared → Prop} {s : Shared} {env : Env} {h₀ : Heap} {x : Str} {body : List Stmt} {Q : Flow → Shared → Prop}
theorem range_grow {r : Addr} {t₀ u₀ v₀ : Tok} {n : Nat} {m₀ : Str → Option Value} {news : List (Addr × Obj)} (J : Nat → (Str → Option Value) → List (Addr × Obj) → Prop)
    (hh : A.handled = none) (hr : IsRange s.heap r 0 n 1 t₀ u₀ v₀) (hsmall : Builtin.Range.small 0 n 1 = true) (hn : Builtin.Range.rangeSize 0 n 1 = (n : Int)) (F : Fr h₀ env.locals s.heap m₀) (N : News h₀ env.locals s.heap news) (hj : J 0 m₀ news)
    (turn : ∀ i v m₁ nx h tk I oI own, i < n → J i m₁ nx → (I, oI) ∈ own → (∀ vs k, oI.data ≠ .seq vs k) → (∀ p ∈ own, p.1 = I) → (∀ p ∈ nx, p.1 ≠ I) → Fr h₀ env.locals h (fun y => if y = x then some v else m₁ y) → News h₀ env.locals h (nx ++ own) →
      wpAny (model prog w) A (execs body env) (GrowPost h₀ env.locals (J (i + 1)) I own { s with heap := h, toks := tk } Q) E { s with heap := h, toks := tk })
    (done : ∀ m₁ nx h tk, J n m₁ nx → Fr h₀ env.locals h m₁ → News h₀ env.locals h nx → Q .next { s with heap := h, toks := tk }) :
    wpAny (model prog w) A (pyIter (.ref r)) (fun it s₂ => LoopAtV prog w A h₀ env x body Q E it s₂) E s := by
  refine wpAny_pyIter_range hr hsmall ?_
  have W := (Walks.range (prog := prog) (w := w) hh s.heap.objs.size 0 1 n)
  refine ⟨_, _, _, n, _, _, m₀, news, J, rfl, W, ?_, ?_, ?_, (by show IsRangeIter _ _ _ _ _; rw [hn]; simpa using Heap.get?_push_size _ rfl), F.push _, (fun p hp => ⟨Heap.get?_push_of_some _ (N p hp).1, (N p hp).2⟩), hj, ?_, ?_⟩
  · intro hm
    exact absurd F.ns.lt ((List.mem_singleton.mp hm) ▸ Nat.lt_irrefl _)
  · intro b hb
    rw [List.mem_singleton.mp hb]
    exact next_is_new F
  · intro p hp hI
    exact absurd (Heap.lt_size (N p hp).1) ((List.mem_singleton.mp hI) ▸ Nat.lt_irrefl _)
  · rintro i v m₁ nx s₁ own ⟨hh', tk', rfl⟩ hin _ hJ hoff hown _ hall hst F₁ N₁
    have hI := hall s.heap.objs.size (List.mem_singleton.mpr rfl) (next_is_new F) _ hst
    refine wpAny_mono (turn i v m₁ nx hh' tk' s.heap.objs.size _ own hin hJ hI (fun vs k e => by cases e) (fun p hp => List.mem_singleton.mp (hown p hp)) (fun p hp e => hoff p hp (List.mem_singleton.mpr e)) F₁ (fun p hp => N₁ p ((List.mem_append.mp hp).elim (fun h => List.mem_append.mpr (.inr h)) fun h => List.mem_append.mpr (.inl h)))) (fun f s₂ p => ?_) fun _ _ e => e
    have fin : GrowEnd h₀ env.locals (J (i + 1)) s.heap.objs.size own { s with heap := hh', toks := tk' } s₂ → LoopStepU h₀ env.locals [s.heap.objs.size] own (J (i + 1)) { s with heap := hh', toks := tk' } .next s₂ := by
      rintro ⟨h', tk, m', l, nx', e, F', N', h1, h2, h3, hm⟩
      exact ⟨rfl, h', tk, m', nx', e, F', fun p hp => N' p ((List.mem_append.mp hp).elim (h1 p) (h2 p)), fun p hp hq => h3 p hp (List.mem_singleton.mp hq), hm⟩
    cases f with
    | ret v => exact .ret p
    | brk => exact .brk p
    | next => exact .next (fin p)
    | cont => exact .cont (fin p)
  · rintro h' tk m' news' F' N' _ hJ
    exact done m' news' h' tk hJ F' N'
end
end Mine
end
section
open PySem PySem.W PyProof.Rows PySem.Spec PySem.Calls
set_option Elab.async false
namespace Mine
set_option maxRecDepth 100000
set_option maxHeartbeats 0
def valO (r : Option Dat) (a : Addr) : Value := match r with
  | none => .none
  | some _ => .ref a
/-- what a reading function of the law does: the same as `run` -/
def DoesL (w : World) (p : Program) (loose : List Str) (mean : ExcName → Option Value) (mg mb : Str → Option Value) (st wl : Addr) (vs : List Value) (n cap : Nat) (ws : List Wd) (f : Addr) (ar : Nat → Tok → Tok → List Value) (bd : Nat) (lv : Lv) (k : Nat) : Prop :=
  ∀ (dp un : Nat) (gd : Option (List Code)) (cn : Str) (cs : Scope) (a : Addr) (ccd : Value) (cl : List (Str × Addr)) (outer : List Env) (A₀ : Around) (base h₀ : Heap) (L : Addr) (m : Str → Option Value) (news : List (Addr × Obj)) (s : Shared) (Q E : Value → Shared → Prop) (t : Tok) (pos d : Nat) (td tv : Tok) (r : Option Dat) (q : Nat),
    Below A₀ base outer h₀ → Fr h₀ L s.heap m → (Mine.frag.heap_1 w.params).In h₀ → News h₀ L s.heap ((st, StD wl pos t cap) :: news) → Top p loose mean mg mb h₀ → cs.kind = .function → dp ≤ 330 + 14 * d + bd → un ≤ 3000 + 140 * d + 10 * bd →
    StIn news wl vs n ws → (∀ p ∈ news, p.1 ≠ st) → 0 < ws.length → pos ≤ ws.length → d ≤ 20 → run ws k lv d pos = some (r, q) →
    (∀ va t' h' tk' news', Fr h₀ L h' m → News h₀ L h' ((st, StD wl q t' cap) :: news') → StIn news' wl vs n ws → (∀ p ∈ news', p.1 ≠ st) → (∀ z ∈ news, z ∈ news') → (∀ tr, r = some tr → DatIn news' (.ref va) tr) → pos ≤ q → q ≤ ws.length → Q (valO r va) { s with heap := h', toks := tk' }) →
    wpAny (model PySem.Challenge.rw_pc0133_01.prog w) (ktrTop dp un gd cn cs L a ccd cl outer) (call (.ref f) (ar d td tv)) Q E s
section
variable {w : World} {p : Program} {loose : List Str} {mean : ExcName → Option Value} {mg mb : Str → Option Value} {dp un : Nat} {gd : Option (List Code)} {cn : Str} {cs : Scope} {a : Addr} {ccd : Value} {cl : List (Str × Addr)} {outer : List Env} {A₀ : Around} {base h₀ : Heap} {L : Addr} {m : Str → Option Value}
  {news : List (Addr × Obj)} {s : Shared} {Q E : Value → Shared → Prop} {st wl : Addr} {t : Tok} {vs : List Value} {n cap : Nat} {pos : Nat} {ws : List Wd} {f : Addr} {bd k d : Nat} {lv : Lv} {td tv : Tok} {r : Option Dat} {q : Nat} {lev : Int}
abbrev ar3 (st : Addr) (lev : Int) : Nat → Tok → Tok → List Value := fun d td tv => [.ref st, .int lev tv, .int d td]
abbrev ar2 (st : Addr) : Nat → Tok → Tok → List Value := fun d td _ => [.ref st, .int d td]
theorem lev_use (S : DoesL w p loose mean mg mb st wl vs n cap ws 488 (ar3 st lev) bd lv k) (hrun : run ws k lv d pos = some (r, q)) (B : Below A₀ base outer h₀) (F : Fr h₀ L s.heap m) (X : (Mine.frag.heap_1 w.params).In h₀) (N : News h₀ L s.heap ((st, StD wl pos t cap) :: news)) (T : Top p loose mean mg mb h₀) (hk : cs.kind = .function) (hdp : dp ≤ 330 + 14 * d + bd) (hun : un ≤ 3000 + 140 * d + 10 * bd)
    (R : StIn news wl vs n ws) (ap : ∀ p ∈ news, p.1 ≠ st) (hne : 0 < ws.length) (hp : pos ≤ ws.length) (hd : d ≤ 20)
    (ret : ∀ va t' h' tk' news', Fr h₀ L h' m → News h₀ L h' ((st, StD wl q t' cap) :: news') → StIn news' wl vs n ws → (∀ p ∈ news', p.1 ≠ st) → (∀ z ∈ news, z ∈ news') → (∀ tr, r = some tr → DatIn news' (.ref va) tr) → pos ≤ q → q ≤ ws.length → Q (valO r va) { s with heap := h', toks := tk' }) :
    wpAny (model PySem.Challenge.rw_pc0133_01.prog w) (ktrTop dp un gd cn cs L a ccd cl outer) (call (.ref 488) [.ref st, .int lev tv, .int d td]) Q E s :=
  S _ _ _ _ _ _ _ _ _ _ _ _ _ _ _ _ _ _ _ _ d td tv r q B F X N T hk hdp hun R ap hne hp hd hrun ret
theorem two_use (S : DoesL w p loose mean mg mb st wl vs n cap ws f (ar2 st) bd lv k) (hrun : run ws k lv d pos = some (r, q)) (B : Below A₀ base outer h₀) (F : Fr h₀ L s.heap m) (X : (Mine.frag.heap_1 w.params).In h₀) (N : News h₀ L s.heap ((st, StD wl pos t cap) :: news)) (T : Top p loose mean mg mb h₀) (hk : cs.kind = .function) (hdp : dp ≤ 330 + 14 * d + bd) (hun : un ≤ 3000 + 140 * d + 10 * bd)
    (R : StIn news wl vs n ws) (ap : ∀ p ∈ news, p.1 ≠ st) (hne : 0 < ws.length) (hp : pos ≤ ws.length) (hd : d ≤ 20)
    (ret : ∀ va t' h' tk' news', Fr h₀ L h' m → News h₀ L h' ((st, StD wl q t' cap) :: news') → StIn news' wl vs n ws → (∀ p ∈ news', p.1 ≠ st) → (∀ z ∈ news, z ∈ news') → (∀ tr, r = some tr → DatIn news' (.ref va) tr) → pos ≤ q → q ≤ ws.length → Q (valO r va) { s with heap := h', toks := tk' }) :
    wpAny (model PySem.Challenge.rw_pc0133_01.prog w) (ktrTop dp un gd cn cs L a ccd cl outer) (call (.ref f) [.ref st, .int d td]) Q E s :=
  S _ _ _ _ _ _ _ _ _ _ _ _ _ _ _ _ _ _ _ _ d td 0 r q B F X N T hk hdp hun R ap hne hp hd hrun ret
end
def RetPost (Q : Flow → Shared → Prop) (f : Flow) (s' : Shared) : Prop :=
  match f with
  | .ret v => Q (.ret v) s'
  | _ => False
def GoPost (Z : Shared → Prop) (f : Flow) (s' : Shared) : Prop :=
  match f with
  | .next => Z s'
  | _ => False
inductive JLaw (st wl : Addr) (vs : List Value) (n cap : Nat) (ws : List Wd) (lvL : Dat → Lv) (d K pos : Nat) (news₀ : List (Addr × Obj)) (r : Option Dat) (qf : Nat) (m₀ : Str → Option Value) (i : Nat) (m : Str → Option Value) (nx : List (Addr × Obj)) : Prop
  | mk (k : Nat) (t : Option Dat) (q : Nat) (va : Addr) (tq : Tok) (news : List (Addr × Obj)) (c0 : nx = (st, StD wl q tq cap) :: news) (c1 : StIn news wl vs n ws) (c2 : (∀ p ∈ news, p.1 ≠ st)) (c3 : (∀ z ∈ news₀, z ∈ news)) (c4 : (∀ u, t = some u → DatIn news (.ref va) u ∧ run ws k (lvL u) d q = some (r, qf))) (c5 : (t = none → r = none ∧ qf = q)) (c6 : pos + i ≤ q) (c7 : q ≤ ws.length) (c8 : k ≤ K) (c9 : m (Str.ofString "found") = some (valO t va)) (c10 : ∀ z, z ≠ Str.ofString "turn" → z ≠ Str.ofString "found" → [Str.ofString "turn", Str.ofString "sign", Str.ofString "right", Str.ofString "found"].contains z = false → m z = m₀ z) : JLaw st wl vs n cap ws lvL d K pos news₀ r qf m₀ i m nx
abbrev frL (v : Value) (f : Value) (u m₀ : Str → Option Value) : Str → Option Value := fun y => if y = Str.ofString "turn" then some v else if y = Str.ofString "found" then some f else if [Str.ofString "turn", Str.ofString "sign", Str.ofString "right", Str.ofString "found"].contains y then u y else m₀ y
theorem fr_law {h₀ h : Heap} {L : Addr} {v f : Value} {m m₀ : Str → Option Value} (h1 : m (Str.ofString "found") = some f) (h2 : ∀ z, z ≠ Str.ofString "turn" → z ≠ Str.ofString "found" → [Str.ofString "turn", Str.ofString "sign", Str.ofString "right", Str.ofString "found"].contains z = false → m z = m₀ z)
    (F : Fr h₀ L h (fun y => if y = Str.ofString "turn" then some v else m y)) : Fr h₀ L h (frL v f m m₀) := by
  have e : frL v f m m₀ = fun y => if y = Str.ofString "turn" then some v else m y := by
    funext y
    by_cases y1 : y = Str.ofString "turn"
    · rw [frL, if_pos y1, if_pos y1]
    · rw [frL, if_neg y1, if_neg y1]
      by_cases y2 : y = Str.ofString "found"
      · rw [if_pos y2, y2, h1]
      · rw [if_neg y2]
        cases y3 : [Str.ofString "turn", Str.ofString "sign", Str.ofString "right", Str.ofString "found"].contains y with
        | true => rfl
        | false => exact (h2 y y1 y2 y3).symm
  rw [e]; exact F
abbrev frD (f : Value) (u m₀ : Str → Option Value) : Str → Option Value := fun y => if y = Str.ofString "found" then some f else if [Str.ofString "turn", Str.ofString "sign", Str.ofString "right", Str.ofString "found"].contains y then u y else m₀ y
theorem fr_lawD {h₀ h : Heap} {L : Addr} {f : Value} {m m₀ : Str → Option Value} (h1 : m (Str.ofString "found") = some f) (h2 : ∀ z, z ≠ Str.ofString "turn" → z ≠ Str.ofString "found" → [Str.ofString "turn", Str.ofString "sign", Str.ofString "right", Str.ofString "found"].contains z = false → m z = m₀ z)
    (F : Fr h₀ L h m) : Fr h₀ L h (frD f m m₀) := by
  have e : frD f m m₀ = m := by
    funext y
    by_cases y2 : y = Str.ofString "found"
    · rw [frD, if_pos y2, y2, h1]
    · rw [frD, if_neg y2]
      cases y3 : [Str.ofString "turn", Str.ofString "sign", Str.ofString "right", Str.ofString "found"].contains y with
      | true => rfl
      | false => exact (h2 y (fun e => by subst e; revert y3; decide +kernel) y2 y3).symm
  rw [e]; exact F
section
variable {prog : Program} {w : World} {A : Around} {E : Value → Shared → Prop} {s : Shared} {env : Env} {h₀ : Heap} {body : List Stmt} {Q : Flow → Shared → Prop}
  {st wl : Addr} {vs : List Value} {n cap : Nat} {ws : List Wd} {lvN : Lv} {lvL : Dat → Lv} {xs : List Str} {d K pos : Nat} {r r1 : Option Dat} {qf q1 : Nat} {va : Addr} {t' : Tok} {news₀ news1 : List (Addr × Obj)} {m₀ : Str → Option Value}
theorem law_loop {ra : Addr} {t₀ u₀ v₀ : Tok} {nn : Nat} (hturn : ∀ {k q t r qf}, run ws k (lvL t) d q = some (r, qf) → Turn ws lvN lvL xs k d q t r qf)
    (hh : A.handled = none) (hr : IsRange s.heap ra 0 nn 1 t₀ u₀ v₀) (hnn : nn = ws.length) (F : Fr h₀ env.locals s.heap m₀) (N : News h₀ env.locals s.heap ((st, StD wl q1 t' cap) :: news1)) (R : StIn news1 wl vs n ws) (ap : ∀ p ∈ news1, p.1 ≠ st) (sub : ∀ z ∈ news₀, z ∈ news1)
    (hD : ∀ u, r1 = some u → DatIn news1 (.ref va) u) (hS : ∀ u, r1 = some u → run ws K (lvL u) d q1 = some (r, qf)) (hN : r1 = none → r = none ∧ qf = q1) (hpq : pos ≤ q1) (hq : q1 ≤ ws.length) (hf : m₀ (Str.ofString "found") = some (valO r1 va))
    (turnN : ∀ tq news2 v u h tk, r = none → Fr h₀ env.locals h (frL v .none u m₀) → News h₀ env.locals h ((st, StD wl qf tq cap) :: news2) → StIn news2 wl vs n ws → (∀ p ∈ news2, p.1 ≠ st) → (∀ z ∈ news₀, z ∈ news2) → pos ≤ qf → qf ≤ ws.length →
      wpAny (model prog w) A (execs body env) (RetPost Q) E { s with heap := h, toks := tk })
    (turnS : ∀ t a tq news2 v u h tk, r = some t → sgn ws[qf]? xs = Str.ofString "" → Fr h₀ env.locals h (frL v (.ref a) u m₀) → News h₀ env.locals h ((st, StD wl qf tq cap) :: news2) → StIn news2 wl vs n ws → (∀ p ∈ news2, p.1 ≠ st) → (∀ z ∈ news₀, z ∈ news2) → DatIn news2 (.ref a) t → pos ≤ qf → qf ≤ ws.length →
      wpAny (model prog w) A (execs body env) (RetPost Q) E { s with heap := h, toks := tk })
    (turnG : ∀ t a tq q2 wd k' r2 q3 news2 v u h tk (Z : Shared → Prop), ws[q2]? = some wd → sgn ws[q2]? xs = wd.txt → (wd.txt != Str.ofString "") = true → k' ≤ K → run ws k' lvN d (q2 + 1) = some (r2, q3) → q2 + 1 ≤ ws.length → Fr h₀ env.locals h (frL v (.ref a) u m₀) → News h₀ env.locals h ((st, StD wl q2 tq cap) :: news2) → StIn news2 wl vs n ws → (∀ p ∈ news2, p.1 ≠ st) → (∀ z ∈ news₀, z ∈ news2) → DatIn news2 (.ref a) t →
      (∀ h' tk' m' t4 news4, r2 = none → Fr h₀ env.locals h' m' → News h₀ env.locals h' ((st, StD wl q3 t4 cap) :: news4) → StIn news4 wl vs n ws → (∀ p ∈ news4, p.1 ≠ st) → (∀ z ∈ news2, z ∈ news4) → q2 + 1 ≤ q3 → q3 ≤ ws.length → m' (Str.ofString "found") = some .none → (∀ z, z ≠ Str.ofString "turn" → z ≠ Str.ofString "found" → [Str.ofString "turn", Str.ofString "sign", Str.ofString "right", Str.ofString "found"].contains z = false → m' z = m₀ z) → Z { s with heap := h', toks := tk' }) →
      (∀ h' tk' m' t4 news4 b tr ta tx kk, r2 = some tr → Fr h₀ env.locals h' m' → News h₀ env.locals h' ((ta, tupO [.str wd.txt tx, .ref a, .ref b] kk) :: (st, StD wl q3 t4 cap) :: news4) → StIn news4 wl vs n ws → (∀ p ∈ news4, p.1 ≠ st) → (∀ z ∈ news2, z ∈ news4) → DatIn news4 (.ref b) tr → q2 + 1 ≤ q3 → q3 ≤ ws.length → m' (Str.ofString "found") = some (.ref ta) → (∀ z, z ≠ Str.ofString "turn" → z ≠ Str.ofString "found" → [Str.ofString "turn", Str.ofString "sign", Str.ofString "right", Str.ofString "found"].contains z = false → m' z = m₀ z) → Z { s with heap := h', toks := tk' }) →
      wpAny (model prog w) A (execs body env) (GoPost Z) E { s with heap := h, toks := tk })
    (done : ∀ a tq news2 u h tk, Fr h₀ env.locals h (frD (valO r a) u m₀) → News h₀ env.locals h ((st, StD wl qf tq cap) :: news2) → StIn news2 wl vs n ws → (∀ p ∈ news2, p.1 ≠ st) → (∀ z ∈ news₀, z ∈ news2) → (∀ t, r = some t → DatIn news2 (.ref a) t) → pos ≤ qf → qf ≤ ws.length → Q .next { s with heap := h, toks := tk }) :
    wpAny (model prog w) A (pyIter (.ref ra)) (fun it s₂ => LoopAtV prog w A h₀ env (Str.ofString "turn") body Q E it s₂) E s := by
  subst hnn
  refine range_grow (JLaw st wl vs n cap ws lvL d K pos news₀ r qf m₀) hh hr (small_one (by omega) (by omega) (by have := R.few; omega) (by have := R.few; omega)) (rangeSize_nat _ _) F N ⟨K, r1, q1, va, t', news1, rfl, R, ap, sub, fun u hu => ⟨hD u hu, hS u hu⟩, hN, hpq, hq, Nat.le_refl _, hf, fun _ _ _ _ => rfl⟩ ?_ ?_
  · rintro i v m₁ nx h tk I oI own hi ⟨k, t, q, a, tq, news2, rfl, R2, ap2, sub2, hD2, hN2, hpq2, hq2, hk2, hm1, hm2⟩ hI hno hown hoff F₁ N₁
    have F₂ := fr_law hm1 hm2 F₁
    have hstI : st ≠ I := hoff _ (.head _)
    have R3 : StIn (news2 ++ own) wl vs n ws := R2.mono fun z hz => List.mem_append.mpr (.inl hz)
    have ap3 : ∀ p ∈ news2 ++ own, p.1 ≠ st := fun p hp => (List.mem_append.mp hp).elim (ap2 p) fun hp => by rw [hown p hp]; exact hstI.symm
    have sub3 : ∀ z ∈ news₀, z ∈ news2 ++ own := fun z hz => List.mem_append.mpr (.inl (sub2 z hz))
    have hret : ∀ f s', RetPost Q f s' → GrowPost h₀ env.locals (JLaw st wl vs n cap ws lvL d K pos news₀ r qf m₀ (i + 1)) I own { s with heap := h, toks := tk } Q f s' := fun f _ h => by
      cases f with
      | ret v => exact h
      | _ => exact h.elim
    have hgo : ∀ f s', GoPost (GrowEnd h₀ env.locals (JLaw st wl vs n cap ws lvL d K pos news₀ r qf m₀ (i + 1)) I own { s with heap := h, toks := tk }) f s' → GrowPost h₀ env.locals (JLaw st wl vs n cap ws lvL d K pos news₀ r qf m₀ (i + 1)) I own { s with heap := h, toks := tk } Q f s' := fun f _ h => by
      cases f with
      | next => exact h
      | _ => exact h.elim
    cases t with
    | none =>
      obtain ⟨e1, e2⟩ := hN2 rfl
      subst e2
      exact wpAny_mono (turnN tq (news2 ++ own) v m₁ h tk e1 F₂ N₁ R3 ap3 sub3 (by omega) hq2) hret fun _ _ x => x
    | some t =>
      obtain ⟨D2, hrun2⟩ := hD2 t rfl
      have D3 : DatIn (news2 ++ own) (.ref a) t := D2.mono fun z hz => List.mem_append.mpr (.inl hz)
      rcases hturn hrun2 with ⟨hsg, e1, e2⟩ | ⟨hw, hsg, hnz, hkk, hrun3, hnone, hsome⟩
      · subst e2
        exact wpAny_mono (turnS t a tq (news2 ++ own) v m₁ h tk e1 hsg F₂ N₁ R3 ap3 sub3 D3 (by omega) hq2) hret fun _ _ x => x
      · rename_i wd k' r2 q3
        have keep {l : List (Addr × Obj)} {h' : Heap} (N' : News h₀ env.locals h' l) (so : ∀ z ∈ news2 ++ own, z ∈ l) : ∀ b o, (b, o) ∈ l → (∃ vs k, o.data = .seq vs k) → (b, o) ∈ l.filter (fun p => p.1 != I) := by
          intro b o hb ⟨vs', kq, hd⟩
          refine List.mem_filter.mpr ⟨hb, ?_⟩
          refine bne_iff_ne.mpr fun e => ?_
          have q1 := N'.get hb; have q2 := N'.get (so _ (List.mem_append.mpr (.inr hI)))
          dsimp only at e; rw [e, q2] at q1; injection q1 with q1; subst q1; exact hno _ _ hd
        have old {l : List (Addr × Obj)} (so : ∀ z ∈ news2 ++ own, z ∈ l) : ∀ z ∈ news2, z ∈ l.filter (fun p => p.1 != I) := fun z hz => List.mem_filter.mpr ⟨so z (List.mem_append.mpr (.inl hz)), bne_iff_ne.mpr (hoff z (.tail _ hz))⟩
        refine wpAny_mono (turnG t a tq q wd k' r2 q3 (news2 ++ own) v m₁ h tk _ hw hsg hnz (by omega) hrun3 (lt_of_get hw) F₂ N₁ R3 ap3 sub3 D3 ?_ ?_) hgo fun _ _ x => x
        · intro h' tk' m' t4 news4 er F' N' R' ap' so hq3 hq4 hf' hr'
          obtain ⟨e1, e2⟩ := hnone er
          refine ⟨h', tk', m', _, (st, StD wl q3 t4 cap) :: news4.filter (fun p => p.1 != I), rfl, F', N', fun p hp => .tail _ (so p (List.mem_append.mpr (.inr hp))), ?_, ?_, k', none, q3, a, t4, _, rfl, ?_, ?_, ?_, fun u hu => (nomatch hu), fun _ => ⟨e1, e2⟩, by omega, hq4, by omega, hf', hr'⟩
          · intro p hp
            cases hp with
            | head => exact .head _
            | tail _ hp => exact .tail _ (List.mem_filter.mp hp).1
          · intro p hp
            cases hp with
            | head => exact hstI
            | tail _ hp => exact bne_iff_ne.mp (List.mem_filter.mp hp).2
          · exact ⟨keep (fun z hz => N' z (.tail _ hz)) so _ _ R'.wl ⟨_, _, rfl⟩, R'.are, R'.few⟩
          · exact fun p hp => ap' p (List.mem_filter.mp hp).1
          · exact fun z hz => old so z (sub2 z hz)
        · intro h' tk' m' t4 news4 b tr ta tx kk er F' N' R' ap' so D' hq3 hq4 hf' hr'
          have so' : ∀ z ∈ news2 ++ own, z ∈ (ta, tupO [.str wd.txt tx, .ref a, .ref b] kk) :: news4 := fun z hz => .tail _ (so z hz)
          have N'' : News h₀ env.locals h' ((ta, tupO [.str wd.txt tx, .ref a, .ref b] kk) :: news4) := newsTl2 N'
          have kp := keep N'' so'
          refine ⟨h', tk', m', _, (st, StD wl q3 t4 cap) :: ((ta, tupO [.str wd.txt tx, .ref a, .ref b] kk) :: news4).filter (fun p => p.1 != I), rfl, F', N', fun p hp => .tail _ (.tail _ (so p (List.mem_append.mpr (.inr hp)))), ?_, ?_, k', some (bin wd.txt t tr), q3, ta, t4, _, rfl, ?_, ?_, ?_, fun u hu => ⟨?_, ?_⟩, fun hu => (nomatch hu), by omega, hq4, by omega, hf', hr'⟩
          · intro p hp
            cases hp with
            | head => exact .tail _ (.head _)
            | tail _ hp =>
              have := (List.mem_filter.mp hp).1
              cases this with
              | head => exact .head _
              | tail _ hp => exact .tail _ (.tail _ hp)
          · intro p hp
            cases hp with
            | head => exact hstI
            | tail _ hp => exact bne_iff_ne.mp (List.mem_filter.mp hp).2
          · exact ⟨kp _ _ (.tail _ R'.wl) ⟨_, _, rfl⟩, R'.are, R'.few⟩
          · intro p hp
            have := (List.mem_filter.mp hp).1
            cases this with
            | head => exact ne_of_objs N' (.head _) (.tail _ (.head _)) fun e => by have e := congrArg Obj.cls e; injection e with e; exact absurd e (by decide)
            | tail _ hp => exact ap' p hp
          · exact fun z hz => old so' z (sub2 z hz)
          · injection hu with hu; subst hu
            exact .tuple (kp _ _ (.head _) ⟨_, _, rfl⟩) (.cons (.str _ _) (.cons (D2.mono fun z hz => old so' z hz) (.cons (datFilt (fun b o hb hs => kp b o (.tail _ hb) hs) D') .nil)))
          · injection hu with hu; subst hu
            exact hsome tr er
  · rintro m₁ nx h tk ⟨k, t, q, a, tq, news2, rfl, R2, ap2, sub2, hD2, hN2, hpq2, hq2, hk2, hm1, hm2⟩ F₁ N₁
    have e : t = r ∧ qf = q := by
      cases t with
      | none => obtain ⟨e1, e2⟩ := hN2 rfl; exact ⟨e1.symm, e2⟩
      | some t =>
        rcases hturn (hD2 t rfl).2 with ⟨hsg, e1, e2⟩ | ⟨hw, hsg, hnz, hkk, hrun3, hnone, hsome⟩
        · exact ⟨e1.symm, e2⟩
        · have := lt_of_get hw; omega
    obtain ⟨e1, e2⟩ := e
    subst e1; subst e2
    exact done a tq news2 m₁ h tk (fr_lawD hm1 hm2 F₁) N₁ R2 ap2 sub2 (fun u hu => (hD2 u hu).1) (by omega) hq2
end
section
variable {h₀ h' : Heap} {L ta st wl : Addr} {a1 a2 a3 x y : Addr × Obj} {l news : List (Addr × Obj)} {pos : Int} {t : Tok} {cap kk : Nat} {vs : List Value}
theorem pickA (N : News h₀ L h' (a3 :: a2 :: a1 :: x :: y :: l)) : News h₀ L h' (y :: a1 :: l) := fun p hp => N p (by
  cases hp with
  | head => exact .tail _ (.tail _ (.tail _ (.tail _ (.head _))))
  | tail _ h => cases h with
    | head => exact .tail _ (.tail _ (.head _))
    | tail _ h => exact .tail _ (.tail _ (.tail _ (.tail _ (.tail _ h)))))
theorem pickB (N : News h₀ L h' (a3 :: a2 :: a1 :: x :: y :: l)) : News h₀ L h' (y :: a2 :: l) := fun p hp => N p (by
  cases hp with
  | head => exact .tail _ (.tail _ (.tail _ (.tail _ (.head _))))
  | tail _ h => cases h with
    | head => exact .tail _ (.head _)
    | tail _ h => exact .tail _ (.tail _ (.tail _ (.tail _ (.tail _ h)))))
theorem pickC (N : News h₀ L h' (a3 :: a2 :: a1 :: x :: y :: l)) : News h₀ L h' (y :: a3 :: l) := fun p hp => N p (by
  cases hp with
  | head => exact .tail _ (.tail _ (.tail _ (.tail _ (.head _))))
  | tail _ h => cases h with
    | head => exact .head _
    | tail _ h => exact .tail _ (.tail _ (.tail _ (.tail _ (.tail _ h)))))
theorem apS (N : News h₀ L h' ((st, StD wl pos t cap) :: (ta, tupO vs kk) :: news)) (ap : ∀ p ∈ news, p.1 ≠ st) : ∀ p ∈ (ta, tupO vs kk) :: news, p.1 ≠ st := fun z hz => by
  cases hz with
  | head => exact ne_of_objs N (.tail _ (.head _)) (.head _) fun e => by have e := congrArg Obj.cls e; injection e with e; exact absurd e (by decide)
  | tail _ h => exact ap z h
end
theorem stop_any {o : Option Wd} {xs : List Str} (hx : xs = [Str.ofString "+", Str.ofString "-"] ∨ xs = [Str.ofString "*", Str.ofString "/"] ∨ xs = [Str.ofString "**"]) (h : sgn o xs = Str.ofString "") : xs.any (· == txtAt o) = false := by
  rcases hx with rfl | rfl | rfl <;> (cases o with
    | none => decide +kernel
    | some w => cases w <;> first | decide +kernel | exact absurd h (by decide +kernel))
theorem go_any {o : Option Wd} {xs : List Str} {wd : Wd} (hw : o = some wd) (h : sgn o xs = wd.txt) (hn : (wd.txt != Str.ofString "") = true) : txtAt o = wd.txt ∧ xs.any (· == wd.txt) = true := by
  subst hw
  refine ⟨rfl, ?_⟩
  dsimp only [sgn] at h
  split at h
  · rename_i hc; exact List.any_eq_true.mpr ⟨_, hc.2, beq_self_eq_true _⟩
  · rw [← h] at hn; exact absurd hn (by decide +kernel)
theorem sgn_txt {o : Option Wd} {xs : List Str} {wd : Wd} {x : Str} (hw : o = some wd) (h : sgn o xs = x) (hn : (x != Str.ofString "") = true) : txtAt o = x := by
  subst hw; subst h
  dsimp only [sgn] at hn ⊢
  split at hn
  · rename_i hc; rw [if_pos hc]; rfl
  · exact absurd hn (by decide +kernel)
theorem txt_small (o : Option Wd) : (txtAt o).length ≤ sizeLine := by
  have h : (txtAt o).length ≤ 4 := by
    cases o with
    | none => decide +kernel
    | some w => cases w <;> decide +kernel
  exact Nat.le_trans h (by decide)
theorem first_any (o : Option Wd) : [Str.ofString "0", Str.ofString "5"].any (· == Txt.slice (txtAt o) none (some 1)) = (Wd.num? o).isSome := by
  cases o with
  | none => decide +kernel
  | some w => cases w <;> decide +kernel
section
variable {prog : Program} {w : World} {A : Around} {E : Value → Shared → Prop} {s : Shared} {h₀ : Heap} {L : Addr} {m : Str → Option Value} {news : List (Addr × Obj)} {wl D l b : Addr} {vs : List Value} {ws : List Wd} {n n' : Nat} {t1 t2 : Tok} {Q : Value → Shared → Prop} {p1 : Nat}
theorem addl_c (F : Fr h₀ L s.heap m) (N : News h₀ L s.heap news) (ha : (l, listOf vs.toArray n) ∈ news) (hb : (b, listOf #[Value.str (Str.ofString "") t1, Value.str (Str.ofString "") t2] n') ∈ news) (hf : vs.length ≤ 60)
    (h : ∀ D' h', Fr h₀ L h' m → News h₀ L h' ((D', listOf (List.toArray (vs ++ [Value.str (Str.ofString "") t1, Value.str (Str.ofString "") t2])) 0) :: news) → Q (.ref D') { s with heap := h' }) :
    wpAny (model prog w) A (binaryOp .Add (.ref l) (.ref b)) Q E s :=
  add_lists (ws := [Value.str (Str.ofString "") t1, Value.str (Str.ofString "") t2]) F N (News.isList N ha) (News.isList N hb) (fun h' F' N' => h _ h' F' N') (Nat.le_trans (show vs.length + 2 ≤ 62 by omega) (by decide))
theorem behind_c {value slice : PySem.Expr} {k : Int} {u : Tok} (N : News h₀ L s.heap news) (hm : (D, listOf (List.toArray (vs ++ [Value.str (Str.ofString "") t1, Value.str (Str.ofString "") t2])) n') ∈ news) (R : StrsAre vs (ws.map Wd.txt)) (hf : ws.length ≤ 60) (hp : p1 ≤ ws.length)
    (hk : (k = (p1 : Int) + 1 ∧ p1 < ws.length) ∨ (k = -1 ∧ ws.length ≤ p1)) (h : ∀ t, Q (.str (txtAt ws[p1 + 1]?) t) s)
    (hs : subscripted slice false (.ref D) (.int k u) = operate [.ref D, .int k u] (getItem (.ref D) (.int k u)) := by with_unfolding_all rfl) (hg : ∀ r, letTemporaryGo value (.ref D) r = pure () := by intro _; with_unfolding_all rfl) :
    wpAny (model prog w) A (subscriptTail value slice (.ref D) (.int k u)) Q E s := by
  have hl := News.isList N hm
  have hlen : vs.length = ws.length := by have h := StrsAre.len_eq R; rw [List.length_map] at h; exact h
  rcases hk with ⟨rfl, hlt⟩ | ⟨rfl, hge⟩
  · have e : ((p1 : Int) + 1).toNat = p1 + 1 := by omega
    cases hw : ws[p1 + 1]? with
    | some wd =>
      obtain ⟨t, ht⟩ := R.get (p1 + 1) wd.txt (by rw [List.getElem?_map, hw]; rfl)
      have hlt2 := lt_of_get hw
      refine subscriptTail_builtin hl.typeIs slot_list_getitem.lookup (wpAny_getItem_list hl (by omega) (by omega) (x := .str wd.txt t) ?_ ?_) hs hg
      · rw [List.getElem?_toArray, e, List.getElem?_append_left (by omega)]; exact ht
      · have := h t; rw [hw] at this; exact this
    | none =>
      have hge := List.getElem?_eq_none_iff.mp hw
      refine subscriptTail_builtin hl.typeIs slot_list_getitem.lookup (wpAny_getItem_list hl (by omega) (by omega) (x := .str (Str.ofString "") t1) ?_ ?_) hs hg
      · rw [List.getElem?_toArray, e, List.getElem?_append_right (by omega), show p1 + 1 - vs.length = 0 by omega]; rfl
      · have := h t1; rw [hw] at this; exact this
  · have hw : ws[p1 + 1]? = none := List.getElem?_eq_none_iff.mpr (by omega)
    have hsz : (List.toArray (vs ++ [Value.str (Str.ofString "") t1, Value.str (Str.ofString "") t2])).size = ws.length + 2 := by simp [hlen]
    refine subscriptTail_builtin hl.typeIs slot_list_getitem.lookup (wpAny_getItem_list_neg hl (by omega) (by rw [hsz]; omega) (by omega) (x := .str (Str.ofString "") t2) ?_ ?_) hs hg
    · rw [hsz, List.getElem?_toArray, show ((-1 : Int) + ((ws.length + 2 : Nat) : Int)).toNat = ws.length + 1 by omega, List.getElem?_append_right (by omega), show ws.length + 1 - vs.length = 1 by omega]; rfl
    · have := h t2; rw [hw] at this; exact this
end
/-- what a signed factor comes to, by what was read behind the sign -/
inductive SCase (ws : List Wd) (p : Nat) (x : Str) (r1 r : Option Dat) : Prop
  | none : r1 = none → r = none → SCase ws p x r1 r
  | plus {t : Dat} : x = Str.ofString "+" → r1 = some t → r = some t → SCase ws p x r1 r
  | own {u sc : Int} : x = Str.ofString "-" → [Str.ofString "0", Str.ofString "5"].any (· == Txt.slice (txtAt ws[p + 1]?) none (some 1)) = true → (txtAt ws[p + 1 + 1]? != Str.ofString "**") = true → r1 = some (num u sc) → r = some (num (-u) sc) → SCase ws p x r1 r
  | neg1 {t : Dat} : x = Str.ofString "-" → [Str.ofString "0", Str.ofString "5"].any (· == Txt.slice (txtAt ws[p + 1]?) none (some 1)) = false → r1 = some t → r = some (Mine.neg t) → SCase ws p x r1 r
  | neg2 {t : Dat} : x = Str.ofString "-" → [Str.ofString "0", Str.ofString "5"].any (· == Txt.slice (txtAt ws[p + 1]?) none (some 1)) = true → (txtAt ws[p + 1 + 1]? != Str.ofString "**") = false → r1 = some t → r = some (Mine.neg t) → SCase ws p x r1 r
theorem own_txt (o o' : Option Wd) : (kdIs o (Str.ofString "number") && !(isSg o' (Str.ofString "**"))) = ((Wd.num? o).isSome && (txtAt o' != Str.ofString "**")) := by
  have e1 : kdIs o (Str.ofString "number") = (Wd.num? o).isSome := by cases o with
    | none => rfl
    | some w => cases w <;> decide +kernel
  have e2 : (!(isSg o' (Str.ofString "**"))) = (txtAt o' != Str.ofString "**") := by cases o' with
    | none => decide +kernel
    | some w => cases w <;> decide +kernel
  rw [e1, e2]
theorem signed_turn {ws : List Wd} {k d p : Nat} {r : Option Dat} {q : Nat} (h : run ws (k + 1) .fac d p = some (r, q)) :
    (sgn ws[p]? [Str.ofString "+", Str.ofString "-"] = Str.ofString "" ∧ run ws k .pow d p = some (r, q)) ∨
    ∃ wd x r1, ws[p]? = some wd ∧ txtAt ws[p]? = x ∧ [Str.ofString "+", Str.ofString "-"].any (· == x) = true ∧ run ws k .pow d (p + 1) = some (r1, q) ∧ SCase ws p x r1 r := by
  rcases fac_turn h with ⟨hsg, hrun0⟩ | ⟨hw, hsg, hrun0⟩ | ⟨hw, hsg, ho, hrun0, hres⟩ | ⟨hw, hsg, ho, hrun0, hnone, hsome⟩
  · exact .inl ⟨hsg, hrun0⟩
  · refine .inr ⟨_, _, r, hw, sgn_txt hw hsg (by decide +kernel), by decide +kernel, hrun0, ?_⟩
    cases r with
    | none => exact .none rfl rfl
    | some t => exact .plus rfl rfl rfl
  · rw [own_txt, Bool.and_eq_true] at ho
    exact .inr ⟨_, _, _, hw, sgn_txt hw hsg (by decide +kernel), by decide +kernel, hrun0, .own rfl ((first_any _).trans ho.1) ho.2 rfl hres⟩
  · rename_i wd r1
    rw [own_txt, Bool.and_eq_false_iff] at ho
    refine .inr ⟨_, _, r1, hw, sgn_txt hw hsg (by decide +kernel), by decide +kernel, hrun0, ?_⟩
    cases r1 with
    | none => exact .none rfl (hnone rfl)
    | some t =>
      cases hn : (Wd.num? ws[p + 1]?).isSome with
      | false => exact .neg1 rfl ((first_any _).trans hn) rfl (hsome t rfl)
      | true =>
        rw [hn] at ho
        exact .neg2 rfl ((first_any _).trans hn) (ho.resolve_left (by decide)) rfl (hsome t rfl)
theorem upS2 {h₀ h' : Heap} {L : Addr} {a b x : Addr × Obj} {l : List (Addr × Obj)} (N : News h₀ L h' (a :: b :: x :: l)) : News h₀ L h' (x :: a :: b :: l) := fun p hp => N p (by
  cases hp with
  | head => exact .tail _ (.tail _ (.head _))
  | tail _ h => cases h with
    | head => exact .head _
    | tail _ h => cases h with
      | head => exact .tail _ (.head _)
      | tail _ h => exact .tail _ (.tail _ (.tail _ h)))
/-- behind a bracket -/
inductive PCase (ws : List Wd) (r1 : Option Dat) (q1 : Nat) (r : Option Dat) (q : Nat) : Prop
  | none : r1 = none → r = none → q = q1 → PCase ws r1 q1 r q
  | yes {t : Dat} : r1 = some t → (txtAt ws[q1]? != Str.ofString ")") = false → r = some t → q = q1 + 1 → q1 + 1 ≤ ws.length → PCase ws r1 q1 r q
  | no {t : Dat} : r1 = some t → (txtAt ws[q1]? != Str.ofString ")") = true → r = none → q = q1 → PCase ws r1 q1 r q
inductive STurn (ws : List Wd) (k d p : Nat) (r : Option Dat) (q : Nat) : Prop
  | five : txtAt ws[p]? = Str.ofString "5" → r = some (num 5 0) → q = p + 1 → p + 1 ≤ ws.length → STurn ws k d p r q
  | quarter : txtAt ws[p]? = Str.ofString "0.25" → r = some (num 25 2) → q = p + 1 → p + 1 ≤ ws.length → STurn ws k d p r q
  | other {x : Str} : txtAt ws[p]? = x → [Str.ofString "5", Str.ofString "0.25"].any (· == x) = false → (x != Str.ofString "(") = true → r = none → q = p → STurn ws k d p r q
  | deep : txtAt ws[p]? = Str.ofString "(" → 20 ≤ d → r = none → q = p + 1 → p + 1 ≤ ws.length → STurn ws k d p r q
  | par {r1 : Option Dat} {q1 : Nat} : txtAt ws[p]? = Str.ofString "(" → d < 20 → p + 1 ≤ ws.length → run ws k .sum (d + 1) (p + 1) = some (r1, q1) → PCase ws r1 q1 r q → STurn ws k d p r q
theorem single_turn {ws : List Wd} {k d p : Nat} {r : Option Dat} {q : Nat} (h : run ws (k + 1) .prim d p = some (r, q)) : STurn ws k d p r q := by
  simp only [run] at h
  split at h
  · rename_i hw
    injection h with h; injection h with ha hb
    exact .five (by rw [hw]; rfl) ha.symm hb.symm (lt_of_get hw)
  · rename_i hw
    injection h with h; injection h with ha hb
    exact .quarter (by rw [hw]; rfl) ha.symm hb.symm (lt_of_get hw)
  · rename_i hw
    have hp := lt_of_get hw
    rcases Nat.lt_or_ge d 20 with hd | hd
    · cases e : run ws k .sum (d + 1) (p + 1) with
      | none => rw [e] at h; cases h
      | some x =>
        obtain ⟨r1, q1⟩ := x
        rw [e] at h
        refine .par (by rw [hw]; rfl) hd hp e ?_
        cases r1 with
        | none => injection h with h; injection h with ha hb; exact .none rfl ha.symm hb.symm
        | some t =>
          simp only at h
          split at h
          · rename_i hw'
            injection h with h; injection h with ha hb
            exact .yes rfl (by rw [hw']; decide +kernel) ha.symm hb.symm (lt_of_get hw')
          · rename_i hw'
            injection h with h; injection h with ha hb
            refine .no rfl ?_ ha.symm hb.symm
            cases hq : ws[q1]? with
            | none => decide +kernel
            | some x => cases x <;> first | (exact absurd hq hw') | decide +kernel
    · cases k with
      | zero => simp only [run] at h; cases h
      | succ k =>
        rw [show run ws (k + 1) .sum (d + 1) (p + 1) = some (none, p + 1) from by simp only [run]; rw [if_pos (by omega)]] at h
        injection h with h; injection h with ha hb
        exact .deep (by rw [hw]; rfl) hd ha.symm hb.symm hp
  · rename_i h1 h2 h3
    injection h with h; injection h with ha hb
    refine .other rfl ?_ ?_ ha.symm hb.symm
    · cases hw : ws[p]? with
      | none => decide +kernel
      | some x => cases x <;> first | (exact absurd hw h1) | (exact absurd hw h2) | (exact absurd hw h3) | decide +kernel
    · cases hw : ws[p]? with
      | none => decide +kernel
      | some x => cases x <;> first | (exact absurd hw h1) | (exact absurd hw h2) | (exact absurd hw h3) | decide +kernel
theorem upS3 {h₀ h' : Heap} {L : Addr} {a b c x : Addr × Obj} {l : List (Addr × Obj)} (N : News h₀ L h' (a :: b :: c :: x :: l)) : News h₀ L h' (x :: a :: b :: l) := fun p hp => N p (by
  cases hp with
  | head => exact .tail _ (.tail _ (.tail _ (.head _)))
  | tail _ h => cases h with
    | head => exact .head _
    | tail _ h => cases h with
      | head => exact .tail _ (.head _)
      | tail _ h => exact .tail _ (.tail _ (.tail _ (.tail _ h))))
theorem castS (n : Nat) : (n : Int) + 1 = ((n + 1 : Nat) : Int) := rfl
end Mine
end
section
open PySem PySem.W PyProof.Rows PySem.Spec PySem.Calls
set_option Elab.async false
example : True := by k_with_none; trivial
example : True := by
  k_with "fold" => (refine folds ?_; intro qk ek)
  k_with "at0" => (with_reducible show At _ _ _ _ (.Name _ _) _ _ _); exact at_L (by rfl) (by rfl) (by decide) (by k_asm) (Eq.refl (some _))
  k_with "atF" => k_dflt first | k_extra "at0" | ((with_reducible show At _ _ _ _ (.Name _ _) _ _ _); exact at_K (by rfl) (by rfl) (by decide) (by k_asm) (by k_asm) (by k_is) (by k_asm)) | fail
  k_with "atB" => k_dflt first | ((with_reducible show At _ _ _ _ (.Name _ _) _ _ _); exact at_B (by rfl) (by rfl) (by decide) (by k_asm) (by k_asm) (by k_is) (by boot_fast) (by decide) (by k_asm)) | fail
  k_with "at" => k_dflt first | ((with_reducible show At _ _ _ _ (.Constant _ _ _) _ _ _); first | exact at_S | exact at_I | exact at_N) | k_extra "at0" | ((with_reducible show At _ _ _ _ (.Attribute (.Name _ _) _ _) _ _ _); exact at_attr (by k_asm) (by k_asm) (by k_extra "at0") (by k_inst) (by k_get) (by k_is) (by k_is) (by k_is) (by k_is) (by first | exact rfl | k_handed)) | ((with_reducible show At _ _ _ _ (.BinOp _ .Add _ _) _ _ _); exact at_add (by k_extra "at") (by k_extra "at")) | k_extra "atF" | fail
  k_with "spl" => k_dflt first | exact spl0 | ((with_reducible show Spl _ _ _ _ [_] _ _ _); exact spl1 (by k_extra "at")) | ((with_reducible show Spl _ _ _ _ [_, _] _ _ _); exact spl2 (by k_extra "at") (by k_extra "at")) | ((with_reducible show Spl _ _ _ _ (_ :: _) _ _ _); exact splC (by k_extra "at") (by k_extra "spl")) | fail
  k_with "eval Call Attribute" => with_reducible (k_here; show wpAny _ _ (eval (.Call (.Attribute _ _ _) _ [] _) _) _ _ _; first | refine mcall (by k_extra "spl") (by k_dflt exact rfl) (by k_dflt k_asm) (by k_dflt k_asm) (by k_extra "at") (by k_dflt k_inst) (by k_get) (by k_is) (by k_is) (by k_is) (by k_is) (by k_dflt exact rfl) ?_ | fail)
  k_with "eval Call" => first | with_reducible (k_here; show wpAny _ _ (eval (.Call (.Name _ _) _ [] _) _) _ _ _; first | refine fcall (by k_extra "spl") (by k_dflt exact rfl) (by k_dflt k_asm) (by k_dflt k_asm) (by k_extra "atF") (by k_is) (by k_dflt exact rfl) ?_ | ((first | show wpAny _ _ (eval (.Call (.Name (Str.ofString "len") _) _ _ _) _) _ _ _ | show wpAny _ _ (eval (.Call (.Name (Str.ofString "min") _) _ _ _) _) _ _ _); refine bcall (by k_extra "spl") (by k_extra "atB") (by k_dflt exact rfl) ?_) | fail) | (k_here; k_dflt (refine Call_ ?_)) | fail
  k_with "spliced" => first | with_reducible (k_here; first | refine spl_use (by k_extra "spl") ?_ | fail) | (k_dflt (first | refine spliced_more ?_ | refine spliced_none ?_)) | fail
  k_with "eval Subscript" => with_reducible (k_here; show wpAny _ _ (eval (.Subscript _ _ _) _) _ _ _; first | refine sub_at (by k_extra "at") (by k_extra "at") ?_ | fail)
  k_with "eval BinOp" => with_reducible (k_here; show wpAny _ _ (eval (.BinOp _ _ _ _) _) _ _ _; first | refine at_use (by k_extra "at") ?_ | refine bin_at (by k_extra "at") (by k_extra "at") ?_ | fail)
  k_with "isTrue Compare" => with_reducible (k_here; show wpAny _ _ (PySem.isTrue (.Compare _ [_] [_] _) _ _) _ _ _; first | refine cmpT_at (by k_dflt rfl) (by k_extra "at") (by k_extra "at") ?_ | refine cmpT_atL (by k_dflt rfl) (by k_extra "at") ?_ | fail)
  k_with "eval Compare" => with_reducible (k_here; show wpAny _ _ (eval (.Compare _ [_] [_] _) _) _ _ _; first | refine cmp_at (by k_dflt rfl) (by k_extra "at") (by k_extra "at") ?_ | fail)
  k_with "eval Attribute Name" => with_reducible (k_here; first | refine at_use (by k_extra "at") ?_ | fail)
  k_with "eval Name" => with_reducible (k_here; first | refine at_use (by k_extra "at") ?_ | fail)
  k_with "itemAt" => (k_here; (with_reducible show wpAny _ _ (subscriptTail _ _ (Value.ref _) (Value.int _ _)) _ _ _); with_reducible first | refine item_litK (by with_unfolding_all is_list) (by k_dflt decide) (by k_dflt decide) (by with_unfolding_all rfl) ?_ (by with_unfolding_all rfl) | refine item_tupleT (by k_dflt exact News.isTup (by k_asm) (by k_mem)) (by k_dflt decide) (by k_dflt decide) (by k_dflt rfl) (by k_dflt rfl) ?_ | fail); k_whole
  k_with "turned" => (k_here; k_dflt (refine kba_turn (value' := PySem.Expr.Name (PySem.Str.ofString "_") ⟨0, 0, 0, 0⟩) (fun _ => rfl) ?_))
  k_with "subscriptTail Name Constant ref int" => first | k_extra "subscriptTail" | k_extra "itemAt" | fail
  k_with "subscriptTail Subscript Constant ref int" => k_extra "itemAt"
  k_with "subscriptTail Name" => k_extra "subscriptTail"
  k_with "subscriptTail Call" => k_extra "turned"
  k_with "subscriptTail BinOp" => k_extra "turned"
  k_with "seq" => first | (k_here; k_gentoks) | ((with_reducible refine wpAny_execs_cons ?_); try dsimp only) | fail
  k_with "execs cons Assign cons" => k_extra "seq"
  k_with "execs cons If cons" => k_extra "seq"
  k_with "execs cons Return nil" => k_extra "seq"
  k_with "exec Assign cons" => (with_reducible show wpAny _ _ (exec (.Assign [.Name _ _] _ _) _) _ _ _); k_dflt (refine wpAny_Assign_Name ?_)
  k_with "exec If" => refine wpAny_If ?_
  k_with "eval Call Name cons nil" => k_extra "eval Call"
  k_with "isTrue Compare Name cons cons" => k_extra "isTrue Compare"
  k_with "truthy bool false" => refine wpAny_truthy_bool ?_
  k_with "truthy bool" => refine wpAny_truthy_bool ?_
  k_with "room" => first | exact lb0 (j := 1) (by assumption) rfl | exact lb2 (j := 1) (by assumption) (by assumption) rfl
  k_with "om" => first | (k_whole; first | exact lb0 (by assumption) rfl | exact lb1 (by assumption) rfl | exact lb2 (by assumption) (by assumption) rfl | exact lb4 (by assumption) rfl | exact Nat.le_of_succ_le (by assumption)) | omega
  k_with "steps" => repeat' (first | ((with_reducible show wpAny _ _ (exec _ _) _ _ _); (fail_if_success (fail_if_success k_fold)); k_extra "fold") | ((fail_if_success (fail_if_success k_unfold)); first | dsimp only [qk] | dsimp only [ek] | (k_unfold; (try dsimp only))) | (k_end; wrow_close) | walk1 | (dsimp only; walk1) | (leave1; walk_say "STEP leave1"; try dsimp only) | fail)
  trivial
namespace Mine
set_option maxRecDepth 100000
set_option maxHeartbeats 0
section
variable {w : World} {p : Program} {loose : List Str} {mean : ExcName → Option Value} {mg mb : Str → Option Value} {dp un : Nat} {gd : Option (List Code)} {cn : Str} {cs : Scope} {a : Addr} {ccd : Value} {cl : List (Str × Addr)} {outer : List Env} {A₀ : Around} {base h₀ : Heap} {L : Addr} {m : Str → Option Value}
  {news : List (Addr × Obj)} {s : Shared} {Q E : Value → Shared → Prop} {st wl : Addr} {t : Tok} {vs : List Value} {n cap : Nat} {pos : Nat} {ws : List Wd} {keep : List (Addr × Obj)}
example : True := by
  k_with "upd" => exact updF_upd (by assumption) _
  trivial
example : True := by
  k_with "rel" => first | (with_reducible assumption) | exact dle1 (by with_reducible assumption) rfl | k_extra "om" | exact rfl | (refine StIn.mono (by with_reducible assumption) ?_; (intro _ hz; first | exact hz | exact .tail _ hz | exact .tail _ (.tail _ hz) | exact .tail _ (.tail _ (.tail _ hz)) | exact .tail _ (.tail _ (.tail _ (.tail _ hz))))) | exact UpdF.head (by with_reducible assumption) | ((try dsimp only [ktrTop, Around.deeper]); k_extra "om") | assumption | k_mem | k_updF
  trivial
example : True := by
  k_with "mem" => first | ktr_member | (refine List.mem_cons_of_mem _ ?_; k_mem)
  trivial
example : True := by
  k_with "updF" => exact UpdF.head (by with_reducible assumption)
  trivial
example : True := by
  k_with "upd" => exact updF_upd (UpdF.head (by with_reducible assumption)) _
  trivial
example : True := by
  k_with "ite" => (k_closed; with_reducible first | refine ite_pos (by decide) ?_ | refine ite_neg (by decide) ?_)
  trivial
example : True := by
  k_with "eval Dict" => (k_here; k_dflt (refine' kdn_int ?q ?F ?N ?b ?a ?l ?e ?n ?_; (case q => rfl); (case F => k_asm); (case N => first | k_asm | exact News.nil); (case b => exact Top.nolimit (by k_asm)); (case a => rfl); (case l => rfl); (case e => exact List.cons_ne_nil _ _); (case n => exact Nat.le_of_ble_eq_true rfl)); intro d' h' o' F' N' l1 lo' hd'; (try k_lt l1))
  trivial
example : True := by
  k_with "compareOp NotIn str ref" => (k_here; (with_reducible show wpAny _ _ (compareOp CmpOp.NotIn (Value.str _ _) (Value.ref _)) _ _ _); (refine' notin_tuple_strs ?k1 ?k2 ?_; (case k1 => exact News.isTup (by k_asm) (by k_mem)); (case k2 => first | exact .cons _ _ (.cons _ _ .nil) | exact .cons _ _ .nil); k_whole))
  trivial
example : True := by
  k_with "setItem ref int" => (k_here; k_dflt (refine' ki_set ?F ?N ?a ?b ?e ?U ?_; (case F => k_asm); (case N => k_asm); (case U => k_upd); (case a => decide); (case b => decide); (case e => rfl)); intro h' F' N'; (try dsimp only [List.nil_append, List.cons_append] at N'); (try simp only [castS] at N'))
  trivial
example : True := by
  k_with "nws" => first | k_asm | exact newsTl (by assumption) | exact newsTl (newsTl (by assumption)) | exact newsTl2 (by assumption)
  trivial
example : True := by
  k_with "call ref" => (k_here; (try dsimp only [List.nil_append, List.cons_append, List.append_nil]); (with_reducible show wpAny _ _ (call (Value.ref 481) [Value.ref _]) _ _ _); k_dflt (first | refine' word_c (by ktr_rel) (by ktr_rel) (by ktr_rel) (by ktr_rel) (by ktr_rel) (by ktr_rel) (by ktr_rel) (by ktr_rel) (by ktr_rel) (by ktr_rel) (by ktr_rel) ?_); k_whole; intro h' tk' t' F' N'; (try k_sweep))
  trivial
def HaltA (P : Prop) := P
theorem haltA {P : Prop} (h : HaltA P) : P := h
example : True := by
  k_with "call ref" => (k_here; (try dsimp only [List.nil_append, List.cons_append, List.append_nil]); (with_reducible show wpAny _ _ (call (Value.ref 488) [Value.ref _, Value.int _ _, Value.int _ _]) _ _ _); k_dflt (refine' haltA ?_))
  trivial
example : True := by
  k_with "call ref" => (k_here; (try dsimp only [List.nil_append, List.cons_append, List.append_nil]); (with_reducible show wpAny _ _ (call (Value.ref 488) [Value.ref _, Value.int _ _, Value.int _ _]) _ _ _); k_dflt (show wpAny _ _ (call (Value.ref 488) [Value.ref _, Value.int 2 _, Value.int _ _]) _ _ _); k_dflt (first | refine' lev_use (by assumption) (by assumption) (by ktr_rel) (by ktr_rel) (by ktr_rel) (by with_reducible assumption) (by ktr_rel) (by ktr_rel) (by ktr_rel) (by ktr_rel) (by ktr_rel) (by with_reducible assumption) (by ktr_rel) (by ktr_rel) (by ktr_rel) ?_ | refine' lev_use (by assumption) (by assumption) (by ktr_rel) (by ktr_rel) (by ktr_rel) (pickA (by with_reducible assumption)) (by ktr_rel) (by ktr_rel) (by ktr_rel) (by ktr_rel) (by ktr_rel) (apS (pickA (by with_reducible assumption)) (by with_reducible assumption)) (by ktr_rel) (by ktr_rel) (by ktr_rel) ?_); k_whole; intro va' t' h' tk' news' F' N' R' ap' sub' D' hpq' hq'; (have hwl := mem_tail N' R'.wl); (have hln := R'.len); (have hfw := R'.few); (try (rcases r2 with _ | u2 <;> dsimp only [valO])); (all_goals (try k_sweep)))
  trivial
example : True := by
  k_with "pyIter ref" => ((with_reducible show wpAny _ _ (pyIter (Value.ref _)) (fun it s₂ => LoopAtV _ _ _ _ _ _ _ _ _ it s₂) _ _); k_here; (rename IsRange _ _ _ _ _ _ _ _ => rgX); k_dflt (refine' law_loop (K := k) sum_turn (by rfl) rgX (by first | exact R'.len | (simp only [List.size_toArray]; exact R'.len)) (by k_asm) (by first | assumption | exact newsTl (by assumption)) R' ap' sub' D' hsome0 hnone0 hpq' hq' ?kf ?kN ?kS ?kG ?kD; (case kf => exact if_pos rfl)); (case' kN => (intro tq2 news2 v2 u2' h2 tk2 er F2 N2 R2 ap2 sub2 hp2 hq2; dsimp only [frL] at F2; (have hwl2 := mem_tail N2 R2.wl)));(case' kS => (intro t2 a2 tq2 news2 v2 u2' h2 tk2 er hsg F2 N2 R2 ap2 sub2 D2 hp2 hq2; dsimp only [frL] at F2; (have hwl2 := mem_tail N2 R2.wl); (have hany := stop_any (.inl rfl) hsg); (have htup := mem_tail N2 (sub2 _ (List.Mem.head _)))));(case' kG => (intro t2 a2 tq2 q2 wd2 k2 r2 q3 news2 v2 u2' h2 tk2 Z hw hsg hnz hk2 hrun2 hq5 F2 N2 R2 ap2 sub2 D2 hz1 hz2; dsimp only [frL] at F2; (have hwl2 := mem_tail N2 R2.wl); (obtain ⟨htx, hany⟩ := go_any hw hsg hnz); (have htup := mem_tail N2 (sub2 _ (List.Mem.head _))); (have S2 := IH _ hk2)));(case' kD => (intro a2 tq2 news2 u2' h2 tk2 F2 N2 R2 ap2 sub2 D2 hp2 hq2; dsimp only [frD] at F2)))
  trivial
example : True := by
  k_with "RetPost" => (dsimp only [RetPost])
  trivial
example : True := by
  k_with "GoPost" => (dsimp only [GoPost])
  trivial
theorem levA {k : Nat} (IH : ∀ k', k' ≤ k → DoesL w p loose mean mg mb st wl vs n cap ws 488 (ar3 st 2) 2 .prod k') : DoesL w p loose mean mg mb st wl vs n cap ws 488 (ar3 st 1) 0 .sum (k + 1) := by
  intro dp un gd cn cs a ccd cl outer A₀ base h₀ L m news s Q E t pos d td tv r q B F X N T hk hdp hun R ap hne hp hd hrun ret
  dsimp only [ar3, ar2]
  revert X; k_fill; intro X
  have S := IH k (Nat.le_refl k)
  simp only [run] at hrun
  rw [if_neg (by omega)] at hrun
  obtain ⟨r1, q1, hrun0, hnone0, hsome0⟩ := bind_cases (lvL := .sumL) hrun
  refine wpAny_call ?_
  k_dflt k_enter
  k_extra "steps"
  all_goals first
    | ((rw [er] at ret); exact ret 0 _ _ _ _ (by k_asm) (by k_extra "nws") R2 ap2 (fun z hz => sub2 z (.tail _ hz)) (fun _ h => nomatch h) hp2 hq2)
    | ((rw [er] at ret); exact ret _ _ _ _ _ (by k_asm) (by k_extra "nws") R2 ap2 (fun z hz => sub2 z (.tail _ hz)) (fun tr h => by injection h with h; subst h; exact D2) hp2 hq2)
    | exact ret _ _ _ _ _ (by k_asm) (by k_extra "nws") R2 ap2 (fun z hz => sub2 z (.tail _ hz)) D2 hp2 hq2
    | exact hz1 _ _ _ _ _ rfl (by k_asm) (by k_extra "nws") R' ap' sub' hpq' hq' (if_pos rfl) (by intro z h1 h2 h3; simp only [List.contains_cons, List.contains_nil, Bool.or_false, Bool.or_eq_false_iff, beq_eq_false_iff_ne, ne_eq] at h3; simp [frL, h1, h2, h3])
    | exact hz2 _ _ _ _ _ _ _ _ _ _ rfl (by k_asm) (by k_asm) R' ap' sub' (D' _ rfl) hpq' hq' (if_pos rfl) (by intro z h1 h2 h3; simp only [List.contains_cons, List.contains_nil, Bool.or_false, Bool.or_eq_false_iff, beq_eq_false_iff_ne, ne_eq] at h3; simp [frL, h1, h2, h3])
    | trace_state
end
end Mine
end
section
open PySem PySem.W PyProof.Rows PySem.Spec PySem.Calls
set_option Elab.async false
example : True := by k_with_none; trivial
example : True := by
  k_with "fold" => (refine folds ?_; intro qk ek)
  k_with "at0" => (with_reducible show At _ _ _ _ (.Name _ _) _ _ _); exact at_L (by rfl) (by rfl) (by decide) (by k_asm) (Eq.refl (some _))
  k_with "atF" => k_dflt first | k_extra "at0" | ((with_reducible show At _ _ _ _ (.Name _ _) _ _ _); exact at_K (by rfl) (by rfl) (by decide) (by k_asm) (by k_asm) (by k_is) (by k_asm)) | fail
  k_with "atB" => k_dflt first | ((with_reducible show At _ _ _ _ (.Name _ _) _ _ _); exact at_B (by rfl) (by rfl) (by decide) (by k_asm) (by k_asm) (by k_is) (by boot_fast) (by decide) (by k_asm)) | fail
  k_with "at" => k_dflt first | ((with_reducible show At _ _ _ _ (.Constant _ _ _) _ _ _); first | exact at_S | exact at_I | exact at_N) | k_extra "at0" | ((with_reducible show At _ _ _ _ (.Attribute (.Name _ _) _ _) _ _ _); exact at_attr (by k_asm) (by k_asm) (by k_extra "at0") (by k_inst) (by k_get) (by k_is) (by k_is) (by k_is) (by k_is) (by first | exact rfl | k_handed)) | ((with_reducible show At _ _ _ _ (.BinOp _ .Add _ _) _ _ _); exact at_add (by k_extra "at") (by k_extra "at")) | k_extra "atF" | fail
  k_with "spl" => k_dflt first | exact spl0 | ((with_reducible show Spl _ _ _ _ [_] _ _ _); exact spl1 (by k_extra "at")) | ((with_reducible show Spl _ _ _ _ [_, _] _ _ _); exact spl2 (by k_extra "at") (by k_extra "at")) | ((with_reducible show Spl _ _ _ _ (_ :: _) _ _ _); exact splC (by k_extra "at") (by k_extra "spl")) | fail
  k_with "eval Call Attribute" => with_reducible (k_here; show wpAny _ _ (eval (.Call (.Attribute _ _ _) _ [] _) _) _ _ _; first | refine mcall (by k_extra "spl") (by k_dflt exact rfl) (by k_dflt k_asm) (by k_dflt k_asm) (by k_extra "at") (by k_dflt k_inst) (by k_get) (by k_is) (by k_is) (by k_is) (by k_is) (by k_dflt exact rfl) ?_ | fail)
  k_with "eval Call" => first | with_reducible (k_here; show wpAny _ _ (eval (.Call (.Name _ _) _ [] _) _) _ _ _; first | refine fcall (by k_extra "spl") (by k_dflt exact rfl) (by k_dflt k_asm) (by k_dflt k_asm) (by k_extra "atF") (by k_is) (by k_dflt exact rfl) ?_ | ((first | show wpAny _ _ (eval (.Call (.Name (Str.ofString "len") _) _ _ _) _) _ _ _ | show wpAny _ _ (eval (.Call (.Name (Str.ofString "min") _) _ _ _) _) _ _ _); refine bcall (by k_extra "spl") (by k_extra "atB") (by k_dflt exact rfl) ?_) | fail) | (k_here; k_dflt (refine Call_ ?_)) | fail
  k_with "spliced" => first | with_reducible (k_here; first | refine spl_use (by k_extra "spl") ?_ | fail) | (k_dflt (first | refine spliced_more ?_ | refine spliced_none ?_)) | fail
  k_with "eval Subscript" => with_reducible (k_here; show wpAny _ _ (eval (.Subscript _ _ _) _) _ _ _; first | refine sub_at (by k_extra "at") (by k_extra "at") ?_ | fail)
  k_with "eval BinOp" => with_reducible (k_here; show wpAny _ _ (eval (.BinOp _ _ _ _) _) _ _ _; first | refine at_use (by k_extra "at") ?_ | refine bin_at (by k_extra "at") (by k_extra "at") ?_ | fail)
  k_with "isTrue Compare" => with_reducible (k_here; show wpAny _ _ (PySem.isTrue (.Compare _ [_] [_] _) _ _) _ _ _; first | refine cmpT_at (by k_dflt rfl) (by k_extra "at") (by k_extra "at") ?_ | refine cmpT_atL (by k_dflt rfl) (by k_extra "at") ?_ | fail)
  k_with "eval Compare" => with_reducible (k_here; show wpAny _ _ (eval (.Compare _ [_] [_] _) _) _ _ _; first | refine cmp_at (by k_dflt rfl) (by k_extra "at") (by k_extra "at") ?_ | fail)
  k_with "eval Attribute Name" => with_reducible (k_here; first | refine at_use (by k_extra "at") ?_ | fail)
  k_with "eval Name" => with_reducible (k_here; first | refine at_use (by k_extra "at") ?_ | fail)
  k_with "itemAt" => (k_here; (with_reducible show wpAny _ _ (subscriptTail _ _ (Value.ref _) (Value.int _ _)) _ _ _); with_reducible first | refine item_litK (by with_unfolding_all is_list) (by k_dflt decide) (by k_dflt decide) (by with_unfolding_all rfl) ?_ (by with_unfolding_all rfl) | refine item_tupleT (by k_dflt exact News.isTup (by k_asm) (by k_mem)) (by k_dflt decide) (by k_dflt decide) (by k_dflt rfl) (by k_dflt rfl) ?_ | fail); k_whole
  k_with "turned" => (k_here; k_dflt (refine kba_turn (value' := PySem.Expr.Name (PySem.Str.ofString "_") ⟨0, 0, 0, 0⟩) (fun _ => rfl) ?_))
  k_with "subscriptTail Name Constant ref int" => first | k_extra "subscriptTail" | k_extra "itemAt" | fail
  k_with "subscriptTail Subscript Constant ref int" => k_extra "itemAt"
  k_with "subscriptTail Name" => k_extra "subscriptTail"
  k_with "subscriptTail Call" => k_extra "turned"
  k_with "subscriptTail BinOp" => k_extra "turned"
  k_with "seq" => first | (k_here; k_gentoks) | ((with_reducible refine wpAny_execs_cons ?_); try dsimp only) | fail
  k_with "execs cons Assign cons" => k_extra "seq"
  k_with "execs cons If cons" => k_extra "seq"
  k_with "execs cons Return nil" => k_extra "seq"
  k_with "exec Assign cons" => (with_reducible show wpAny _ _ (exec (.Assign [.Name _ _] _ _) _) _ _ _); k_dflt (refine wpAny_Assign_Name ?_)
  k_with "exec If" => refine wpAny_If ?_
  k_with "eval Call Name cons nil" => k_extra "eval Call"
  k_with "isTrue Compare Name cons cons" => k_extra "isTrue Compare"
  k_with "truthy bool false" => refine wpAny_truthy_bool ?_
  k_with "truthy bool" => refine wpAny_truthy_bool ?_
  k_with "room" => first | exact lb0 (j := 1) (by assumption) rfl | exact lb2 (j := 1) (by assumption) (by assumption) rfl
  k_with "om" => first | (k_whole; first | exact lb0 (by assumption) rfl | exact lb1 (by assumption) rfl | exact lb2 (by assumption) (by assumption) rfl | exact lb4 (by assumption) rfl | exact Nat.le_of_succ_le (by assumption)) | omega
  k_with "steps" => repeat' (first | ((with_reducible show wpAny _ _ (exec _ _) _ _ _); (fail_if_success (fail_if_success k_fold)); k_extra "fold") | ((fail_if_success (fail_if_success k_unfold)); first | dsimp only [qk] | dsimp only [ek] | (k_unfold; (try dsimp only))) | (k_end; wrow_close) | walk1 | (dsimp only; walk1) | (leave1; walk_say "STEP leave1"; try dsimp only) | fail)
  trivial
namespace Mine
set_option maxRecDepth 100000
set_option maxHeartbeats 0
section
variable {w : World} {p : Program} {loose : List Str} {mean : ExcName → Option Value} {mg mb : Str → Option Value} {dp un : Nat} {gd : Option (List Code)} {cn : Str} {cs : Scope} {a : Addr} {ccd : Value} {cl : List (Str × Addr)} {outer : List Env} {A₀ : Around} {base h₀ : Heap} {L : Addr} {m : Str → Option Value}
  {news : List (Addr × Obj)} {s : Shared} {Q E : Value → Shared → Prop} {st wl : Addr} {t : Tok} {vs : List Value} {n cap : Nat} {pos : Nat} {ws : List Wd} {keep : List (Addr × Obj)}
example : True := by
  k_with "upd" => exact updF_upd (by assumption) _
  trivial
example : True := by
  k_with "rel" => first | (with_reducible assumption) | exact dle1 (by with_reducible assumption) rfl | k_extra "om" | exact rfl | (refine StIn.mono (by with_reducible assumption) ?_; (intro _ hz; first | exact hz | exact .tail _ hz | exact .tail _ (.tail _ hz) | exact .tail _ (.tail _ (.tail _ hz)) | exact .tail _ (.tail _ (.tail _ (.tail _ hz))))) | exact UpdF.head (by with_reducible assumption) | ((try dsimp only [ktrTop, Around.deeper]); k_extra "om") | assumption | k_mem | k_updF
  trivial
example : True := by
  k_with "mem" => first | ktr_member | (refine List.mem_cons_of_mem _ ?_; k_mem)
  trivial
example : True := by
  k_with "updF" => exact UpdF.head (by with_reducible assumption)
  trivial
example : True := by
  k_with "upd" => exact updF_upd (UpdF.head (by with_reducible assumption)) _
  trivial
example : True := by
  k_with "ite" => (k_closed; with_reducible first | refine ite_pos (by decide) ?_ | refine ite_neg (by decide) ?_)
  trivial
example : True := by
  k_with "eval Dict" => (k_here; k_dflt (refine' kdn_int ?q ?F ?N ?b ?a ?l ?e ?n ?_; (case q => rfl); (case F => k_asm); (case N => first | k_asm | exact News.nil); (case b => exact Top.nolimit (by k_asm)); (case a => rfl); (case l => rfl); (case e => exact List.cons_ne_nil _ _); (case n => exact Nat.le_of_ble_eq_true rfl)); intro d' h' o' F' N' l1 lo' hd'; (try k_lt l1))
  trivial
example : True := by
  k_with "compareOp NotIn str ref" => (k_here; (with_reducible show wpAny _ _ (compareOp CmpOp.NotIn (Value.str _ _) (Value.ref _)) _ _ _); (refine' notin_tuple_strs ?k1 ?k2 ?_; (case k1 => exact News.isTup (by k_asm) (by k_mem)); (case k2 => first | exact .cons _ _ (.cons _ _ .nil) | exact .cons _ _ .nil); k_whole))
  trivial
example : True := by
  k_with "setItem ref int" => (k_here; k_dflt (refine' ki_set ?F ?N ?a ?b ?e ?U ?_; (case F => k_asm); (case N => k_asm); (case U => k_upd); (case a => decide); (case b => decide); (case e => rfl)); intro h' F' N'; (try dsimp only [List.nil_append, List.cons_append] at N'); (try simp only [castS] at N'))
  trivial
example : True := by
  k_with "nws" => first | k_asm | exact newsTl (by assumption) | exact newsTl (newsTl (by assumption)) | exact newsTl2 (by assumption)
  trivial
example : True := by
  k_with "call ref" => (k_here; (try dsimp only [List.nil_append, List.cons_append, List.append_nil]); (with_reducible show wpAny _ _ (call (Value.ref 481) [Value.ref _]) _ _ _); k_dflt (first | refine' word_c (by ktr_rel) (by ktr_rel) (by ktr_rel) (by ktr_rel) (by ktr_rel) (by ktr_rel) (by ktr_rel) (by ktr_rel) (by ktr_rel) (by ktr_rel) (by ktr_rel) ?_); k_whole; intro h' tk' t' F' N'; (try k_sweep))
  trivial
def HaltB (P : Prop) := P
theorem haltB {P : Prop} (h : HaltB P) : P := h
example : True := by
  k_with "call ref" => (k_here; (try dsimp only [List.nil_append, List.cons_append, List.append_nil]); (with_reducible show wpAny _ _ (call (Value.ref 488) [Value.ref _, Value.int _ _, Value.int _ _]) _ _ _); k_dflt (refine' haltB ?_))
  trivial
example : True := by
  k_with "call ref" => (k_here; (try dsimp only [List.nil_append, List.cons_append, List.append_nil]); (with_reducible show wpAny _ _ (call (Value.ref 488) [Value.ref _, Value.int _ _, Value.int _ _]) _ _ _); k_dflt (show wpAny _ _ (call (Value.ref 488) [Value.ref _, Value.int 3 _, Value.int _ _]) _ _ _); k_dflt (first | refine' lev_use (by assumption) (by assumption) (by ktr_rel) (by ktr_rel) (by ktr_rel) (by with_reducible assumption) (by ktr_rel) (by ktr_rel) (by ktr_rel) (by ktr_rel) (by ktr_rel) (by with_reducible assumption) (by ktr_rel) (by ktr_rel) (by ktr_rel) ?_ | refine' lev_use (by assumption) (by assumption) (by ktr_rel) (by ktr_rel) (by ktr_rel) (pickB (by with_reducible assumption)) (by ktr_rel) (by ktr_rel) (by ktr_rel) (by ktr_rel) (by ktr_rel) (apS (pickB (by with_reducible assumption)) (by with_reducible assumption)) (by ktr_rel) (by ktr_rel) (by ktr_rel) ?_); k_whole; intro va' t' h' tk' news' F' N' R' ap' sub' D' hpq' hq'; (have hwl := mem_tail N' R'.wl); (have hln := R'.len); (have hfw := R'.few); (try (rcases r2 with _ | u2 <;> dsimp only [valO])); (all_goals (try k_sweep)))
  trivial
example : True := by
  k_with "pyIter ref" => ((with_reducible show wpAny _ _ (pyIter (Value.ref _)) (fun it s₂ => LoopAtV _ _ _ _ _ _ _ _ _ it s₂) _ _); k_here; (rename IsRange _ _ _ _ _ _ _ _ => rgX); k_dflt (refine' law_loop (K := k) prod_turn (by rfl) rgX (by first | exact R'.len | (simp only [List.size_toArray]; exact R'.len)) (by k_asm) (by first | assumption | exact newsTl (by assumption)) R' ap' sub' D' hsome0 hnone0 hpq' hq' ?kf ?kN ?kS ?kG ?kD; (case kf => exact if_pos rfl)); (case' kN => (intro tq2 news2 v2 u2' h2 tk2 er F2 N2 R2 ap2 sub2 hp2 hq2; dsimp only [frL] at F2; (have hwl2 := mem_tail N2 R2.wl)));(case' kS => (intro t2 a2 tq2 news2 v2 u2' h2 tk2 er hsg F2 N2 R2 ap2 sub2 D2 hp2 hq2; dsimp only [frL] at F2; (have hwl2 := mem_tail N2 R2.wl); (have hany := stop_any (.inr (.inl rfl)) hsg); (have htup := mem_tail N2 (sub2 _ (List.Mem.head _)))));(case' kG => (intro t2 a2 tq2 q2 wd2 k2 r2 q3 news2 v2 u2' h2 tk2 Z hw hsg hnz hk2 hrun2 hq5 F2 N2 R2 ap2 sub2 D2 hz1 hz2; dsimp only [frL] at F2; (have hwl2 := mem_tail N2 R2.wl); (obtain ⟨htx, hany⟩ := go_any hw hsg hnz); (have htup := mem_tail N2 (sub2 _ (List.Mem.head _))); (have S2 := IH _ hk2)));(case' kD => (intro a2 tq2 news2 u2' h2 tk2 F2 N2 R2 ap2 sub2 D2 hp2 hq2; dsimp only [frD] at F2)))
  trivial
example : True := by
  k_with "RetPost" => (dsimp only [RetPost])
  trivial
example : True := by
  k_with "GoPost" => (dsimp only [GoPost])
  trivial
theorem levB {k : Nat} (IH : ∀ k', k' ≤ k → DoesL w p loose mean mg mb st wl vs n cap ws 488 (ar3 st 3) 4 .fac k') : DoesL w p loose mean mg mb st wl vs n cap ws 488 (ar3 st 2) 2 .prod (k + 1) := by
  intro dp un gd cn cs a ccd cl outer A₀ base h₀ L m news s Q E t pos d td tv r q B F X N T hk hdp hun R ap hne hp hd hrun ret
  dsimp only [ar3, ar2]
  revert X; k_fill; intro X
  have S := IH k (Nat.le_refl k)
  simp only [run] at hrun
  obtain ⟨r1, q1, hrun0, hnone0, hsome0⟩ := bind_cases (lvL := .prodL) hrun
  refine wpAny_call ?_
  k_dflt k_enter
  k_extra "steps"
  all_goals first
    | ((rw [er] at ret); exact ret 0 _ _ _ _ (by k_asm) (by k_extra "nws") R2 ap2 (fun z hz => sub2 z (.tail _ hz)) (fun _ h => nomatch h) hp2 hq2)
    | ((rw [er] at ret); exact ret _ _ _ _ _ (by k_asm) (by k_extra "nws") R2 ap2 (fun z hz => sub2 z (.tail _ hz)) (fun tr h => by injection h with h; subst h; exact D2) hp2 hq2)
    | exact ret _ _ _ _ _ (by k_asm) (by k_extra "nws") R2 ap2 (fun z hz => sub2 z (.tail _ hz)) D2 hp2 hq2
    | exact hz1 _ _ _ _ _ rfl (by k_asm) (by k_extra "nws") R' ap' sub' hpq' hq' (if_pos rfl) (by intro z h1 h2 h3; simp only [List.contains_cons, List.contains_nil, Bool.or_false, Bool.or_eq_false_iff, beq_eq_false_iff_ne, ne_eq] at h3; simp [frL, h1, h2, h3])
    | exact hz2 _ _ _ _ _ _ _ _ _ _ rfl (by k_asm) (by k_asm) R' ap' sub' (D' _ rfl) hpq' hq' (if_pos rfl) (by intro z h1 h2 h3; simp only [List.contains_cons, List.contains_nil, Bool.or_false, Bool.or_eq_false_iff, beq_eq_false_iff_ne, ne_eq] at h3; simp [frL, h1, h2, h3])
    | trace_state
end
end Mine
end
section
open PySem PySem.W PyProof.Rows PySem.Spec PySem.Calls
set_option Elab.async false
example : True := by k_with_none; trivial
example : True := by
  k_with "fold" => (refine folds ?_; intro qk ek)
  k_with "at0" => (with_reducible show At _ _ _ _ (.Name _ _) _ _ _); exact at_L (by rfl) (by rfl) (by decide) (by k_asm) (Eq.refl (some _))
  k_with "atF" => k_dflt first | k_extra "at0" | ((with_reducible show At _ _ _ _ (.Name _ _) _ _ _); exact at_K (by rfl) (by rfl) (by decide) (by k_asm) (by k_asm) (by k_is) (by k_asm)) | fail
  k_with "atB" => k_dflt first | ((with_reducible show At _ _ _ _ (.Name _ _) _ _ _); exact at_B (by rfl) (by rfl) (by decide) (by k_asm) (by k_asm) (by k_is) (by boot_fast) (by decide) (by k_asm)) | fail
  k_with "at" => k_dflt first | ((with_reducible show At _ _ _ _ (.Constant _ _ _) _ _ _); first | exact at_S | exact at_I | exact at_N) | k_extra "at0" | ((with_reducible show At _ _ _ _ (.Attribute (.Name _ _) _ _) _ _ _); exact at_attr (by k_asm) (by k_asm) (by k_extra "at0") (by k_inst) (by k_get) (by k_is) (by k_is) (by k_is) (by k_is) (by first | exact rfl | k_handed)) | ((with_reducible show At _ _ _ _ (.BinOp _ .Add _ _) _ _ _); exact at_add (by k_extra "at") (by k_extra "at")) | k_extra "atF" | fail
  k_with "spl" => k_dflt first | exact spl0 | ((with_reducible show Spl _ _ _ _ [_] _ _ _); exact spl1 (by k_extra "at")) | ((with_reducible show Spl _ _ _ _ [_, _] _ _ _); exact spl2 (by k_extra "at") (by k_extra "at")) | ((with_reducible show Spl _ _ _ _ (_ :: _) _ _ _); exact splC (by k_extra "at") (by k_extra "spl")) | fail
  k_with "eval Call Attribute" => with_reducible (k_here; show wpAny _ _ (eval (.Call (.Attribute _ _ _) _ [] _) _) _ _ _; first | refine mcall (by k_extra "spl") (by k_dflt exact rfl) (by k_dflt k_asm) (by k_dflt k_asm) (by k_extra "at") (by k_dflt k_inst) (by k_get) (by k_is) (by k_is) (by k_is) (by k_is) (by k_dflt exact rfl) ?_ | fail)
  k_with "eval Call" => first | with_reducible (k_here; show wpAny _ _ (eval (.Call (.Name _ _) _ [] _) _) _ _ _; first | refine fcall (by k_extra "spl") (by k_dflt exact rfl) (by k_dflt k_asm) (by k_dflt k_asm) (by k_extra "atF") (by k_is) (by k_dflt exact rfl) ?_ | ((first | show wpAny _ _ (eval (.Call (.Name (Str.ofString "len") _) _ _ _) _) _ _ _ | show wpAny _ _ (eval (.Call (.Name (Str.ofString "min") _) _ _ _) _) _ _ _); refine bcall (by k_extra "spl") (by k_extra "atB") (by k_dflt exact rfl) ?_) | fail) | (k_here; k_dflt (refine Call_ ?_)) | fail
  k_with "spliced" => first | with_reducible (k_here; first | refine spl_use (by k_extra "spl") ?_ | fail) | (k_dflt (first | refine spliced_more ?_ | refine spliced_none ?_)) | fail
  k_with "eval Subscript" => with_reducible (k_here; show wpAny _ _ (eval (.Subscript _ _ _) _) _ _ _; first | refine sub_at (by k_extra "at") (by k_extra "at") ?_ | fail)
  k_with "eval BinOp" => with_reducible (k_here; show wpAny _ _ (eval (.BinOp _ _ _ _) _) _ _ _; first | refine at_use (by k_extra "at") ?_ | refine bin_at (by k_extra "at") (by k_extra "at") ?_ | fail)
  k_with "isTrue Compare" => with_reducible (k_here; show wpAny _ _ (PySem.isTrue (.Compare _ [_] [_] _) _ _) _ _ _; first | refine cmpT_at (by k_dflt rfl) (by k_extra "at") (by k_extra "at") ?_ | refine cmpT_atL (by k_dflt rfl) (by k_extra "at") ?_ | fail)
  k_with "eval Compare" => with_reducible (k_here; show wpAny _ _ (eval (.Compare _ [_] [_] _) _) _ _ _; first | refine cmp_at (by k_dflt rfl) (by k_extra "at") (by k_extra "at") ?_ | fail)
  k_with "eval Attribute Name" => with_reducible (k_here; first | refine at_use (by k_extra "at") ?_ | fail)
  k_with "eval Name" => with_reducible (k_here; first | refine at_use (by k_extra "at") ?_ | fail)
  k_with "itemAt" => (k_here; (with_reducible show wpAny _ _ (subscriptTail _ _ (Value.ref _) (Value.int _ _)) _ _ _); with_reducible first | refine item_litK (by with_unfolding_all is_list) (by k_dflt decide) (by k_dflt decide) (by with_unfolding_all rfl) ?_ (by with_unfolding_all rfl) | refine item_tupleT (by k_dflt exact News.isTup (by k_asm) (by k_mem)) (by k_dflt decide) (by k_dflt decide) (by k_dflt rfl) (by k_dflt rfl) ?_ | fail); k_whole
  k_with "turned" => (k_here; k_dflt (refine kba_turn (value' := PySem.Expr.Name (PySem.Str.ofString "_") ⟨0, 0, 0, 0⟩) (fun _ => rfl) ?_))
  k_with "subscriptTail Name Constant ref int" => first | k_extra "subscriptTail" | k_extra "itemAt" | fail
  k_with "subscriptTail Subscript Constant ref int" => k_extra "itemAt"
  k_with "subscriptTail Name" => k_extra "subscriptTail"
  k_with "subscriptTail Call" => k_extra "turned"
  k_with "subscriptTail BinOp" => k_extra "turned"
  k_with "seq" => first | (k_here; k_gentoks) | ((with_reducible refine wpAny_execs_cons ?_); try dsimp only) | fail
  k_with "execs cons Assign cons" => k_extra "seq"
  k_with "execs cons If cons" => k_extra "seq"
  k_with "execs cons Return nil" => k_extra "seq"
  k_with "exec Assign cons" => (with_reducible show wpAny _ _ (exec (.Assign [.Name _ _] _ _) _) _ _ _); k_dflt (refine wpAny_Assign_Name ?_)
  k_with "exec If" => refine wpAny_If ?_
  k_with "eval Call Name cons nil" => k_extra "eval Call"
  k_with "isTrue Compare Name cons cons" => k_extra "isTrue Compare"
  k_with "truthy bool false" => refine wpAny_truthy_bool ?_
  k_with "truthy bool" => refine wpAny_truthy_bool ?_
  k_with "room" => first | exact lb0 (j := 1) (by assumption) rfl | exact lb2 (j := 1) (by assumption) (by assumption) rfl
  k_with "om" => first | (k_whole; first | exact lb0 (by assumption) rfl | exact lb1 (by assumption) rfl | exact lb2 (by assumption) (by assumption) rfl | exact lb4 (by assumption) rfl | exact Nat.le_of_succ_le (by assumption)) | omega
  k_with "steps" => repeat' (first | ((with_reducible show wpAny _ _ (exec _ _) _ _ _); (fail_if_success (fail_if_success k_fold)); k_extra "fold") | ((fail_if_success (fail_if_success k_unfold)); first | dsimp only [qk] | dsimp only [ek] | (k_unfold; (try dsimp only))) | (k_end; wrow_close) | walk1 | (dsimp only; walk1) | (leave1; walk_say "STEP leave1"; try dsimp only) | fail)
  trivial
namespace Mine
set_option maxRecDepth 100000
set_option maxHeartbeats 0
section
variable {w : World} {p : Program} {loose : List Str} {mean : ExcName → Option Value} {mg mb : Str → Option Value} {dp un : Nat} {gd : Option (List Code)} {cn : Str} {cs : Scope} {a : Addr} {ccd : Value} {cl : List (Str × Addr)} {outer : List Env} {A₀ : Around} {base h₀ : Heap} {L : Addr} {m : Str → Option Value}
  {news : List (Addr × Obj)} {s : Shared} {Q E : Value → Shared → Prop} {st wl : Addr} {t : Tok} {vs : List Value} {n cap : Nat} {pos : Nat} {ws : List Wd} {keep : List (Addr × Obj)}
example : True := by
  k_with "upd" => exact updF_upd (by assumption) _
  trivial
example : True := by
  k_with "rel" => first | (with_reducible assumption) | exact dle1 (by with_reducible assumption) rfl | k_extra "om" | exact rfl | (refine StIn.mono (by with_reducible assumption) ?_; (intro _ hz; first | exact hz | exact .tail _ hz | exact .tail _ (.tail _ hz) | exact .tail _ (.tail _ (.tail _ hz)) | exact .tail _ (.tail _ (.tail _ (.tail _ hz))))) | exact UpdF.head (by with_reducible assumption) | ((try dsimp only [ktrTop, Around.deeper]); k_extra "om") | assumption | k_mem | k_updF
  trivial
example : True := by
  k_with "mem" => first | ktr_member | (refine List.mem_cons_of_mem _ ?_; k_mem)
  trivial
example : True := by
  k_with "updF" => exact UpdF.head (by with_reducible assumption)
  trivial
example : True := by
  k_with "upd" => exact updF_upd (UpdF.head (by with_reducible assumption)) _
  trivial
example : True := by
  k_with "ite" => (k_closed; with_reducible first | refine ite_pos (by decide) ?_ | refine ite_neg (by decide) ?_)
  trivial
example : True := by
  k_with "eval Dict" => (k_here; k_dflt (refine' kdn_int ?q ?F ?N ?b ?a ?l ?e ?n ?_; (case q => rfl); (case F => k_asm); (case N => first | k_asm | exact News.nil); (case b => exact Top.nolimit (by k_asm)); (case a => rfl); (case l => rfl); (case e => exact List.cons_ne_nil _ _); (case n => exact Nat.le_of_ble_eq_true rfl)); intro d' h' o' F' N' l1 lo' hd'; (try k_lt l1))
  trivial
example : True := by
  k_with "compareOp NotIn str ref" => (k_here; (with_reducible show wpAny _ _ (compareOp CmpOp.NotIn (Value.str _ _) (Value.ref _)) _ _ _); (refine' notin_tuple_strs ?k1 ?k2 ?_; (case k1 => exact News.isTup (by k_asm) (by k_mem)); (case k2 => first | exact .cons _ _ (.cons _ _ .nil) | exact .cons _ _ .nil); k_whole))
  trivial
example : True := by
  k_with "setItem ref int" => (k_here; k_dflt (refine' ki_set ?F ?N ?a ?b ?e ?U ?_; (case F => k_asm); (case N => k_asm); (case U => k_upd); (case a => decide); (case b => decide); (case e => rfl)); intro h' F' N'; (try dsimp only [List.nil_append, List.cons_append] at N'); (try simp only [castS] at N'))
  trivial
example : True := by
  k_with "nws" => first | k_asm | exact newsTl (by assumption) | exact newsTl (newsTl (by assumption)) | exact newsTl2 (by assumption)
  trivial
example : True := by
  k_with "call ref" => (k_here; (try dsimp only [List.nil_append, List.cons_append, List.append_nil]); (with_reducible show wpAny _ _ (call (Value.ref 481) [Value.ref _]) _ _ _); k_dflt (first | refine' word_c (by ktr_rel) (by ktr_rel) (by ktr_rel) (by ktr_rel) (by ktr_rel) (by ktr_rel) (by ktr_rel) (by ktr_rel) (by ktr_rel) (by ktr_rel) (by ktr_rel) ?_); k_whole; intro h' tk' t' F' N'; (try k_sweep))
  trivial
def HaltC (P : Prop) := P
theorem haltC {P : Prop} (h : HaltC P) : P := h
example : True := by
  k_with "call ref" => (k_here; (try dsimp only [List.nil_append, List.cons_append, List.append_nil]); (with_reducible show wpAny _ _ (call (Value.ref 488) [Value.ref _, Value.int _ _, Value.int _ _]) _ _ _); k_dflt (refine' haltC ?_))
  trivial
example : True := by
  k_with "call ref" => (k_here; (try dsimp only [List.nil_append, List.cons_append, List.append_nil]); (with_reducible show wpAny _ _ (call (Value.ref 488) [Value.ref _, Value.int _ _, Value.int _ _]) _ _ _); k_dflt (show wpAny _ _ (call (Value.ref 488) [Value.ref _, Value.int 5 _, Value.int _ _]) _ _ _); k_dflt (first | refine' lev_use (by assumption) (by assumption) (by ktr_rel) (by ktr_rel) (by ktr_rel) (by with_reducible assumption) (by ktr_rel) (by ktr_rel) (by ktr_rel) (by ktr_rel) (by ktr_rel) (by with_reducible assumption) (by ktr_rel) (by ktr_rel) (by ktr_rel) ?_ | refine' lev_use (by assumption) (by assumption) (by ktr_rel) (by ktr_rel) (by ktr_rel) (pickC (by with_reducible assumption)) (by ktr_rel) (by ktr_rel) (by ktr_rel) (by ktr_rel) (by ktr_rel) (apS (pickC (by with_reducible assumption)) (by with_reducible assumption)) (by ktr_rel) (by ktr_rel) (by ktr_rel) ?_); k_whole; intro va' t' h' tk' news' F' N' R' ap' sub' D' hpq' hq'; (have hwl := mem_tail N' R'.wl); (have hln := R'.len); (have hfw := R'.few); (try (rcases r2 with _ | u2 <;> dsimp only [valO])); (all_goals (try k_sweep)))
  trivial
example : True := by
  k_with "pyIter ref" => ((with_reducible show wpAny _ _ (pyIter (Value.ref _)) (fun it s₂ => LoopAtV _ _ _ _ _ _ _ _ _ it s₂) _ _); k_here; (rename IsRange _ _ _ _ _ _ _ _ => rgX); k_dflt (refine' law_loop (K := k) pow_turn (by rfl) rgX (by first | exact R'.len | (simp only [List.size_toArray]; exact R'.len)) (by k_asm) (by first | assumption | exact newsTl (by assumption)) R' ap' sub' D' hsome0 hnone0 hpq' hq' ?kf ?kN ?kS ?kG ?kD; (case kf => exact if_pos rfl)); (case' kN => (intro tq2 news2 v2 u2' h2 tk2 er F2 N2 R2 ap2 sub2 hp2 hq2; dsimp only [frL] at F2; (have hwl2 := mem_tail N2 R2.wl)));(case' kS => (intro t2 a2 tq2 news2 v2 u2' h2 tk2 er hsg F2 N2 R2 ap2 sub2 D2 hp2 hq2; dsimp only [frL] at F2; (have hwl2 := mem_tail N2 R2.wl); (have hany := stop_any (.inr (.inr rfl)) hsg); (have htup := mem_tail N2 (sub2 _ (List.Mem.head _)))));(case' kG => (intro t2 a2 tq2 q2 wd2 k2 r2 q3 news2 v2 u2' h2 tk2 Z hw hsg hnz hk2 hrun2 hq5 F2 N2 R2 ap2 sub2 D2 hz1 hz2; dsimp only [frL] at F2; (have hwl2 := mem_tail N2 R2.wl); (obtain ⟨htx, hany⟩ := go_any hw hsg hnz); (have htup := mem_tail N2 (sub2 _ (List.Mem.head _))); (have S2 := IH _ hk2)));(case' kD => (intro a2 tq2 news2 u2' h2 tk2 F2 N2 R2 ap2 sub2 D2 hp2 hq2; dsimp only [frD] at F2)))
  trivial
example : True := by
  k_with "RetPost" => (dsimp only [RetPost])
  trivial
example : True := by
  k_with "GoPost" => (dsimp only [GoPost])
  trivial
theorem levC {k : Nat} (IH : ∀ k', k' ≤ k → DoesL w p loose mean mg mb st wl vs n cap ws 488 (ar3 st 5) 10 .prim k') : DoesL w p loose mean mg mb st wl vs n cap ws 488 (ar3 st 4) 8 .pow (k + 1) := by
  intro dp un gd cn cs a ccd cl outer A₀ base h₀ L m news s Q E t pos d td tv r q B F X N T hk hdp hun R ap hne hp hd hrun ret
  dsimp only [ar3, ar2]
  revert X; k_fill; intro X
  have S := IH k (Nat.le_refl k)
  simp only [run] at hrun
  obtain ⟨r1, q1, hrun0, hnone0, hsome0⟩ := bind_cases (lvL := .powL) hrun
  refine wpAny_call ?_
  k_dflt k_enter
  k_extra "steps"
  all_goals first
    | ((rw [er] at ret); exact ret 0 _ _ _ _ (by k_asm) (by k_extra "nws") R2 ap2 (fun z hz => sub2 z (.tail _ hz)) (fun _ h => nomatch h) hp2 hq2)
    | ((rw [er] at ret); exact ret _ _ _ _ _ (by k_asm) (by k_extra "nws") R2 ap2 (fun z hz => sub2 z (.tail _ hz)) (fun tr h => by injection h with h; subst h; exact D2) hp2 hq2)
    | exact ret _ _ _ _ _ (by k_asm) (by k_extra "nws") R2 ap2 (fun z hz => sub2 z (.tail _ hz)) D2 hp2 hq2
    | exact hz1 _ _ _ _ _ rfl (by k_asm) (by k_extra "nws") R' ap' sub' hpq' hq' (if_pos rfl) (by intro z h1 h2 h3; simp only [List.contains_cons, List.contains_nil, Bool.or_false, Bool.or_eq_false_iff, beq_eq_false_iff_ne, ne_eq] at h3; simp [frL, h1, h2, h3])
    | exact hz2 _ _ _ _ _ _ _ _ _ _ rfl (by k_asm) (by k_asm) R' ap' sub' (D' _ rfl) hpq' hq' (if_pos rfl) (by intro z h1 h2 h3; simp only [List.contains_cons, List.contains_nil, Bool.or_false, Bool.or_eq_false_iff, beq_eq_false_iff_ne, ne_eq] at h3; simp [frL, h1, h2, h3])
    | trace_state
end
end Mine
end
section
open PySem PySem.W PyProof.Rows PySem.Spec PySem.Calls
set_option Elab.async false
example : True := by k_with_none; trivial
example : True := by
  k_with "fold" => (refine folds ?_; intro qk ek)
  k_with "at0" => (with_reducible show At _ _ _ _ (.Name _ _) _ _ _); exact at_L (by rfl) (by rfl) (by decide) (by k_asm) (Eq.refl (some _))
  k_with "atF" => k_dflt first | k_extra "at0" | ((with_reducible show At _ _ _ _ (.Name _ _) _ _ _); exact at_K (by rfl) (by rfl) (by decide) (by k_asm) (by k_asm) (by k_is) (by k_asm)) | fail
  k_with "atB" => k_dflt first | ((with_reducible show At _ _ _ _ (.Name _ _) _ _ _); exact at_B (by rfl) (by rfl) (by decide) (by k_asm) (by k_asm) (by k_is) (by boot_fast) (by decide) (by k_asm)) | fail
  k_with "at" => k_dflt first | ((with_reducible show At _ _ _ _ (.Constant _ _ _) _ _ _); first | exact at_S | exact at_I | exact at_N) | k_extra "at0" | ((with_reducible show At _ _ _ _ (.Attribute (.Name _ _) _ _) _ _ _); exact at_attr (by k_asm) (by k_asm) (by k_extra "at0") (by k_inst) (by k_get) (by k_is) (by k_is) (by k_is) (by k_is) (by first | exact rfl | k_handed)) | ((with_reducible show At _ _ _ _ (.BinOp _ .Add _ _) _ _ _); exact at_add (by k_extra "at") (by k_extra "at")) | k_extra "atF" | fail
  k_with "spl" => k_dflt first | exact spl0 | ((with_reducible show Spl _ _ _ _ [_] _ _ _); exact spl1 (by k_extra "at")) | ((with_reducible show Spl _ _ _ _ [_, _] _ _ _); exact spl2 (by k_extra "at") (by k_extra "at")) | ((with_reducible show Spl _ _ _ _ (_ :: _) _ _ _); exact splC (by k_extra "at") (by k_extra "spl")) | fail
  k_with "eval Call Attribute" => with_reducible (k_here; show wpAny _ _ (eval (.Call (.Attribute _ _ _) _ [] _) _) _ _ _; first | refine mcall (by k_extra "spl") (by k_dflt exact rfl) (by k_dflt k_asm) (by k_dflt k_asm) (by k_extra "at") (by k_dflt k_inst) (by k_get) (by k_is) (by k_is) (by k_is) (by k_is) (by k_dflt exact rfl) ?_ | fail)
  k_with "eval Call" => first | with_reducible (k_here; show wpAny _ _ (eval (.Call (.Name _ _) _ [] _) _) _ _ _; first | refine fcall (by k_extra "spl") (by k_dflt exact rfl) (by k_dflt k_asm) (by k_dflt k_asm) (by k_extra "atF") (by k_is) (by k_dflt exact rfl) ?_ | ((first | show wpAny _ _ (eval (.Call (.Name (Str.ofString "len") _) _ _ _) _) _ _ _ | show wpAny _ _ (eval (.Call (.Name (Str.ofString "min") _) _ _ _) _) _ _ _); refine bcall (by k_extra "spl") (by k_extra "atB") (by k_dflt exact rfl) ?_) | fail) | (k_here; k_dflt (refine Call_ ?_)) | fail
  k_with "spliced" => first | with_reducible (k_here; first | refine spl_use (by k_extra "spl") ?_ | fail) | (k_dflt (first | refine spliced_more ?_ | refine spliced_none ?_)) | fail
  k_with "eval Subscript" => with_reducible (k_here; show wpAny _ _ (eval (.Subscript _ _ _) _) _ _ _; first | refine sub_at (by k_extra "at") (by k_extra "at") ?_ | fail)
  k_with "eval BinOp" => with_reducible (k_here; show wpAny _ _ (eval (.BinOp _ _ _ _) _) _ _ _; first | refine at_use (by k_extra "at") ?_ | refine bin_at (by k_extra "at") (by k_extra "at") ?_ | fail)
  k_with "isTrue Compare" => with_reducible (k_here; show wpAny _ _ (PySem.isTrue (.Compare _ [_] [_] _) _ _) _ _ _; first | refine cmpT_at (by k_dflt rfl) (by k_extra "at") (by k_extra "at") ?_ | refine cmpT_atL (by k_dflt rfl) (by k_extra "at") ?_ | fail)
  k_with "eval Compare" => with_reducible (k_here; show wpAny _ _ (eval (.Compare _ [_] [_] _) _) _ _ _; first | refine cmp_at (by k_dflt rfl) (by k_extra "at") (by k_extra "at") ?_ | fail)
  k_with "eval Attribute Name" => with_reducible (k_here; first | refine at_use (by k_extra "at") ?_ | fail)
  k_with "eval Name" => with_reducible (k_here; first | refine at_use (by k_extra "at") ?_ | fail)
  k_with "itemAt" => (k_here; (with_reducible show wpAny _ _ (subscriptTail _ _ (Value.ref _) (Value.int _ _)) _ _ _); with_reducible first | refine item_litK (by with_unfolding_all is_list) (by k_dflt decide) (by k_dflt decide) (by with_unfolding_all rfl) ?_ (by with_unfolding_all rfl) | refine item_tupleT (by k_dflt exact News.isTup (by k_asm) (by k_mem)) (by k_dflt decide) (by k_dflt decide) (by k_dflt rfl) (by k_dflt rfl) ?_ | fail); k_whole
  k_with "turned" => (k_here; k_dflt (refine kba_turn (value' := PySem.Expr.Name (PySem.Str.ofString "_") ⟨0, 0, 0, 0⟩) (fun _ => rfl) ?_))
  k_with "subscriptTail Name Constant ref int" => first | k_extra "subscriptTail" | k_extra "itemAt" | fail
  k_with "subscriptTail Subscript Constant ref int" => k_extra "itemAt"
  k_with "subscriptTail Name" => k_extra "subscriptTail"
  k_with "subscriptTail Call" => k_extra "turned"
  k_with "subscriptTail BinOp" => k_extra "turned"
  k_with "seq" => first | (k_here; k_gentoks) | ((with_reducible refine wpAny_execs_cons ?_); try dsimp only) | fail
  k_with "execs cons Assign cons" => k_extra "seq"
  k_with "execs cons If cons" => k_extra "seq"
  k_with "execs cons Return nil" => k_extra "seq"
  k_with "exec Assign cons" => (with_reducible show wpAny _ _ (exec (.Assign [.Name _ _] _ _) _) _ _ _); k_dflt (refine wpAny_Assign_Name ?_)
  k_with "exec If" => refine wpAny_If ?_
  k_with "eval Call Name cons nil" => k_extra "eval Call"
  k_with "isTrue Compare Name cons cons" => k_extra "isTrue Compare"
  k_with "truthy bool false" => refine wpAny_truthy_bool ?_
  k_with "truthy bool" => refine wpAny_truthy_bool ?_
  k_with "room" => first | exact lb0 (j := 1) (by assumption) rfl | exact lb2 (j := 1) (by assumption) (by assumption) rfl
  k_with "om" => first | (k_whole; first | exact lb0 (by assumption) rfl | exact lb1 (by assumption) rfl | exact lb2 (by assumption) (by assumption) rfl | exact lb4 (by assumption) rfl | exact Nat.le_of_succ_le (by assumption)) | omega
  k_with "steps" => repeat' (first | ((with_reducible show wpAny _ _ (exec _ _) _ _ _); (fail_if_success (fail_if_success k_fold)); k_extra "fold") | ((fail_if_success (fail_if_success k_unfold)); first | dsimp only [qk] | dsimp only [ek] | (k_unfold; (try dsimp only))) | (k_end; wrow_close) | walk1 | (dsimp only; walk1) | (leave1; walk_say "STEP leave1"; try dsimp only) | fail)
  trivial
namespace Mine
set_option maxRecDepth 100000
set_option maxHeartbeats 0
section
variable {w : World} {p : Program} {loose : List Str} {mean : ExcName → Option Value} {mg mb : Str → Option Value} {dp un : Nat} {gd : Option (List Code)} {cn : Str} {cs : Scope} {a : Addr} {ccd : Value} {cl : List (Str × Addr)} {outer : List Env} {A₀ : Around} {base h₀ : Heap} {L : Addr} {m : Str → Option Value}
  {news : List (Addr × Obj)} {s : Shared} {Q E : Value → Shared → Prop} {st wl : Addr} {t : Tok} {vs : List Value} {n cap : Nat} {pos : Nat} {ws : List Wd} {keep : List (Addr × Obj)}
example : True := by
  k_with "upd" => exact updF_upd (by assumption) _
  trivial
example : True := by
  k_with "rel" => first | (with_reducible assumption) | exact dle1 (by with_reducible assumption) rfl | k_extra "om" | exact rfl | (refine StIn.mono (by with_reducible assumption) ?_; (intro _ hz; first | exact hz | exact .tail _ hz | exact .tail _ (.tail _ hz) | exact .tail _ (.tail _ (.tail _ hz)) | exact .tail _ (.tail _ (.tail _ (.tail _ hz))))) | exact UpdF.head (by with_reducible assumption) | ((try dsimp only [ktrTop, Around.deeper]); k_extra "om") | assumption | k_mem | k_updF
  trivial
example : True := by
  k_with "mem" => first | ktr_member | (refine List.mem_cons_of_mem _ ?_; k_mem)
  trivial
example : True := by
  k_with "updF" => exact UpdF.head (by with_reducible assumption)
  trivial
example : True := by
  k_with "upd" => exact updF_upd (UpdF.head (by with_reducible assumption)) _
  trivial
example : True := by
  k_with "ite" => (k_closed; with_reducible first | refine ite_pos (by decide) ?_ | refine ite_neg (by decide) ?_)
  trivial
example : True := by
  k_with "eval Dict" => (k_here; k_dflt (refine' kdn_int ?q ?F ?N ?b ?a ?l ?e ?n ?_; (case q => rfl); (case F => k_asm); (case N => first | k_asm | exact News.nil); (case b => exact Top.nolimit (by k_asm)); (case a => rfl); (case l => rfl); (case e => exact List.cons_ne_nil _ _); (case n => exact Nat.le_of_ble_eq_true rfl)); intro d' h' o' F' N' l1 lo' hd'; (try k_lt l1))
  trivial
example : True := by
  k_with "compareOp NotIn str ref" => (k_here; (with_reducible show wpAny _ _ (compareOp CmpOp.NotIn (Value.str _ _) (Value.ref _)) _ _ _); (refine' notin_tuple_strs ?k1 ?k2 ?_; (case k1 => exact News.isTup (by k_asm) (by k_mem)); (case k2 => first | exact .cons _ _ (.cons _ _ .nil) | exact .cons _ _ .nil); k_whole))
  trivial
example : True := by
  k_with "setItem ref int" => (k_here; k_dflt (refine' ki_set ?F ?N ?a ?b ?e ?U ?_; (case F => k_asm); (case N => k_asm); (case U => k_upd); (case a => decide); (case b => decide); (case e => rfl)); intro h' F' N'; (try dsimp only [List.nil_append, List.cons_append] at N'); (try simp only [castS] at N'))
  trivial
example : True := by
  k_with "nws" => first | k_asm | exact newsTl (by assumption) | exact newsTl (newsTl (by assumption)) | exact newsTl2 (by assumption)
  trivial
example : True := by
  k_with "call ref" => (k_here; (try dsimp only [List.nil_append, List.cons_append, List.append_nil]); (with_reducible show wpAny _ _ (call (Value.ref 481) [Value.ref _]) _ _ _); k_dflt (first | refine' word_c (by ktr_rel) (by ktr_rel) (by ktr_rel) (by ktr_rel) (by ktr_rel) (by ktr_rel) (by ktr_rel) (by ktr_rel) (by ktr_rel) (by ktr_rel) (by ktr_rel) ?_); k_whole; intro h' tk' t' F' N'; (try k_sweep))
  trivial
def Haltlev3 (P : Prop) := P
theorem haltlev3 {P : Prop} (h : Haltlev3 P) : P := h
example : True := by
  k_with "call ref" => (k_here; (try dsimp only [List.nil_append, List.cons_append, List.append_nil]); (with_reducible show wpAny _ _ (call (Value.ref 495) [Value.ref _, Value.int _ _]) _ _ _); k_dflt (refine' haltlev3 ?_))
  trivial
example : True := by
  k_with "call ref" => (k_here; (try dsimp only [List.nil_append, List.cons_append, List.append_nil]); (with_reducible show wpAny _ _ (call (Value.ref 495) [Value.ref _, Value.int _ _]) _ _ _); k_dflt (refine' two_use (by assumption) (by assumption) (by ktr_rel) (by ktr_rel) (by ktr_rel) (by with_reducible assumption) (by ktr_rel) (by ktr_rel) (by ktr_rel) (by ktr_rel) (by ktr_rel) (by with_reducible assumption) (by ktr_rel) (by ktr_rel) (by ktr_rel) ?_); k_whole; intro va' t' h' tk' news' F' N' R' ap' sub' D' hpq' hq'; (have hwl := mem_tail N' R'.wl); (try k_sweep))
  trivial
theorem lev3 {k : Nat} (S : DoesL w p loose mean mg mb st wl vs n cap ws 495 (ar2 st) 6 .fac k) : DoesL w p loose mean mg mb st wl vs n cap ws 488 (ar3 st 3) 4 .fac k := by
  intro dp un gd cn cs a ccd cl outer A₀ base h₀ L m news s Q E t pos d td tv r q B F X N T hk hdp hun R ap hne hp hd hrun ret
  dsimp only [ar3, ar2]
  revert X; k_fill; intro X
  refine wpAny_call ?_
  k_dflt k_enter
  k_extra "steps"
  all_goals first
    | exact ret _ _ _ _ _ (by k_asm) (by k_extra "nws") R' ap' sub' D' hpq' hq'
    | trace_state
def Haltlev5 (P : Prop) := P
theorem haltlev5 {P : Prop} (h : Haltlev5 P) : P := h
example : True := by
  k_with "call ref" => (k_here; (try dsimp only [List.nil_append, List.cons_append, List.append_nil]); (with_reducible show wpAny _ _ (call (Value.ref 502) [Value.ref _, Value.int _ _]) _ _ _); k_dflt (refine' haltlev5 ?_))
  trivial
example : True := by
  k_with "call ref" => (k_here; (try dsimp only [List.nil_append, List.cons_append, List.append_nil]); (with_reducible show wpAny _ _ (call (Value.ref 502) [Value.ref _, Value.int _ _]) _ _ _); k_dflt (refine' two_use (by assumption) (by assumption) (by ktr_rel) (by ktr_rel) (by ktr_rel) (by with_reducible assumption) (by ktr_rel) (by ktr_rel) (by ktr_rel) (by ktr_rel) (by ktr_rel) (by with_reducible assumption) (by ktr_rel) (by ktr_rel) (by ktr_rel) ?_); k_whole; intro va' t' h' tk' news' F' N' R' ap' sub' D' hpq' hq'; (have hwl := mem_tail N' R'.wl); (try k_sweep))
  trivial
theorem lev5 {k : Nat} (S : DoesL w p loose mean mg mb st wl vs n cap ws 502 (ar2 st) 12 .prim k) : DoesL w p loose mean mg mb st wl vs n cap ws 488 (ar3 st 5) 10 .prim k := by
  intro dp un gd cn cs a ccd cl outer A₀ base h₀ L m news s Q E t pos d td tv r q B F X N T hk hdp hun R ap hne hp hd hrun ret
  dsimp only [ar3, ar2]
  revert X; k_fill; intro X
  refine wpAny_call ?_
  k_dflt k_enter
  k_extra "steps"
  all_goals first
    | exact ret _ _ _ _ _ (by k_asm) (by k_extra "nws") R' ap' sub' D' hpq' hq'
    | trace_state
end
end Mine
end
section
open PySem PySem.W PyProof.Rows PySem.Spec PySem.Calls
set_option Elab.async false
example : True := by k_with_none; trivial
example : True := by
  k_with "fold" => (refine folds ?_; intro qk ek)
  k_with "at0" => (with_reducible show At _ _ _ _ (.Name _ _) _ _ _); exact at_L (by rfl) (by rfl) (by decide) (by k_asm) (Eq.refl (some _))
  k_with "atF" => k_dflt first | k_extra "at0" | ((with_reducible show At _ _ _ _ (.Name _ _) _ _ _); exact at_K (by rfl) (by rfl) (by decide) (by k_asm) (by k_asm) (by k_is) (by k_asm)) | fail
  k_with "atB" => k_dflt first | ((with_reducible show At _ _ _ _ (.Name _ _) _ _ _); exact at_B (by rfl) (by rfl) (by decide) (by k_asm) (by k_asm) (by k_is) (by boot_fast) (by decide) (by k_asm)) | fail
  k_with "at" => k_dflt first | ((with_reducible show At _ _ _ _ (.Constant _ _ _) _ _ _); first | exact at_S | exact at_I | exact at_N) | k_extra "at0" | ((with_reducible show At _ _ _ _ (.Attribute (.Name _ _) _ _) _ _ _); exact at_attr (by k_asm) (by k_asm) (by k_extra "at0") (by k_inst) (by k_get) (by k_is) (by k_is) (by k_is) (by k_is) (by first | exact rfl | k_handed)) | ((with_reducible show At _ _ _ _ (.BinOp _ .Add _ _) _ _ _); exact at_add (by k_extra "at") (by k_extra "at")) | k_extra "atF" | fail
  k_with "spl" => k_dflt first | exact spl0 | ((with_reducible show Spl _ _ _ _ [_] _ _ _); exact spl1 (by k_extra "at")) | ((with_reducible show Spl _ _ _ _ [_, _] _ _ _); exact spl2 (by k_extra "at") (by k_extra "at")) | ((with_reducible show Spl _ _ _ _ (_ :: _) _ _ _); exact splC (by k_extra "at") (by k_extra "spl")) | fail
  k_with "eval Call Attribute" => with_reducible (k_here; show wpAny _ _ (eval (.Call (.Attribute _ _ _) _ [] _) _) _ _ _; first | refine mcall (by k_extra "spl") (by k_dflt exact rfl) (by k_dflt k_asm) (by k_dflt k_asm) (by k_extra "at") (by k_dflt k_inst) (by k_get) (by k_is) (by k_is) (by k_is) (by k_is) (by k_dflt exact rfl) ?_ | fail)
  k_with "eval Call" => first | with_reducible (k_here; show wpAny _ _ (eval (.Call (.Name _ _) _ [] _) _) _ _ _; first | refine fcall (by k_extra "spl") (by k_dflt exact rfl) (by k_dflt k_asm) (by k_dflt k_asm) (by k_extra "atF") (by k_is) (by k_dflt exact rfl) ?_ | ((first | show wpAny _ _ (eval (.Call (.Name (Str.ofString "len") _) _ _ _) _) _ _ _ | show wpAny _ _ (eval (.Call (.Name (Str.ofString "min") _) _ _ _) _) _ _ _); refine bcall (by k_extra "spl") (by k_extra "atB") (by k_dflt exact rfl) ?_) | fail) | (k_here; k_dflt (refine Call_ ?_)) | fail
  k_with "spliced" => first | with_reducible (k_here; first | refine spl_use (by k_extra "spl") ?_ | fail) | (k_dflt (first | refine spliced_more ?_ | refine spliced_none ?_)) | fail
  k_with "eval Subscript" => with_reducible (k_here; show wpAny _ _ (eval (.Subscript _ _ _) _) _ _ _; first | refine sub_at (by k_extra "at") (by k_extra "at") ?_ | fail)
  k_with "eval BinOp" => with_reducible (k_here; show wpAny _ _ (eval (.BinOp _ _ _ _) _) _ _ _; first | refine at_use (by k_extra "at") ?_ | refine bin_at (by k_extra "at") (by k_extra "at") ?_ | fail)
  k_with "isTrue Compare" => with_reducible (k_here; show wpAny _ _ (PySem.isTrue (.Compare _ [_] [_] _) _ _) _ _ _; first | refine cmpT_at (by k_dflt rfl) (by k_extra "at") (by k_extra "at") ?_ | refine cmpT_atL (by k_dflt rfl) (by k_extra "at") ?_ | fail)
  k_with "eval Compare" => with_reducible (k_here; show wpAny _ _ (eval (.Compare _ [_] [_] _) _) _ _ _; first | refine cmp_at (by k_dflt rfl) (by k_extra "at") (by k_extra "at") ?_ | fail)
  k_with "eval Attribute Name" => with_reducible (k_here; first | refine at_use (by k_extra "at") ?_ | fail)
  k_with "eval Name" => with_reducible (k_here; first | refine at_use (by k_extra "at") ?_ | fail)
  k_with "itemAt" => (k_here; (with_reducible show wpAny _ _ (subscriptTail _ _ (Value.ref _) (Value.int _ _)) _ _ _); with_reducible first | refine item_litK (by with_unfolding_all is_list) (by k_dflt decide) (by k_dflt decide) (by with_unfolding_all rfl) ?_ (by with_unfolding_all rfl) | refine item_tupleT (by k_dflt exact News.isTup (by k_asm) (by k_mem)) (by k_dflt decide) (by k_dflt decide) (by k_dflt rfl) (by k_dflt rfl) ?_ | fail); k_whole
  k_with "turned" => (k_here; k_dflt (refine kba_turn (value' := PySem.Expr.Name (PySem.Str.ofString "_") ⟨0, 0, 0, 0⟩) (fun _ => rfl) ?_))
  k_with "subscriptTail Name Constant ref int" => first | k_extra "subscriptTail" | k_extra "itemAt" | fail
  k_with "subscriptTail Subscript Constant ref int" => k_extra "itemAt"
  k_with "subscriptTail Name" => k_extra "subscriptTail"
  k_with "subscriptTail Call" => k_extra "turned"
  k_with "subscriptTail BinOp" => k_extra "turned"
  k_with "seq" => first | (k_here; k_gentoks) | ((with_reducible refine wpAny_execs_cons ?_); try dsimp only) | fail
  k_with "execs cons Assign cons" => k_extra "seq"
  k_with "execs cons If cons" => k_extra "seq"
  k_with "execs cons Return nil" => k_extra "seq"
  k_with "exec Assign cons" => (with_reducible show wpAny _ _ (exec (.Assign [.Name _ _] _ _) _) _ _ _); k_dflt (refine wpAny_Assign_Name ?_)
  k_with "exec If" => refine wpAny_If ?_
  k_with "eval Call Name cons nil" => k_extra "eval Call"
  k_with "isTrue Compare Name cons cons" => k_extra "isTrue Compare"
  k_with "truthy bool false" => refine wpAny_truthy_bool ?_
  k_with "truthy bool" => refine wpAny_truthy_bool ?_
  k_with "room" => first | exact lb0 (j := 1) (by assumption) rfl | exact lb2 (j := 1) (by assumption) (by assumption) rfl
  k_with "om" => first | (k_whole; first | exact lb0 (by assumption) rfl | exact lb1 (by assumption) rfl | exact lb2 (by assumption) (by assumption) rfl | exact lb4 (by assumption) rfl | exact Nat.le_of_succ_le (by assumption)) | omega
  k_with "steps" => repeat' (first | ((with_reducible show wpAny _ _ (exec _ _) _ _ _); (fail_if_success (fail_if_success k_fold)); k_extra "fold") | ((fail_if_success (fail_if_success k_unfold)); first | dsimp only [qk] | dsimp only [ek] | (k_unfold; (try dsimp only))) | (k_end; wrow_close) | walk1 | (dsimp only; walk1) | (leave1; walk_say "STEP leave1"; try dsimp only) | fail)
  trivial
namespace Mine
set_option maxRecDepth 100000
set_option maxHeartbeats 0
section
variable {w : World} {p : Program} {loose : List Str} {mean : ExcName → Option Value} {mg mb : Str → Option Value} {dp un : Nat} {gd : Option (List Code)} {cn : Str} {cs : Scope} {a : Addr} {ccd : Value} {cl : List (Str × Addr)} {outer : List Env} {A₀ : Around} {base h₀ : Heap} {L : Addr} {m : Str → Option Value}
  {news : List (Addr × Obj)} {s : Shared} {Q E : Value → Shared → Prop} {st wl : Addr} {t : Tok} {vs : List Value} {n cap : Nat} {pos : Nat} {ws : List Wd} {keep : List (Addr × Obj)}
example : True := by
  k_with "upd" => exact updF_upd (by assumption) _
  trivial
example : True := by
  k_with "rel" => first | (with_reducible assumption) | exact dle1 (by with_reducible assumption) rfl | k_extra "om" | exact rfl | (refine StIn.mono (by with_reducible assumption) ?_; (intro _ hz; first | exact hz | exact .tail _ hz | exact .tail _ (.tail _ hz) | exact .tail _ (.tail _ (.tail _ hz)) | exact .tail _ (.tail _ (.tail _ (.tail _ hz))))) | exact UpdF.head (by with_reducible assumption) | ((try dsimp only [ktrTop, Around.deeper]); k_extra "om") | assumption | k_mem | k_updF
  trivial
example : True := by
  k_with "mem" => first | ktr_member | (refine List.mem_cons_of_mem _ ?_; k_mem)
  trivial
example : True := by
  k_with "updF" => exact UpdF.head (by with_reducible assumption)
  trivial
example : True := by
  k_with "upd" => exact updF_upd (UpdF.head (by with_reducible assumption)) _
  trivial
example : True := by
  k_with "ite" => (k_closed; with_reducible first | refine ite_pos (by decide) ?_ | refine ite_neg (by decide) ?_)
  trivial
example : True := by
  k_with "eval Dict" => (k_here; k_dflt (refine' kdn_int ?q ?F ?N ?b ?a ?l ?e ?n ?_; (case q => rfl); (case F => k_asm); (case N => first | k_asm | exact News.nil); (case b => exact Top.nolimit (by k_asm)); (case a => rfl); (case l => rfl); (case e => exact List.cons_ne_nil _ _); (case n => exact Nat.le_of_ble_eq_true rfl)); intro d' h' o' F' N' l1 lo' hd'; (try k_lt l1))
  trivial
example : True := by
  k_with "compareOp NotIn str ref" => (k_here; (with_reducible show wpAny _ _ (compareOp CmpOp.NotIn (Value.str _ _) (Value.ref _)) _ _ _); (refine' notin_tuple_strs ?k1 ?k2 ?_; (case k1 => exact News.isTup (by k_asm) (by k_mem)); (case k2 => first | exact .cons _ _ (.cons _ _ .nil) | exact .cons _ _ .nil); k_whole))
  trivial
example : True := by
  k_with "setItem ref int" => (k_here; k_dflt (refine' ki_set ?F ?N ?a ?b ?e ?U ?_; (case F => k_asm); (case N => k_asm); (case U => k_upd); (case a => decide); (case b => decide); (case e => rfl)); intro h' F' N'; (try dsimp only [List.nil_append, List.cons_append] at N'); (try simp only [castS] at N'))
  trivial
example : True := by
  k_with "nws" => first | k_asm | exact newsTl (by assumption) | exact newsTl (newsTl (by assumption)) | exact newsTl2 (by assumption)
  trivial
example : True := by
  k_with "call ref" => (k_here; (try dsimp only [List.nil_append, List.cons_append, List.append_nil]); (with_reducible show wpAny _ _ (call (Value.ref 481) [Value.ref _]) _ _ _); k_dflt (first | refine' word_c (by ktr_rel) (by ktr_rel) (by ktr_rel) (by ktr_rel) (by ktr_rel) (by ktr_rel) (by ktr_rel) (by ktr_rel) (by ktr_rel) (by ktr_rel) (by ktr_rel) ?_); k_whole; intro h' tk' t' F' N'; (try k_sweep))
  trivial
def HaltG (P : Prop) := P
theorem haltG {P : Prop} (h : HaltG P) : P := h
example : True := by
  k_with "call ref" => (k_here; (try dsimp only [List.nil_append, List.cons_append, List.append_nil]); (with_reducible show wpAny _ _ (call (Value.ref 488) [Value.ref _, Value.int _ _, Value.int _ _]) _ _ _); k_dflt (refine' haltG ?_))
  trivial
example : True := by
  k_with "call ref" => (k_here; (try dsimp only [List.nil_append, List.cons_append, List.append_nil]); (with_reducible show wpAny _ _ (call (Value.ref 488) [Value.ref _, Value.int _ _, Value.int _ _]) _ _ _); k_dflt (refine' lev_use (by assumption) (by assumption) (by ktr_rel) (by ktr_rel) (by ktr_rel) (by first | (with_reducible assumption) | exact (newsTl (by with_reducible assumption)) | exact (newsTl (newsTl (by with_reducible assumption))) | exact (newsTl (newsTl (newsTl (by with_reducible assumption)))) | exact (newsTl (newsTl (newsTl (newsTl (by with_reducible assumption))))) | exact (newsTl (newsTl (newsTl (newsTl (newsTl (by with_reducible assumption)))))) | exact (newsTl (newsTl (newsTl (newsTl (newsTl (newsTl (by with_reducible assumption))))))) | exact (newsTl (newsTl (newsTl (newsTl (newsTl (newsTl (newsTl (by with_reducible assumption)))))))) | exact (newsTl (newsTl (newsTl (newsTl (newsTl (newsTl (newsTl (newsTl (by with_reducible assumption)))))))))) (by ktr_rel) (by ktr_rel) (by ktr_rel) (by ktr_rel) (by ktr_rel) (by with_reducible assumption) (by ktr_rel) (by ktr_rel) (by ktr_rel) ?_); k_whole; intro va' t' h' tk' news' F' N' R' ap' sub' D' hpq' hq'; (have hwl := mem_tail N' R'.wl); (try (rcases hcs with ⟨e1, e2⟩ | ⟨e0, e1, e2⟩ | ⟨e0, ha1, ha2, e1, e2⟩ | ⟨e0, ha1, e1, e2⟩ | ⟨e0, ha1, ha2, e1, e2⟩ <;> subst e1 <;> (try subst e0) <;> (try (obtain ⟨a1', b1', t1', t2', t3', k1', k2', hv', m1', m2'⟩ := num_in (D' _ rfl); injection hv' with hv'; subst hv')) <;> dsimp only [valO])); (all_goals (try k_sweep)))
  trivial
example : True := by
  k_with "subscriptTail Name Slice str ref" => ((with_reducible show wpAny _ _ (subscriptTail _ (Expr.Slice none (some _) none _) _ _) _ _ _); (with_reducible rename Fr _ _ _ _ => F'); (with_reducible rename News _ _ _ _ => N'); (refine slice_strN_ns (hsz := ?hsz) (s := ⟨_, _, _, _, _⟩) F' N' ?_); (case hsz => exact txt_small _); intro _ _ _ _ _)
  trivial
example : True := by
  k_with "compareOp In str ref" => (k_here; (with_reducible show wpAny _ _ (compareOp CmpOp.In (Value.str _ _) (Value.ref _)) _ _ _); (refine' in_tuple_strs ?k1 ?k2 ?_; (case k1 => exact News.isTup (by k_asm) (by k_mem)); (case k2 => first | exact .cons _ _ (.cons _ _ .nil) | exact .cons _ _ .nil); k_whole))
  trivial
example : True := by
  k_with "binaryOp Add ref ref" => (k_here; (with_reducible show wpAny _ _ (binaryOp _ (Value.ref _) (Value.ref _)) _ _ _); k_dflt (refine' addl_c ?F ?N ?a ?b ?z ?_; (case F => k_asm); (case N => k_asm); (case a => k_mem); (case b => k_mem); (case z => omega)); intro D' h' F' N')
  trivial
example : True := by
  k_with "subscriptTail" => (k_here; (with_reducible show wpAny _ _ (subscriptTail _ _ (Value.ref _) (Value.int _ _)) _ _ _); k_dflt (refine' behind_c (p1 := pos + 1) (n' := 0) (by k_asm) (List.Mem.head _) R.are R.few hq5 (by first | exact .inl ⟨rfl, by omega⟩ | exact .inr ⟨rfl, by omega⟩) ?_); intro tb')
  trivial
theorem signed_lv {k : Nat} (S : DoesL w p loose mean mg mb st wl vs n cap ws 488 (ar3 st 4) 8 .pow k) : DoesL w p loose mean mg mb st wl vs n cap ws 495 (ar2 st) 6 .fac (k + 1) := by
  intro dp un gd cn cs a ccd cl outer A₀ base h₀ L m news s Q E t pos d td tv r q B F X N T hk hdp hun R ap hne hp hd hrun ret
  dsimp only [ar3, ar2]
  revert X; k_fill; intro X
  have hwl0 := mem_tail N R.wl
  have hwl1 := R.wl
  have hln0 := R.len
  have hfw0 := R.few
  rcases signed_turn hrun with ⟨hsg, hrun0⟩ | ⟨wd0, x0, r1, hw, hx, hany, hrun0, hcs⟩
  · have hany := stop_any (.inl rfl) hsg
    refine wpAny_call ?_
    k_dflt k_enter
    k_extra "steps"
    all_goals first
      | exact ret _ _ _ _ _ (by k_asm) (by k_extra "nws") R' ap' sub' D' hpq' hq'
      | trace_state
  · have hq5 := lt_of_get hw
    rcases Nat.lt_or_ge (pos + 1) ws.length with hb1 | hb1
    all_goals
      refine wpAny_call ?_
      k_dflt k_enter
      k_extra "steps"
      all_goals first
        | ((rw [e2] at ret); exact ret 0 _ _ _ _ (by k_asm) (by k_extra "nws") R' ap' sub' (fun _ h => nomatch h) (by omega) hq')
        | ((rw [e2] at ret); exact ret _ _ _ _ _ (by k_asm) (by k_extra "nws") R' ap' sub' D' (by omega) hq')
        | ((rw [e2] at ret); (rename News _ _ _ _ => NN); exact ret _ _ _ _ _ (by k_asm) (upS2 NN) (R'.mono fun z h => .tail _ (.tail _ h)) (apS (upS2 NN) (apS (newsTl2 (upS2 NN)) ap')) (fun z h => .tail _ (.tail _ (sub' z h))) (fun tr h => by injection h with h; subst h; exact datNum (.head _) (.tail _ (.head _))) (by omega) hq')
        | ((rw [e2] at ret); (rename News _ _ _ _ => NN); exact ret _ _ _ _ _ (by k_asm) (newsSwap NN) (R'.mono fun z h => .tail _ h) (apS (newsSwap NN) ap') (fun z h => .tail _ (sub' z h)) (fun tr h => by injection h with h; subst h; exact .tuple (.head _) (.cons (.str _ _) (.cons ((D' _ rfl).mono fun z h => .tail _ h) .nil))) (by omega) hq')
        | trace_state
end
end Mine
end
section
open PySem PySem.W PyProof.Rows PySem.Spec PySem.Calls
set_option Elab.async false
example : True := by k_with_none; trivial
example : True := by
  k_with "fold" => (refine folds ?_; intro qk ek)
  k_with "at0" => (with_reducible show At _ _ _ _ (.Name _ _) _ _ _); exact at_L (by rfl) (by rfl) (by decide) (by k_asm) (Eq.refl (some _))
  k_with "atF" => k_dflt first | k_extra "at0" | ((with_reducible show At _ _ _ _ (.Name _ _) _ _ _); exact at_K (by rfl) (by rfl) (by decide) (by k_asm) (by k_asm) (by k_is) (by k_asm)) | fail
  k_with "atB" => k_dflt first | ((with_reducible show At _ _ _ _ (.Name _ _) _ _ _); exact at_B (by rfl) (by rfl) (by decide) (by k_asm) (by k_asm) (by k_is) (by boot_fast) (by decide) (by k_asm)) | fail
  k_with "at" => k_dflt first | ((with_reducible show At _ _ _ _ (.Constant _ _ _) _ _ _); first | exact at_S | exact at_I | exact at_N) | k_extra "at0" | ((with_reducible show At _ _ _ _ (.Attribute (.Name _ _) _ _) _ _ _); exact at_attr (by k_asm) (by k_asm) (by k_extra "at0") (by k_inst) (by k_get) (by k_is) (by k_is) (by k_is) (by k_is) (by first | exact rfl | k_handed)) | ((with_reducible show At _ _ _ _ (.BinOp _ .Add _ _) _ _ _); exact at_add (by k_extra "at") (by k_extra "at")) | k_extra "atF" | fail
  k_with "spl" => k_dflt first | exact spl0 | ((with_reducible show Spl _ _ _ _ [_] _ _ _); exact spl1 (by k_extra "at")) | ((with_reducible show Spl _ _ _ _ [_, _] _ _ _); exact spl2 (by k_extra "at") (by k_extra "at")) | ((with_reducible show Spl _ _ _ _ (_ :: _) _ _ _); exact splC (by k_extra "at") (by k_extra "spl")) | fail
  k_with "eval Call Attribute" => with_reducible (k_here; show wpAny _ _ (eval (.Call (.Attribute _ _ _) _ [] _) _) _ _ _; first | refine mcall (by k_extra "spl") (by k_dflt exact rfl) (by k_dflt k_asm) (by k_dflt k_asm) (by k_extra "at") (by k_dflt k_inst) (by k_get) (by k_is) (by k_is) (by k_is) (by k_is) (by k_dflt exact rfl) ?_ | fail)
  k_with "eval Call" => first | with_reducible (k_here; show wpAny _ _ (eval (.Call (.Name _ _) _ [] _) _) _ _ _; first | refine fcall (by k_extra "spl") (by k_dflt exact rfl) (by k_dflt k_asm) (by k_dflt k_asm) (by k_extra "atF") (by k_is) (by k_dflt exact rfl) ?_ | ((first | show wpAny _ _ (eval (.Call (.Name (Str.ofString "len") _) _ _ _) _) _ _ _ | show wpAny _ _ (eval (.Call (.Name (Str.ofString "min") _) _ _ _) _) _ _ _); refine bcall (by k_extra "spl") (by k_extra "atB") (by k_dflt exact rfl) ?_) | fail) | (k_here; k_dflt (refine Call_ ?_)) | fail
  k_with "spliced" => first | with_reducible (k_here; first | refine spl_use (by k_extra "spl") ?_ | fail) | (k_dflt (first | refine spliced_more ?_ | refine spliced_none ?_)) | fail
  k_with "eval Subscript" => with_reducible (k_here; show wpAny _ _ (eval (.Subscript _ _ _) _) _ _ _; first | refine sub_at (by k_extra "at") (by k_extra "at") ?_ | fail)
  k_with "eval BinOp" => with_reducible (k_here; show wpAny _ _ (eval (.BinOp _ _ _ _) _) _ _ _; first | refine at_use (by k_extra "at") ?_ | refine bin_at (by k_extra "at") (by k_extra "at") ?_ | fail)
  k_with "isTrue Compare" => with_reducible (k_here; show wpAny _ _ (PySem.isTrue (.Compare _ [_] [_] _) _ _) _ _ _; first | refine cmpT_at (by k_dflt rfl) (by k_extra "at") (by k_extra "at") ?_ | refine cmpT_atL (by k_dflt rfl) (by k_extra "at") ?_ | fail)
  k_with "eval Compare" => with_reducible (k_here; show wpAny _ _ (eval (.Compare _ [_] [_] _) _) _ _ _; first | refine cmp_at (by k_dflt rfl) (by k_extra "at") (by k_extra "at") ?_ | fail)
  k_with "eval Attribute Name" => with_reducible (k_here; first | refine at_use (by k_extra "at") ?_ | fail)
  k_with "eval Name" => with_reducible (k_here; first | refine at_use (by k_extra "at") ?_ | fail)
  k_with "itemAt" => (k_here; (with_reducible show wpAny _ _ (subscriptTail _ _ (Value.ref _) (Value.int _ _)) _ _ _); with_reducible first | refine item_litK (by with_unfolding_all is_list) (by k_dflt decide) (by k_dflt decide) (by with_unfolding_all rfl) ?_ (by with_unfolding_all rfl) | refine item_tupleT (by k_dflt exact News.isTup (by k_asm) (by k_mem)) (by k_dflt decide) (by k_dflt decide) (by k_dflt rfl) (by k_dflt rfl) ?_ | fail); k_whole
  k_with "turned" => (k_here; k_dflt (refine kba_turn (value' := PySem.Expr.Name (PySem.Str.ofString "_") ⟨0, 0, 0, 0⟩) (fun _ => rfl) ?_))
  k_with "subscriptTail Name Constant ref int" => first | k_extra "subscriptTail" | k_extra "itemAt" | fail
  k_with "subscriptTail Subscript Constant ref int" => k_extra "itemAt"
  k_with "subscriptTail Name" => k_extra "subscriptTail"
  k_with "subscriptTail Call" => k_extra "turned"
  k_with "subscriptTail BinOp" => k_extra "turned"
  k_with "seq" => first | (k_here; k_gentoks) | ((with_reducible refine wpAny_execs_cons ?_); try dsimp only) | fail
  k_with "execs cons Assign cons" => k_extra "seq"
  k_with "execs cons If cons" => k_extra "seq"
  k_with "execs cons Return nil" => k_extra "seq"
  k_with "exec Assign cons" => (with_reducible show wpAny _ _ (exec (.Assign [.Name _ _] _ _) _) _ _ _); k_dflt (refine wpAny_Assign_Name ?_)
  k_with "exec If" => refine wpAny_If ?_
  k_with "eval Call Name cons nil" => k_extra "eval Call"
  k_with "isTrue Compare Name cons cons" => k_extra "isTrue Compare"
  k_with "truthy bool false" => refine wpAny_truthy_bool ?_
  k_with "truthy bool" => refine wpAny_truthy_bool ?_
  k_with "room" => first | exact lb0 (j := 1) (by assumption) rfl | exact lb2 (j := 1) (by assumption) (by assumption) rfl
  k_with "om" => first | (k_whole; first | exact lb0 (by assumption) rfl | exact lb1 (by assumption) rfl | exact lb2 (by assumption) (by assumption) rfl | exact lb4 (by assumption) rfl | exact Nat.le_of_succ_le (by assumption)) | omega
  k_with "steps" => repeat' (first | ((with_reducible show wpAny _ _ (exec _ _) _ _ _); (fail_if_success (fail_if_success k_fold)); k_extra "fold") | ((fail_if_success (fail_if_success k_unfold)); first | dsimp only [qk] | dsimp only [ek] | (k_unfold; (try dsimp only))) | (k_end; wrow_close) | walk1 | (dsimp only; walk1) | (leave1; walk_say "STEP leave1"; try dsimp only) | fail)
  trivial
namespace Mine
set_option maxRecDepth 100000
set_option maxHeartbeats 0
section
variable {w : World} {p : Program} {loose : List Str} {mean : ExcName → Option Value} {mg mb : Str → Option Value} {dp un : Nat} {gd : Option (List Code)} {cn : Str} {cs : Scope} {a : Addr} {ccd : Value} {cl : List (Str × Addr)} {outer : List Env} {A₀ : Around} {base h₀ : Heap} {L : Addr} {m : Str → Option Value}
  {news : List (Addr × Obj)} {s : Shared} {Q E : Value → Shared → Prop} {st wl : Addr} {t : Tok} {vs : List Value} {n cap : Nat} {pos : Nat} {ws : List Wd} {keep : List (Addr × Obj)}
example : True := by
  k_with "upd" => exact updF_upd (by assumption) _
  trivial
example : True := by
  k_with "rel" => first | (with_reducible assumption) | exact dle1 (by with_reducible assumption) rfl | k_extra "om" | exact rfl | (refine StIn.mono (by with_reducible assumption) ?_; (intro _ hz; first | exact hz | exact .tail _ hz | exact .tail _ (.tail _ hz) | exact .tail _ (.tail _ (.tail _ hz)) | exact .tail _ (.tail _ (.tail _ (.tail _ hz))))) | exact UpdF.head (by with_reducible assumption) | ((try dsimp only [ktrTop, Around.deeper]); k_extra "om") | assumption | k_mem | k_updF
  trivial
example : True := by
  k_with "mem" => first | ktr_member | (refine List.mem_cons_of_mem _ ?_; k_mem)
  trivial
example : True := by
  k_with "updF" => exact UpdF.head (by with_reducible assumption)
  trivial
example : True := by
  k_with "upd" => exact updF_upd (UpdF.head (by with_reducible assumption)) _
  trivial
example : True := by
  k_with "ite" => (k_closed; with_reducible first | refine ite_pos (by decide) ?_ | refine ite_neg (by decide) ?_)
  trivial
example : True := by
  k_with "eval Dict" => (k_here; k_dflt (refine' kdn_int ?q ?F ?N ?b ?a ?l ?e ?n ?_; (case q => rfl); (case F => k_asm); (case N => first | k_asm | exact News.nil); (case b => exact Top.nolimit (by k_asm)); (case a => rfl); (case l => rfl); (case e => exact List.cons_ne_nil _ _); (case n => exact Nat.le_of_ble_eq_true rfl)); intro d' h' o' F' N' l1 lo' hd'; (try k_lt l1))
  trivial
example : True := by
  k_with "compareOp NotIn str ref" => (k_here; (with_reducible show wpAny _ _ (compareOp CmpOp.NotIn (Value.str _ _) (Value.ref _)) _ _ _); (refine' notin_tuple_strs ?k1 ?k2 ?_; (case k1 => exact News.isTup (by k_asm) (by k_mem)); (case k2 => first | exact .cons _ _ (.cons _ _ .nil) | exact .cons _ _ .nil); k_whole))
  trivial
example : True := by
  k_with "setItem ref int" => (k_here; k_dflt (refine' ki_set ?F ?N ?a ?b ?e ?U ?_; (case F => k_asm); (case N => k_asm); (case U => k_upd); (case a => decide); (case b => decide); (case e => rfl)); intro h' F' N'; (try dsimp only [List.nil_append, List.cons_append] at N'); (try simp only [castS] at N'))
  trivial
example : True := by
  k_with "nws" => first | k_asm | exact newsTl (by assumption) | exact newsTl (newsTl (by assumption)) | exact newsTl2 (by assumption)
  trivial
example : True := by
  k_with "call ref" => (k_here; (try dsimp only [List.nil_append, List.cons_append, List.append_nil]); (with_reducible show wpAny _ _ (call (Value.ref 481) [Value.ref _]) _ _ _); k_dflt (first | refine' word_c (by ktr_rel) (by ktr_rel) (by ktr_rel) (by ktr_rel) (by ktr_rel) (by ktr_rel) (by ktr_rel) (by ktr_rel) (by ktr_rel) (by ktr_rel) (by ktr_rel) ?_); k_whole; intro h' tk' t' F' N'; (try k_sweep))
  trivial
def HaltS (P : Prop) := P
theorem haltS {P : Prop} (h : HaltS P) : P := h
example : True := by
  k_with "call ref" => (k_here; (try dsimp only [List.nil_append, List.cons_append, List.append_nil]); (with_reducible show wpAny _ _ (call (Value.ref 488) [Value.ref _, Value.int _ _, Value.int _ _]) _ _ _); k_dflt (refine' haltS ?_))
  trivial
example : True := by
  k_with "call ref" => (k_here; (try dsimp only [List.nil_append, List.cons_append, List.append_nil]); (with_reducible show wpAny _ _ (call (Value.ref 488) [Value.ref _, Value.int _ _, Value.int _ _]) _ _ _); k_dflt (show wpAny _ _ (call (Value.ref 488) [Value.ref _, Value.int 1 _, Value.int ((d + 1 : Nat) : Int) _]) _ _ _); k_dflt (refine' lev_use (by assumption) (by assumption) (by ktr_rel) (by ktr_rel) (by ktr_rel) (by first | (with_reducible assumption) | exact (newsTl (by with_reducible assumption)) | exact (newsTl (newsTl (by with_reducible assumption))) | exact (newsTl (newsTl (newsTl (by with_reducible assumption)))) | exact (newsTl (newsTl (newsTl (newsTl (by with_reducible assumption))))) | exact (newsTl (newsTl (newsTl (newsTl (newsTl (by with_reducible assumption)))))) | exact (newsTl (newsTl (newsTl (newsTl (newsTl (newsTl (by with_reducible assumption))))))) | exact (newsTl (newsTl (newsTl (newsTl (newsTl (newsTl (newsTl (by with_reducible assumption)))))))) | exact (newsTl (newsTl (newsTl (newsTl (newsTl (newsTl (newsTl (newsTl (by with_reducible assumption)))))))))) (by ktr_rel) (by ktr_rel) (by ktr_rel) (by ktr_rel) (by ktr_rel) (by with_reducible assumption) (by ktr_rel) (by ktr_rel) (by ktr_rel) ?_); k_whole; intro va' t' h' tk' news' F' N' R' ap' sub' D' hpq' hq'; (have hwl := mem_tail N' R'.wl); (try (rcases hcs with ⟨e1, e2, e3⟩ | ⟨e1, hb1, e2, e3, e4⟩ | ⟨e1, hb1, e2, e3⟩ <;> subst e1 <;> dsimp only [valO])); (all_goals (try k_sweep)))
  trivial
example : True := by
  k_with "subscriptTail Name Slice str ref" => ((with_reducible show wpAny _ _ (subscriptTail _ (Expr.Slice none (some _) none _) _ _) _ _ _); (with_reducible rename Fr _ _ _ _ => F'); (with_reducible rename News _ _ _ _ => N'); (refine slice_strN_ns (hsz := ?hsz) (s := ⟨_, _, _, _, _⟩) F' N' ?_); (case hsz => exact txt_small _); intro _ _ _ _ _)
  trivial
example : True := by
  k_with "compareOp In str ref" => (k_here; (with_reducible show wpAny _ _ (compareOp CmpOp.In (Value.str _ _) (Value.ref _)) _ _ _); (refine' in_tuple_strs ?k1 ?k2 ?_; (case k1 => exact News.isTup (by k_asm) (by k_mem)); (case k2 => first | exact .cons _ _ (.cons _ _ .nil) | exact .cons _ _ .nil); k_whole))
  trivial
theorem single_lv {k : Nat} (S : DoesL w p loose mean mg mb st wl vs n cap ws 488 (ar3 st 1) 0 .sum k) : DoesL w p loose mean mg mb st wl vs n cap ws 502 (ar2 st) 12 .prim (k + 1) := by
  intro dp un gd cn cs a ccd cl outer A₀ base h₀ L m news s Q E t pos d td tv r q B F X N T hk hdp hun R ap hne hp hd hrun ret
  dsimp only [ar3, ar2]
  revert X; k_fill; intro X
  have hwl0 := mem_tail N R.wl
  have hwl1 := R.wl
  have hln0 := R.len
  have hfw0 := R.few
  rcases single_turn hrun with ⟨hx, e2, e3, e4⟩ | ⟨hx, e2, e3, e4⟩ | ⟨hx, hany, hx2, e2, e3⟩ | ⟨hx, hdd, e2, e3, e4⟩ | ⟨hx, hdd, hq5, hrun0, hcs⟩
  · have hany : [Str.ofString "5", Str.ofString "0.25"].any (· == Str.ofString "5") = true := by decide +kernel
    refine wpAny_call ?_
    k_dflt k_enter
    k_extra "steps"
    all_goals first
      | (rw [e2, e3] at ret; (rename News _ _ _ _ => NN); exact ret _ _ _ _ _ (by k_asm) (upS3 NN) (R.mono fun z h => .tail _ (.tail _ h)) (apS (upS3 NN) (apS (newsTl2 (upS3 NN)) ap)) (fun z h => .tail _ (.tail _ h)) (fun tr h => by injection h with h; subst h; exact datNum (.head _) (.tail _ (.head _))) (Nat.le_succ _) e4)
      | trace_state
  · have hany : [Str.ofString "5", Str.ofString "0.25"].any (· == Str.ofString "0.25") = true := by decide +kernel
    refine wpAny_call ?_
    k_dflt k_enter
    k_extra "steps"
    all_goals first
      | (rw [e2, e3] at ret; (rename News _ _ _ _ => NN); exact ret _ _ _ _ _ (by k_asm) (upS3 NN) (R.mono fun z h => .tail _ (.tail _ h)) (apS (upS3 NN) (apS (newsTl2 (upS3 NN)) ap)) (fun z h => .tail _ (.tail _ h)) (fun tr h => by injection h with h; subst h; exact datNum (.head _) (.tail _ (.head _))) (Nat.le_succ _) e4)
      | trace_state
  · 
    refine wpAny_call ?_
    k_dflt k_enter
    k_extra "steps"
    all_goals first
      | (rw [e2, e3] at ret; exact ret 0 _ _ _ _ (by k_asm) (by k_extra "nws") R ap (fun _ h => h) (fun _ h => nomatch h) (Nat.le_refl _) hp)
      | trace_state
  · have hany : [Str.ofString "5", Str.ofString "0.25"].any (· == Str.ofString "(") = false := by decide +kernel
    refine wpAny_call ?_
    k_dflt k_enter
    k_extra "steps"
    all_goals first
      | (rw [e2, e3] at ret; exact ret 0 _ _ _ _ (by k_asm) (by k_extra "nws") R ap (fun _ h => h) (fun _ h => nomatch h) (Nat.le_succ _) e4)
      | trace_state
  · have hany : [Str.ofString "5", Str.ofString "0.25"].any (· == Str.ofString "(") = false := by decide +kernel
    refine wpAny_call ?_
    k_dflt k_enter
    k_extra "steps"
    all_goals first
      | (rw [e2, e3] at ret; exact ret 0 _ _ _ _ (by k_asm) (by k_extra "nws") R' ap' sub' (fun _ h => nomatch h) (by omega) (by omega))
      | (rw [e2, e3] at ret; exact ret _ _ _ _ _ (by k_asm) (by k_extra "nws") R' ap' sub' D' (by omega) e4)
      | trace_state
end
end Mine
end
section
open PySem PySem.W PyProof.Rows PySem.Spec PySem.Calls
set_option Elab.async false
example : True := by k_with_none; trivial
example : True := by
  k_with "fold" => (refine folds ?_; intro qk ek)
  k_with "at0" => (with_reducible show At _ _ _ _ (.Name _ _) _ _ _); exact at_L (by rfl) (by rfl) (by decide) (by k_asm) (Eq.refl (some _))
  k_with "atF" => k_dflt first | k_extra "at0" | ((with_reducible show At _ _ _ _ (.Name _ _) _ _ _); exact at_K (by rfl) (by rfl) (by decide) (by k_asm) (by k_asm) (by k_is) (by k_asm)) | fail
  k_with "atB" => k_dflt first | ((with_reducible show At _ _ _ _ (.Name _ _) _ _ _); exact at_B (by rfl) (by rfl) (by decide) (by k_asm) (by k_asm) (by k_is) (by boot_fast) (by decide) (by k_asm)) | fail
  k_with "at" => k_dflt first | ((with_reducible show At _ _ _ _ (.Constant _ _ _) _ _ _); first | exact at_S | exact at_I | exact at_N) | k_extra "at0" | ((with_reducible show At _ _ _ _ (.Attribute (.Name _ _) _ _) _ _ _); exact at_attr (by k_asm) (by k_asm) (by k_extra "at0") (by k_inst) (by k_get) (by k_is) (by k_is) (by k_is) (by k_is) (by first | exact rfl | k_handed)) | ((with_reducible show At _ _ _ _ (.BinOp _ .Add _ _) _ _ _); exact at_add (by k_extra "at") (by k_extra "at")) | k_extra "atF" | fail
  k_with "spl" => k_dflt first | exact spl0 | ((with_reducible show Spl _ _ _ _ [_] _ _ _); exact spl1 (by k_extra "at")) | ((with_reducible show Spl _ _ _ _ [_, _] _ _ _); exact spl2 (by k_extra "at") (by k_extra "at")) | ((with_reducible show Spl _ _ _ _ (_ :: _) _ _ _); exact splC (by k_extra "at") (by k_extra "spl")) | fail
  k_with "eval Call Attribute" => with_reducible (k_here; show wpAny _ _ (eval (.Call (.Attribute _ _ _) _ [] _) _) _ _ _; first | refine mcall (by k_extra "spl") (by k_dflt exact rfl) (by k_dflt k_asm) (by k_dflt k_asm) (by k_extra "at") (by k_dflt k_inst) (by k_get) (by k_is) (by k_is) (by k_is) (by k_is) (by k_dflt exact rfl) ?_ | fail)
  k_with "eval Call" => first | with_reducible (k_here; show wpAny _ _ (eval (.Call (.Name _ _) _ [] _) _) _ _ _; first | refine fcall (by k_extra "spl") (by k_dflt exact rfl) (by k_dflt k_asm) (by k_dflt k_asm) (by k_extra "atF") (by k_is) (by k_dflt exact rfl) ?_ | ((first | show wpAny _ _ (eval (.Call (.Name (Str.ofString "len") _) _ _ _) _) _ _ _ | show wpAny _ _ (eval (.Call (.Name (Str.ofString "min") _) _ _ _) _) _ _ _); refine bcall (by k_extra "spl") (by k_extra "atB") (by k_dflt exact rfl) ?_) | fail) | (k_here; k_dflt (refine Call_ ?_)) | fail
  k_with "spliced" => first | with_reducible (k_here; first | refine spl_use (by k_extra "spl") ?_ | fail) | (k_dflt (first | refine spliced_more ?_ | refine spliced_none ?_)) | fail
  k_with "eval Subscript" => with_reducible (k_here; show wpAny _ _ (eval (.Subscript _ _ _) _) _ _ _; first | refine sub_at (by k_extra "at") (by k_extra "at") ?_ | fail)
  k_with "eval BinOp" => with_reducible (k_here; show wpAny _ _ (eval (.BinOp _ _ _ _) _) _ _ _; first | refine at_use (by k_extra "at") ?_ | refine bin_at (by k_extra "at") (by k_extra "at") ?_ | fail)
  k_with "isTrue Compare" => with_reducible (k_here; show wpAny _ _ (PySem.isTrue (.Compare _ [_] [_] _) _ _) _ _ _; first | refine cmpT_at (by k_dflt rfl) (by k_extra "at") (by k_extra "at") ?_ | refine cmpT_atL (by k_dflt rfl) (by k_extra "at") ?_ | fail)
  k_with "eval Compare" => with_reducible (k_here; show wpAny _ _ (eval (.Compare _ [_] [_] _) _) _ _ _; first | refine cmp_at (by k_dflt rfl) (by k_extra "at") (by k_extra "at") ?_ | fail)
  k_with "eval Attribute Name" => with_reducible (k_here; first | refine at_use (by k_extra "at") ?_ | fail)
  k_with "eval Name" => with_reducible (k_here; first | refine at_use (by k_extra "at") ?_ | fail)
  k_with "itemAt" => (k_here; (with_reducible show wpAny _ _ (subscriptTail _ _ (Value.ref _) (Value.int _ _)) _ _ _); with_reducible first | refine item_litK (by with_unfolding_all is_list) (by k_dflt decide) (by k_dflt decide) (by with_unfolding_all rfl) ?_ (by with_unfolding_all rfl) | refine item_tupleT (by k_dflt exact News.isTup (by k_asm) (by k_mem)) (by k_dflt decide) (by k_dflt decide) (by k_dflt rfl) (by k_dflt rfl) ?_ | fail); k_whole
  k_with "turned" => (k_here; k_dflt (refine kba_turn (value' := PySem.Expr.Name (PySem.Str.ofString "_") ⟨0, 0, 0, 0⟩) (fun _ => rfl) ?_))
  k_with "subscriptTail Name Constant ref int" => first | k_extra "subscriptTail" | k_extra "itemAt" | fail
  k_with "subscriptTail Subscript Constant ref int" => k_extra "itemAt"
  k_with "subscriptTail Name" => k_extra "subscriptTail"
  k_with "subscriptTail Call" => k_extra "turned"
  k_with "subscriptTail BinOp" => k_extra "turned"
  k_with "seq" => first | (k_here; k_gentoks) | ((with_reducible refine wpAny_execs_cons ?_); try dsimp only) | fail
  k_with "execs cons Assign cons" => k_extra "seq"
  k_with "execs cons If cons" => k_extra "seq"
  k_with "execs cons Return nil" => k_extra "seq"
  k_with "exec Assign cons" => (with_reducible show wpAny _ _ (exec (.Assign [.Name _ _] _ _) _) _ _ _); k_dflt (refine wpAny_Assign_Name ?_)
  k_with "exec If" => refine wpAny_If ?_
  k_with "eval Call Name cons nil" => k_extra "eval Call"
  k_with "isTrue Compare Name cons cons" => k_extra "isTrue Compare"
  k_with "truthy bool false" => refine wpAny_truthy_bool ?_
  k_with "truthy bool" => refine wpAny_truthy_bool ?_
  k_with "room" => first | exact lb0 (j := 1) (by assumption) rfl | exact lb2 (j := 1) (by assumption) (by assumption) rfl
  k_with "om" => first | (k_whole; first | exact lb0 (by assumption) rfl | exact lb1 (by assumption) rfl | exact lb2 (by assumption) (by assumption) rfl | exact lb4 (by assumption) rfl | exact Nat.le_of_succ_le (by assumption)) | omega
  k_with "steps" => repeat' (first | ((with_reducible show wpAny _ _ (exec _ _) _ _ _); (fail_if_success (fail_if_success k_fold)); k_extra "fold") | ((fail_if_success (fail_if_success k_unfold)); first | dsimp only [qk] | dsimp only [ek] | (k_unfold; (try dsimp only))) | (k_end; wrow_close) | walk1 | (dsimp only; walk1) | (leave1; walk_say "STEP leave1"; try dsimp only) | fail)
  trivial
namespace Mine
set_option maxRecDepth 100000
set_option maxHeartbeats 0
section
variable {w : World} {p : Program} {loose : List Str} {mean : ExcName → Option Value} {mg mb : Str → Option Value} {dp un : Nat} {gd : Option (List Code)} {cn : Str} {cs : Scope} {a : Addr} {ccd : Value} {cl : List (Str × Addr)} {outer : List Env} {A₀ : Around} {base h₀ : Heap} {L : Addr} {m : Str → Option Value}
  {news : List (Addr × Obj)} {s : Shared} {Q E : Value → Shared → Prop} {st wl : Addr} {t : Tok} {vs : List Value} {n cap : Nat} {pos : Nat} {ws : List Wd} {keep : List (Addr × Obj)}
example : True := by
  k_with "upd" => exact updF_upd (by assumption) _
  trivial
example : True := by
  k_with "rel" => first | (with_reducible assumption) | exact dle1 (by with_reducible assumption) rfl | k_extra "om" | exact rfl | (refine StIn.mono (by with_reducible assumption) ?_; (intro _ hz; first | exact hz | exact .tail _ hz | exact .tail _ (.tail _ hz) | exact .tail _ (.tail _ (.tail _ hz)) | exact .tail _ (.tail _ (.tail _ (.tail _ hz))))) | exact UpdF.head (by with_reducible assumption) | ((try dsimp only [ktrTop, Around.deeper]); k_extra "om") | assumption | k_mem | k_updF
  trivial
example : True := by
  k_with "mem" => first | ktr_member | (refine List.mem_cons_of_mem _ ?_; k_mem)
  trivial
example : True := by
  k_with "updF" => exact UpdF.head (by with_reducible assumption)
  trivial
example : True := by
  k_with "upd" => exact updF_upd (UpdF.head (by with_reducible assumption)) _
  trivial
example : True := by
  k_with "ite" => (k_closed; with_reducible first | refine ite_pos (by decide) ?_ | refine ite_neg (by decide) ?_)
  trivial
example : True := by
  k_with "eval Dict" => (k_here; k_dflt (refine' kdn_int ?q ?F ?N ?b ?a ?l ?e ?n ?_; (case q => rfl); (case F => k_asm); (case N => first | k_asm | exact News.nil); (case b => exact Top.nolimit (by k_asm)); (case a => rfl); (case l => rfl); (case e => exact List.cons_ne_nil _ _); (case n => exact Nat.le_of_ble_eq_true rfl)); intro d' h' o' F' N' l1 lo' hd'; (try k_lt l1))
  trivial
example : True := by
  k_with "compareOp NotIn str ref" => (k_here; (with_reducible show wpAny _ _ (compareOp CmpOp.NotIn (Value.str _ _) (Value.ref _)) _ _ _); (refine' notin_tuple_strs ?k1 ?k2 ?_; (case k1 => exact News.isTup (by k_asm) (by k_mem)); (case k2 => first | exact .cons _ _ (.cons _ _ .nil) | exact .cons _ _ .nil); k_whole))
  trivial
example : True := by
  k_with "setItem ref int" => (k_here; k_dflt (refine' ki_set ?F ?N ?a ?b ?e ?U ?_; (case F => k_asm); (case N => k_asm); (case U => k_upd); (case a => decide); (case b => decide); (case e => rfl)); intro h' F' N'; (try dsimp only [List.nil_append, List.cons_append] at N'); (try simp only [castS] at N'))
  trivial
example : True := by
  k_with "nws" => first | k_asm | exact newsTl (by assumption) | exact newsTl (newsTl (by assumption)) | exact newsTl2 (by assumption)
  trivial
example : True := by
  k_with "call ref" => (k_here; (try dsimp only [List.nil_append, List.cons_append, List.append_nil]); (with_reducible show wpAny _ _ (call (Value.ref 481) [Value.ref _]) _ _ _); k_dflt (first | refine' word_c (by ktr_rel) (by ktr_rel) (by ktr_rel) (by ktr_rel) (by ktr_rel) (by ktr_rel) (by ktr_rel) (by ktr_rel) (by ktr_rel) (by ktr_rel) (by ktr_rel) ?_); k_whole; intro h' tk' t' F' N'; (try k_sweep))
  trivial
theorem doesL_zero {f : Addr} {ar : Nat → Tok → Tok → List Value} {bd : Nat} {lv : Lv} : DoesL w p loose mean mg mb st wl vs n cap ws f ar bd lv 0 := by
  intro dp un gd cn cs a ccd cl outer A₀ base h₀ L m news s Q E t pos d td tv r q B F X N T hk hdp hun R ap hne hp hd hrun ret
  cases lv <;> cases hrun
theorem law_all : ∀ k, DoesL w p loose mean mg mb st wl vs n cap ws 488 (ar3 st 1) 0 .sum k ∧ DoesL w p loose mean mg mb st wl vs n cap ws 488 (ar3 st 2) 2 .prod k ∧ DoesL w p loose mean mg mb st wl vs n cap ws 488 (ar3 st 3) 4 .fac k ∧ DoesL w p loose mean mg mb st wl vs n cap ws 488 (ar3 st 4) 8 .pow k ∧ DoesL w p loose mean mg mb st wl vs n cap ws 488 (ar3 st 5) 10 .prim k := by
  intro k
  induction k using Nat.strongRecOn with
  | ind k ih =>
    cases k with
    | zero => exact ⟨doesL_zero, doesL_zero, doesL_zero, doesL_zero, doesL_zero⟩
    | succ k => exact ⟨levA fun k' h => (ih k' (Nat.lt_succ_of_le h)).2.1, levB fun k' h => (ih k' (Nat.lt_succ_of_le h)).2.2.1, lev3 (signed_lv (ih k (Nat.lt_succ_self k)).2.2.2.1), levC fun k' h => (ih k' (Nat.lt_succ_of_le h)).2.2.2.2, lev5 (single_lv (ih k (Nat.lt_succ_self k)).1)⟩
end
end Mine
end
section
open PySem PySem.W PyProof.Rows PySem.Spec PySem.Calls
set_option Elab.async false
namespace Mine
set_option maxRecDepth 100000
set_option maxHeartbeats 0
section
variable {prog : Program} {w : World} {A : Around} {E : Value → Shared → Prop} {s : Shared} {env : Env} {h₀ : Heap} {target : PySem.Expr} {body : List Stmt} {Q : Flow → Shared → Prop}
/-- an enumerate over an unwritten list by an invariant -/
theorem items_inv {ws : List (Addr × String)} {keep : List (Addr × Obj)} (J : Nat → (Str → Option Value) → List (Addr × Obj) → Prop) (vs₀ : List Value)
    (turn : ∀ i v T t h tk m news its, vs₀[i]? = some v → J i m news → IsTup h T #[.int ((i : Nat) : Int) t, v] → Fr h₀ env.locals h m → Objs ws its → News h₀ env.locals h (its ++ news) →
      wpAny (model prog w) A (assign target env (.ref T)) (fun _ s₂ => wpAny (model prog w) A (execs body env) (UnrPostW h₀ env.locals { s with heap := h, toks := tk } its (fun m' n' => SubL keep n' ∧ J (i + 1) m' n') Q) E s₂) E { s with heap := h, toks := tk })
    (done : ∀ m news h tk, J vs₀.length m news → Fr h₀ env.locals h m → News h₀ env.locals h news → Q .next { s with heap := h, toks := tk }) :
    ∀ (vs : List Value) (i : Nat) m news, vs₀ = vs₀.take i ++ vs → i ≤ vs₀.length → J i m news → ItemsRest prog w A E h₀ env target body Q s ws keep (enumItems i vs) m news := by
  intro vs
  induction vs with
  | nil =>
    intro i m news he hi hj
    have hl : vs₀.length = i := by have := congrArg List.length he; simp at this; omega
    exact ItemsRest.zero fun h tk F N => done m news h tk (hl ▸ hj) F N
  | cons v vs ih =>
    intro i m news he hi hj
    have hl : i < vs₀.length := by have := congrArg List.length he; simp at this; omega
    have hv : vs₀[i]? = some v := by rw [he, List.getElem?_append_right (by simp; omega)]; simp [Nat.min_eq_left hi]
    refine ItemsRest.pair fun T t h tk hT F => ?_
    have all : ∀ its, Objs ws its → News h₀ env.locals h (its ++ news) → wpAny (model prog w) A (assign target env (.ref T)) (fun _ s₂ => wpAny (model prog w) A (execs body env) (UnrPostW h₀ env.locals { s with heap := h, toks := tk } its (fun m' n' => SubL keep n' ∧ ItemsRest prog w A E h₀ env target body Q s ws keep (enumItems (i + 1) vs) m' n') Q) E s₂) E { s with heap := h, toks := tk } := by
      intro its ho N
      refine wpAny_mono (turn i v T t h tk m news its hv hj hT F ho N) (fun _ s₂ x => wpAny_mono x (fun f s₃ y => ?_) fun _ _ z => z) fun _ _ z => z
      have fin : UnrEndW h₀ env.locals { s with heap := h, toks := tk } its (fun m' n' => SubL keep n' ∧ J (i + 1) m' n') s₃ → UnrEndW h₀ env.locals { s with heap := h, toks := tk } its (fun m' n' => SubL keep n' ∧ ItemsRest prog w A E h₀ env target body Q s ws keep (enumItems (i + 1) vs) m' n') s₃ := by
        rintro ⟨h', tk', m', n', e, F', N', off, hk, hj'⟩
        refine ⟨h', tk', m', n', e, F', N', off, hk, ih (i + 1) m' n' ?_ hl hj'⟩
        rw [List.take_add_one, hv]; simpa using he
      cases f with
      | ret v => exact y
      | brk => exact y
      | next => exact fin y
      | cont => exact fin y
    have go : ∀ (ws' : List (Addr × String)) (k : List (Addr × Obj) → Prop), (∀ its, Objs ws' its → k its) → AllObj ws' k := by
      intro ws'
      induction ws' with
      | nil => intro k hk; exact AllObj.nil (hk [] trivial)
      | cons q r ihr => intro k hk; exact AllObj.cons fun o ho => ihr _ fun its hi => hk _ ⟨⟨rfl, ho⟩, hi⟩
    exact go ws _ all
end
end Mine
end
section
open PySem PySem.W PyProof.Rows PySem.Spec PySem.Calls
set_option Elab.async false
namespace Mine
set_option maxRecDepth 100000
set_option maxHeartbeats 0
def Cl (I : Addr) (news : List (Addr × Obj)) : Prop := ∀ p ∈ news, (p.2.cls ≠ .type "enumerate" ∧ p.2.cls ≠ .type "list_iterator") ∨ @LT.lt Nat _ p.1 I
/-- the tokens read so far -/
structure TksIn (c : List (Addr × Obj)) (tas : List Addr) (ws : List Wd) (i : Nat) : Prop where
  len : tas.length = i
  tok : ∀ j wd, j < i → ws[j]? = some wd → ∃ ta, tas[j]? = some ta ∧ TokIn c ta wd j
inductive JRd (I ls : Addr) (ps : Array Value) (news : List (Addr × Obj)) (ws : List Wd) (m₀ : Str → Option Value) (i : Nat) (m : Str → Option Value) (nx : List (Addr × Obj)) : Prop
  | mk (tas : List Addr) (cc : Nat) (c : List (Addr × Obj)) (e : nx = (ls, listOf (tas.map Value.ref).toArray cc) :: (232, tabObj ps) :: c) (tks : TksIn c tas ws i) (sub : ∀ z ∈ news, z ∈ c) (ap : ∀ p ∈ c, p.1 ≠ ls ∧ p.1 ≠ 232) (cl : Cl I c) (hm : m (Str.ofString "tokens") = some (.ref ls))
    (hz : ∀ z, z ≠ Str.ofString "tokens" → [Str.ofString "at", Str.ofString "word", Str.ofString "kind"].contains z = false → m z = m₀ z) : JRd I ls ps news ws m₀ i m nx
abbrev frT (f : Value) (u m₀ : Str → Option Value) : Str → Option Value := fun y => if y = Str.ofString "tokens" then some f else if [Str.ofString "at", Str.ofString "word", Str.ofString "kind"].contains y then u y else m₀ y
theorem fr_rdr {h₀ h : Heap} {L : Addr} {f : Value} {m m₀ : Str → Option Value} (h1 : m (Str.ofString "tokens") = some f) (h2 : ∀ z, z ≠ Str.ofString "tokens" → [Str.ofString "at", Str.ofString "word", Str.ofString "kind"].contains z = false → m z = m₀ z)
    (F : Fr h₀ L h m) : Fr h₀ L h (frT f m m₀) := by
  have e : frT f m m₀ = m := by
    funext y
    by_cases y2 : y = Str.ofString "tokens"
    · rw [frT, if_pos y2, y2, h1]
    · rw [frT, if_neg y2]
      cases y3 : [Str.ofString "at", Str.ofString "word", Str.ofString "kind"].contains y with
      | true => rfl
      | false => exact (h2 y y2 y3).symm
  rw [e]; exact F
inductive RdEnd (h₀ : Heap) (L : Addr) (s₁ : Shared) (I : Addr) (o1 o2 : Obj) (ls : Addr) (ps : Array Value) (c : List (Addr × Obj)) (tas : List Addr) (wd : Wd) (i : Nat) (m₀ : Str → Option Value) (s₂ : Shared) : Prop
  | mk (h' : Heap) (tk : Nat) (m' : Str → Option Value) (l : List (Addr × Obj)) (ta td at_ : Addr) (cc : Nat) (hs1 hs2 hs3 hs4 : Int) (u1 u2 u3 u4 t1 t2 t3 t4 : Tok) (nn : Nat) (e : s₂ = { s₁ with heap := h', toks := tk }) (F : Fr h₀ L h' m') (N : News h₀ L h' l) (b1 : (I + 1, o1) ∈ l) (b2 : (I, o2) ∈ l) (b3 : (ls, listOf ((tas ++ [ta]).map Value.ref).toArray cc) ∈ l) (b4 : (232, tabObj ps) ∈ l) (b5 : ∀ z ∈ c, z ∈ l)
    (b6 : (ta, instObj 448 td) ∈ l) (b7 : (td, TkD hs1 hs2 hs3 hs4 u1 u2 u3 u4 t1 t2 wd.kd wd.txt at_) ∈ l) (b8 : (at_, tupO [.int 1 t3, .int ((i : Int) + 1) t4] nn) ∈ l) (b9 : m' (Str.ofString "tokens") = some (.ref ls))
    (b10 : ∀ z, z ≠ Str.ofString "tokens" → [Str.ofString "at", Str.ofString "word", Str.ofString "kind"].contains z = false → m' z = m₀ z) : RdEnd h₀ L s₁ I o1 o2 ls ps c tas wd i m₀ s₂
def RdPost (h₀ : Heap) (L : Addr) (s₁ : Shared) (I : Addr) (o1 o2 : Obj) (ls : Addr) (ps : Array Value) (c : List (Addr × Obj)) (tas : List Addr) (wd : Wd) (i : Nat) (m₀ : Str → Option Value) (f : Flow) (s₂ : Shared) : Prop :=
  match f with
  | .next => RdEnd h₀ L s₁ I o1 o2 ls ps c tas wd i m₀ s₂
  | _ => False
section
variable {prog : Program} {w : World} {A : Around} {E : Value → Shared → Prop} {s : Shared} {env : Env} {h₀ : Heap} {elts : List PySem.Expr} {kx : Nat} {px : Pos} {body : List Stmt} {Q : Flow → Shared → Prop}
  {wl ls : Addr} {vs : List Value} {n c0 : Nat} {ws : List Wd} {ps : Array Value} {news : List (Addr × Obj)} {m₀ : Str → Option Value}
theorem reader_loop (hh : A.handled = none) (F : Fr h₀ env.locals s.heap m₀) (N : News h₀ env.locals s.heap ((ls, listOf #[] c0) :: (232, tabObj ps) :: news)) (R : StIn news wl vs n ws) (ap : ∀ p ∈ news, p.1 ≠ ls ∧ p.1 ≠ 232) (hls : m₀ (Str.ofString "tokens") = some (.ref ls))
    (turn : ∀ i wd tv T t h tk I o1 o2 u tas cc c, ws[i]? = some wd → IsTup h T #[.int ((i : Nat) : Int) t, .str wd.txt tv] → o1.cls = .type "enumerate" → o2.cls = .type "list_iterator" → tas.length = i → (∀ p ∈ c, p.1 ≠ ls ∧ p.1 ≠ 232) → (∀ z ∈ news, z ∈ c) → Fr h₀ env.locals h (frT (.ref ls) u m₀) → News h₀ env.locals h ((I + 1, o1) :: (I, o2) :: (ls, listOf (tas.map Value.ref).toArray cc) :: (232, tabObj ps) :: c) →
      wpAny (model prog w) A (assign (.Tuple elts kx px) env (.ref T)) (fun _ s₂ => wpAny (model prog w) A (execs body env) (RdPost h₀ env.locals { s with heap := h, toks := tk } I o1 o2 ls ps c tas wd i m₀) E s₂) E { s with heap := h, toks := tk })
    (done : ∀ tas cc c u h tk, TksIn c tas ws ws.length → (∀ p ∈ c, p.1 ≠ ls ∧ p.1 ≠ 232) → (∀ z ∈ news, z ∈ c) → Fr h₀ env.locals h (frT (.ref ls) u m₀) → News h₀ env.locals h ((ls, listOf (tas.map Value.ref).toArray cc) :: (232, tabObj ps) :: c) → Q .next { s with heap := h, toks := tk }) :
    wpAny (model prog w) A (call (.type "enumerate") [.ref wl]) (fun xv s₁ => wpAny (model prog w) A (pyIter xv) (fun it s₂ => TurnsAt prog w A h₀ env (.Tuple elts kx px) body Q E it s₂) E s₁) E s := by
  refine ktu_enum (lo := listOf vs.toArray n) (vs := vs) hh F N (.tail _ (.tail _ R.wl)) rfl rfl rfl ?_
  intro Iz hIz
  refine items_inv (JRd Iz ls ps news ws m₀) vs ?_ ?_ vs 0 m₀ _ (by simp) (Nat.zero_le _) ⟨[], c0, news, rfl, ⟨rfl, fun j wd h => absurd h (Nat.not_lt_zero _)⟩, fun _ h => h, ap, fun p hp => .inr (hIz p (.tail _ (.tail _ hp))), hls, fun _ _ _ => rfl⟩
  · rintro i v T t h tk m nx its hv ⟨tas, cc, c, rfl, tks, sub, ap2, cl2, hm1, hm2⟩ hT F₁ ho N₁
    have hlt : i < ws.length := by have := (List.getElem?_eq_some_iff.mp hv).1; rw [R.len] at this; exact this
    have hw : ws[i]? = some ws[i] := List.getElem?_eq_getElem hlt
    obtain ⟨tv, e⟩ := R.are.get i (ws[i]).txt (by rw [List.getElem?_map, hw]; rfl)
    rw [hv] at e; injection e with e; subst e
    have two : ∃ p1 p2, its = [p1, p2] ∧ (p1.1 = Iz + 1 ∧ p1.2.cls = .type "enumerate") ∧ (p2.1 = Iz ∧ p2.2.cls = .type "list_iterator") := by
      cases its with
      | nil => exact (show False from ho).elim
      | cons p1 its => cases its with
        | nil => exact (show False from ho.2).elim
        | cons p2 its => cases its with
          | cons _ _ => exact (show False from ho.2.2).elim
          | nil => exact ⟨p1, p2, rfl, ho.1, ho.2.1⟩
    · obtain ⟨p1, p2, rfl, ⟨e1, c1⟩, ⟨e2, c2⟩⟩ := two
      obtain ⟨a1, o1⟩ := p1
      obtain ⟨a2, o2⟩ := p2
      dsimp only at e1 e2 c1 c2
      subst e2; subst e1
      refine wpAny_mono (turn i ws[i] tv T t h tk a2 o1 o2 m tas cc c hw hT c1 c2 tks.len ap2 sub (fr_rdr hm1 hm2 F₁) N₁) (fun _ s₂ x => wpAny_mono x (fun f s₃ y => ?_) fun _ _ z => z) fun _ _ z => z
      cases f with
      | next =>
        obtain ⟨h', tk', m', l, ta, td, at_, cc', hs1, hs2, hs3, hs4, u1, u2, u3, u4, t1, t2, t3, t4, nn, rfl, F', N', b1, b2, b3, b4, b5, b6, b7, b8, b9, b10⟩ := y
        have off {p : Addr × Obj} (hp : p ∈ l) (hc : (p.2.cls ≠ .type "enumerate" ∧ p.2.cls ≠ .type "list_iterator") ∨ @LT.lt Nat _ p.1 a2) : ∀ q ∈ [(a2 + 1, o1), (a2, o2)], p.1 ≠ q.1 := by
          intro q hq e
          have hq' : q ∈ l ∧ (q.2.cls = .type "enumerate" ∨ q.2.cls = .type "list_iterator") := by
            cases hq with
            | head => exact ⟨b1, .inl c1⟩
            | tail _ hq => cases hq with
              | head => exact ⟨b2, .inr c2⟩
              | tail _ hq => cases hq
          rcases hc with hc | hc
          · have q1 := N'.get hp; have q2 := N'.get hq'.1; rw [e, q2] at q1; injection q1 with q1
            rcases hq'.2 with z | z <;> rw [q1] at z
            · exact hc.1 z
            · exact hc.2 z
          · rw [e] at hc
            cases hq with
            | head => exact absurd hc (Nat.not_lt.mpr (Nat.le_succ a2))
            | tail _ hq => cases hq with
              | head => exact absurd hc (Nat.lt_irrefl a2)
              | tail _ hq => cases hq
        have kb3 : (listOf ((tas ++ [ta]).map Value.ref).toArray cc').cls ≠ .type "enumerate" ∧ (listOf ((tas ++ [ta]).map Value.ref).toArray cc').cls ≠ .type "list_iterator" := ⟨fun e => by injection e with e; exact absurd e (by decide), fun e => by injection e with e; exact absurd e (by decide)⟩
        have kb4 : (tabObj ps).cls ≠ .type "enumerate" ∧ (tabObj ps).cls ≠ .type "list_iterator" := ⟨fun e => (by cases e), fun e => (by cases e)⟩
        have kb6 : (instObj 448 td).cls ≠ .type "enumerate" ∧ (instObj 448 td).cls ≠ .type "list_iterator" := ⟨fun e => (by cases e), fun e => (by cases e)⟩
        have kb7 : (TkD hs1 hs2 hs3 hs4 u1 u2 u3 u4 t1 t2 (ws[i]).kd (ws[i]).txt at_).cls ≠ .type "enumerate" ∧ (TkD hs1 hs2 hs3 hs4 u1 u2 u3 u4 t1 t2 (ws[i]).kd (ws[i]).txt at_).cls ≠ .type "list_iterator" := ⟨fun e => by injection e with e; exact absurd e (by decide), fun e => by injection e with e; exact absurd e (by decide)⟩
        have kb8 : (tupO [.int 1 t3, .int ((i : Int) + 1) t4] nn).cls ≠ .type "enumerate" ∧ (tupO [.int 1 t3, .int ((i : Int) + 1) t4] nn).cls ≠ .type "list_iterator" := ⟨fun e => by injection e with e; exact absurd e (by decide), fun e => by injection e with e; exact absurd e (by decide)⟩
        have hc2 : ∀ p ∈ (ta, instObj 448 td) :: (td, TkD hs1 hs2 hs3 hs4 u1 u2 u3 u4 t1 t2 (ws[i]).kd (ws[i]).txt at_) :: (at_, tupO [.int 1 t3, .int ((i : Int) + 1) t4] nn) :: c, p ∈ l ∧ ((p.2.cls ≠ .type "enumerate" ∧ p.2.cls ≠ .type "list_iterator") ∨ @LT.lt Nat _ p.1 a2) ∧ p.1 ≠ ls ∧ p.1 ≠ 232 := by
          intro p hp
          simp only [List.mem_cons] at hp
          rcases hp with rfl | rfl | rfl | hp
          · exact ⟨b6, .inl kb6, ne_of_objs N' b6 b3 fun e => (by have e := congrArg Obj.cls e; cases e), ne_of_objs N' b6 b4 fun e => by have e := congrArg Obj.cls e; cases e⟩
          · exact ⟨b7, .inl kb7, ne_of_objs N' b7 b3 fun e => (by have e := congrArg Obj.data e; cases e), ne_of_objs N' b7 b4 fun e => by have e := congrArg Obj.data e; cases e⟩
          · exact ⟨b8, .inl kb8, ne_of_objs N' b8 b3 fun e => (by have e := congrArg Obj.cls e; injection e with e; exact absurd e (by decide)), ne_of_objs N' b8 b4 fun e => by have e := congrArg Obj.data e; cases e⟩
          · exact ⟨b5 p hp, cl2 p hp, ap2 p hp⟩
        refine ⟨h', tk', m', (ls, listOf ((tas ++ [ta]).map Value.ref).toArray cc') :: (232, tabObj ps) :: (ta, instObj 448 td) :: (td, TkD hs1 hs2 hs3 hs4 u1 u2 u3 u4 t1 t2 (ws[i]).kd (ws[i]).txt at_) :: (at_, tupO [.int 1 t3, .int ((i : Int) + 1) t4] nn) :: c, rfl, F', ?_, ?_, ?_, tas ++ [ta], cc', (ta, instObj 448 td) :: (td, TkD hs1 hs2 hs3 hs4 u1 u2 u3 u4 t1 t2 (ws[i]).kd (ws[i]).txt at_) :: (at_, tupO [.int 1 t3, .int ((i : Int) + 1) t4] nn) :: c, rfl, ⟨?_, ?_⟩, ?_, fun p hp => (hc2 p hp).2.2, fun p hp => (hc2 p hp).2.1, b9, b10⟩
        · intro p hp
          simp only [List.mem_append, List.mem_cons, List.not_mem_nil, or_false] at hp
          refine N' p ?_
          rcases hp with (rfl | rfl) | rfl | rfl | hp
          · exact b1
          · exact b2
          · exact b3
          · exact b4
          · exact (hc2 p (by simp only [List.mem_cons]; exact hp)).1
        · intro p hp
          cases hp with
          | head => exact off b3 (.inl kb3)
          | tail _ hp => cases hp with
            | head => exact off b4 (.inl kb4)
            | tail _ hp => exact off (hc2 p hp).1 (hc2 p hp).2.1
        · exact ⟨.tail _ (.tail _ (.tail _ (.tail _ (.tail _ (sub _ R.wl))))), trivial⟩
        · rw [List.length_append, tks.len]; rfl
        · intro j wd hj hwd
          rcases Nat.lt_or_ge j i with hji | hji
          · obtain ⟨ta', g1, g2⟩ := tks.tok j wd hji hwd
            exact ⟨ta', by rw [List.getElem?_append_left (by rw [tks.len]; exact hji)]; exact g1, g2.mono fun _ h => .tail _ (.tail _ (.tail _ h))⟩
          · have hj' : j = i := by omega
            subst hj'
            rw [hw] at hwd; injection hwd with hwd; subst hwd
            exact ⟨ta, by rw [List.getElem?_append_right (by rw [tks.len]; exact Nat.le_refl _), tks.len, Nat.sub_self]; rfl, .mk (.head _) (.tail _ (.head _)) (.tail _ (.tail _ (.head _)))⟩
        · exact fun z hz => .tail _ (.tail _ (.tail _ (sub z hz)))
      | _ => exact y.elim
  · rintro m nx h tk ⟨tas, cc, c, rfl, tks, sub, ap2, cl2, hm1, hm2⟩ F₁ N₁
    rw [R.len] at tks
    exact done tas cc c m h tk tks ap2 sub (fr_rdr hm1 hm2 F₁) N₁
end
end Mine
end
section
open PySem PySem.W PyProof.Rows PySem.Spec PySem.Calls
set_option Elab.async false
example : True := by k_with_none; trivial
example : True := by
  k_with "fold" => (refine folds ?_; intro qk ek)
  k_with "at0" => (with_reducible show At _ _ _ _ (.Name _ _) _ _ _); exact at_L (by rfl) (by rfl) (by decide) (by k_asm) (Eq.refl (some _))
  k_with "atF" => k_dflt first | k_extra "at0" | ((with_reducible show At _ _ _ _ (.Name _ _) _ _ _); exact at_K (by rfl) (by rfl) (by decide) (by k_asm) (by k_asm) (by k_is) (by k_asm)) | fail
  k_with "atB" => k_dflt first | ((with_reducible show At _ _ _ _ (.Name _ _) _ _ _); exact at_B (by rfl) (by rfl) (by decide) (by k_asm) (by k_asm) (by k_is) (by boot_fast) (by decide) (by k_asm)) | fail
  k_with "at" => k_dflt first | ((with_reducible show At _ _ _ _ (.Constant _ _ _) _ _ _); first | exact at_S | exact at_I | exact at_N) | k_extra "at0" | ((with_reducible show At _ _ _ _ (.Attribute (.Name _ _) _ _) _ _ _); exact at_attr (by k_asm) (by k_asm) (by k_extra "at0") (by k_inst) (by k_get) (by k_is) (by k_is) (by k_is) (by k_is) (by first | exact rfl | k_handed)) | ((with_reducible show At _ _ _ _ (.BinOp _ .Add _ _) _ _ _); exact at_add (by k_extra "at") (by k_extra "at")) | k_extra "atF" | fail
  k_with "spl" => k_dflt first | exact spl0 | ((with_reducible show Spl _ _ _ _ [_] _ _ _); exact spl1 (by k_extra "at")) | ((with_reducible show Spl _ _ _ _ [_, _] _ _ _); exact spl2 (by k_extra "at") (by k_extra "at")) | ((with_reducible show Spl _ _ _ _ (_ :: _) _ _ _); exact splC (by k_extra "at") (by k_extra "spl")) | fail
  k_with "eval Call Attribute" => with_reducible (k_here; show wpAny _ _ (eval (.Call (.Attribute _ _ _) _ [] _) _) _ _ _; first | refine mcall (by k_extra "spl") (by k_dflt exact rfl) (by k_dflt k_asm) (by k_dflt k_asm) (by k_extra "at") (by k_dflt k_inst) (by k_get) (by k_is) (by k_is) (by k_is) (by k_is) (by k_dflt exact rfl) ?_ | fail)
  k_with "eval Call" => first | with_reducible (k_here; show wpAny _ _ (eval (.Call (.Name _ _) _ [] _) _) _ _ _; first | refine fcall (by k_extra "spl") (by k_dflt exact rfl) (by k_dflt k_asm) (by k_dflt k_asm) (by k_extra "atF") (by k_is) (by k_dflt exact rfl) ?_ | ((first | show wpAny _ _ (eval (.Call (.Name (Str.ofString "len") _) _ _ _) _) _ _ _ | show wpAny _ _ (eval (.Call (.Name (Str.ofString "min") _) _ _ _) _) _ _ _); refine bcall (by k_extra "spl") (by k_extra "atB") (by k_dflt exact rfl) ?_) | fail) | (k_here; k_dflt (refine Call_ ?_)) | fail
  k_with "spliced" => first | with_reducible (k_here; first | refine spl_use (by k_extra "spl") ?_ | fail) | (k_dflt (first | refine spliced_more ?_ | refine spliced_none ?_)) | fail
  k_with "eval Subscript" => with_reducible (k_here; show wpAny _ _ (eval (.Subscript _ _ _) _) _ _ _; first | refine sub_at (by k_extra "at") (by k_extra "at") ?_ | fail)
  k_with "eval BinOp" => with_reducible (k_here; show wpAny _ _ (eval (.BinOp _ _ _ _) _) _ _ _; first | refine at_use (by k_extra "at") ?_ | refine bin_at (by k_extra "at") (by k_extra "at") ?_ | fail)
  k_with "isTrue Compare" => with_reducible (k_here; show wpAny _ _ (PySem.isTrue (.Compare _ [_] [_] _) _ _) _ _ _; first | refine cmpT_at (by k_dflt rfl) (by k_extra "at") (by k_extra "at") ?_ | refine cmpT_atL (by k_dflt rfl) (by k_extra "at") ?_ | fail)
  k_with "eval Compare" => with_reducible (k_here; show wpAny _ _ (eval (.Compare _ [_] [_] _) _) _ _ _; first | refine cmp_at (by k_dflt rfl) (by k_extra "at") (by k_extra "at") ?_ | fail)
  k_with "eval Attribute Name" => with_reducible (k_here; first | refine at_use (by k_extra "at") ?_ | fail)
  k_with "eval Name" => with_reducible (k_here; first | refine at_use (by k_extra "at") ?_ | fail)
  k_with "itemAt" => (k_here; (with_reducible show wpAny _ _ (subscriptTail _ _ (Value.ref _) (Value.int _ _)) _ _ _); with_reducible first | refine item_litK (by with_unfolding_all is_list) (by k_dflt decide) (by k_dflt decide) (by with_unfolding_all rfl) ?_ (by with_unfolding_all rfl) | refine item_tupleT (by k_dflt exact News.isTup (by k_asm) (by k_mem)) (by k_dflt decide) (by k_dflt decide) (by k_dflt rfl) (by k_dflt rfl) ?_ | fail); k_whole
  k_with "turned" => (k_here; k_dflt (refine kba_turn (value' := PySem.Expr.Name (PySem.Str.ofString "_") ⟨0, 0, 0, 0⟩) (fun _ => rfl) ?_))
  k_with "subscriptTail Name Constant ref int" => first | k_extra "subscriptTail" | k_extra "itemAt" | fail
  k_with "subscriptTail Subscript Constant ref int" => k_extra "itemAt"
  k_with "subscriptTail Name" => k_extra "subscriptTail"
  k_with "subscriptTail Call" => k_extra "turned"
  k_with "subscriptTail BinOp" => k_extra "turned"
  k_with "seq" => first | (k_here; k_gentoks) | ((with_reducible refine wpAny_execs_cons ?_); try dsimp only) | fail
  k_with "execs cons Assign cons" => k_extra "seq"
  k_with "execs cons If cons" => k_extra "seq"
  k_with "execs cons Return nil" => k_extra "seq"
  k_with "exec Assign cons" => (with_reducible show wpAny _ _ (exec (.Assign [.Name _ _] _ _) _) _ _ _); k_dflt (refine wpAny_Assign_Name ?_)
  k_with "exec If" => refine wpAny_If ?_
  k_with "eval Call Name cons nil" => k_extra "eval Call"
  k_with "isTrue Compare Name cons cons" => k_extra "isTrue Compare"
  k_with "truthy bool false" => refine wpAny_truthy_bool ?_
  k_with "truthy bool" => refine wpAny_truthy_bool ?_
  k_with "room" => first | exact lb0 (j := 1) (by assumption) rfl | exact lb2 (j := 1) (by assumption) (by assumption) rfl
  k_with "om" => first | (k_whole; first | exact lb0 (by assumption) rfl | exact lb1 (by assumption) rfl | exact lb2 (by assumption) (by assumption) rfl | exact lb4 (by assumption) rfl | exact Nat.le_of_succ_le (by assumption)) | omega
  k_with "steps" => repeat' (first | ((with_reducible show wpAny _ _ (exec _ _) _ _ _); (fail_if_success (fail_if_success k_fold)); k_extra "fold") | ((fail_if_success (fail_if_success k_unfold)); first | dsimp only [qk] | dsimp only [ek] | (k_unfold; (try dsimp only))) | (k_end; wrow_close) | walk1 | (dsimp only; walk1) | (leave1; walk_say "STEP leave1"; try dsimp only) | fail)
  trivial
namespace Mine
set_option maxRecDepth 100000
set_option maxHeartbeats 0
theorem allLt_mem {d : Addr} : ∀ {l : List (Addr × Obj)}, AllLt d l → ∀ p ∈ l, p.1 < d
  | [], _, _, h => nomatch h
  | _ :: _, x, p, h => by
    rcases List.mem_cons.mp h with rfl | h
    · exact x.1
    · exact allLt_mem x.2 p h
theorem wd_item (wd : Wd) : Txt.item wd.txt 0 = Txt.item wd.txt 0 ∧ fitsSsize 0 = true ∧ -(wd.txt.length : Int) ≤ 0 ∧ (0 : Int) < wd.txt.length := by
  cases wd <;> exact ⟨rfl, by decide +kernel, by decide +kernel, by decide +kernel⟩
theorem le_c {prog : Program} {w : World} {A : Around} {E Q : Value → Shared → Prop} {s : Shared} {x y : Str} {t u : Tok} {b : Bool} (hc : (!decide (y.cps.toList < x.cps.toList)) = b) (h : Q (.bool b) s) : wpAny (model prog w) A (compareOp .LtE (.str x t) (.str y u)) Q E s := P.le_str (by rw [hc]; exact h)
theorem eqs_c {prog : Program} {w : World} {A : Around} {E Q : Value → Shared → Prop} {s : Shared} {x y : Str} {t u : Tok} {b : Bool} (hc : (x == y) = b) (h : Q (.bool b) s) : wpAny (model prog w) A (compareOp .Eq (.str x t) (.str y u)) Q E s := PyProof.Rows.eq_str (by rw [hc]; exact h)
theorem kd_lit (wd : Wd) : (wd.kd == Str.ofString "literal") = false := by cases wd <;> decide +kernel
def KdPost (wd : Wd) (s : Shared) (v : Value) (s' : Shared) : Prop := ∃ tv tk, v = .str wd.kd tv ∧ s' = { s with toks := tk }
theorem cut_kd {M : Model} {A : Around} {E Q : Value → Shared → Prop} {s : Shared} {e : PySem.Expr} {env : Env} (wd : Wd) (h : wpAny M A (eval e env) (KdPost wd s) E s) (k : ∀ tv tk, Q (.str wd.kd tv) { s with toks := tk }) : wpAny M A (eval e env) Q E s :=
  wpAny_mono h (fun v s' ⟨tv, tk, e1, e2⟩ => by rw [e1, e2]; exact k tv tk) fun _ _ z => z
open PySem.Builtin.Str in
inductive WClass (wd : Wd) : Prop
  | word : (!decide ((Txt.item wd.txt 0).cps.toList < (Str.ofString "A").cps.toList)) = true → (!decide ((Str.ofString "Z").cps.toList < (Txt.item wd.txt 0).cps.toList)) = true → wd.kd = Str.ofString "word" → WClass wd
  | num : (!decide ((Txt.item wd.txt 0).cps.toList < (Str.ofString "A").cps.toList)) = false → (!(occurrences (Str.ofString "0123456789") (Txt.item wd.txt 0) 0 (Str.ofString "0123456789").length 1).isEmpty) = true → wd.kd = Str.ofString "number" → WClass wd
  | sign : (!decide ((Txt.item wd.txt 0).cps.toList < (Str.ofString "A").cps.toList)) = false → (!(occurrences (Str.ofString "0123456789") (Txt.item wd.txt 0) 0 (Str.ofString "0123456789").length 1).isEmpty) = false → (Txt.item wd.txt 0 == Str.ofString "'") = false → wd.kd = Str.ofString "sign" → WClass wd
theorem wclass (wd : Wd) : WClass wd := by
  cases wd <;> first
    | exact .word (by decide +kernel) (by decide +kernel) rfl
    | exact .num (by decide +kernel) (by decide +kernel) rfl
    | exact .sign (by decide +kernel) (by decide +kernel) (by decide +kernel) rfl
section
variable {prog : Program} {w : World} {A : Around} {E : Value → Shared → Prop} {s : Shared} {h₀ : Heap} {L x d D I ls : Addr} {m : Str → Option Value} {Q : Value → Shared → Prop} {od o1 o2 : Obj} {tv : List Value} {kt cc : Nat} {tas : List Addr} {ps : Array Value} {c : List (Addr × Obj)}
theorem rd_append (F : Fr h₀ L s.heap m) (N : News h₀ L s.heap ((x, instObj 448 d) :: (d, od) :: (D, tupO tv kt) :: (I + 1, o1) :: (I, o2) :: (ls, listOf (tas.map Value.ref).toArray cc) :: (232, tabObj ps) :: c)) (hod : od.cls = .type "dict") (h1 : o1.cls = .type "enumerate") (h2 : o2.cls = .type "list_iterator") (ap : ∀ p ∈ c, p.1 ≠ ls ∧ p.1 ≠ 232) (hsz : tas.length ≤ 60)
    (h : ∀ h', Fr h₀ L h' m → News h₀ L h' ((x, instObj 448 d) :: (d, od) :: (D, tupO tv kt) :: (I + 1, o1) :: (I, o2) :: (ls, listOf ((tas ++ [x]).map Value.ref).toArray (cc + 1)) :: (232, tabObj ps) :: c) → Q .none { s with heap := h' }) :
    wpAny (model prog w) A (call (.builtin "list.append") [.ref ls, .ref x]) Q E s := by
  have mls : (ls, listOf (tas.map Value.ref).toArray cc) ∈ ((x, instObj 448 d) :: (d, od) :: (D, tupO tv kt) :: (I + 1, o1) :: (I, o2) :: (ls, listOf (tas.map Value.ref).toArray cc) :: (232, tabObj ps) :: c) := .tail _ (.tail _ (.tail _ (.tail _ (.tail _ (.head _)))))
  have ne {p : Addr × Obj} (hp : p ∈ ((x, instObj 448 d) :: (d, od) :: (D, tupO tv kt) :: (I + 1, o1) :: (I, o2) :: (ls, listOf (tas.map Value.ref).toArray cc) :: (232, tabObj ps) :: c)) (hc : p.2.cls ≠ .type "list") : p.1 ≠ ls := fun e => by
    have q1 := N.get hp; have q2 := N.get mls; rw [e, q2] at q1; injection q1 with q1; exact hc (by rw [← q1])
  have U : UpdF ls (listOf (tas.map Value.ref).toArray cc) ((x, instObj 448 d) :: (d, od) :: (D, tupO tv kt) :: (I + 1, o1) :: (I, o2) :: (ls, listOf (tas.map Value.ref).toArray cc) :: (232, tabObj ps) :: c) (fun o => (x, instObj 448 d) :: (d, od) :: (D, tupO tv kt) :: (I + 1, o1) :: (I, o2) :: (ls, o) :: (232, tabObj ps) :: c) := by
    refine .tail (ne (.head _) fun e => (by cases e)) (.tail (ne (.tail _ (.head _)) (by rw [hod]; intro e; injection e with e; exact absurd e (by decide))) (.tail (ne (.tail _ (.tail _ (.head _))) fun e => by injection e with e; exact absurd e (by decide)) (.tail (ne (.tail _ (.tail _ (.tail _ (.head _)))) (by rw [h1]; intro e; injection e with e; exact absurd e (by decide))) (.tail (ne (.tail _ (.tail _ (.tail _ (.tail _ (.head _))))) (by rw [h2]; intro e; injection e with e; exact absurd e (by decide))) (.head ?_)))))
    intro p hp
    cases hp with
    | head => exact ne (.tail _ (.tail _ (.tail _ (.tail _ (.tail _ (.tail _ (.head _))))))) fun e => by cases e
    | tail _ hp => exact (ap p hp).1
  have e : (tas.map Value.ref).toArray.push (.ref x) = ((tas ++ [x]).map Value.ref).toArray := by simp
  refine append_K (hsz := ?_) F N (updF_upd U (listOf ((tas.map Value.ref).toArray.push (.ref x)) (cc + 1))) fun h' F' N' => ?_
  · rw [e] at N'; exact h h' F' N'
  · simp only [List.size_toArray, List.length_map]; exact Nat.le_trans hsz (by decide)
theorem rd_done {h' : Heap} {rdr dct nd : Addr} {hs1 hs2 hs3 : Int} {u1 u2 u3 t : Tok} {ws : List Wd} {news : List (Addr × Obj)} (N : News h₀ L h' ((nd, od) :: (rdr, instObj 418 dct) :: (dct, RdD hs1 hs2 hs3 u1 u2 u3 ls nd 0 t) :: (ls, listOf (tas.map Value.ref).toArray cc) :: (232, tabObj ps) :: c))
    (l1 : ls < dct ∧ 232 < dct ∧ AllLt dct c) (l0 : rdr < nd ∧ dct < nd ∧ ls < nd ∧ 232 < nd ∧ AllLt nd c) (ap : ∀ p ∈ c, p.1 ≠ ls ∧ p.1 ≠ 232) (tks : TksIn c tas ws ws.length) (hf : ws.length ≤ 60) (sub : ∀ z ∈ news, z ∈ c) :
    ∃ news', News h₀ L h' ((dct, RdD hs1 hs2 hs3 u1 u2 u3 ls nd 0 t) :: (232, tabObj ps) :: news') ∧ RdIn news' rdr dct ls tas cc ws ∧ Ap dct news' ∧ dct ≠ 232 ∧ ∀ z ∈ news, z ∈ news' := by
  refine ⟨(nd, od) :: (rdr, instObj 418 dct) :: (ls, listOf (tas.map Value.ref).toArray cc) :: c, fun p hp => N p ?_, ⟨.tail _ (.head _), .tail _ (.tail _ (.head _)), tks.len, hf, fun i wd hw => ?_⟩, fun p hp => ?_, Nat.ne_of_gt l1.2.1, fun z hz => .tail _ (.tail _ (.tail _ (sub z hz)))⟩
  · simp only [List.mem_cons] at hp ⊢
    rcases hp with hp | hp | hp | hp | hp | hp
    · exact .inr (.inr (.inl hp))
    · exact .inr (.inr (.inr (.inr (.inl hp))))
    · exact .inl hp
    · exact .inr (.inl hp)
    · exact .inr (.inr (.inr (.inl hp)))
    · exact .inr (.inr (.inr (.inr (.inr hp))))
  · obtain ⟨ta, a, b⟩ := tks.tok i wd (lt_of_get hw) hw
    exact ⟨ta, a, b.mono fun _ h => .tail _ (.tail _ (.tail _ h))⟩
  · simp only [List.mem_cons] at hp
    rcases hp with rfl | rfl | rfl | hp
    · exact ⟨Nat.ne_of_gt l0.2.1, Nat.ne_of_gt l0.2.2.2.1⟩
    · exact ⟨ne_of_objs N (.tail _ (.head _)) (.tail _ (.tail _ (.head _))) fun e => (by have e := congrArg Obj.cls e; cases e), ne_of_objs N (.tail _ (.head _)) (.tail _ (.tail _ (.tail _ (.tail _ (.head _))))) fun e => (by have e := congrArg Obj.cls e; cases e)⟩
    · exact ⟨Nat.ne_of_lt l1.1, ne_of_objs N (.tail _ (.tail _ (.tail _ (.head _)))) (.tail _ (.tail _ (.tail _ (.tail _ (.head _))))) fun e => (by have e := congrArg Obj.data e; cases e)⟩
    · exact ⟨Nat.ne_of_lt (allLt_mem l1.2.2 p hp), (ap p hp).2⟩
end
section
variable {w : World} {p : Program} {loose : List Str} {mean : ExcName → Option Value} {mg mb : Str → Option Value} {dp un : Nat} {gd : Option (List Code)} {cn : Str} {cs : Scope} {a : Addr} {ccd : Value} {cl : List (Str × Addr)} {outer : List Env} {A₀ : Around} {base h₀ : Heap} {L : Addr} {m : Str → Option Value}
  {news : List (Addr × Obj)} {s : Shared} {Q E : Value → Shared → Prop} {wl : Addr} {vs : List Value} {n : Nat} {ws : List Wd} {keep : List (Addr × Obj)}
example : True := by
  k_with "upd" => exact updF_upd (by assumption) _
  trivial
example : True := by
  k_with "rel" => first | (with_reducible assumption) | exact dle1 (by with_reducible assumption) rfl | k_extra "om" | exact rfl | (refine RdIn.mono (by with_reducible assumption) ?_; (intro _ hz; (repeat' (first | exact hz | refine List.Mem.tail _ ?_)))) | exact UpdF.head (by with_reducible assumption) | (refine Kept.mono (by with_reducible assumption) ?_; (intro _ hz; first | exact hz | exact .tail _ hz | exact .tail _ (.tail _ hz) | exact .tail _ (.tail _ (.tail _ hz)) | exact .tail _ (.tail _ (.tail _ (.tail _ hz))) | exact .tail _ (.tail _ (.tail _ (.tail _ (.tail _ hz)))) | exact .tail _ (.tail _ (.tail _ (.tail _ (.tail _ (.tail _ hz))))))) | ((try dsimp only [ktrTop, Around.deeper]); k_extra "om") | assumption | k_mem | k_updF
  trivial
example : True := by
  k_with "mem" => first | ktr_member | (refine List.mem_cons_of_mem _ ?_; k_mem)
  trivial
example : True := by
  k_with "nws" => first | k_asm | exact newsTl (by assumption) | exact newsTl (newsTl (by assumption)) | exact newsTl2 (by assumption)
  trivial
example : True := by
  k_with "exec For Tuple Call cons nil" => (k_here; (with_reducible show wpAny _ _ (exec (Stmt.For (PySem.Expr.Tuple _ _ _) _ _ _ _) _) _ _ _); (rename Fr _ _ _ _ => lF'); (with_unfolding_all refine' For_turns lF' ?_; k_whole))
  trivial
example : True := by
  k_with "call type:enumerate" => (k_here; (with_reducible show wpAny _ _ (call (Value.type _) [Value.ref _]) (fun xv s₁ => wpAny _ _ (pyIter xv) (fun it s₂ => TurnsAt _ _ _ _ _ _ _ _ _ it s₂) _ s₁) _ _); k_dflt (refine' reader_loop (by rfl) (by k_asm) (by assumption) R ?kap (by exact if_pos rfl) ?kt ?kd); (case kap => (intro z hz; exact ⟨Nat.ne_of_lt (allLt_mem (And.right (by assumption : 232 < _ ∧ AllLt _ news)) z hz), ap z hz⟩)); (case' kt => (intro i wd tv T t h tk I o1 o2 u tas cc c hw hT hc1 hc2 hlen ap2 sub2 F2 N2; dsimp only [frT] at F2; (have hlt := lt_of_get hw))); (case' kd => (intro tas cc c u h tk tks ap2 sub2 F2 N2; dsimp only [frT] at F2)))
  trivial
example : True := by
  k_with "RdPost" => (dsimp only [RdPost])
  trivial
example : True := by
  k_with "eval IfExp" => (k_here; (with_reducible show wpAny _ _ (eval (.IfExp (.Compare _ [_, _] _ _) _ _ _) _) _ _ _); (fail_if_success (with_reducible show wpAny _ _ _ (KdPost _ _) _ _)); with_reducible refine cut_kd wd ?_ ?_; rotate_left 1; intro tvk tkk; rotate_right 1; rcases wclass wd with ⟨e1, e2, ekd⟩ | ⟨e1, e2, ekd⟩ | ⟨e1, e2, e3, ekd⟩)
  trivial
example : True := by
  k_with "KdPost" => exact ⟨_, _, by rw [ekd], rfl⟩
  trivial
example : True := by
  k_with "compareOp Eq str str" => refine eqs_c (b := false) (kd_lit _) ?_
  trivial
example : True := by
  k_with "call builtin:list.append" => (k_here; (with_reducible show wpAny _ _ (call (Value.builtin _) [Value.ref _, Value.ref _]) _ _ _); k_dflt (refine' rd_append (by k_asm) (by assumption) rfl (by assumption) (by assumption) (by assumption) (by omega) ?_); intro h' F' N')
  trivial
example : True := by
  k_with "subscriptTail Name Constant str int" => ((with_reducible show wpAny _ _ (subscriptTail _ _ (Value.str (Wd.txt _) _) (Value.int 0 _)) _ _ _); refine item_cc (wd_item _) ?_)
  trivial
example : True := by
  k_with "subscriptTail" => ((with_reducible show wpAny _ _ (subscriptTail _ _ (Value.str (Wd.txt _) _) (Value.int 0 _)) _ _ _); refine item_cc (wd_item _) ?_)
  trivial
example : True := by
  k_with "compareOp LtE str str" => first | refine le_c (b := true) (by with_reducible assumption) ?_ | refine le_c (b := false) (by with_reducible assumption) ?_
  trivial
example : True := by
  k_with "compareOp In str str" => first | refine in_c (b := true) (by with_reducible assumption) ?_ | refine in_c (b := false) (by with_reducible assumption) ?_
  trivial
theorem reader_c {ps : Array Value} (B : Below A₀ base outer h₀) (F : Fr h₀ L s.heap m) (X : (Mine.frag.heap_1 w.params).In h₀) (N : News h₀ L s.heap ((232, tabObj ps) :: news)) (T : Top p loose mean mg mb h₀) (hk : cs.kind = .function) (hdp : dp ≤ 600) (hun : un ≤ 8000)
    (R : StIn news wl vs n ws) (ap : ∀ p ∈ news, p.1 ≠ 232)
    (ret : ∀ h' tk' rdr dct tl nd hs1 hs2 hs3 u1 u2 u3 t tas n' news', Fr h₀ L h' m → News h₀ L h' ((dct, RdD hs1 hs2 hs3 u1 u2 u3 tl nd 0 t) :: (232, tabObj ps) :: news') → RdIn news' rdr dct tl tas n' ws → Ap dct news' → dct ≠ 232 → (∀ z ∈ news, z ∈ news') → Q (.ref rdr) { s with heap := h', toks := tk' }) :
    wpAny (model PySem.Challenge.rw_pc0133_01.prog w) (ktrTop dp un gd cn cs L a ccd cl outer) (call (.ref 474) [.ref wl]) Q E s := by
  revert X; k_fill; intro X
  have hwl1 := R.wl
  have hfw := R.few
  refine wpAny_call ?_
  k_dflt k_enter
  k_extra "steps"
  all_goals first
    | (obtain ⟨news', q1, q2, q3, q4, q5⟩ := rd_done (by assumption) (by assumption) (by assumption) ap2 tks hfw sub2; exact ret _ _ _ _ _ _ _ _ _ _ _ _ _ _ _ _ (by k_asm) q1 q2 q3 q4 q5)
    | ((rename News _ _ _ _ => NN); exact ⟨_, _, _, _, _, _, _, _, _, _, _, _, _, _, _, _, _, _, _, _, _, rfl, by k_asm, NN, .tail _ (.tail _ (.tail _ (.head _))), .tail _ (.tail _ (.tail _ (.tail _ (.head _)))), .tail _ (.tail _ (.tail _ (.tail _ (.tail _ (.head _))))), .tail _ (.tail _ (.tail _ (.tail _ (.tail _ (.tail _ (.head _)))))), fun z hz => .tail _ (.tail _ (.tail _ (.tail _ (.tail _ (.tail _ (.tail _ hz)))))), .head _, .tail _ (.head _), .tail _ (.tail _ (.head _)), rfl, by intro z h2 h3; simp only [List.contains_cons, List.contains_nil, Bool.or_false, Bool.or_eq_false_iff, beq_eq_false_iff_ne, ne_eq] at h3; simp [frT, h2, h3]⟩)
    | trace_state
end
end Mine
end
section
open PySem PySem.W PyProof.Rows PySem.Spec PySem.Calls
set_option Elab.async false
namespace Mine
set_option maxRecDepth 100000
set_option maxHeartbeats 0
def TL (l : List (Addr × Obj)) : Prop := ∀ p ∈ l, p.2.cls = .type "tuple" ∨ p.2.cls = .type "list"
mutual
theorem datPick {news : List (Addr × Obj)} : ∀ {v : Value} {d : Dat}, DatIn news v d → ∃ l, (∀ z ∈ l, z ∈ news) ∧ TL l ∧ DatIn l v d
  | _, _, .none => ⟨[], fun _ h => (nomatch h), fun _ h => (nomatch h), .none⟩
  | _, _, .bool b => ⟨[], fun _ h => (nomatch h), fun _ h => (nomatch h), .bool b⟩
  | _, _, .int i t => ⟨[], fun _ h => (nomatch h), fun _ h => (nomatch h), .int i t⟩
  | _, _, .str x t => ⟨[], fun _ h => (nomatch h), fun _ h => (nomatch h), .str x t⟩
  | _, _, .bytes b t => ⟨[], fun _ h => (nomatch h), fun _ h => (nomatch h), .bytes b t⟩
  | _, _, .tuple (a := a) (vs := vs) (n := n) h r => by
    obtain ⟨l, h1, h2, h3⟩ := datPickAll r
    refine ⟨(a, { cls := .type "tuple", data := .seq vs.toArray n }) :: l, fun z hz => ?_, fun z hz => ?_, .tuple (.head _) (h3.mono fun _ h => .tail _ h)⟩
    · cases hz with
      | head => exact h
      | tail _ hz => exact h1 z hz
    · cases hz with
      | head => exact .inl rfl
      | tail _ hz => exact h2 z hz
  | _, _, .list (a := a) (vs := vs) (n := n) h r => by
    obtain ⟨l, h1, h2, h3⟩ := datPickAll r
    refine ⟨(a, listOf vs.toArray n) :: l, fun z hz => ?_, fun z hz => ?_, .list (.head _) (h3.mono fun _ h => .tail _ h)⟩
    · cases hz with
      | head => exact h
      | tail _ hz => exact h1 z hz
    · cases hz with
      | head => exact .inr rfl
      | tail _ hz => exact h2 z hz
theorem datPickAll {news : List (Addr × Obj)} : ∀ {vs : List Value} {ds : List Dat}, DatAll news vs ds → ∃ l, (∀ z ∈ l, z ∈ news) ∧ TL l ∧ DatAll l vs ds
  | _, _, .nil => ⟨[], fun _ h => (nomatch h), fun _ h => (nomatch h), .nil⟩
  | _, _, .cons d r => by
    obtain ⟨l1, a1, a2, a3⟩ := datPick d
    obtain ⟨l2, b1, b2, b3⟩ := datPickAll r
    exact ⟨l1 ++ l2, fun z hz => (List.mem_append.mp hz).elim (a1 z) (b1 z), fun z hz => (List.mem_append.mp hz).elim (a2 z) (b2 z), .cons (a3.mono fun _ h => List.mem_append_left _ h) (b3.mono fun _ h => List.mem_append_right _ h)⟩
end
theorem kqd_mono : ∀ (n : Nat) (d : Dat) (m : Nat), n ≤ m → kqdOk n d = true → kqdOk m d = true := by
  intro n
  induction n with
  | zero => intro d m _ h; cases d <;> cases m <;> simp_all [kqdOk]
  | succ n ih =>
    intro d m hm h
    cases m with
    | zero => omega
    | succ m => cases d <;> simp_all [kqdOk] <;> (intro e he; exact ih e m hm (h e he))
theorem kqd_bin {x : Str} {a b : Dat} {n : Nat} (hx : PyData.strOk x = true) (ha : kqdOk n a = true) (hb : kqdOk n b = true) : kqdOk (n + 1) (bin x a b) = true := by
  unfold bin; cases n <;> simp_all [kqdOk]
theorem kqd_neg {a : Dat} {n : Nat} (ha : kqdOk n a = true) : kqdOk (n + 1) (Mine.neg a) = true := by
  have hx : PyData.strOk (Str.ofString "neg") = true := by decide +kernel
  unfold Mine.neg; cases n <;> simp_all [kqdOk]
theorem kqd_num {u sc : Int} : kqdOk 2 (num u sc) = true := by
  have hx : PyData.strOk (Str.ofString "number") = true := by decide +kernel
  unfold num; simp_all [kqdOk]
/-- how deep a reading's result is -/
def OkAt (p : Nat) (lv : Lv) (t : Dat) (q : Nat) : Prop := match lv with
  | .sumL t0 => ∀ b, b < p → kqdOk (p - b + 1) t0 = true → kqdOk (q - b + 1) t = true ∧ p ≤ q
  | .prodL t0 => ∀ b, b < p → kqdOk (p - b + 1) t0 = true → kqdOk (q - b + 1) t = true ∧ p ≤ q
  | .powL t0 => ∀ b, b < p → kqdOk (p - b + 1) t0 = true → kqdOk (q - b + 1) t = true ∧ p ≤ q
  | _ => kqdOk (q - p + 1) t = true ∧ p < q
theorem run_ok (ws : List Wd) : ∀ k lv d p t q, run ws k lv d p = some (some t, q) → OkAt p lv t q := by
  intro k
  induction k with
  | zero => intro lv d p t q h; cases lv <;> cases h
  | succ k ih =>
    have loop {lvN : Lv} {lvL : Dat → Lv} {xs : List Str} {d p : Nat} {t0 t : Dat} {q : Nat} (hN : ∀ p t q, run ws k lvN d p = some (some t, q) → kqdOk (q - p + 1) t = true ∧ p < q)
        (hL : ∀ p t0 t q, run ws k (lvL t0) d p = some (some t, q) → ∀ b, b < p → kqdOk (p - b + 1) t0 = true → kqdOk (q - b + 1) t = true ∧ p ≤ q)
        (hx : ∀ w : Wd, PyData.strOk w.txt = true) (h : Turn ws lvN lvL xs (k + 1) d p t0 (some t) q) : ∀ b, b < p → kqdOk (p - b + 1) t0 = true → kqdOk (q - b + 1) t = true ∧ p ≤ q := by
      intro b hb h0
      rcases h with ⟨y1, e, e2⟩ | ⟨hw, y1, y2, hkk, hr, hn, hs⟩
      · injection e with e; subst e; subst e2; exact ⟨h0, Nat.le_refl _⟩
      · rename_i wd k' r1 q1
        have hk' : k' = k := by omega
        subst hk'
        cases r1 with
        | none => cases (hn rfl).1
        | some u =>
          obtain ⟨a1, a2⟩ := hN _ _ _ hr
          obtain ⟨b1, b2⟩ := hL _ _ _ _ (hs u rfl) b (by omega) (by
            have := kqd_bin (hx wd) (kqd_mono _ _ (q1 - b) (by omega) h0) (kqd_mono _ _ (q1 - b) (by omega) a1)
            exact this)
          exact ⟨b1, by omega⟩
    have hx : ∀ w : Wd, PyData.strOk w.txt = true := fun w => by cases w <;> decide +kernel
    have first {lvN : Lv} {lvL : Dat → Lv} {d p : Nat} {t : Dat} {q : Nat} (hN : ∀ p t q, run ws k lvN d p = some (some t, q) → kqdOk (q - p + 1) t = true ∧ p < q)
        (hL : ∀ p t0 t q, run ws k (lvL t0) d p = some (some t, q) → ∀ b, b < p → kqdOk (p - b + 1) t0 = true → kqdOk (q - b + 1) t = true ∧ p ≤ q)
        (h : (match run ws k lvN d p with
          | some (some u, q) => run ws k (lvL u) d q
          | r => r) = some (some t, q)) : kqdOk (q - p + 1) t = true ∧ p < q := by
      obtain ⟨r1, q1, e, hn, hs⟩ := bind_cases (lvL := lvL) h
      cases r1 with
      | none => cases (hn rfl).1
      | some u =>
        obtain ⟨a1, a2⟩ := hN _ _ _ e
        obtain ⟨b1, b2⟩ := hL _ _ _ _ (hs u rfl) p a2 a1
        exact ⟨b1, by omega⟩
    intro lv d p t q h
    cases lv with
    | sum =>
      simp only [run] at h
      split at h
      · cases h
      · exact first (fun p t q h => ih .prod d p t q h) (fun p t0 t q h => ih (.sumL t0) d p t q h) h
    | prod =>
      simp only [run] at h
      exact first (fun p t q h => ih .fac d p t q h) (fun p t0 t q h => ih (.prodL t0) d p t q h) h
    | pow =>
      simp only [run] at h
      exact first (fun p t q h => ih .prim d p t q h) (fun p t0 t q h => ih (.powL t0) d p t q h) h
    | sumL t0 => exact loop (fun p t q h => ih .prod d p t q h) (fun p t0 t q h => ih (.sumL t0) d p t q h) hx (sum_turn h)
    | prodL t0 => exact loop (fun p t q h => ih .fac d p t q h) (fun p t0 t q h => ih (.prodL t0) d p t q h) hx (prod_turn h)
    | powL t0 => exact loop (fun p t q h => ih .prim d p t q h) (fun p t0 t q h => ih (.powL t0) d p t q h) hx (pow_turn h)
    | fac =>
      rcases fac_turn h with ⟨y1, hr⟩ | ⟨hw, y1, hr⟩ | ⟨hw, y1, y2, hr, e⟩ | ⟨hw, y1, y2, hr, hn, hs⟩
      · exact ih .pow d p t q hr
      · obtain ⟨a1, a2⟩ := ih .pow d (p + 1) t q hr
        exact ⟨kqd_mono _ _ _ (by omega) a1, by omega⟩
      · obtain ⟨a1, a2⟩ := ih .pow d (p + 1) _ q hr
        injection e with e; subst e
        exact ⟨kqd_mono _ _ _ (by omega) kqd_num, by omega⟩
      · rename_i wd r1
        cases r1 with
        | none => cases hn rfl
        | some u =>
          obtain ⟨a1, a2⟩ := ih .pow d (p + 1) u q hr
          have e := hs u rfl
          injection e with e; subst e
          exact ⟨kqd_mono _ _ _ (by omega) (kqd_neg a1), by omega⟩
    | prim =>
      rcases prim_turn h with ⟨y1, y2, e, y3⟩ | ⟨y1, y2, y3, y4, e, e2⟩ | ⟨y1, y2, y3, y4, y5, y6, y7, e, y8⟩ | ⟨y1, y2, y3, y4, y5, y6, y7, e, y8⟩ | ⟨y1, y2, y3, hr, hn, hs⟩
      · cases e
      · injection e with e; subst e; subst e2
        exact ⟨kqd_mono _ _ _ (by omega) kqd_num, by omega⟩
      · cases e
      · cases e
      · rename_i r1 q1
        cases r1 with
        | none => cases (hn rfl).1
        | some u =>
          obtain ⟨a1, a2⟩ := ih .sum (d + 1) (p + 1) u q1 hr
          rcases hs u rfl with ⟨_, e, e2, _⟩ | ⟨_, e, _⟩
          · injection e with e; subst e; subst e2
            exact ⟨kqd_mono _ _ _ (by omega) a1, by omega⟩
          · cases e
section
variable {prog : Program} {w : World} {A : Around} {E : Value → Shared → Prop} {s : Shared} {h₀ : Heap} {L : Addr} {news l1 l2 : List (Addr × Obj)} {Q : Value → Shared → Prop} {v v' : Value} {d : Dat} {n : Nat}
theorem data_eq (N : News h₀ L s.heap news) (Da : DatIn l1 v d) (Db : DatIn l2 v' d) (s1 : ∀ z ∈ l1, z ∈ news) (s2 : ∀ z ∈ l2, z ∈ news) (hk : kqdOk n d = true) (hn : n ≤ 64) (hu : A.units + 64 < cLine) (h : Q (.bool true) s) : wpAny (model prog w) A (compareOp .Eq v v') Q E s := by
  obtain ⟨as, ra⟩ := kqd_in N n (Da.mono s1) hk
  obtain ⟨bs, rb⟩ := kqd_in N n (Db.mono s2) hk
  have la := kqd_lay n d hk
  have sh : SeqAt.shaped (kqdP d) = true := by unfold SeqAt.shaped; rw [la.1, Bool.true_and]; exact decide_eq_true (Nat.le_trans la.2 hn)
  have e : PyData.eqv (kqdP d) (kqdP d) = true := (kqd_eqv n d d n hk hk).mpr rfl
  exact eq_dataH ra rb sh sh hu (by rw [e]; exact h)
end
end Mine
end
section
open PySem PySem.W PyProof.Rows PySem.Spec PySem.Calls
set_option Elab.async false
namespace Mine
set_option maxRecDepth 100000
set_option maxHeartbeats 0
section
variable {prog : Program} {w : World} {A₀ : Around} {E : Value → Shared → Prop} {s' : Shared} {base g G : Heap} {outer : List Env} {L a e : Addr} {m : Str → Option Value} {name : Str} {scope : Scope} {cd : Value}
  {n : Str} {b₀ : Stmt} {suite : List Stmt} {pos np : Pos} {rest : List ExceptHandler} {Q : Flow → Shared → Prop} {keep : List (Addr × Obj)} {KF : Frag} {qq : Nat}
  {p : Program} {loose : List Str} {mean : ExcName → Option Value} {mg mb : Str → Option Value} {x : Str}
theorem caught_D (R : ErrIn base (envOf name scope L a cd :: outer) e qq keep G s'.heap) (F : Fr g L G m) (K : Below A₀ base outer g) (hsm : G.UpToSlots s'.heap) (XB : KF.In base) (TB : Top p loose mean mg mb base)
    (ex : nsIn KF mainGlobals x = some (some (.ref 72))) (q : ktsIn KF 72 "BaseException" = true)
    (k : ∀ h' g' tk oe ws dx k1 k2 t1 t2 t t3 t4 xx att n', KtsTurn (outer.filterMap (·.frame)) g g' → Fr g' L h' (fun y => if y = n then some (.ref e) else m y) → oe.cls = .ref 72 → oe.dict = some dx → oe.data = .fields ws →
      News g' L h' ((e, oe) :: (dx, dictOf [⟨k1, .str (Str.ofString "what") t1, .str xx t⟩, ⟨k2, .str (Str.ofString "at") t2, .ref att⟩] 2) :: (att, tupO [.int 1 t3, .int ((qq : Int) + 1) t4] n') :: keep) → Below A₀ base outer g' → KF.In g' → Top p loose mean mg mb g' →
      wpAny (model prog w) ((A₀.deeper (envOf name scope L a cd)).mark (some (.ref e))) (execs (b₀ :: suite) (envOf name scope L a cd))
        (fun f s₄ => wpAny (model prog w) (A₀.deeper (envOf name scope L a cd)) (do bindName (envOf name scope L a cd) n .none; unbindBehindTheSuite (envOf name scope L a cd) n pos) (fun _ s₅ => Q f s₅) E s₄)
        (AsSuiteRaised (model prog w) ((A₀.deeper (envOf name scope L a cd)).mark (some (.ref e))) (envOf name scope L a cd) n pos (notedBy (model prog w) ((A₀.deeper (envOf name scope L a cd)).mark (some (.ref e))) (envOf name scope L a cd) (cameBackBy (model prog w) (A₀.deeper (envOf name scope L a cd)) (envOf name scope L a cd) E)))
        { s' with heap := h', toks := tk })
    (hk : scope.kind = .function := by rfl) (hlo : (envOf name scope L a cd).kindOf n = some .local := by rfl) (hx : (envOf name scope L a cd).kindOf x = some .globalImplicit := by rfl) (hd : (x == ("__debug__" : Str)) = false := by decide) :
    wpAny (model prog w) (A₀.deeper (envOf name scope L a cd)) (noteFrame (.ref e) (envOf name scope L a cd))
      (fun _ s₂ => wpAny (model prog w) (A₀.deeper (envOf name scope L a cd)) (setFlight (.ref e) none) (fun _ s₃ =>
        wpAny (model prog w) (A₀.deeper (envOf name scope L a cd)) (handleBy (.ref e) (envOf name scope L a cd) (.ExceptHandler (some (.Name x np)) (some n) (b₀ :: suite) pos :: rest)) Q E s₃) E s₂) E s' := by
  obtain ⟨dx, k1, k2, t1, t2, t, t3, t4, xx, att, n', B, hB, hBG, hl, hfl⟩ := R
  have hL : B.get? L = none := by
    obtain ⟨_, ⟨L', _, hf, hn', _⟩, _⟩ := hfl.2.2.1
    obtain rfl : L = L' := Option.some.inj hf
    exact hn'
  refine noteD_next (Around.frames_deeper K.stack) rfl hfl fun h₄ f₄ u₄ => ?_
  refine flightD f₄ fun h₅ f₅ u₅' => ?_
  have hsm₅ := u₄.trans u₅'
  obtain ⟨g₅, T₅, F₅, K₅⟩ := kts_ground K F hBG f₅.1 (hsm.trans hsm₅)
  have X₅ : KF.In g₅ := XB.keeps K₅.stays
  have P₅ : TopRead p loose mg mb g₅ := topRead_of (TB.keeps K₅.stays)
  obtain ⟨ob, _, _, _, _, hob, ⟨hobc, _⟩, _⟩ := id f₅.2.2.2
  obtain ⟨nm, q', N, bs, bm, hdct, sn, sub, ab, col, dd, k0', k1', k2', k3', k5', newId, hC, hbase, hbT⟩ := kts_cls X₅ q
  have hC₅ := F₅.keep _ _ hC
  refine wpAny_handleBy_cons (codeAny_handlers_test (name_K F₅ X₅ P₅ ex ?_ hk hx hd)) (by intro q; cases q)
  refine wpAny_excMatches_sub_self hC₅ hob hobc hbase (codeAny_handlers_suite_as ?_)
  refine flightD f₅ fun h₆ f₆ u₆ => ?_
  obtain ⟨g₆, T₆, F₆, K₆⟩ := kts_ground K F hBG f₆.1 ((hsm.trans hsm₅).trans u₆)
  obtain ⟨oe, ws, TT', oT, ts, hoe, ⟨hoec, hoedx⟩, hoed, _⟩ := id f₆.2.2.2
  have ne₆ : g₆.get? e = none := T₆.none_ _ (kts_fresh F hBG f₆.2.1 fun o ho m => by
    obtain ⟨_, o', ho', hd⟩ := K.frames.mem m
    rw [ho] at ho'
    cases ho'
    obtain ⟨sl, hs⟩ := ((hsm.trans hsm₅).trans u₆) _ _ (F.keep _ _ ho) hd
    rw [hoe] at hs
    cases hs
    exact hd _ hoed)
  have N₆ := News.more F₆ News.nil hoe (fun es n q => by rw [hoed] at q; cases q) ne₆
  have Nl : News g₆ L h₆ ((dx, dictOf [⟨k1, .str (Str.ofString "what") t1, .str xx t⟩, ⟨k2, .str (Str.ofString "at") t2, .ref att⟩] 2) :: (att, tupO [.int 1 t3, .int ((qq : Int) + 1) t4] n') :: keep) := fun q hq => ⟨f₆.1 _ _ (hl q hq).1, (fun z => by have := (hl q hq).1; rw [z, hL] at this; cases this), T₆.none_ _ (kts_none F.keep (hl q hq).2.1)⟩
  have X₆ : KF.In g₆ := XB.keeps K₆.stays
  have P₆ : Top p loose mean mg mb g₆ := TB.keeps K₆.stays
  refine stN F₆ (news := (e, oe) :: (dx, dictOf [⟨k1, .str (Str.ofString "what") t1, .str xx t⟩, ⟨k2, .str (Str.ofString "at") t2, .ref att⟩] 2) :: (att, tupO [.int 1 t3, .int ((qq : Int) + 1) t4] n') :: keep) (fun q hq => ?_) (fun h₇ F₇ N₇ => ?_) hk hlo
  · cases hq with
    | head => exact N₆ _ (.head _)
    | tail _ hq => exact Nl _ hq
  · exact k h₇ g₆ _ oe ws dx k1 k2 t1 t2 t t3 t4 xx att n' T₆ F₇ hoec hoedx hoed N₇ K₆ X₆ P₆
end
section
variable {prog : Program} {w : World} {A₀ A : Around} {s : Shared} {base h₀ : Heap} {L a : Addr} {m : Str → Option Value} {cn : Str} {cs : Scope} {ccd : Value} {cl : List (Str × Addr)} {news : List (Addr × Obj)} {K : Frag} {p : Program} {loose : List Str} {mean : ExcName → Option Value} {mg mb : Str → Option Value}
  {R : Result → Shared → Prop} {name qual : Str} {params : Arguments} {body : List Stmt} {scope : Scope} {dV kV doc pm cdv ct oc : Value} {an od : Option Addr} {osl : Array (Option Value)} {f : Addr} {args : Args} {binds : List (Str × Value)}
theorem below_X {h : Heap} (K : Below A₀ base [] h₀) (F : Fr h₀ L h m) (hk : cs.kind = .function) : Below (A₀.deeper (envX cn cs L a ccd cl)) base [envX cn cs L a ccd cl] h := by
  have hnew : base.get? L = none := by
    cases hq : base.get? L with
    | none => rfl
    | some o => exact absurd (Nat.lt_of_lt_of_le (Heap.lt_size (K.stays L o hq)) F.above) (Nat.lt_irrefl _)
  refine ⟨Around.frames_deeper K.stack, fun b o e => F.keep b o (K.stays b o e), ?_⟩
  exact .cons (by show cs.kind ≠ .module; rw [hk]; decide) rfl F.ns hnew (K.frames.of_keeps fun b o e _ => ⟨o, F.keep b o e, rfl⟩)
/-- entering a function with a try from a frame with cells, nothing above it -/
theorem code_defSX (B : Below A₀ base [] h₀) (F : Fr h₀ L s.heap m) (X₀ : K.In h₀) (N : News h₀ L s.heap news) (T : Top p loose mean mg mb h₀) (hA : A.frames = some [envX cn cs L a ccd cl])
    (ho : K.lookup f = some ⟨oc, od, .func (fnOf name qual params body scope dV kV doc pm an cdv ct), osl⟩) (hcd : codeIn K cdv qual = true) (hroom : A.depth < recursionLimit)
    (hbind : BindsTo s (fnOf name qual params body scope dV kV doc pm an cdv ct) args binds) (hloc : ∀ y ∈ binds, scope.names.lookup y.1 = some .local)
    (h : ∀ g L' h₁, Fr h₀ L g m → Fr g L' h₁ (fun y => binds.reverse.lookup y) → News g L' h₁ news → Below A base [envX cn cs L a ccd cl] g → K.In g → Top p loose mean mg mb g →
      wpAny (model prog w) (A.deeper (envOf qual scope L' f cdv)) (execs body (envOf qual scope L' f cdv))
        (fun fl s' => LeaveS0 ([envX cn cs L a ccd cl].filterMap (·.frame)) h₀ L m g R (match fl with | .ret v => v | _ => .none) s')
        (fun e s' => wpAny (model prog w) (A.deeper (envOf qual scope L' f cdv)) (leaving (envOf qual scope L' f cdv) e) (fun _ s'' => R (.error e) s'') (fun e' s'' => R (.error e') s'') s')
        { s with heap := h₁, toks := s.toks + binds.length })
    (hck : cs.kind = .function) (hco : scope.isCoroutine = false) (hgen : scope.isGenerator = false) (hk : scope.kind = .function)
    (hcell : ∀ x ∈ scope.names, x.2 ≠ .cell) : codeAny (model prog w) A (.call (.ref f) args) R s := by
  have X := X₀.keeps F.keep
  refine codeAny_call_def (fd := fnOf name qual params body scope dV kV doc pm an cdv ct) (body := body) (binds := binds) hroom (X _ _ ho) rfl (T.nolimit.keeps F.keep) (codeRec_of X hcd) rfl hbind hcell hloc (fun h₁ hns hk₁ => ?_) hco hgen hk
  have nm : ∀ b o, h₀.get? b = some o → b ∉ news.map (·.1) := fun b o e q => by
    obtain ⟨p, hp, rfl⟩ := List.mem_map.mp q
    rw [(N p hp).2.2] at e; cases e
  have st : h₀.StaysIn (hideAll s.heap (news.map (·.1))) := fun b o e => hideAll_get _ (F.keep b o e) (nm b o e)
  obtain ⟨oL, es, ep, hL, hLd, hLk, hLf⟩ := F.ns
  have nL : L ∉ news.map (·.1) := fun q => by
    obtain ⟨p, hp, e⟩ := List.mem_map.mp q
    exact (N p hp).2.1 e
  have hLg := hideAll_get (news.map (·.1)) hL nL
  have B₁ := below_X (cn := cn) (a := a) (ccd := ccd) (cl := cl) B F hck
  have hN : Heap.Ns (hideAll s.heap (news.map (·.1))) L m := ⟨oL, es, ep, hLg, hLd, hLk, hLf⟩
  have hNs : ∀ (sl : Array (Option Value)) (h' : Heap), h'.get? L = some { oL with slots := sl } → Heap.Ns h' L m := fun sl h' e => ⟨_, es, ep, e, hLd, hLk, hLf⟩
  have B₂ : Below A base [envX cn cs L a ccd cl] (hideAll s.heap (news.map (·.1))) := ⟨hA, fun b o e => st b o (B.stays b o e), funFrames_hideAll B₁.frames fun env he b hb hf => by
    cases he with
    | head => exact nL ((Option.some.inj hf : L = b) ▸ hb)
    | tail _ he => cases he⟩
  refine wpAny_mono (h _ s.heap.objs.size h₁ ⟨hN, st, F.above⟩ ⟨hns, fun b o e => hk₁ b o (of_hideAll _ e), Nat.le_of_eq (hideAll_size _ _)⟩
    (fun p hp => ⟨hk₁ _ _ (N p hp).1, Nat.ne_of_lt (Heap.lt_size (N p hp).1), hideAll_none _ (List.mem_map_of_mem hp)⟩) B₂ (X₀.keeps st) (T.keeps st)) (fun fl s' hl => ?_) fun _ _ y => y
  obtain ⟨g', L', m', news', T', F', N', k⟩ := hl
  have nL₀ : h₀.get? L = none := fr_self F
  obtain ⟨sl, hs⟩ := T'.up hLg
  refine k ⟨hNs sl _ (F'.keep _ _ hs), fun b o e => F'.keep b o (T'.other b o (st b o e) (fun q => by
    have q' : b = L := List.mem_singleton.mp q
    rw [q', nL₀] at e; cases e)), F.above⟩ fun p hp => ⟨(N' p hp).1, fun q => ?_, ?_⟩
  · have := (N' p hp).2.2; rw [q, hs] at this; cases this
  · cases q : h₀.get? p.1 with
    | none => rfl
    | some o =>
      obtain ⟨sl', hs'⟩ := T'.up (st _ _ q)
      have := (N' p hp).2.2
      rw [hs'] at this
      cases this
end
end Mine
end
section
open PySem PySem.W PyProof.Rows PySem.Spec PySem.Calls
set_option Elab.async false
namespace Mine
set_option maxRecDepth 100000
set_option maxHeartbeats 0
section
variable {prog : Program} {w : World} {A : Around} {E : Value → Shared → Prop} {s : Shared} {K : Frag} {x C : Addr} {ox : Obj} {od : Option Obj} {name : Str} {expr : Bool} {Q : Value → Shared → Prop}
  {nm q : Str} {N : Addr} {bs bm : List Value} {hdct : Bool} {sn : List Str} {sub : List Value} {ab : Bool} {col : Option Bool} {dd : Option Addr} {k0 k1 k2 k3 k5 : Option Value} {newId : String}
theorem exc_get {v : Value} (X : K.In s.heap) (I : InstAt s.heap x ox C od) (hga : findIn K (.ref C) "__getattribute__" = some (some (.builtin "BaseException.__getattribute__"))) (hgt : findIn K (.ref C) "__getattr__" = some none)
    (hf : findObj K C od name = some (.value v)) (hv : handedIn v = true) (hC : s.heap.get? C = some (excClassObj nm q C N bs bm hdct sn sub ab col dd k0 k1 k2 k3 k5 newId)) (hb : bm.contains (.type "BaseException") = true)
    (h : Q v { s with toks := s.toks + 1 }) : wpAny (model prog w) A (getAttr (.ref x) name expr) Q E s := by
  obtain ⟨hh, g, d, t, os⟩ := s
  have L0 := I.type (M := model prog w)
  have L1 := looks_findIn (M := model prog w) X hga
  have L2 := looks_find (M := model prog w) X I hf
  have L3 := looks_findIn (M := model prog w) X hgt
  unfold getAttr getAttrBy
  refine wpAny_bind (wpAny_mkText (wpAny_holding (wpAny_bind (L0.at (wpAny_bind (L1.at ?_))))))
  have FB := PySem.F.attr_Exception
  have f3 := FB.ga.bind (.ref x)
  have hx0 : (expr && onTheHeap (Value.builtin "BaseException.__getattribute__")) = false := by cases expr <;> rfl
  have hx2 : (Value.builtin "BaseException.__getattribute__" == Value.builtin "object.__getattribute__") = false := by decide +kernel
  have hx1 : (onTheHeap (Value.ref C) && Value.builtin "BaseException.__getattribute__" == Value.builtin "object.__getattribute__") = false := by rw [hx2]; rfl
  repeat (any_goals (first | assumption | (with_reducible refine L0.at ?_) | (with_reducible refine L3.at ?_) | wp_step))
  refine codeAny_call_builtin FB.ga.plain F.entry_bexc_ga ?_
  have hk : builtinKind "BaseException.__getattribute__" = some .slot := by decide +kernel
  have hsplit : splitId "BaseException.__getattribute__" = some ("BaseException", "__getattribute__") := by decide +kernel
  have hcB : (Value.ref C :: bm).contains (.type "BaseException") = true := by rw [List.contains_cons, hb]; exact Bool.or_true _
  have ha := F.args_bexc_ga (.ref x) (.str name t)
  dsimp only [List.cons_append, List.nil_append]
  simp only [checkBuiltinCall, hk, hsplit]
  refine wpAny_bind ?_
  unfold isInstance
  repeat (any_goals (first | assumption | (with_reducible refine L0.at ?_) | (with_reducible refine L2.at ?_) | (with_reducible refine wpAny_isSubtype_exc hC ?_; rw [hcB]) | wp_step))
  show wpAny _ _ (handedOut v) _ _ _
  rw [handedOut_of hv]
  exact wpAny_pure h
end
end Mine
end
section
open PySem PySem.W PyProof.Rows PySem.Spec PySem.Calls
set_option Elab.async false
namespace Mine
set_option maxRecDepth 100000
set_option maxHeartbeats 0
structure Calm (news : List (Addr × Obj)) : Prop where
  ne : ∀ p ∈ news, p.1 ≠ 232
  ex : ∀ p ∈ news, NoX p.2
section
variable {w : World} {p : Program} {loose : List Str} {mean : ExcName → Option Value} {mg mb : Str → Option Value} {dp un : Nat} {gd : Option (List Code)} {cn : Str} {cs : Scope} {a : Addr} {ccd : Value} {cl : List (Str × Addr)} {outer : List Env} {A₀ : Around} {base h₀ h' : Heap} {L ta st wl : Addr} {m : Str → Option Value}
  {news l big : List (Addr × Obj)} {s : Shared} {Q E : Value → Shared → Prop} {ws : List Wd} {vs : List Value} {n cap kk : Nat} {t : Tok} {ps : Array Value} {tv : List Value} {r : Option Dat} {q K : Nat} {td tv' : Tok} {x y : Addr × Obj}
theorem Calm.cons (N : News h₀ L h' big) (hb : (232, tabObj ps) ∈ big) (ht : (ta, tupO tv kk) ∈ big) (C : Calm news) : Calm ((ta, tupO tv kk) :: news) := by
  refine ⟨fun p hp => ?_, fun p hp => ?_⟩
  · cases hp with
    | head => exact ne_of_objs N ht hb tup_ne_tab
    | tail _ hp => exact C.ne p hp
  · cases hp with
    | head => exact .inl fun e => by cases e
    | tail _ hp => exact C.ex p hp
theorem Calm.append (N : News h₀ L h' big) (hb : (232, tabObj ps) ∈ big) (hl : ∀ z ∈ l, z ∈ big) (tl : TL l) (C : Calm news) : Calm (l ++ news) := by
  have one : ∀ p ∈ l, p.1 ≠ 232 ∧ NoX p.2 := fun p hp => by
    have h232 : p.2 ≠ tabObj ps := fun e => by
      rcases tl p hp with h | h <;> (rw [e] at h; cases h)
    refine ⟨ne_of_objs N (hl p hp) hb h232, .inl fun e => ?_⟩
    rcases tl p hp with h | h <;> (rw [h] at e; cases e)
  exact ⟨fun p hp => (List.mem_append.mp hp).elim (fun h => (one p h).1) (C.ne p), fun p hp => (List.mem_append.mp hp).elim (fun h => (one p h).2) (C.ex p)⟩
theorem lev_top (hrun : run ws K .sum 0 0 = some (r, q)) (B : Below A₀ base outer h₀) (F : Fr h₀ L s.heap m) (X : (Mine.frag.heap_1 w.params).In h₀) (N : News h₀ L s.heap ((st, listOf #[.ref wl, .int 0 t] cap) :: (232, tabObj ps) :: news)) (T : Top p loose mean mg mb h₀) (hk : cs.kind = .function) (hdp : dp ≤ 320) (hun : un ≤ 3000)
    (R : StIn news wl vs n ws) (hlt : 232 < st ∧ AllLt st news) (hne : 0 < ws.length) (C : Calm news)
    (ret : ∀ va t' h' tk' l, Fr h₀ L h' m → News h₀ L h' ((st, StD wl q t' cap) :: (232, tabObj ps) :: (l ++ news)) → Calm (l ++ news) → (∀ tr, r = some tr → DatIn (l ++ news) (.ref va) tr) → q ≤ ws.length → Q (valO r va) { s with heap := h', toks := tk' }) :
    wpAny (model PySem.Challenge.rw_pc0133_01.prog w) (ktrTop dp un gd cn cs L a ccd cl outer) (call (.ref 488) [.ref st, .int 1 tv', .int 0 td]) Q E s := by
  refine lev_use (d := 0) (pos := 0) (law_all K).1 hrun B F X N T hk (by omega) (by omega) (R.mono fun z h => .tail _ h) (fun p hp => ?_) hne (Nat.zero_le _) (Nat.zero_le _) ?_
  · cases hp with
    | head => exact Nat.ne_of_lt hlt.1
    | tail _ hp => exact Nat.ne_of_lt (allLt_mem hlt.2 p hp)
  · intro va t' h' tk' news' F' N' R' ap' sub' D' _ hq'
    have m232 : (232, tabObj ps) ∈ (st, StD wl q t' cap) :: news' := .tail _ (sub' _ (.head _))
    cases r with
    | none => exact ret va t' h' tk' [] F' (fun z hz => N' z (by
        cases hz with
        | head => exact .head _
        | tail _ hz => exact .tail _ (sub' _ hz))) C (fun _ h => (nomatch h)) hq'
    | some tr =>
      obtain ⟨l, h1, h2, h3⟩ := datPick (D' tr rfl)
      refine ret va t' h' tk' l F' (fun z hz => N' z ?_) (Calm.append N' m232 (fun z hz => .tail _ (h1 z hz)) h2 C) (fun tr' h => by injection h with h; subst h; exact h3.mono fun z hz => List.mem_append_left _ hz) hq'
      cases hz with
      | head => exact .head _
      | tail _ hz => cases hz with
        | head => exact m232
        | tail _ hz => exact (List.mem_append.mp hz).elim (fun h => .tail _ (h1 z h)) fun h => .tail _ (sub' z (.tail _ h))
theorem pullA {o : Obj} (N : News h₀ L h' (x :: (st, o) :: (232, tabObj ps) :: l)) : News h₀ L h' ((232, tabObj ps) :: x :: l) := fun p hp => N p (by
  cases hp with
  | head => exact .tail _ (.tail _ (.head _))
  | tail _ h => cases h with
    | head => exact .head _
    | tail _ h => exact .tail _ (.tail _ (.tail _ h)))
theorem pullB {o : Obj} {z : Addr × Obj} (N : News h₀ L h' (x :: z :: (st, o) :: (232, tabObj ps) :: l)) : News h₀ L h' ((232, tabObj ps) :: x :: z :: l) := fun p hp => N p (by
  cases hp with
  | head => exact .tail _ (.tail _ (.tail _ (.head _)))
  | tail _ h => cases h with
    | head => exact .head _
    | tail _ h => cases h with
      | head => exact .tail _ (.head _)
      | tail _ h => exact .tail _ (.tail _ (.tail _ (.tail _ h))))
end
theorem pair_ok {ws : List Wd} {K d q : Nat} {tr : Dat} (h : run ws K .sum d 0 = some (some tr, q)) (hq : q ≤ ws.length) : kqdOk (ws.length + 2) (.tuple [tr, .int q]) = true := by
  have h1 := (run_ok ws K .sum d 0 tr q h).1
  have h2 := kqd_mono _ _ (ws.length + 1) (by omega) h1
  have h3 : ∀ n, kqdOk n (.int q) = true := fun n => by cases n <;> rfl
  show ([tr, .int q].all (kqdOk (ws.length + 1))) = true
  simp [h2, h3]
theorem fault_ok {k : Int} : kqdOk 2 (.tuple [.str (Str.ofString "fault"), .tuple [.int 1, .int k]]) = true := by
  have hx : PyData.strOk (Str.ofString "fault") = true := by decide +kernel
  simp [kqdOk, hx]
theorem inst_D {g h : Heap} {L e dx C : Addr} {l : List (Addr × Obj)} {oe o : Obj} {vs : Array Value} (N : News g L h l) (me : (e, oe) ∈ l) (md : (dx, o) ∈ l) (hc : oe.cls = .ref C) (hd : oe.dict = some dx) (hf : oe.data = .fields vs) : InstAt h e oe C (some o) :=
  ⟨N.get me, hc, by unfold notCls; rw [hf], by rw [hd]; exact N.get md⟩
theorem min_right {a q len : Nat} (h : a = len) (hl : 0 < len) : ((if (a : Int) - 1 < q then (a : Int) - 1 else q) + 1 == ((min q (len - 1) : Nat) : Int) + 1) = true := by
  subst h
  rw [beq_iff_eq]
  split <;> omega
end Mine
end
section
open PySem PySem.W PyProof.Rows PySem.Spec PySem.Calls
set_option Elab.async false
example : True := by k_with_none; trivial
example : True := by
  k_with "fold" => (refine folds ?_; intro qk ek)
  k_with "at0" => (with_reducible show At _ _ _ _ (.Name _ _) _ _ _); exact at_L (by rfl) (by rfl) (by decide) (by k_asm) (Eq.refl (some _))
  k_with "atF" => k_dflt first | k_extra "at0" | ((with_reducible show At _ _ _ _ (.Name _ _) _ _ _); exact at_K (by rfl) (by rfl) (by decide) (by k_asm) (by k_asm) (by k_is) (by k_asm)) | fail
  k_with "atB" => k_dflt first | ((with_reducible show At _ _ _ _ (.Name _ _) _ _ _); exact at_B (by rfl) (by rfl) (by decide) (by k_asm) (by k_asm) (by k_is) (by boot_fast) (by decide) (by k_asm)) | fail
  k_with "at" => k_dflt first | ((with_reducible show At _ _ _ _ (.Constant _ _ _) _ _ _); first | exact at_S | exact at_I | exact at_N) | k_extra "at0" | ((with_reducible show At _ _ _ _ (.Attribute (.Name _ _) _ _) _ _ _); exact at_attr (by k_asm) (by k_asm) (by k_extra "at0") (by k_inst) (by k_get) (by k_is) (by k_is) (by k_is) (by k_is) (by first | exact rfl | k_handed)) | ((with_reducible show At _ _ _ _ (.BinOp _ .Add _ _) _ _ _); exact at_add (by k_extra "at") (by k_extra "at")) | k_extra "atF" | fail
  k_with "spl" => k_dflt first | exact spl0 | ((with_reducible show Spl _ _ _ _ [_] _ _ _); exact spl1 (by k_extra "at")) | ((with_reducible show Spl _ _ _ _ [_, _] _ _ _); exact spl2 (by k_extra "at") (by k_extra "at")) | ((with_reducible show Spl _ _ _ _ (_ :: _) _ _ _); exact splC (by k_extra "at") (by k_extra "spl")) | fail
  k_with "eval Call Attribute" => with_reducible (k_here; show wpAny _ _ (eval (.Call (.Attribute _ _ _) _ [] _) _) _ _ _; first | refine mcall (by k_extra "spl") (by k_dflt exact rfl) (by k_dflt k_asm) (by k_dflt k_asm) (by k_extra "at") (by k_dflt k_inst) (by k_get) (by k_is) (by k_is) (by k_is) (by k_is) (by k_dflt exact rfl) ?_ | fail)
  k_with "eval Call" => first | with_reducible (k_here; show wpAny _ _ (eval (.Call (.Name _ _) _ [] _) _) _ _ _; first | refine fcall (by k_extra "spl") (by k_dflt exact rfl) (by k_dflt k_asm) (by k_dflt k_asm) (by k_extra "atF") (by k_is) (by k_dflt exact rfl) ?_ | ((first | show wpAny _ _ (eval (.Call (.Name (Str.ofString "len") _) _ _ _) _) _ _ _ | show wpAny _ _ (eval (.Call (.Name (Str.ofString "min") _) _ _ _) _) _ _ _); refine bcall (by k_extra "spl") (by k_extra "atB") (by k_dflt exact rfl) ?_) | fail) | (k_here; k_dflt (refine Call_ ?_)) | fail
  k_with "spliced" => first | with_reducible (k_here; first | refine spl_use (by k_extra "spl") ?_ | fail) | (k_dflt (first | refine spliced_more ?_ | refine spliced_none ?_)) | fail
  k_with "eval Subscript" => with_reducible (k_here; show wpAny _ _ (eval (.Subscript _ _ _) _) _ _ _; first | refine sub_at (by k_extra "at") (by k_extra "at") ?_ | fail)
  k_with "eval BinOp" => with_reducible (k_here; show wpAny _ _ (eval (.BinOp _ _ _ _) _) _ _ _; first | refine at_use (by k_extra "at") ?_ | refine bin_at (by k_extra "at") (by k_extra "at") ?_ | fail)
  k_with "isTrue Compare" => with_reducible (k_here; show wpAny _ _ (PySem.isTrue (.Compare _ [_] [_] _) _ _) _ _ _; first | refine cmpT_at (by k_dflt rfl) (by k_extra "at") (by k_extra "at") ?_ | refine cmpT_atL (by k_dflt rfl) (by k_extra "at") ?_ | fail)
  k_with "eval Compare" => with_reducible (k_here; show wpAny _ _ (eval (.Compare _ [_] [_] _) _) _ _ _; first | refine cmp_at (by k_dflt rfl) (by k_extra "at") (by k_extra "at") ?_ | fail)
  k_with "eval Attribute Name" => with_reducible (k_here; first | refine at_use (by k_extra "at") ?_ | fail)
  k_with "eval Name" => with_reducible (k_here; first | refine at_use (by k_extra "at") ?_ | fail)
  k_with "itemAt" => (k_here; (with_reducible show wpAny _ _ (subscriptTail _ _ (Value.ref _) (Value.int _ _)) _ _ _); with_reducible first | refine item_litK (by with_unfolding_all is_list) (by k_dflt decide) (by k_dflt decide) (by with_unfolding_all rfl) ?_ (by with_unfolding_all rfl) | refine item_tupleT (by k_dflt exact News.isTup (by k_asm) (by k_mem)) (by k_dflt decide) (by k_dflt decide) (by k_dflt rfl) (by k_dflt rfl) ?_ | fail); k_whole
  k_with "turned" => (k_here; k_dflt (refine kba_turn (value' := PySem.Expr.Name (PySem.Str.ofString "_") ⟨0, 0, 0, 0⟩) (fun _ => rfl) ?_))
  k_with "subscriptTail Name Constant ref int" => first | k_extra "subscriptTail" | k_extra "itemAt" | fail
  k_with "subscriptTail Subscript Constant ref int" => k_extra "itemAt"
  k_with "subscriptTail Name" => k_extra "subscriptTail"
  k_with "subscriptTail Call" => k_extra "turned"
  k_with "subscriptTail BinOp" => k_extra "turned"
  k_with "seq" => first | (k_here; k_gentoks) | ((with_reducible refine wpAny_execs_cons ?_); try dsimp only) | fail
  k_with "execs cons Assign cons" => k_extra "seq"
  k_with "execs cons If cons" => k_extra "seq"
  k_with "execs cons Return nil" => k_extra "seq"
  k_with "exec Assign cons" => (with_reducible show wpAny _ _ (exec (.Assign [.Name _ _] _ _) _) _ _ _); k_dflt (refine wpAny_Assign_Name ?_)
  k_with "exec If" => refine wpAny_If ?_
  k_with "eval Call Name cons nil" => k_extra "eval Call"
  k_with "isTrue Compare Name cons cons" => k_extra "isTrue Compare"
  k_with "truthy bool false" => refine wpAny_truthy_bool ?_
  k_with "truthy bool" => refine wpAny_truthy_bool ?_
  k_with "room" => first | exact lb0 (j := 1) (by assumption) rfl | exact lb2 (j := 1) (by assumption) (by assumption) rfl
  k_with "om" => first | (k_whole; first | exact lb0 (by assumption) rfl | exact lb1 (by assumption) rfl | exact lb2 (by assumption) (by assumption) rfl | exact lb4 (by assumption) rfl | exact Nat.le_of_succ_le (by assumption)) | omega
  k_with "steps" => repeat' (first | ((with_reducible show wpAny _ _ (exec _ _) _ _ _); (fail_if_success (fail_if_success k_fold)); k_extra "fold") | ((fail_if_success (fail_if_success k_unfold)); first | dsimp only [qk] | dsimp only [ek] | (k_unfold; (try dsimp only))) | (k_end; wrow_close) | walk1 | (dsimp only; walk1) | (leave1; walk_say "STEP leave1"; try dsimp only) | fail)
  trivial
namespace Mine
set_option maxRecDepth 100000
set_option maxHeartbeats 0
section
variable {w : World} {p : Program} {loose : List Str} {mean : ExcName → Option Value} {mg mb : Str → Option Value} {dp un : Nat} {gd : Option (List Code)} {cn : Str} {cs : Scope} {a : Addr} {ccd : Value} {cl : List (Str × Addr)} {A₀ : Around} {base h₀ : Heap} {L : Addr} {m : Str → Option Value}
  {news : List (Addr × Obj)} {s : Shared} {Q E : Value → Shared → Prop} {wl : Addr} {vs : List Value} {n : Nat} {ws : List Wd} {keep : List (Addr × Obj)}
example : True := by
  k_with "upd" => exact updF_upd (by assumption) _
  trivial
example : True := by
  k_with "rel" => first | (with_reducible assumption) | exact dle1 (by with_reducible assumption) rfl | k_extra "om" | exact rfl | (refine RdIn.mono (by with_reducible assumption) ?_; (intro _ hz; (repeat' (first | exact hz | refine List.Mem.tail _ ?_)))) | exact UpdF.head (by with_reducible assumption) | (refine Kept.mono (by with_reducible assumption) ?_; (intro _ hz; first | exact hz | exact .tail _ hz | exact .tail _ (.tail _ hz) | exact .tail _ (.tail _ (.tail _ hz)) | exact .tail _ (.tail _ (.tail _ (.tail _ hz))) | exact .tail _ (.tail _ (.tail _ (.tail _ (.tail _ hz)))) | exact .tail _ (.tail _ (.tail _ (.tail _ (.tail _ (.tail _ hz))))))) | ((try dsimp only [ktrTop, Around.deeper]); k_extra "om") | assumption | k_mem | k_updF
  trivial
example : True := by
  k_with "mem" => first | ktr_member | (refine List.mem_cons_of_mem _ ?_; k_mem)
  trivial
example : True := by
  k_with "nws" => first | k_asm | exact newsTl (by assumption) | exact newsTl (newsTl (by assumption)) | exact newsTl2 (by assumption)
  trivial
example : True := by
  k_with "call ref" => (k_here; (try dsimp only [List.nil_append, List.cons_append, List.append_nil]); (with_reducible show wpAny _ _ (call (Value.ref 488) [Value.ref _, Value.int _ _, Value.int _ _]) _ _ _); k_dflt (refine' lev_top hrun (by ktr_rel) (by ktr_rel) (by ktr_rel) (by assumption) (by ktr_rel) (by ktr_rel) (by ktr_rel) (by ktr_rel) R (by assumption) hne C ?_); k_whole; intro va' t' h' tk' l' F' N' C' D' hq'; (try have Da := D' _ rfl); dsimp only [valO]; (try k_sweep))
  trivial
example : True := by
  k_with "call ref" => (k_here; (try dsimp only [List.nil_append, List.cons_append, List.append_nil]); (with_reducible show wpAny _ _ (call (Value.ref 474) [Value.ref _]) _ _ _); (rename News _ _ _ _ => NN); (have CC := Calm.cons NN (ps := ps) (List.Mem.tail _ (List.Mem.tail _ (List.Mem.head _))) (List.Mem.head _) C'); k_dflt (refine' reader_c (by ktr_rel) (by ktr_rel) (by ktr_rel) (pullA NN) (by ktr_rel) (by ktr_rel) (by ktr_rel) (by ktr_rel) (R.mono (fun _ hz => List.Mem.tail _ (List.mem_append_right _ hz))) CC.ne ?_); k_whole; intro h2' tk2' rdr dct tl nd hs1 hs2 hs3 u1 u2 u3 t3' tas n2' news2 F2' N2' R2' ap2' h232' sub2'; (have hzr := mem_t2 N2' R2'.rd); (try k_sweep))
  trivial
example : True := by
  k_with "call ref" => (k_here; (try dsimp only [List.nil_append, List.cons_append, List.append_nil]); (with_reducible show wpAny _ _ (call (Value.ref 188) [Value.ref _]) _ _ _); k_dflt (refine' expr_c hrun (by ktr_rel) (by ktr_rel) (by ktr_rel) (by first | assumption | exact newsTl (by assumption)) (by ktr_rel) (by ktr_rel) (by ktr_rel) (by ktr_rel) R2' ap2' h232' tb (by first | assumption | exact Fr.keep (by assumption) _ _ (by assumption)) hne (Nat.zero_le _) (fun z hz => ⟨sub2' z hz, CC.ex z hz⟩) ?_ ?_); k_whole; intro v4 t4 h4 tk4 tr4 ps4 news4 e4 F4 N4 R4 ap4 tb4 sub4 D4 hq4; (have hzr4 := mem_t2 N4 R4.rd); (try k_sweep); rotate_left; k_whole; intro e0' e5 h5 tk5 ps5 hh5 tb5 r5 F5 u5; rotate_right)
  trivial
example : True := by
  k_with "compareOp Eq ref ref" => (k_here; (with_reducible show wpAny _ _ (compareOp CmpOp.Eq (Value.ref _) (Value.ref _)) _ _ _); (rename News _ _ _ _ => NN); (injection e4 with e4; subst e4); k_dflt (refine' data_eq NN (.tuple (List.Mem.tail _ (List.Mem.tail _ (List.Mem.tail _ (sub4 _ (sub2' _ (List.Mem.head _)))))) (.cons (Da.mono fun z hz => List.Mem.tail _ (List.Mem.tail _ (List.Mem.tail _ (sub4 z (sub2' z (List.Mem.tail _ hz)))))) (.cons (.int _ _) .nil))) (.tuple (List.Mem.head _) (.cons (D4.mono fun z h => List.Mem.tail _ (List.Mem.tail _ (List.Mem.tail _ h))) (.cons (.int _ _) .nil))) (fun _ h => h) (fun _ h => h) (pair_ok hrun hq') (by omega) (by (try dsimp only [ktrTop, Around.deeper]); show _ < 9900; omega) ?_))
  trivial
theorem right_some {ps : Array Value} {K q : Nat} {tr : Dat} (hrun : run ws K .sum 0 0 = some (some tr, q)) (B : Below A₀ base [] h₀) (F : Fr h₀ L s.heap m) (X : (Mine.frag.heap_1 w.params).In h₀) (N : News h₀ L s.heap ((232, tabObj ps) :: news)) (T : Top p loose mean mg mb h₀) (hk : cs.kind = .function) (hdp : dp ≤ 310) (hun : un ≤ 1000)
    (XB : (Mine.frag.heap_1 w.params).In base) (TB : Top p loose mean mg mb base) (hb : h₀.get? (nat_lit 0) = some (boot_o_0 w.params)) (R : StIn news wl vs n ws) (hne : 0 < ws.length) (C : Calm news) (tb : TabOk lineL colL ps)
    (ret : ∀ h' tk' ps', TabOk lineL colL ps' → Fr h₀ L h' m → News h₀ L h' ((232, tabObj ps') :: news) → Q (.bool true) { s with heap := h', toks := tk' }) :
    wpAny (model PySem.Challenge.rw_pc0133_01.prog w) (ktrTop dp un gd cn cs L a ccd cl []) (call (.ref 509) [.ref wl]) Q E s := by
  revert X; k_fill; intro X
  have hwl1 := R.wl
  have hfw := R.few
  have hln := R.len
  refine wpAny_call ?_
  k_dflt (refine' code_defSX ?k1 ?k2 ?k3 ?k4 ?k5 ?kA ?k6 ?k7 ?k8 ?k9 ?kB ?_ ?cK ?c2 ?c3 ?c4 ?c5; (case kA => exact rfl); (case k2 => exact F); (case k1 => exact B); (case k3 => exact X); (case k4 => exact N); (case k5 => exact T); (case k6 => k_is); (case k7 => k_is); (case k8 => first | k_room | ktr_room); (case k9 => first | exact binds_K (by k_in) rfl (by k_is) rfl rfl rfl | exact BindsTo.of_eq rfl); (case kB => exact locs rfl); (case cK => assumption); (case c2 => exact rfl); (case c3 => exact rfl); (case c4 => exact rfl); (case c5 => decide); k_whole; intro g' L' h' FG' F' N' B' X' T'; (try dsimp only); (try k_fold))
  k_extra "steps"
  all_goals first
    | (cases e0'; done)
    | exact ret _ _ _ tb4 (by k_asm) (fun z hz => (by assumption : News h₀ L _ _) z (by
        cases hz with
        | head => exact List.Mem.tail _ (List.Mem.tail _ (List.Mem.head _))
        | tail _ hz => exact List.Mem.tail _ (List.Mem.tail _ (List.Mem.tail _ (sub4 z (sub2' z (List.Mem.tail _ (List.mem_append_right _ hz))))))))
    | trace_state
end
end Mine
end
section
open PySem PySem.W PyProof.Rows PySem.Spec PySem.Calls
set_option Elab.async false
example : True := by k_with_none; trivial
example : True := by
  k_with "fold" => (refine folds ?_; intro qk ek)
  k_with "at0" => (with_reducible show At _ _ _ _ (.Name _ _) _ _ _); exact at_L (by rfl) (by rfl) (by decide) (by k_asm) (Eq.refl (some _))
  k_with "atF" => k_dflt first | k_extra "at0" | ((with_reducible show At _ _ _ _ (.Name _ _) _ _ _); exact at_K (by rfl) (by rfl) (by decide) (by k_asm) (by k_asm) (by k_is) (by k_asm)) | fail
  k_with "atB" => k_dflt first | ((with_reducible show At _ _ _ _ (.Name _ _) _ _ _); exact at_B (by rfl) (by rfl) (by decide) (by k_asm) (by k_asm) (by k_is) (by boot_fast) (by decide) (by k_asm)) | fail
  k_with "at" => k_dflt first | ((with_reducible show At _ _ _ _ (.Constant _ _ _) _ _ _); first | exact at_S | exact at_I | exact at_N) | k_extra "at0" | ((with_reducible show At _ _ _ _ (.Attribute (.Name _ _) _ _) _ _ _); exact at_attr (by k_asm) (by k_asm) (by k_extra "at0") (by k_inst) (by k_get) (by k_is) (by k_is) (by k_is) (by k_is) (by first | exact rfl | k_handed)) | ((with_reducible show At _ _ _ _ (.BinOp _ .Add _ _) _ _ _); exact at_add (by k_extra "at") (by k_extra "at")) | k_extra "atF" | fail
  k_with "spl" => k_dflt first | exact spl0 | ((with_reducible show Spl _ _ _ _ [_] _ _ _); exact spl1 (by k_extra "at")) | ((with_reducible show Spl _ _ _ _ [_, _] _ _ _); exact spl2 (by k_extra "at") (by k_extra "at")) | ((with_reducible show Spl _ _ _ _ (_ :: _) _ _ _); exact splC (by k_extra "at") (by k_extra "spl")) | fail
  k_with "eval Call Attribute" => with_reducible (k_here; show wpAny _ _ (eval (.Call (.Attribute _ _ _) _ [] _) _) _ _ _; first | refine mcall (by k_extra "spl") (by k_dflt exact rfl) (by k_dflt k_asm) (by k_dflt k_asm) (by k_extra "at") (by k_dflt k_inst) (by k_get) (by k_is) (by k_is) (by k_is) (by k_is) (by k_dflt exact rfl) ?_ | fail)
  k_with "eval Call" => first | with_reducible (k_here; show wpAny _ _ (eval (.Call (.Name _ _) _ [] _) _) _ _ _; first | refine fcall (by k_extra "spl") (by k_dflt exact rfl) (by k_dflt k_asm) (by k_dflt k_asm) (by k_extra "atF") (by k_is) (by k_dflt exact rfl) ?_ | ((first | show wpAny _ _ (eval (.Call (.Name (Str.ofString "len") _) _ _ _) _) _ _ _ | show wpAny _ _ (eval (.Call (.Name (Str.ofString "min") _) _ _ _) _) _ _ _); refine bcall (by k_extra "spl") (by k_extra "atB") (by k_dflt exact rfl) ?_) | fail) | (k_here; k_dflt (refine Call_ ?_)) | fail
  k_with "spliced" => first | with_reducible (k_here; first | refine spl_use (by k_extra "spl") ?_ | fail) | (k_dflt (first | refine spliced_more ?_ | refine spliced_none ?_)) | fail
  k_with "eval Subscript" => with_reducible (k_here; show wpAny _ _ (eval (.Subscript _ _ _) _) _ _ _; first | refine sub_at (by k_extra "at") (by k_extra "at") ?_ | fail)
  k_with "eval BinOp" => with_reducible (k_here; show wpAny _ _ (eval (.BinOp _ _ _ _) _) _ _ _; first | refine at_use (by k_extra "at") ?_ | refine bin_at (by k_extra "at") (by k_extra "at") ?_ | fail)
  k_with "isTrue Compare" => with_reducible (k_here; show wpAny _ _ (PySem.isTrue (.Compare _ [_] [_] _) _ _) _ _ _; first | refine cmpT_at (by k_dflt rfl) (by k_extra "at") (by k_extra "at") ?_ | refine cmpT_atL (by k_dflt rfl) (by k_extra "at") ?_ | fail)
  k_with "eval Compare" => with_reducible (k_here; show wpAny _ _ (eval (.Compare _ [_] [_] _) _) _ _ _; first | refine cmp_at (by k_dflt rfl) (by k_extra "at") (by k_extra "at") ?_ | fail)
  k_with "eval Attribute Name" => with_reducible (k_here; first | refine at_use (by k_extra "at") ?_ | fail)
  k_with "eval Name" => with_reducible (k_here; first | refine at_use (by k_extra "at") ?_ | fail)
  k_with "itemAt" => (k_here; (with_reducible show wpAny _ _ (subscriptTail _ _ (Value.ref _) (Value.int _ _)) _ _ _); with_reducible first | refine item_litK (by with_unfolding_all is_list) (by k_dflt decide) (by k_dflt decide) (by with_unfolding_all rfl) ?_ (by with_unfolding_all rfl) | refine item_tupleT (by k_dflt exact News.isTup (by k_asm) (by k_mem)) (by k_dflt decide) (by k_dflt decide) (by k_dflt rfl) (by k_dflt rfl) ?_ | fail); k_whole
  k_with "turned" => (k_here; k_dflt (refine kba_turn (value' := PySem.Expr.Name (PySem.Str.ofString "_") ⟨0, 0, 0, 0⟩) (fun _ => rfl) ?_))
  k_with "subscriptTail Name Constant ref int" => first | k_extra "subscriptTail" | k_extra "itemAt" | fail
  k_with "subscriptTail Subscript Constant ref int" => k_extra "itemAt"
  k_with "subscriptTail Name" => k_extra "subscriptTail"
  k_with "subscriptTail Call" => k_extra "turned"
  k_with "subscriptTail BinOp" => k_extra "turned"
  k_with "seq" => first | (k_here; k_gentoks) | ((with_reducible refine wpAny_execs_cons ?_); try dsimp only) | fail
  k_with "execs cons Assign cons" => k_extra "seq"
  k_with "execs cons If cons" => k_extra "seq"
  k_with "execs cons Return nil" => k_extra "seq"
  k_with "exec Assign cons" => (with_reducible show wpAny _ _ (exec (.Assign [.Name _ _] _ _) _) _ _ _); k_dflt (refine wpAny_Assign_Name ?_)
  k_with "exec If" => refine wpAny_If ?_
  k_with "eval Call Name cons nil" => k_extra "eval Call"
  k_with "isTrue Compare Name cons cons" => k_extra "isTrue Compare"
  k_with "truthy bool false" => refine wpAny_truthy_bool ?_
  k_with "truthy bool" => refine wpAny_truthy_bool ?_
  k_with "room" => first | exact lb0 (j := 1) (by assumption) rfl | exact lb2 (j := 1) (by assumption) (by assumption) rfl
  k_with "om" => first | (k_whole; first | exact lb0 (by assumption) rfl | exact lb1 (by assumption) rfl | exact lb2 (by assumption) (by assumption) rfl | exact lb4 (by assumption) rfl | exact Nat.le_of_succ_le (by assumption)) | omega
  k_with "steps" => repeat' (first | ((with_reducible show wpAny _ _ (exec _ _) _ _ _); (fail_if_success (fail_if_success k_fold)); k_extra "fold") | ((fail_if_success (fail_if_success k_unfold)); first | dsimp only [qk] | dsimp only [ek] | (k_unfold; (try dsimp only))) | (k_end; wrow_close) | walk1 | (dsimp only; walk1) | (leave1; walk_say "STEP leave1"; try dsimp only) | fail)
  trivial
namespace Mine
set_option maxRecDepth 100000
set_option maxHeartbeats 0
section
variable {w : World} {p : Program} {loose : List Str} {mean : ExcName → Option Value} {mg mb : Str → Option Value} {dp un : Nat} {gd : Option (List Code)} {cn : Str} {cs : Scope} {a : Addr} {ccd : Value} {cl : List (Str × Addr)} {A₀ : Around} {base h₀ : Heap} {L : Addr} {m : Str → Option Value}
  {news : List (Addr × Obj)} {s : Shared} {Q E : Value → Shared → Prop} {wl : Addr} {vs : List Value} {n : Nat} {ws : List Wd} {keep : List (Addr × Obj)}
example : True := by
  k_with "upd" => exact updF_upd (by assumption) _
  trivial
example : True := by
  k_with "rel" => first | (with_reducible assumption) | exact dle1 (by with_reducible assumption) rfl | k_extra "om" | exact rfl | (refine RdIn.mono (by with_reducible assumption) ?_; (intro _ hz; (repeat' (first | exact hz | refine List.Mem.tail _ ?_)))) | exact UpdF.head (by with_reducible assumption) | (refine Kept.mono (by with_reducible assumption) ?_; (intro _ hz; first | exact hz | exact .tail _ hz | exact .tail _ (.tail _ hz) | exact .tail _ (.tail _ (.tail _ hz)) | exact .tail _ (.tail _ (.tail _ (.tail _ hz))) | exact .tail _ (.tail _ (.tail _ (.tail _ (.tail _ hz)))) | exact .tail _ (.tail _ (.tail _ (.tail _ (.tail _ (.tail _ hz))))))) | ((try dsimp only [ktrTop, Around.deeper]); k_extra "om") | assumption | k_mem | k_updF
  trivial
example : True := by
  k_with "mem" => first | ktr_member | (refine List.mem_cons_of_mem _ ?_; k_mem)
  trivial
example : True := by
  k_with "nws" => first | k_asm | exact newsTl (by assumption) | exact newsTl (newsTl (by assumption)) | exact newsTl2 (by assumption)
  trivial
example : True := by
  k_with "call ref" => (k_here; (try dsimp only [List.nil_append, List.cons_append, List.append_nil]); (with_reducible show wpAny _ _ (call (Value.ref 488) [Value.ref _, Value.int _ _, Value.int _ _]) _ _ _); k_dflt (refine' lev_top hrun (by ktr_rel) (by ktr_rel) (by ktr_rel) (by assumption) (by ktr_rel) (by ktr_rel) (by ktr_rel) (by ktr_rel) R (by assumption) hne C ?_); k_whole; intro va' t' h' tk' l' F' N' C' D' hq'; (try have Da := D' _ rfl); dsimp only [valO]; (try k_sweep))
  trivial
example : True := by
  k_with "call ref" => (k_here; (try dsimp only [List.nil_append, List.cons_append, List.append_nil]); (with_reducible show wpAny _ _ (call (Value.ref 474) [Value.ref _]) _ _ _); (rename News _ _ _ _ => NN); (have CC := Calm.cons NN (ps := ps) (List.Mem.tail _ (List.Mem.tail _ (List.Mem.tail _ (List.Mem.head _)))) (List.Mem.head _) (Calm.cons NN (ps := ps) (List.Mem.tail _ (List.Mem.tail _ (List.Mem.tail _ (List.Mem.head _)))) (List.Mem.tail _ (List.Mem.head _)) C')); k_dflt (refine' reader_c (by ktr_rel) (by ktr_rel) (by ktr_rel) (pullB NN) (by ktr_rel) (by ktr_rel) (by ktr_rel) (by ktr_rel) (R.mono (fun _ hz => List.Mem.tail _ (List.Mem.tail _ (List.mem_append_right _ hz)))) CC.ne ?_); k_whole; intro h2' tk2' rdr dct tl nd hs1 hs2 hs3 u1 u2 u3 t3' tas n2' news2 F2' N2' R2' ap2' h232' sub2'; (have hzr := mem_t2 N2' R2'.rd); (try k_sweep))
  trivial
example : True := by
  k_with "call ref" => (k_here; (try dsimp only [List.nil_append, List.cons_append, List.append_nil]); (with_reducible show wpAny _ _ (call (Value.ref 188) [Value.ref _]) _ _ _); k_dflt (refine' expr_c hrun (by ktr_rel) (by ktr_rel) (by ktr_rel) (by first | assumption | exact newsTl (by assumption)) (by ktr_rel) (by ktr_rel) (by ktr_rel) (by ktr_rel) R2' ap2' h232' tb (by first | assumption | exact Fr.keep (by assumption) _ _ (by assumption)) hne (Nat.zero_le _) (fun z hz => ⟨sub2' z hz, CC.ex z hz⟩) ?_ ?_); k_whole; intro v4 t4 h4 tk4 tr4 ps4 news4 e4 F4 N4 R4 ap4 tb4 sub4 D4 hq4; (have hzr4 := mem_t2 N4 R4.rd); (try k_sweep); rotate_left; k_whole; intro e0' e5 h5 tk5 ps5 hh5 tb5 r5 F5 u5; rotate_right)
  trivial
example : True := by
  k_with "noteFrame ref" => (k_here; k_dflt (refine' caught_D r5 F5 (by assumption) u5 XB TB ?ex ?q ?_; (case ex => k_is); (case q => first | kts_isx | exact rfl | decide +kernel)); k_whole; intro h6 g6 tk6 oe6 ws6 dx6 kk1 kk2 tt1 tt2 tt tt3 tt4 xx6 att6 n6 T6 F6 hoc6 hod6 hof6 N6 B6 X6 P6; (try k_sweep))
  trivial
example : True := by
  k_with "getAttr ref" => (k_here; (with_reducible show wpAny _ _ (getAttr (Value.ref _) (PySem.Str.ofString "at") _) _ _ _); (rename News _ _ _ _ => NN); (obtain ⟨nm9, qn9, N9, bs9, bm9, hd9, sn9, sub9, ab9, col9, dd9, k09, k19, k29, k39, k59, ni9, hC9, hb9, _⟩ := kts_cls (K := Mine.frag.heap_1 w.params) (C := 72) (T := "BaseException") X6 (by first | kts_isx | exact rfl | decide +kernel)); k_dflt (refine' exc_get (K := Mine.frag.heap_1 w.params) ?k2 (inst_D NN (by k_mem) (by k_mem) hoc6 hod6 hof6) ?k4 ?k5 ?k6 ?k9 (Fr.keep (by assumption) _ _ hC9) hb9 ?_; (case k2 => exact Frag.In.keeps X6 (Fr.keep (by assumption))); (case k4 => k_is); (case k5 => k_is); (case k6 => exact rfl); (case k9 => k_handed)); k_whole)
  trivial
theorem right_none {ps : Array Value} {K q : Nat} (hrun : run ws K .sum 0 0 = some (none, q)) (B : Below A₀ base [] h₀) (F : Fr h₀ L s.heap m) (X : (Mine.frag.heap_1 w.params).In h₀) (N : News h₀ L s.heap ((232, tabObj ps) :: news)) (T : Top p loose mean mg mb h₀) (hk : cs.kind = .function) (hdp : dp ≤ 310) (hun : un ≤ 1000)
    (XB : (Mine.frag.heap_1 w.params).In base) (TB : Top p loose mean mg mb base) (hb : h₀.get? (nat_lit 0) = some (boot_o_0 w.params)) (R : StIn news wl vs n ws) (hne : 0 < ws.length) (C : Calm news) (tb : TabOk lineL colL ps)
    (ret : ∀ h' tk' ps', TabOk lineL colL ps' → Fr h₀ L h' m → News h₀ L h' ((232, tabObj ps') :: news) → Q (.bool true) { s with heap := h', toks := tk' }) :
    wpAny (model PySem.Challenge.rw_pc0133_01.prog w) (ktrTop dp un gd cn cs L a ccd cl []) (call (.ref 509) [.ref wl]) Q E s := by
  revert X; k_fill; intro X
  have hwl1 := R.wl
  have hfw := R.few
  have hln := R.len
  refine wpAny_call ?_
  k_dflt (refine' code_defSX ?k1 ?k2 ?k3 ?k4 ?k5 ?kA ?k6 ?k7 ?k8 ?k9 ?kB ?_ ?cK ?c2 ?c3 ?c4 ?c5; (case kA => exact rfl); (case k2 => exact F); (case k1 => exact B); (case k3 => exact X); (case k4 => exact N); (case k5 => exact T); (case k6 => k_is); (case k7 => k_is); (case k8 => first | k_room | ktr_room); (case k9 => first | exact binds_K (by k_in) rfl (by k_is) rfl rfl rfl | exact BindsTo.of_eq rfl); (case kB => exact locs rfl); (case cK => assumption); (case c2 => exact rfl); (case c3 => exact rfl); (case c4 => exact rfl); (case c5 => decide); k_whole; intro g' L' h' FG' F' N' B' X' T'; (try dsimp only); (try k_fold))
  k_extra "steps"
  all_goals first
    | (cases e4; done)
    | (rw [min_right hln hne]; (rename News _ _ _ _ => NN); exact ret _ _ ps5 tb5 (by k_asm) (fun z hz => NN z (by
        cases hz with
        | head => k_mem
        | tail _ hz => (repeat (first | exact List.mem_append_right _ hz | apply List.Mem.tail)))))
    | trace_state
end
end Mine
end
section
open PySem PySem.W PyProof.Rows PySem.Spec PySem.Calls
set_option Elab.async false
namespace Mine
set_option maxRecDepth 100000
set_option maxHeartbeats 0
section
variable {w : World} {p : Program} {loose : List Str} {mean : ExcName → Option Value} {mg mb : Str → Option Value} {dp un : Nat} {gd : Option (List Code)} {cn : Str} {cs : Scope} {a : Addr} {ccd : Value} {cl : List (Str × Addr)} {A₀ : Around} {base h₀ : Heap} {L : Addr} {m : Str → Option Value}
  {news : List (Addr × Obj)} {s : Shared} {Q E : Value → Shared → Prop} {wl : Addr} {vs : List Value} {n : Nat} {ws : List Wd} {ps : Array Value}
/-- the law's question: both readings agree -/
theorem right_c (B : Below A₀ base [] h₀) (F : Fr h₀ L s.heap m) (X : (Mine.frag.heap_1 w.params).In h₀) (N : News h₀ L s.heap ((232, tabObj ps) :: news)) (T : Top p loose mean mg mb h₀) (hk : cs.kind = .function) (hdp : dp ≤ 310) (hun : un ≤ 1000)
    (XB : (Mine.frag.heap_1 w.params).In base) (TB : Top p loose mean mg mb base) (hb : h₀.get? (nat_lit 0) = some (boot_o_0 w.params)) (R : StIn news wl vs n ws) (hne : 0 < ws.length) (C : Calm news) (tb : TabOk lineL colL ps)
    (ret : ∀ h' tk' ps', TabOk lineL colL ps' → Fr h₀ L h' m → News h₀ L h' ((232, tabObj ps') :: news) → Q (.bool true) { s with heap := h', toks := tk' }) :
    wpAny (model PySem.Challenge.rw_pc0133_01.prog w) (ktrTop dp un gd cn cs L a ccd cl []) (call (.ref 509) [.ref wl]) Q E s := by
  obtain ⟨r, q, hrun, _⟩ := run_ends ws (8 * (ws.length - 0) + Lv.sum.rank) .sum 0 0 (Nat.zero_le _) (Nat.le_refl _)
  cases r with
  | none => exact right_none hrun B F X N T hk hdp hun XB TB hb R hne C tb ret
  | some tr => exact right_some hrun B F X N T hk hdp hun XB TB hb R hne C tb ret
end
end Mine
end
section
open PySem PySem.W PyProof.Rows PySem.Spec PySem.Calls
set_option Elab.async false
example : True := by k_with_none; trivial
example : True := by
  k_with "fold" => (refine folds ?_; intro qk ek)
  k_with "at0" => (with_reducible show At _ _ _ _ (.Name _ _) _ _ _); exact at_L (by rfl) (by rfl) (by decide) (by k_asm) (Eq.refl (some _))
  k_with "atF" => k_dflt first | k_extra "at0" | ((with_reducible show At _ _ _ _ (.Name _ _) _ _ _); exact at_K (by rfl) (by rfl) (by decide) (by k_asm) (by k_asm) (by k_is) (by k_asm)) | fail
  k_with "atB" => k_dflt first | ((with_reducible show At _ _ _ _ (.Name _ _) _ _ _); exact at_B (by rfl) (by rfl) (by decide) (by k_asm) (by k_asm) (by k_is) (by boot_fast) (by decide) (by k_asm)) | fail
  k_with "at" => k_dflt first | ((with_reducible show At _ _ _ _ (.Constant _ _ _) _ _ _); first | exact at_S | exact at_I | exact at_N) | k_extra "at0" | ((with_reducible show At _ _ _ _ (.Attribute (.Name _ _) _ _) _ _ _); exact at_attr (by k_asm) (by k_asm) (by k_extra "at0") (by k_inst) (by k_get) (by k_is) (by k_is) (by k_is) (by k_is) (by first | exact rfl | k_handed)) | ((with_reducible show At _ _ _ _ (.BinOp _ .Add _ _) _ _ _); exact at_add (by k_extra "at") (by k_extra "at")) | k_extra "atF" | fail
  k_with "spl" => k_dflt first | exact spl0 | ((with_reducible show Spl _ _ _ _ [_] _ _ _); exact spl1 (by k_extra "at")) | ((with_reducible show Spl _ _ _ _ [_, _] _ _ _); exact spl2 (by k_extra "at") (by k_extra "at")) | ((with_reducible show Spl _ _ _ _ (_ :: _) _ _ _); exact splC (by k_extra "at") (by k_extra "spl")) | fail
  k_with "eval Call Attribute" => with_reducible (k_here; show wpAny _ _ (eval (.Call (.Attribute _ _ _) _ [] _) _) _ _ _; first | refine mcall (by k_extra "spl") (by k_dflt exact rfl) (by k_dflt k_asm) (by k_dflt k_asm) (by k_extra "at") (by k_dflt k_inst) (by k_get) (by k_is) (by k_is) (by k_is) (by k_is) (by k_dflt exact rfl) ?_ | fail)
  k_with "eval Call" => first | with_reducible (k_here; show wpAny _ _ (eval (.Call (.Name _ _) _ [] _) _) _ _ _; first | refine fcall (by k_extra "spl") (by k_dflt exact rfl) (by k_dflt k_asm) (by k_dflt k_asm) (by k_extra "atF") (by k_is) (by k_dflt exact rfl) ?_ | ((first | show wpAny _ _ (eval (.Call (.Name (Str.ofString "len") _) _ _ _) _) _ _ _ | show wpAny _ _ (eval (.Call (.Name (Str.ofString "min") _) _ _ _) _) _ _ _); refine bcall (by k_extra "spl") (by k_extra "atB") (by k_dflt exact rfl) ?_) | fail) | (k_here; k_dflt (refine Call_ ?_)) | fail
  k_with "spliced" => first | with_reducible (k_here; first | refine spl_use (by k_extra "spl") ?_ | fail) | (k_dflt (first | refine spliced_more ?_ | refine spliced_none ?_)) | fail
  k_with "eval Subscript" => with_reducible (k_here; show wpAny _ _ (eval (.Subscript _ _ _) _) _ _ _; first | refine sub_at (by k_extra "at") (by k_extra "at") ?_ | fail)
  k_with "eval BinOp" => with_reducible (k_here; show wpAny _ _ (eval (.BinOp _ _ _ _) _) _ _ _; first | refine at_use (by k_extra "at") ?_ | refine bin_at (by k_extra "at") (by k_extra "at") ?_ | fail)
  k_with "isTrue Compare" => with_reducible (k_here; show wpAny _ _ (PySem.isTrue (.Compare _ [_] [_] _) _ _) _ _ _; first | refine cmpT_at (by k_dflt rfl) (by k_extra "at") (by k_extra "at") ?_ | refine cmpT_atL (by k_dflt rfl) (by k_extra "at") ?_ | fail)
  k_with "eval Compare" => with_reducible (k_here; show wpAny _ _ (eval (.Compare _ [_] [_] _) _) _ _ _; first | refine cmp_at (by k_dflt rfl) (by k_extra "at") (by k_extra "at") ?_ | fail)
  k_with "eval Attribute Name" => with_reducible (k_here; first | refine at_use (by k_extra "at") ?_ | fail)
  k_with "eval Name" => with_reducible (k_here; first | refine at_use (by k_extra "at") ?_ | fail)
  k_with "itemAt" => (k_here; (with_reducible show wpAny _ _ (subscriptTail _ _ (Value.ref _) (Value.int _ _)) _ _ _); with_reducible first | refine item_litK (by with_unfolding_all is_list) (by k_dflt decide) (by k_dflt decide) (by with_unfolding_all rfl) ?_ (by with_unfolding_all rfl) | refine item_tupleT (by k_dflt exact News.isTup (by k_asm) (by k_mem)) (by k_dflt decide) (by k_dflt decide) (by k_dflt rfl) (by k_dflt rfl) ?_ | fail); k_whole
  k_with "turned" => (k_here; k_dflt (refine kba_turn (value' := PySem.Expr.Name (PySem.Str.ofString "_") ⟨0, 0, 0, 0⟩) (fun _ => rfl) ?_))
  k_with "subscriptTail Name Constant ref int" => first | k_extra "subscriptTail" | k_extra "itemAt" | fail
  k_with "subscriptTail Subscript Constant ref int" => k_extra "itemAt"
  k_with "subscriptTail Name" => k_extra "subscriptTail"
  k_with "subscriptTail Call" => k_extra "turned"
  k_with "subscriptTail BinOp" => k_extra "turned"
  k_with "seq" => first | (k_here; k_gentoks) | ((with_reducible refine wpAny_execs_cons ?_); try dsimp only) | fail
  k_with "execs cons Assign cons" => k_extra "seq"
  k_with "execs cons If cons" => k_extra "seq"
  k_with "execs cons Return nil" => k_extra "seq"
  k_with "exec Assign cons" => (with_reducible show wpAny _ _ (exec (.Assign [.Name _ _] _ _) _) _ _ _); k_dflt (refine wpAny_Assign_Name ?_)
  k_with "exec If" => refine wpAny_If ?_
  k_with "eval Call Name cons nil" => k_extra "eval Call"
  k_with "isTrue Compare Name cons cons" => k_extra "isTrue Compare"
  k_with "truthy bool false" => refine wpAny_truthy_bool ?_
  k_with "truthy bool" => refine wpAny_truthy_bool ?_
  k_with "room" => first | exact lb0 (j := 1) (by assumption) rfl | exact lb2 (j := 1) (by assumption) (by assumption) rfl
  k_with "om" => first | (k_whole; first | exact lb0 (by assumption) rfl | exact lb1 (by assumption) rfl | exact lb2 (by assumption) (by assumption) rfl | exact lb4 (by assumption) rfl | exact Nat.le_of_succ_le (by assumption)) | omega
  k_with "steps" => repeat' (first | ((with_reducible show wpAny _ _ (exec _ _) _ _ _); (fail_if_success (fail_if_success k_fold)); k_extra "fold") | ((fail_if_success (fail_if_success k_unfold)); first | dsimp only [qk] | dsimp only [ek] | (k_unfold; (try dsimp only))) | (k_end; wrow_close) | walk1 | (dsimp only; walk1) | (leave1; walk_say "STEP leave1"; try dsimp only) | fail)
  trivial
namespace Mine
set_option maxRecDepth 100000
set_option maxHeartbeats 0
abbrev PenD (sl : Addr) (a b c : Int) (t1 t2 t3 : Tok) (cap : Nat) : Obj := listOf #[.ref sl, .int a t1, .int b t2, .int c t3] cap
theorem pow_any {prog : Program} {w : World} {A : Around} {E Q : Value → Shared → Prop} {s : Shared} {a b : Int} {t u : Tok} (h0 : 0 ≤ b) (h1 : b ≤ 40) (h2 : a = 10) (h : ∀ v : Int, Q (.int v s.toks) { s with toks := s.toks + 1 }) : wpAny (model prog w) A (binaryOp .Pow (.int a t) (.int b u)) Q E s := pow_int_small h0 (by omega) (by subst h2; decide) (h _)
theorem fm_lo {a b : Int} (h : 0 < b) : 0 ≤ a.fmod b := Int.fmod_nonneg_of_pos a h
theorem fm_hi {a b : Int} (h : 0 < b) : a.fmod b < b := Int.fmod_lt_of_pos a h
section
variable {w : World} {p : Program} {loose : List Str} {mean : ExcName → Option Value} {mg mb : Str → Option Value} {dp un : Nat} {gd : Option (List Code)} {cn : Str} {cs : Scope} {a : Addr} {ccd : Value} {cl : List (Str × Addr)} {outer : List Env} {A₀ : Around} {base h₀ : Heap} {L : Addr} {m : Str → Option Value}
  {news : List (Addr × Obj)} {s : Shared} {Q E : Value → Shared → Prop} {pen sl : Addr} {vs : List Value} {ns : List Int} {n cap : Nat} {keep : List (Addr × Obj)}
example : True := by
  k_with "binaryOp Pow int int" => (k_here; (with_reducible refine pow_any (by decide) (by decide) (by decide) ?_); intro bigp)
  trivial
example : True := by
  k_with "binaryOp Add int int" => (k_here; (with_reducible refine add_int ?_); (try dsimp only))
  trivial
example : True := by
  k_with "binaryOp Mod int int" => (k_here; (with_reducible refine mod_int' (by first | (with_reducible assumption) | omega) ?_); (try dsimp only))
  trivial
example : True := by
  k_with "binaryOp FloorDiv int int" => (k_here; (with_reducible refine floordiv_int (by first | (with_reducible assumption) | decide) ?_ (Or.inl (PyProof.noPylong_small (by first | (with_reducible assumption) | decide)))))
  trivial
example : True := by
  k_with "ite" => (k_closed; with_reducible first | refine ite_pos (by decide) ?_ | refine ite_neg (by decide) ?_)
  trivial
example : True := by
  k_with "updF" => exact UpdF.head (by with_reducible assumption)
  trivial
example : True := by
  k_with "upd" => exact updF_upd (UpdF.head (by with_reducible assumption)) _
  trivial
example : True := by
  k_with "setItem ref int" => (k_here; k_dflt (refine' ki_set ?F ?N ?a ?b ?e ?U ?_; (case F => k_asm); (case N => k_asm); (case U => k_upd); (case a => decide); (case b => decide); (case e => rfl)); intro h' F' N'; (try dsimp only [List.nil_append, List.cons_append] at N'); (try dsimp only))
  trivial
example : True := by
  k_with "mem" => first | ktr_member | (refine List.mem_cons_of_mem _ ?_; k_mem)
  trivial
example : True := by
  k_with "nws" => first | k_asm | exact newsTl (by assumption) | exact newsTl (newsTl (by assumption)) | exact newsTl2 (by assumption)
  trivial
theorem draw_c {aa bb cc many : Int} {t1 t2 t3 t4 : Tok} (B : Below A₀ base outer h₀) (F : Fr h₀ L s.heap m) (X : (Mine.frag.heap_1 w.params).In h₀) (N : News h₀ L s.heap ((pen, PenD sl aa bb cc t1 t2 t3 cap) :: news)) (T : Top p loose mean mg mb h₀) (hk : cs.kind = .function) (hdp : dp ≤ 600) (hun : un ≤ 8000)
    (hsl : (sl, listOf vs.toArray n) ∈ news) (hns : IntsAre vs ns) (hlen : vs.length ≤ 63) (ap : ∀ p ∈ news, p.1 ≠ pen) (ha : 0 ≤ aa) (ha2 : aa ≤ 1000) (hc1 : 0 ≤ cc) (hc2 : cc ≤ 1009) (hm : 0 < many) (hm2 : many ≤ 1000)
    (ret : ∀ h' tk' k tk aa' bb' t1' t2', 0 ≤ aa' → aa' ≤ aa + 1 → 0 ≤ k → k < many → Fr h₀ L h' m → News h₀ L h' ((pen, PenD sl aa' bb' cc t1' t2' t3 cap) :: news) → Q (.int k tk) { s with heap := h', toks := tk' }) :
    wpAny (model PySem.Challenge.rw_pc0133_01.prog w) (ktrTop dp un gd cn cs L a ccd cl outer) (call (.ref 460) [.ref pen, .int many t4]) Q E s := by
  revert X; k_fill; intro X
  have hz := mem_tail N hsl
  have hm0 : many ≠ 0 := by omega
  have hm3 : many.natAbs < 1073741824 := by omega
  refine wpAny_call ?_
  k_dflt k_enter
  k_extra "steps"
  all_goals first
    | exact ret _ _ _ _ _ _ _ _ ha (by omega) (fm_lo hm) (fm_hi hm) (by k_asm) (by k_asm)
    | exact ret _ _ _ _ _ _ _ _ (by omega) (Int.le_refl _) (fm_lo hm) (fm_hi hm) (by k_asm) (by k_asm)
    | trace_state
end
end Mine
end
section
open PySem PySem.W PyProof.Rows PySem.Spec PySem.Calls
set_option Elab.async false
example : True := by k_with_none; trivial
example : True := by
  k_with "fold" => (refine folds ?_; intro qk ek)
  k_with "at0" => (with_reducible show At _ _ _ _ (.Name _ _) _ _ _); exact at_L (by rfl) (by rfl) (by decide) (by k_asm) (Eq.refl (some _))
  k_with "atF" => k_dflt first | k_extra "at0" | ((with_reducible show At _ _ _ _ (.Name _ _) _ _ _); exact at_K (by rfl) (by rfl) (by decide) (by k_asm) (by k_asm) (by k_is) (by k_asm)) | fail
  k_with "atB" => k_dflt first | ((with_reducible show At _ _ _ _ (.Name _ _) _ _ _); exact at_B (by rfl) (by rfl) (by decide) (by k_asm) (by k_asm) (by k_is) (by boot_fast) (by decide) (by k_asm)) | fail
  k_with "at" => k_dflt first | ((with_reducible show At _ _ _ _ (.Constant _ _ _) _ _ _); first | exact at_S | exact at_I | exact at_N) | k_extra "at0" | ((with_reducible show At _ _ _ _ (.Attribute (.Name _ _) _ _) _ _ _); exact at_attr (by k_asm) (by k_asm) (by k_extra "at0") (by k_inst) (by k_get) (by k_is) (by k_is) (by k_is) (by k_is) (by first | exact rfl | k_handed)) | ((with_reducible show At _ _ _ _ (.BinOp _ .Add _ _) _ _ _); exact at_add (by k_extra "at") (by k_extra "at")) | k_extra "atF" | fail
  k_with "spl" => k_dflt first | exact spl0 | ((with_reducible show Spl _ _ _ _ [_] _ _ _); exact spl1 (by k_extra "at")) | ((with_reducible show Spl _ _ _ _ [_, _] _ _ _); exact spl2 (by k_extra "at") (by k_extra "at")) | ((with_reducible show Spl _ _ _ _ (_ :: _) _ _ _); exact splC (by k_extra "at") (by k_extra "spl")) | fail
  k_with "eval Call Attribute" => with_reducible (k_here; show wpAny _ _ (eval (.Call (.Attribute _ _ _) _ [] _) _) _ _ _; first | refine mcall (by k_extra "spl") (by k_dflt exact rfl) (by k_dflt k_asm) (by k_dflt k_asm) (by k_extra "at") (by k_dflt k_inst) (by k_get) (by k_is) (by k_is) (by k_is) (by k_is) (by k_dflt exact rfl) ?_ | fail)
  k_with "eval Call" => first | with_reducible (k_here; show wpAny _ _ (eval (.Call (.Name _ _) _ [] _) _) _ _ _; first | refine fcall (by k_extra "spl") (by k_dflt exact rfl) (by k_dflt k_asm) (by k_dflt k_asm) (by k_extra "atF") (by k_is) (by k_dflt exact rfl) ?_ | ((first | show wpAny _ _ (eval (.Call (.Name (Str.ofString "len") _) _ _ _) _) _ _ _ | show wpAny _ _ (eval (.Call (.Name (Str.ofString "min") _) _ _ _) _) _ _ _); refine bcall (by k_extra "spl") (by k_extra "atB") (by k_dflt exact rfl) ?_) | fail) | (k_here; k_dflt (refine Call_ ?_)) | fail
  k_with "spliced" => first | with_reducible (k_here; first | refine spl_use (by k_extra "spl") ?_ | fail) | (k_dflt (first | refine spliced_more ?_ | refine spliced_none ?_)) | fail
  k_with "eval Subscript" => with_reducible (k_here; show wpAny _ _ (eval (.Subscript _ _ _) _) _ _ _; first | refine sub_at (by k_extra "at") (by k_extra "at") ?_ | fail)
  k_with "eval BinOp" => with_reducible (k_here; show wpAny _ _ (eval (.BinOp _ _ _ _) _) _ _ _; first | refine at_use (by k_extra "at") ?_ | refine bin_at (by k_extra "at") (by k_extra "at") ?_ | fail)
  k_with "isTrue Compare" => with_reducible (k_here; show wpAny _ _ (PySem.isTrue (.Compare _ [_] [_] _) _ _) _ _ _; first | refine cmpT_at (by k_dflt rfl) (by k_extra "at") (by k_extra "at") ?_ | refine cmpT_atL (by k_dflt rfl) (by k_extra "at") ?_ | fail)
  k_with "eval Compare" => with_reducible (k_here; show wpAny _ _ (eval (.Compare _ [_] [_] _) _) _ _ _; first | refine cmp_at (by k_dflt rfl) (by k_extra "at") (by k_extra "at") ?_ | fail)
  k_with "eval Attribute Name" => with_reducible (k_here; first | refine at_use (by k_extra "at") ?_ | fail)
  k_with "eval Name" => with_reducible (k_here; first | refine at_use (by k_extra "at") ?_ | fail)
  k_with "itemAt" => (k_here; (with_reducible show wpAny _ _ (subscriptTail _ _ (Value.ref _) (Value.int _ _)) _ _ _); with_reducible first | refine item_litK (by with_unfolding_all is_list) (by k_dflt decide) (by k_dflt decide) (by with_unfolding_all rfl) ?_ (by with_unfolding_all rfl) | refine item_tupleT (by k_dflt exact News.isTup (by k_asm) (by k_mem)) (by k_dflt decide) (by k_dflt decide) (by k_dflt rfl) (by k_dflt rfl) ?_ | fail); k_whole
  k_with "turned" => (k_here; k_dflt (refine kba_turn (value' := PySem.Expr.Name (PySem.Str.ofString "_") ⟨0, 0, 0, 0⟩) (fun _ => rfl) ?_))
  k_with "subscriptTail Name Constant ref int" => first | k_extra "subscriptTail" | k_extra "itemAt" | fail
  k_with "subscriptTail Subscript Constant ref int" => k_extra "itemAt"
  k_with "subscriptTail Name" => k_extra "subscriptTail"
  k_with "subscriptTail Call" => k_extra "turned"
  k_with "subscriptTail BinOp" => k_extra "turned"
  k_with "seq" => first | (k_here; k_gentoks) | ((with_reducible refine wpAny_execs_cons ?_); try dsimp only) | fail
  k_with "execs cons Assign cons" => k_extra "seq"
  k_with "execs cons If cons" => k_extra "seq"
  k_with "execs cons Return nil" => k_extra "seq"
  k_with "exec Assign cons" => (with_reducible show wpAny _ _ (exec (.Assign [.Name _ _] _ _) _) _ _ _); k_dflt (refine wpAny_Assign_Name ?_)
  k_with "exec If" => refine wpAny_If ?_
  k_with "eval Call Name cons nil" => k_extra "eval Call"
  k_with "isTrue Compare Name cons cons" => k_extra "isTrue Compare"
  k_with "truthy bool false" => refine wpAny_truthy_bool ?_
  k_with "truthy bool" => refine wpAny_truthy_bool ?_
  k_with "room" => first | exact lb0 (j := 1) (by assumption) rfl | exact lb2 (j := 1) (by assumption) (by assumption) rfl
  k_with "om" => first | (k_whole; first | exact lb0 (by assumption) rfl | exact lb1 (by assumption) rfl | exact lb2 (by assumption) (by assumption) rfl | exact lb4 (by assumption) rfl | exact Nat.le_of_succ_le (by assumption)) | omega
  k_with "steps" => repeat' (first | ((with_reducible show wpAny _ _ (exec _ _) _ _ _); (fail_if_success (fail_if_success k_fold)); k_extra "fold") | ((fail_if_success (fail_if_success k_unfold)); first | dsimp only [qk] | dsimp only [ek] | (k_unfold; (try dsimp only))) | (k_end; wrow_close) | walk1 | (dsimp only; walk1) | (leave1; walk_say "STEP leave1"; try dsimp only) | fail)
  trivial
namespace Mine
set_option maxRecDepth 100000
set_option maxHeartbeats 0
abbrev WIn (vs : List Value) (ws : List Wd) : Prop := StrsAre vs (ws.map Wd.txt)
theorem WIn.take {vs : List Value} {ws : List Wd} (h : WIn vs ws) (k : Nat) : WIn (vs.take k) (ws.take k) := by
  have := StrsAre.take' h k; rwa [← List.map_take] at this
theorem WIn.drop {vs : List Value} {ws : List Wd} (h : WIn vs ws) (k : Nat) : WIn (vs.drop k) (ws.drop k) := by
  have := StrsAre.drop' h k; rwa [← List.map_drop] at this
theorem WIn.app {vs vs' : List Value} {ws ws' : List Wd} (h : WIn vs ws) (h' : WIn vs' ws') : WIn (vs ++ vs') (ws ++ ws') := by
  have := StrsAre.append' h h'; rwa [← List.map_append] at this
def menuWd (k : Nat) : Wd := [Wd.n5, .n25, .lp, .rp, .pl, .mi, .st, .sl, .pw, .th, .n5].getD k .n5
theorem menu_txt {k : Nat} (h : k < 11) : [Str.ofString "5", Str.ofString "0.25", Str.ofString "(", Str.ofString ")", Str.ofString "+", Str.ofString "-", Str.ofString "*", Str.ofString "/", Str.ofString "**", Str.ofString "THEN", Str.ofString "5"].getD (k : Int).toNat Str.empty = (menuWd k).txt := by
  rw [Int.toNat_natCast]
  match k, h with
  | 0, _ | 1, _ | 2, _ | 3, _ | 4, _ | 5, _ | 6, _ | 7, _ | 8, _ | 9, _ | 10, _ => rfl
theorem WIn.menu {k : Nat} {t : Tok} (h : k < 11) : WIn [Value.str ([Str.ofString "5", Str.ofString "0.25", Str.ofString "(", Str.ofString ")", Str.ofString "+", Str.ofString "-", Str.ofString "*", Str.ofString "/", Str.ofString "**", Str.ofString "THEN", Str.ofString "5"].getD (k : Int).toNat Str.empty) t] [menuWd k] := by
  rw [menu_txt h]; exact .cons _ t .nil
theorem WIn.two {wd : Wd} {t : Tok} : WIn [Value.str wd.txt t, Value.str wd.txt t] [wd, wd] := .cons _ _ (.cons _ _ .nil)
section
variable {prog : Program} {w : World} {A : Around} {E Q : Value → Shared → Prop} {s : Shared} {h₀ : Heap} {L l : Addr} {m : Str → Option Value} {news : List (Addr × Obj)} {vs : List Value} {ws : List Wd} {n k : Nat} {u : Tok} {value slice : PySem.Expr}
theorem word_at (N : News h₀ L s.heap news) (hm : (l, listOf vs.toArray n) ∈ news) (R : StrsAre vs (ws.map Wd.txt)) (hf : ws.length ≤ 60) (hk : k < ws.length) (h : ∀ wd t, Q (.str (Wd.txt wd) t) s)
    (hs : subscripted slice false (.ref l) (.int (k : Int) u) = operate [.ref l, .int (k : Int) u] (getItem (.ref l) (.int (k : Int) u)) := by with_unfolding_all rfl) (hg : ∀ r, letTemporaryGo value (.ref l) r = pure () := by intro _; with_unfolding_all rfl) :
    wpAny (model prog w) A (subscriptTail value slice (.ref l) (.int (k : Int) u)) Q E s := by
  obtain ⟨t, e⟩ := R.get k (ws[k]).txt (by rw [List.getElem?_map, List.getElem?_eq_getElem hk]; rfl)
  exact subscriptTail_builtin (News.isList N hm).typeIs slot_list_getitem.lookup (wpAny_getItem_list (News.isList N hm) (by omega) (by omega) (x := .str (ws[k]).txt t) (by rw [List.getElem?_toArray]; exact e) (h _ t)) hs hg
end
theorem bo1 {n m c : Nat} (q : n = m) (h : m ≤ 60) (e : Nat.ble 60 c = true) : n ≤ c := q ▸ Nat.le_trans h (Nat.le_of_ble_eq_true e)
theorem bo2 {n m k c : Nat} (q : n = m) (h : m ≤ 60) (e : Nat.ble 60 c = true) : n - k ≤ c := Nat.le_trans (Nat.sub_le _ _) (bo1 q h e)
theorem bo3 {n m k c : Nat} (q : n = m) (h : m ≤ 60) (e : Nat.ble 60 c = true) : min k n ≤ c := Nat.le_trans (Nat.min_le_right _ _) (bo1 q h e)
theorem bo4 {n m k j c : Nat} (q : n = m) (h : m ≤ 60) (e : Nat.ble (60 + j) c = true) : min k n + j ≤ c := Nat.le_trans (Nat.add_le_add_right (Nat.le_trans (Nat.min_le_right _ _) (q ▸ h)) j) (Nat.le_of_ble_eq_true e)
theorem bo5 {a b j : Nat} : 0 < a + (j + 1) + b := Nat.lt_of_lt_of_le (Nat.succ_pos (a + j)) (Nat.le_add_right _ _)
theorem bo6 {k n m : Nat} (q : n = m) (h1 : (1 : Int) < (n : Int)) (h : (k : Int) < (n : Int)) : 0 < min k m + (m - (k + 1)) := by omega
theorem bo7 {k n m : Nat} (q : n = m) (h : (k : Int) < (n : Int)) : min k m + (0 + 1 + 1) + (m - (k + 1)) ≤ m + 1 := by omega
theorem bo8 {k n m : Nat} (q : n = m) (h : (k : Int) < (n : Int)) : min k m + (0 + 1) + (m - (k + 1)) ≤ m + 1 := Nat.le_trans (Nat.add_le_add_right (Nat.add_le_add_left (Nat.le_succ (0 + 1)) _) _) (bo7 q h)
theorem bo9 {k n m : Nat} (q : n = m) (h : (k : Int) < (n : Int)) : min k m + (m - (k + 1)) ≤ m + 1 := Nat.le_trans (Nat.add_le_add_right (Nat.le_add_right _ (0 + 1 + 1)) _) (bo7 q h)
theorem boi {a b c : Int} (h : a ≤ b) (h2 : b ≤ c) : a ≤ c := Int.le_trans h h2
section
variable {w : World} {p : Program} {loose : List Str} {mean : ExcName → Option Value} {mg mb : Str → Option Value} {dp un : Nat} {gd : Option (List Code)} {cn : Str} {cs : Scope} {a : Addr} {ccd : Value} {cl : List (Str × Addr)} {outer : List Env} {A₀ : Around} {base h₀ : Heap} {L : Addr} {m : Str → Option Value}
  {news : List (Addr × Obj)} {s : Shared} {Q E : Value → Shared → Prop} {pen sl wl : Addr} {vs vz : List Value} {ns : List Int} {n nz cap : Nat} {ws : List Wd} {keep : List (Addr × Obj)}
example : True := by
  k_with "om" => first | (k_whole; first | exact bo1 hln hfw rfl | exact bo2 hln hfw rfl | exact bo3 hln hfw rfl | exact bo4 hln hfw rfl | exact bo5 | exact bo8 hln (by assumption) | exact bo7 hln (by assumption) | exact bo9 hln (by assumption) | exact bo6 hln (by assumption) (by assumption)) | omega
  trivial
example : True := by
  k_with "upd" => exact updF_upd (by assumption) _
  trivial
example : True := by
  k_with "rel" => first | (with_reducible assumption) | k_extra "om" | exact rfl | (refine RdIn.mono (by with_reducible assumption) ?_; (intro _ hz; (repeat' (first | exact hz | refine List.Mem.tail _ ?_)))) | exact UpdF.head (by with_reducible assumption) | (refine Kept.mono (by with_reducible assumption) ?_; (intro _ hz; first | exact hz | exact .tail _ hz | exact .tail _ (.tail _ hz) | exact .tail _ (.tail _ (.tail _ hz)) | exact .tail _ (.tail _ (.tail _ (.tail _ hz))) | exact .tail _ (.tail _ (.tail _ (.tail _ (.tail _ hz)))) | exact .tail _ (.tail _ (.tail _ (.tail _ (.tail _ (.tail _ hz))))))) | ((try dsimp only [ktrTop, Around.deeper]); k_extra "om") | assumption | k_mem | k_updF
  trivial
example : True := by
  k_with "mem" => first | ktr_member | (refine List.mem_cons_of_mem _ ?_; k_mem)
  trivial
example : True := by
  k_with "nws" => first | k_asm | exact newsTl (by assumption) | exact newsTl (newsTl (by assumption)) | exact newsTl2 (by assumption)
  trivial
example : True := by
  k_with "ite" => (k_closed; with_reducible first | refine ite_pos (by decide) ?_ | refine ite_neg (by decide) ?_)
  trivial
example : True := by
  k_with "call ref" => (k_here; (try dsimp only [List.nil_append, List.cons_append, List.append_nil]); (with_reducible show wpAny _ _ (call (Value.ref 460) [Value.ref _, Value.int _ _]) _ _ _); k_dflt (first | refine' draw_c (by ktr_rel) (by ktr_rel) (by ktr_rel) (swap3 (by with_reducible assumption)) (by ktr_rel) (by ktr_rel) (by ktr_rel) (by ktr_rel) (List.Mem.tail _ hsl) hns hvl (apC ap (by assumption) (by first | exact List.Mem.head _ | exact List.Mem.tail _ (List.Mem.head _))) (by k_extra "om") (by k_extra "om") hc1 hc2 (by k_extra "om") (by k_extra "om") ?_ | refine' draw_c (by ktr_rel) (by ktr_rel) (by ktr_rel) (newsSwap (by with_reducible assumption)) (by ktr_rel) (by ktr_rel) (by ktr_rel) (by ktr_rel) (List.Mem.tail _ hsl) hns hvl (apC ap (by assumption) (by first | exact List.Mem.head _ | exact List.Mem.tail _ (List.Mem.head _))) (by k_extra "om") (by k_extra "om") hc1 hc2 (by k_extra "om") (by k_extra "om") ?_ | refine' draw_c (by ktr_rel) (by ktr_rel) (by ktr_rel) (by first | (with_reducible assumption) | exact newsTl (by with_reducible assumption) | exact newsTl (newsTl (by with_reducible assumption))) (by ktr_rel) (by ktr_rel) (by ktr_rel) (by ktr_rel) hsl hns hvl ap (by k_extra "om") (by k_extra "om") hc1 hc2 (by k_extra "om") (by k_extra "om") ?_); k_whole; intro h' tk' k' tkk' aa' bb' t1' t2' ha' ha2' hk0' hk1' F' N'; (obtain ⟨kn, hkn⟩ := Int.eq_ofNat_of_zero_le hk0'; subst hkn); (try k_sweep))
  trivial
example : True := by
  k_with "binaryOp Mult ref int" => (k_here; (try dsimp only); (with_reducible show wpAny _ _ (binaryOp Operator.Mult (Value.ref _) (Value.int _ _)) _ _ _); k_dflt (refine' KMa.mul (by k_asm) (by k_asm) (by is_list) (by decide) (by decide) (by (simp only [List.length_cons, List.length_nil]; decide)) (by (simp only [Int.reduceToNat, List.replicate_succ, List.replicate_zero, List.flatten_cons, List.flatten_nil, List.cons_append, List.nil_append, List.append_nil]; first | done | exact rfl)) ?_); intro D' h' F' N' l1; clear l1; (try dsimp only))
  trivial
example : True := by
  k_with "subscriptTail" => (k_here; (with_reducible show wpAny _ _ (subscriptTail _ (PySem.Expr.Name _ _) (Value.ref _) (Value.int _ _)) _ _ _); (with_reducible rename StIn _ _ _ _ _ => R'); k_dflt (refine' word_at (by k_asm) (by k_mem) (StIn.are R') (StIn.few R') (by k_extra "om") ?_); intro wd' t'; (try dsimp only))
  trivial
example : True := by
  k_with "subscriptTail" => (k_here; (first | (with_reducible show wpAny _ _ (subscriptTail _ (PySem.Expr.Slice none (some _) none _) _ _) _ _ _) | (with_reducible show wpAny _ _ (subscriptTail _ (PySem.Expr.Slice (some _) none none _) _ _) _ _ _)); (try simp only [castS]); (with_reducible rename Fr _ _ _ _ => F'); (with_reducible rename News _ _ _ _ => N'); (first | (with_unfolding_all refine' cut_to (s := ⟨_, _, _, _, _⟩) F' N' (by k_mem) (by k_extra "om") ?_) | (with_unfolding_all refine' cut_from (s := ⟨_, _, _, _, _⟩) F' N' (by k_mem) (by k_extra "om") ?_)); clear F' N'; intro D' h' hD' F' N')
  trivial
example : True := by
  k_with "binaryOp Add ref ref" => (k_here; (with_reducible show wpAny _ _ (binaryOp _ (Value.ref _) (Value.ref _)) _ _ _); k_dflt (refine' glue (by k_asm) (by k_asm) (by k_mem) (by k_mem) (by first | (simp only [List.length_append, List.length_take, List.length_drop, List.length_cons, List.length_nil]; done) | (simp only [List.length_append, List.length_take, List.length_drop, List.length_cons, List.length_nil]; k_extra "om") | k_extra "om" | decide) (by first | (simp only [List.length_append, List.length_take, List.length_drop, List.length_cons, List.length_nil]; done) | (simp only [List.length_append, List.length_take, List.length_drop, List.length_cons, List.length_nil]; k_extra "om") | k_extra "om" | decide) ?_); intro D' h' hG' F' N')
  trivial
theorem bent_c {aa bb cc : Int} {t1 t2 t3 : Tok} (B : Below A₀ base outer h₀) (F : Fr h₀ L s.heap m) (X : (Mine.frag.heap_1 w.params).In h₀) (N : News h₀ L s.heap ((pen, PenD sl aa bb cc t1 t2 t3 cap) :: news)) (T : Top p loose mean mg mb h₀) (hk : cs.kind = .function) (hdp : dp ≤ 500) (hun : un ≤ 7000)
    (hsl : (sl, listOf vz.toArray nz) ∈ news) (hns : IntsAre vz ns) (hvl : vz.length ≤ 63) (ap : ∀ p ∈ news, p.1 ≠ pen) (ha : 0 ≤ aa) (ha2 : aa ≤ 900) (hc1 : 0 ≤ cc) (hc2 : cc ≤ 1009) (R : StIn news wl vs n ws) (hne : 0 < ws.length)
    (ret : ∀ h' tk' rl vs' n' (ws' : List Wd) aa' bb' t1' t2', Fr h₀ L h' m → News h₀ L h' ((pen, PenD sl aa' bb' cc t1' t2' t3 cap) :: (rl, listOf vs'.toArray n') :: news) → (pen < rl ∧ ∀ p ∈ news, p.1 < rl) → WIn vs' ws' → 0 ≤ aa' → aa' ≤ aa + 3 → 0 < ws'.length → ws'.length ≤ ws.length + 1 → Q (.ref rl) { s with heap := h', toks := tk' }) :
    wpAny (model PySem.Challenge.rw_pc0133_01.prog w) (ktrTop dp un gd cn cs L a ccd cl outer) (call (.ref 516) [.ref pen, .ref wl]) Q E s := by
  revert X; k_fill; intro X
  have hz := mem_tail N hsl
  have hwl := mem_tail N R.wl
  have hwl1 := R.wl
  have hln := R.len
  have hfw := R.few
  have hare : WIn vs ws := R.are
  refine wpAny_call ?_
  k_dflt k_enter
  k_extra "steps"
  all_goals (with_reducible rename WIn _ _ => hare; with_reducible rename Fr _ _ _ _ => F'; with_reducible rename News _ _ _ _ => N'; rename (∀ p ∈ (_ : List (Addr × Obj)), p.1 < (_ : Nat)) => hG'; first
    | exact ret _ _ _ _ 0 _ _ _ _ _ F' (newsPR N' (by with_reducible (repeat' (first | exact List.mem_cons_self | refine List.mem_cons_of_mem _ ?_))) (by with_reducible (repeat' (first | exact List.mem_cons_self | refine List.mem_cons_of_mem _ ?_))) (by intro p hp; with_reducible (repeat' (first | exact hp | refine List.mem_cons_of_mem _ ?_)))) ⟨hG' (_, _) (by with_reducible (repeat' (first | exact List.mem_cons_self | refine List.mem_cons_of_mem _ ?_))), fun p hp => hG' p (by with_reducible (repeat' (first | exact hp | refine List.mem_cons_of_mem _ ?_)))⟩ (WIn.app (WIn.take hare _) (WIn.drop hare _)) (by k_extra "om") (by k_extra "om") (by simp only [List.length_append, List.length_take, List.length_drop, List.length_cons, List.length_nil]; k_extra "om") (by simp only [List.length_append, List.length_take, List.length_drop, List.length_cons, List.length_nil]; k_extra "om")
    | exact ret _ _ _ _ 0 _ _ _ _ _ F' (newsPR N' (by with_reducible (repeat' (first | exact List.mem_cons_self | refine List.mem_cons_of_mem _ ?_))) (by with_reducible (repeat' (first | exact List.mem_cons_self | refine List.mem_cons_of_mem _ ?_))) (by intro p hp; with_reducible (repeat' (first | exact hp | refine List.mem_cons_of_mem _ ?_)))) ⟨hG' (_, _) (by with_reducible (repeat' (first | exact List.mem_cons_self | refine List.mem_cons_of_mem _ ?_))), fun p hp => hG' p (by with_reducible (repeat' (first | exact hp | refine List.mem_cons_of_mem _ ?_)))⟩ (WIn.app (WIn.app (WIn.take hare _) (WIn.menu (by k_extra "om"))) (WIn.drop hare _)) (by k_extra "om") (by k_extra "om") (by simp only [List.length_append, List.length_take, List.length_drop, List.length_cons, List.length_nil]; k_extra "om") (by simp only [List.length_append, List.length_take, List.length_drop, List.length_cons, List.length_nil]; k_extra "om")
    | exact ret _ _ _ _ 0 _ _ _ _ _ F' (newsPR N' (by with_reducible (repeat' (first | exact List.mem_cons_self | refine List.mem_cons_of_mem _ ?_))) (by with_reducible (repeat' (first | exact List.mem_cons_self | refine List.mem_cons_of_mem _ ?_))) (by intro p hp; with_reducible (repeat' (first | exact hp | refine List.mem_cons_of_mem _ ?_)))) ⟨hG' (_, _) (by with_reducible (repeat' (first | exact List.mem_cons_self | refine List.mem_cons_of_mem _ ?_))), fun p hp => hG' p (by with_reducible (repeat' (first | exact hp | refine List.mem_cons_of_mem _ ?_)))⟩ (WIn.app (WIn.app (WIn.take hare _) WIn.two) (WIn.drop hare _)) (by k_extra "om") (by k_extra "om") (by simp only [List.length_append, List.length_take, List.length_drop, List.length_cons, List.length_nil]; k_extra "om") (by simp only [List.length_append, List.length_take, List.length_drop, List.length_cons, List.length_nil]; k_extra "om"))
end
end Mine
end
section
open PySem PySem.W PyProof.Rows PySem.Spec PySem.Calls
set_option Elab.async false
example : True := by k_with_none; trivial
example : True := by
  k_with "fold" => (refine folds ?_; intro qk ek)
  k_with "at0" => (with_reducible show At _ _ _ _ (.Name _ _) _ _ _); exact at_L (by rfl) (by rfl) (by decide) (by k_asm) (Eq.refl (some _))
  k_with "atF" => k_dflt first | k_extra "at0" | ((with_reducible show At _ _ _ _ (.Name _ _) _ _ _); exact at_K (by rfl) (by rfl) (by decide) (by k_asm) (by k_asm) (by k_is) (by k_asm)) | fail
  k_with "atB" => k_dflt first | ((with_reducible show At _ _ _ _ (.Name _ _) _ _ _); exact at_B (by rfl) (by rfl) (by decide) (by k_asm) (by k_asm) (by k_is) (by boot_fast) (by decide) (by k_asm)) | fail
  k_with "at" => k_dflt first | ((with_reducible show At _ _ _ _ (.Constant _ _ _) _ _ _); first | exact at_S | exact at_I | exact at_N) | k_extra "at0" | ((with_reducible show At _ _ _ _ (.Attribute (.Name _ _) _ _) _ _ _); exact at_attr (by k_asm) (by k_asm) (by k_extra "at0") (by k_inst) (by k_get) (by k_is) (by k_is) (by k_is) (by k_is) (by first | exact rfl | k_handed)) | ((with_reducible show At _ _ _ _ (.BinOp _ .Add _ _) _ _ _); exact at_add (by k_extra "at") (by k_extra "at")) | k_extra "atF" | fail
  k_with "spl" => k_dflt first | exact spl0 | ((with_reducible show Spl _ _ _ _ [_] _ _ _); exact spl1 (by k_extra "at")) | ((with_reducible show Spl _ _ _ _ [_, _] _ _ _); exact spl2 (by k_extra "at") (by k_extra "at")) | ((with_reducible show Spl _ _ _ _ (_ :: _) _ _ _); exact splC (by k_extra "at") (by k_extra "spl")) | fail
  k_with "eval Call Attribute" => with_reducible (k_here; show wpAny _ _ (eval (.Call (.Attribute _ _ _) _ [] _) _) _ _ _; first | refine mcall (by k_extra "spl") (by k_dflt exact rfl) (by k_dflt k_asm) (by k_dflt k_asm) (by k_extra "at") (by k_dflt k_inst) (by k_get) (by k_is) (by k_is) (by k_is) (by k_is) (by k_dflt exact rfl) ?_ | fail)
  k_with "eval Call" => first | with_reducible (k_here; show wpAny _ _ (eval (.Call (.Name _ _) _ [] _) _) _ _ _; first | refine fcall (by k_extra "spl") (by k_dflt exact rfl) (by k_dflt k_asm) (by k_dflt k_asm) (by k_extra "atF") (by k_is) (by k_dflt exact rfl) ?_ | ((first | show wpAny _ _ (eval (.Call (.Name (Str.ofString "len") _) _ _ _) _) _ _ _ | show wpAny _ _ (eval (.Call (.Name (Str.ofString "min") _) _ _ _) _) _ _ _); refine bcall (by k_extra "spl") (by k_extra "atB") (by k_dflt exact rfl) ?_) | fail) | (k_here; k_dflt (refine Call_ ?_)) | fail
  k_with "spliced" => first | with_reducible (k_here; first | refine spl_use (by k_extra "spl") ?_ | fail) | (k_dflt (first | refine spliced_more ?_ | refine spliced_none ?_)) | fail
  k_with "eval Subscript" => with_reducible (k_here; show wpAny _ _ (eval (.Subscript _ _ _) _) _ _ _; first | refine sub_at (by k_extra "at") (by k_extra "at") ?_ | fail)
  k_with "eval BinOp" => with_reducible (k_here; show wpAny _ _ (eval (.BinOp _ _ _ _) _) _ _ _; first | refine at_use (by k_extra "at") ?_ | refine bin_at (by k_extra "at") (by k_extra "at") ?_ | fail)
  k_with "isTrue Compare" => with_reducible (k_here; show wpAny _ _ (PySem.isTrue (.Compare _ [_] [_] _) _ _) _ _ _; first | refine cmpT_at (by k_dflt rfl) (by k_extra "at") (by k_extra "at") ?_ | refine cmpT_atL (by k_dflt rfl) (by k_extra "at") ?_ | fail)
  k_with "eval Compare" => with_reducible (k_here; show wpAny _ _ (eval (.Compare _ [_] [_] _) _) _ _ _; first | refine cmp_at (by k_dflt rfl) (by k_extra "at") (by k_extra "at") ?_ | fail)
  k_with "eval Attribute Name" => with_reducible (k_here; first | refine at_use (by k_extra "at") ?_ | fail)
  k_with "eval Name" => with_reducible (k_here; first | refine at_use (by k_extra "at") ?_ | fail)
  k_with "itemAt" => (k_here; (with_reducible show wpAny _ _ (subscriptTail _ _ (Value.ref _) (Value.int _ _)) _ _ _); with_reducible first | refine item_litK (by with_unfolding_all is_list) (by k_dflt decide) (by k_dflt decide) (by with_unfolding_all rfl) ?_ (by with_unfolding_all rfl) | refine item_tupleT (by k_dflt exact News.isTup (by k_asm) (by k_mem)) (by k_dflt decide) (by k_dflt decide) (by k_dflt rfl) (by k_dflt rfl) ?_ | fail); k_whole
  k_with "turned" => (k_here; k_dflt (refine kba_turn (value' := PySem.Expr.Name (PySem.Str.ofString "_") ⟨0, 0, 0, 0⟩) (fun _ => rfl) ?_))
  k_with "subscriptTail Name Constant ref int" => first | k_extra "subscriptTail" | k_extra "itemAt" | fail
  k_with "subscriptTail Subscript Constant ref int" => k_extra "itemAt"
  k_with "subscriptTail Name" => k_extra "subscriptTail"
  k_with "subscriptTail Call" => k_extra "turned"
  k_with "subscriptTail BinOp" => k_extra "turned"
  k_with "seq" => first | (k_here; k_gentoks) | ((with_reducible refine wpAny_execs_cons ?_); try dsimp only) | fail
  k_with "execs cons Assign cons" => k_extra "seq"
  k_with "execs cons If cons" => k_extra "seq"
  k_with "execs cons Return nil" => k_extra "seq"
  k_with "exec Assign cons" => (with_reducible show wpAny _ _ (exec (.Assign [.Name _ _] _ _) _) _ _ _); k_dflt (refine wpAny_Assign_Name ?_)
  k_with "exec If" => refine wpAny_If ?_
  k_with "eval Call Name cons nil" => k_extra "eval Call"
  k_with "isTrue Compare Name cons cons" => k_extra "isTrue Compare"
  k_with "truthy bool false" => refine wpAny_truthy_bool ?_
  k_with "truthy bool" => refine wpAny_truthy_bool ?_
  k_with "room" => first | exact lb0 (j := 1) (by assumption) rfl | exact lb2 (j := 1) (by assumption) (by assumption) rfl
  k_with "om" => first | (k_whole; first | exact lb0 (by assumption) rfl | exact lb1 (by assumption) rfl | exact lb2 (by assumption) (by assumption) rfl | exact lb4 (by assumption) rfl | exact Nat.le_of_succ_le (by assumption)) | omega
  k_with "steps" => repeat' (first | ((with_reducible show wpAny _ _ (exec _ _) _ _ _); (fail_if_success (fail_if_success k_fold)); k_extra "fold") | ((fail_if_success (fail_if_success k_unfold)); first | dsimp only [qk] | dsimp only [ek] | (k_unfold; (try dsimp only))) | (k_end; wrow_close) | walk1 | (dsimp only; walk1) | (leave1; walk_say "STEP leave1"; try dsimp only) | fail)
  trivial
namespace Mine
set_option maxRecDepth 100000
set_option maxHeartbeats 0
theorem allLt_cons {d : Nat} {p : Addr × Obj} {l : List (Addr × Obj)} (h : @LT.lt Nat _ p.1 d) (t : AllLt d l) : AllLt d (p :: l) := ⟨h, t⟩
theorem pen_cc {x : Int} : 0 ≤ x.fmod 1009 ∧ x.fmod 1009 ≤ 1009 := ⟨Int.fmod_nonneg_of_pos _ (by decide), by have := Int.fmod_lt_of_pos x (b := 1009) (by decide); omega⟩
section
variable {prog : Program} {w : World} {A : Around} {E Q : Value → Shared → Prop} {s : Shared} {h₀ : Heap} {L l : Addr} {m : Str → Option Value} {news : List (Addr × Obj)} {vs : List Value} {ns : List Int} {n k : Nat} {u : Tok} {value slice : PySem.Expr}
theorem cut_arg {h₁ : Heap} (F : Fr h₀ L s.heap m) (N : News h₀ L s.heap news) (hl : h₁.IsList l vs.toArray) (kp : ∀ b o, h₁.get? b = some o → h₀.get? b = some o) (hv : vs.length ≤ 63)
    (h : ∀ D h', Fr h₀ L h' m → News h₀ L h' ((D, listOf vs.toArray 0) :: news) → Q (.ref D) { s with heap := h' })
    (hs : subscripted slice false (.ref l) (.ref s.heap.objs.size) = operate [.ref s.heap.objs.size, .ref l] (getItem (.ref l) (.ref s.heap.objs.size)) := by with_unfolding_all rfl)
    (ht : ∀ r, letTemporaryGo value (.ref l) r = pure () := by intro _; with_unfolding_all rfl) :
    wpAny (model prog w) A (subscriptTail value slice (.ref l) (.ref s.heap.objs.size)) Q E { s with heap := s.heap.push { cls := .type "slice", data := .fields #[.none, .int (63 : Int) u, .none] } } := by
  have hl' : s.heap.IsList l vs.toArray := let ⟨o, e, r⟩ := hl; ⟨o, F.keep _ _ (kp _ _ e), r⟩
  refine slice_list F N hl' .none (.int (63 : Int) u) (fun h' F' N' => ?_) hs ht (by rw [List.size_toArray]; exact Nat.le_trans hv (by decide))
  have e := slicePick_upto' vs.toArray 63
  rw [show ((63 : Nat) : Int) = 63 from rfl] at e
  rw [e] at N'
  rw [show vs.toArray.toList.take 63 = vs from List.take_of_length_le hv] at N'
  exact h _ h' F' N'
theorem list_c (F : Fr h₀ L s.heap m) (N : News h₀ L s.heap news) (hb : (l, listOf vs.toArray n) ∈ news) (hv : vs.length ≤ 63)
    (h : ∀ D c h', Fr h₀ L h' m → News h₀ L h' ((D, listOf vs.toArray c) :: news) → Q (.ref D) { s with heap := h' }) : wpAny (model prog w) A (call (.type "list") [.ref l]) Q E s :=
  kup_listOf F N hb (by simp) (fun D c h' F' N' _ => h D c h' F' N') (by simp; exact Nat.le_trans hv (by decide))
theorem sum_c (F : Fr h₀ L s.heap m) (N : News h₀ L s.heap news) (hh : A.handled = none) (hb : (l, listOf vs.toArray n) ∈ news) (hi : IntsAre vs ns)
    (h : ∀ h' tk t', Fr h₀ L h' m → News h₀ L h' news → Q (.int ns.sum t') { s with heap := h', toks := tk }) : wpAny (model prog w) A (call (.builtin "sum") [.ref l]) Q E s :=
  LSm.sum_ints F N hh (N.isList hb) hi h
end
section
variable {w : World} {p : Program} {loose : List Str} {mean : ExcName → Option Value} {mg mb : Str → Option Value} {dp un : Nat} {gd : Option (List Code)} {cn : Str} {cs : Scope} {a : Addr} {ccd : Value} {cl : List (Str × Addr)} {outer : List Env} {A₀ : Around} {base h₀ : Heap} {L : Addr} {m : Str → Option Value}
  {news : List (Addr × Obj)} {s : Shared} {Q E : Value → Shared → Prop} {al : Addr} {vz : List Value} {ns : List Int} {n nz cap : Nat} {ws : List Wd} {keep : List (Addr × Obj)}
example : True := by
  k_with "upd" => exact updF_upd (by assumption) _
  trivial
example : True := by
  k_with "rel" => first | (with_reducible assumption) | exact dle1 (by with_reducible assumption) rfl | k_extra "om" | exact rfl | (refine RdIn.mono (by with_reducible assumption) ?_; (intro _ hz; (repeat' (first | exact hz | refine List.Mem.tail _ ?_)))) | exact UpdF.head (by with_reducible assumption) | (refine Kept.mono (by with_reducible assumption) ?_; (intro _ hz; first | exact hz | exact .tail _ hz | exact .tail _ (.tail _ hz) | exact .tail _ (.tail _ (.tail _ hz)) | exact .tail _ (.tail _ (.tail _ (.tail _ hz))) | exact .tail _ (.tail _ (.tail _ (.tail _ (.tail _ hz)))) | exact .tail _ (.tail _ (.tail _ (.tail _ (.tail _ (.tail _ hz))))))) | ((try dsimp only [ktrTop, Around.deeper]); k_extra "om") | assumption | k_mem | k_updF
  trivial
example : True := by
  k_with "mem" => first | ktr_member | (refine List.mem_cons_of_mem _ ?_; k_mem)
  trivial
example : True := by
  k_with "ite" => (k_closed; with_reducible first | refine ite_pos (by decide) ?_ | refine ite_neg (by decide) ?_)
  trivial
example : True := by
  k_with "subscriptTail" => (k_here; (with_reducible show wpAny _ _ (subscriptTail _ (PySem.Expr.Slice none (some _) none _) _ _) _ _ _); (with_reducible rename Fr _ _ _ _ => F'); (with_reducible rename News _ _ _ _ => N'); (with_reducible rename Heap.IsList _ _ _ => hl'); (with_unfolding_all refine' cut_arg (s := ⟨_, _, _, _, _⟩) F' N' hl' ?kp ?hv ?_; (case kp => first | exact fun _ _ e => e | (refine Fr.keep (L := ?_) (m := ?_) ?_; rotate_left 2; assumption)); (case hv => with_reducible assumption)); clear F' N'; intro D' h' F' N')
  trivial
example : True := by
  k_with "call type:list" => (k_here; (with_reducible show wpAny _ _ (call (Value.type "list") [Value.ref _]) _ _ _); k_dflt (refine' list_c ?F ?N ?b ?v ?_; (case F => k_asm); (case N => k_asm); (case b => k_mem); (case v => with_reducible assumption)); intro D' c' h' F' N'; (try dsimp only))
  trivial
example : True := by
  k_with "call builtin:sum" => (k_here; (with_reducible show wpAny _ _ (call (Value.builtin "sum") [Value.ref _]) _ _ _); k_dflt (refine' sum_c ?F ?N ?h ?b ?v ?_; (case F => k_asm); (case N => k_asm); (case h => exact rfl); (case b => k_mem); (case v => with_reducible assumption)); intro h' tk' t' F' N'; (try dsimp only))
  trivial
example : True := by
  k_with "binaryOp Mod int int" => (k_here; (with_reducible refine mod_int' (by first | (with_reducible assumption) | omega) ?_); (try dsimp only))
  trivial
theorem pen_c (B : Below A₀ base outer h₀) (F : Fr h₀ L s.heap m) (X : (Mine.frag.heap_1 w.params).In h₀) (N : News h₀ L s.heap news) (T : Top p loose mean mg mb h₀) (hk : cs.kind = .function) (hdp : dp ≤ 500) (hun : un ≤ 7000)
    (hal : h₀.IsList al vz.toArray) (hns : IntsAre vz ns) (hvl : vz.length ≤ 63)
    (ret : ∀ h' tk' pen sl nz cap t1 t2 t3 (cc : Int), Fr h₀ L h' m → News h₀ L h' ((pen, PenD sl 0 0 cc t1 t2 t3 cap) :: (sl, listOf vz.toArray nz) :: news) → 0 ≤ cc ∧ cc ≤ 1009 → AllLt pen ((sl, listOf vz.toArray nz) :: news) → Q (.ref pen) { s with heap := h', toks := tk' }) :
    wpAny (model PySem.Challenge.rw_pc0133_01.prog w) (ktrTop dp un gd cn cs L a ccd cl outer) (call (.ref 467) [.ref al]) Q E s := by
  revert X; k_fill; intro X
  refine wpAny_call ?_
  k_dflt k_enter
  k_extra "steps"
  all_goals (with_reducible rename Fr _ _ _ _ => F'; with_reducible rename News _ _ _ _ => N'; (rename _ < _ ∧ _ < _ ∧ _ < _ ∧ AllLt _ _ => l1); exact ret _ _ _ _ _ _ _ _ _ _ F' (newsPR N' (by with_reducible (repeat' (first | exact List.mem_cons_self | refine List.mem_cons_of_mem _ ?_))) (by with_reducible (repeat' (first | exact List.mem_cons_self | refine List.mem_cons_of_mem _ ?_))) (by intro p hp; with_reducible (repeat' (first | exact hp | refine List.mem_cons_of_mem _ ?_)))) pen_cc (allLt_cons (p := (_, _)) l1.2.1 l1.2.2.2))
end
end Mine
end
section
open PySem PySem.W PyProof.Rows PySem.Spec PySem.Calls
set_option Elab.async false
example : True := by k_with_none; trivial
example : True := by
  k_with "fold" => (refine folds ?_; intro qk ek)
  k_with "at0" => (with_reducible show At _ _ _ _ (.Name _ _) _ _ _); exact at_L (by rfl) (by rfl) (by decide) (by k_asm) (Eq.refl (some _))
  k_with "atF" => k_dflt first | k_extra "at0" | ((with_reducible show At _ _ _ _ (.Name _ _) _ _ _); exact at_K (by rfl) (by rfl) (by decide) (by k_asm) (by k_asm) (by k_is) (by k_asm)) | fail
  k_with "atB" => k_dflt first | ((with_reducible show At _ _ _ _ (.Name _ _) _ _ _); exact at_B (by rfl) (by rfl) (by decide) (by k_asm) (by k_asm) (by k_is) (by boot_fast) (by decide) (by k_asm)) | fail
  k_with "at" => k_dflt first | ((with_reducible show At _ _ _ _ (.Constant _ _ _) _ _ _); first | exact at_S | exact at_I | exact at_N) | k_extra "at0" | ((with_reducible show At _ _ _ _ (.Attribute (.Name _ _) _ _) _ _ _); exact at_attr (by k_asm) (by k_asm) (by k_extra "at0") (by k_inst) (by k_get) (by k_is) (by k_is) (by k_is) (by k_is) (by first | exact rfl | k_handed)) | ((with_reducible show At _ _ _ _ (.BinOp _ .Add _ _) _ _ _); exact at_add (by k_extra "at") (by k_extra "at")) | k_extra "atF" | fail
  k_with "spl" => k_dflt first | exact spl0 | ((with_reducible show Spl _ _ _ _ [_] _ _ _); exact spl1 (by k_extra "at")) | ((with_reducible show Spl _ _ _ _ [_, _] _ _ _); exact spl2 (by k_extra "at") (by k_extra "at")) | ((with_reducible show Spl _ _ _ _ (_ :: _) _ _ _); exact splC (by k_extra "at") (by k_extra "spl")) | fail
  k_with "eval Call Attribute" => with_reducible (k_here; show wpAny _ _ (eval (.Call (.Attribute _ _ _) _ [] _) _) _ _ _; first | refine mcall (by k_extra "spl") (by k_dflt exact rfl) (by k_dflt k_asm) (by k_dflt k_asm) (by k_extra "at") (by k_dflt k_inst) (by k_get) (by k_is) (by k_is) (by k_is) (by k_is) (by k_dflt exact rfl) ?_ | fail)
  k_with "eval Call" => first | with_reducible (k_here; show wpAny _ _ (eval (.Call (.Name _ _) _ [] _) _) _ _ _; first | refine fcall (by k_extra "spl") (by k_dflt exact rfl) (by k_dflt k_asm) (by k_dflt k_asm) (by k_extra "atF") (by k_is) (by k_dflt exact rfl) ?_ | ((first | show wpAny _ _ (eval (.Call (.Name (Str.ofString "len") _) _ _ _) _) _ _ _ | show wpAny _ _ (eval (.Call (.Name (Str.ofString "min") _) _ _ _) _) _ _ _); refine bcall (by k_extra "spl") (by k_extra "atB") (by k_dflt exact rfl) ?_) | fail) | (k_here; k_dflt (refine Call_ ?_)) | fail
  k_with "spliced" => first | with_reducible (k_here; first | refine spl_use (by k_extra "spl") ?_ | fail) | (k_dflt (first | refine spliced_more ?_ | refine spliced_none ?_)) | fail
  k_with "eval Subscript" => with_reducible (k_here; show wpAny _ _ (eval (.Subscript _ _ _) _) _ _ _; first | refine sub_at (by k_extra "at") (by k_extra "at") ?_ | fail)
  k_with "eval BinOp" => with_reducible (k_here; show wpAny _ _ (eval (.BinOp _ _ _ _) _) _ _ _; first | refine at_use (by k_extra "at") ?_ | refine bin_at (by k_extra "at") (by k_extra "at") ?_ | fail)
  k_with "isTrue Compare" => with_reducible (k_here; show wpAny _ _ (PySem.isTrue (.Compare _ [_] [_] _) _ _) _ _ _; first | refine cmpT_at (by k_dflt rfl) (by k_extra "at") (by k_extra "at") ?_ | refine cmpT_atL (by k_dflt rfl) (by k_extra "at") ?_ | fail)
  k_with "eval Compare" => with_reducible (k_here; show wpAny _ _ (eval (.Compare _ [_] [_] _) _) _ _ _; first | refine cmp_at (by k_dflt rfl) (by k_extra "at") (by k_extra "at") ?_ | fail)
  k_with "eval Attribute Name" => with_reducible (k_here; first | refine at_use (by k_extra "at") ?_ | fail)
  k_with "eval Name" => with_reducible (k_here; first | refine at_use (by k_extra "at") ?_ | fail)
  k_with "itemAt" => (k_here; (with_reducible show wpAny _ _ (subscriptTail _ _ (Value.ref _) (Value.int _ _)) _ _ _); with_reducible first | refine item_litK (by with_unfolding_all is_list) (by k_dflt decide) (by k_dflt decide) (by with_unfolding_all rfl) ?_ (by with_unfolding_all rfl) | refine item_tupleT (by k_dflt exact News.isTup (by k_asm) (by k_mem)) (by k_dflt decide) (by k_dflt decide) (by k_dflt rfl) (by k_dflt rfl) ?_ | fail); k_whole
  k_with "turned" => (k_here; k_dflt (refine kba_turn (value' := PySem.Expr.Name (PySem.Str.ofString "_") ⟨0, 0, 0, 0⟩) (fun _ => rfl) ?_))
  k_with "subscriptTail Name Constant ref int" => first | k_extra "subscriptTail" | k_extra "itemAt" | fail
  k_with "subscriptTail Subscript Constant ref int" => k_extra "itemAt"
  k_with "subscriptTail Name" => k_extra "subscriptTail"
  k_with "subscriptTail Call" => k_extra "turned"
  k_with "subscriptTail BinOp" => k_extra "turned"
  k_with "seq" => first | (k_here; k_gentoks) | ((with_reducible refine wpAny_execs_cons ?_); try dsimp only) | fail
  k_with "execs cons Assign cons" => k_extra "seq"
  k_with "execs cons If cons" => k_extra "seq"
  k_with "execs cons Return nil" => k_extra "seq"
  k_with "exec Assign cons" => (with_reducible show wpAny _ _ (exec (.Assign [.Name _ _] _ _) _) _ _ _); k_dflt (refine wpAny_Assign_Name ?_)
  k_with "exec If" => refine wpAny_If ?_
  k_with "eval Call Name cons nil" => k_extra "eval Call"
  k_with "isTrue Compare Name cons cons" => k_extra "isTrue Compare"
  k_with "truthy bool false" => refine wpAny_truthy_bool ?_
  k_with "truthy bool" => refine wpAny_truthy_bool ?_
  k_with "room" => first | exact lb0 (j := 1) (by assumption) rfl | exact lb2 (j := 1) (by assumption) (by assumption) rfl
  k_with "om" => first | (k_whole; first | exact lb0 (by assumption) rfl | exact lb1 (by assumption) rfl | exact lb2 (by assumption) (by assumption) rfl | exact lb4 (by assumption) rfl | exact Nat.le_of_succ_le (by assumption)) | omega
  k_with "steps" => repeat' (first | ((with_reducible show wpAny _ _ (exec _ _) _ _ _); (fail_if_success (fail_if_success k_fold)); k_extra "fold") | ((fail_if_success (fail_if_success k_unfold)); first | dsimp only [qk] | dsimp only [ek] | (k_unfold; (try dsimp only))) | (k_end; wrow_close) | walk1 | (dsimp only; walk1) | (leave1; walk_say "STEP leave1"; try dsimp only) | fail)
  trivial
namespace Mine
set_option maxRecDepth 100000
set_option maxHeartbeats 0
section
variable {w : World} {p : Program} {loose : List Str} {mean : ExcName → Option Value} {mg mb : Str → Option Value} {s : Shared} {al : Addr} {vz : List Value} {ns : List Int}
theorem pull1 {h₀ h' : Heap} {L : Addr} {a0 x : Addr × Obj} {l : List (Addr × Obj)} (N : News h₀ L h' (a0 :: x :: l)) : News h₀ L h' (x :: a0 :: l) := fun p hp => N p ((List.perm_middle (a := x) (l₁ := [a0]) (l₂ := l)).mem_iff.mpr hp)
theorem pull2 {h₀ h' : Heap} {L : Addr} {a0 a1 x : Addr × Obj} {l : List (Addr × Obj)} (N : News h₀ L h' (a0 :: a1 :: x :: l)) : News h₀ L h' (x :: a0 :: a1 :: l) := fun p hp => N p ((List.perm_middle (a := x) (l₁ := [a0, a1]) (l₂ := l)).mem_iff.mpr hp)
theorem pull3 {h₀ h' : Heap} {L : Addr} {a0 a1 a2 x : Addr × Obj} {l : List (Addr × Obj)} (N : News h₀ L h' (a0 :: a1 :: a2 :: x :: l)) : News h₀ L h' (x :: a0 :: a1 :: a2 :: l) := fun p hp => N p ((List.perm_middle (a := x) (l₁ := [a0, a1, a2]) (l₂ := l)).mem_iff.mpr hp)
theorem pull4 {h₀ h' : Heap} {L : Addr} {a0 a1 a2 a3 x : Addr × Obj} {l : List (Addr × Obj)} (N : News h₀ L h' (a0 :: a1 :: a2 :: a3 :: x :: l)) : News h₀ L h' (x :: a0 :: a1 :: a2 :: a3 :: l) := fun p hp => N p ((List.perm_middle (a := x) (l₁ := [a0, a1, a2, a3]) (l₂ := l)).mem_iff.mpr hp)
theorem pull5 {h₀ h' : Heap} {L : Addr} {a0 a1 a2 a3 a4 x : Addr × Obj} {l : List (Addr × Obj)} (N : News h₀ L h' (a0 :: a1 :: a2 :: a3 :: a4 :: x :: l)) : News h₀ L h' (x :: a0 :: a1 :: a2 :: a3 :: a4 :: l) := fun p hp => N p ((List.perm_middle (a := x) (l₁ := [a0, a1, a2, a3, a4]) (l₂ := l)).mem_iff.mpr hp)
theorem pull6 {h₀ h' : Heap} {L : Addr} {a0 a1 a2 a3 a4 a5 x : Addr × Obj} {l : List (Addr × Obj)} (N : News h₀ L h' (a0 :: a1 :: a2 :: a3 :: a4 :: a5 :: x :: l)) : News h₀ L h' (x :: a0 :: a1 :: a2 :: a3 :: a4 :: a5 :: l) := fun p hp => N p ((List.perm_middle (a := x) (l₁ := [a0, a1, a2, a3, a4, a5]) (l₂ := l)).mem_iff.mpr hp)
theorem pull7 {h₀ h' : Heap} {L : Addr} {a0 a1 a2 a3 a4 a5 a6 x : Addr × Obj} {l : List (Addr × Obj)} (N : News h₀ L h' (a0 :: a1 :: a2 :: a3 :: a4 :: a5 :: a6 :: x :: l)) : News h₀ L h' (x :: a0 :: a1 :: a2 :: a3 :: a4 :: a5 :: a6 :: l) := fun p hp => N p ((List.perm_middle (a := x) (l₁ := [a0, a1, a2, a3, a4, a5, a6]) (l₂ := l)).mem_iff.mpr hp)
theorem pull8 {h₀ h' : Heap} {L : Addr} {a0 a1 a2 a3 a4 a5 a6 a7 x : Addr × Obj} {l : List (Addr × Obj)} (N : News h₀ L h' (a0 :: a1 :: a2 :: a3 :: a4 :: a5 :: a6 :: a7 :: x :: l)) : News h₀ L h' (x :: a0 :: a1 :: a2 :: a3 :: a4 :: a5 :: a6 :: a7 :: l) := fun p hp => N p ((List.perm_middle (a := x) (l₁ := [a0, a1, a2, a3, a4, a5, a6, a7]) (l₂ := l)).mem_iff.mpr hp)
theorem words_rest {prog : Program} {A : Around} {h₀ : Heap} {L : Addr} {m : Str → Option Value} {env : Env} {elt : PySem.Expr} {x : Str} {scope : Scope} {cl : List (Str × Addr)} {P : Nat → Value → Prop} {Fin : List Value → List (Addr × Obj) → Prop}
    {pen sl : Addr} {cap n : Nat} {cc aa₀ bb₀ : Int} {t3 u1 u2 : Tok} {base : List (Addr × Obj)} (hn : 0 < n ∧ n ≤ 10) (ha₀ : 0 ≤ aa₀ ∧ aa₀ ≤ 1)
    (turn : ∀ aa bb t1 t2 I oI C oC D m₂ h tk ys (E' : Value → Shared → Prop), 0 ≤ aa → aa ≤ 20 → LCg.NsObj oC m₂ → Fr h₀ L h m → News h₀ L h ((I, oI) :: (C, oC) :: (D, LCg.lst ys) :: (pen, PenD sl aa bb cc t1 t2 t3 cap) :: base) → LCg.Off3 I C D ((pen, PenD sl aa bb cc t1 t2 t3 cap) :: base) → ((@Ne Nat I C) ∧ (@Ne Nat I D) ∧ (@Ne Nat C D)) →
      wpAny (model prog w) A (eval elt (compEnvC scope cl C env)) (LCg.CompEnd h₀ L m { s with heap := h, toks := tk } I oI C oC D (LCg.lst ys) (fun _ => True) (fun y news' => ∃ wd t aa' bb' t1' t2', y = .str (Wd.txt wd) t ∧ news' = (pen, PenD sl aa' bb' cc t1' t2' t3 cap) :: base ∧ 0 ≤ aa' ∧ aa' ≤ aa + 1)) E' { s with heap := h, toks := tk })
    (fin : ∀ ys (ws : List Wd) aa bb t1 t2, WIn ys ws → 0 < ws.length → ws.length ≤ 10 → 0 ≤ aa → aa ≤ 11 → Fin ys ((pen, PenD sl aa bb cc t1 t2 t3 cap) :: base)) :
    LCg.CompRest prog w A h₀ L m env elt x scope cl s (fun _ => True) P Fin n 0 [] ((pen, PenD sl aa₀ bb₀ cc u1 u2 t3 cap) :: base) := by
  have key : ∀ (j i : Nat) (ys : List Value) (ws : List Wd) (aa bb : Int) (t1 t2 : Tok), i + j = n → WIn ys ws → ws.length = i → 0 ≤ aa → aa ≤ 1 + (i : Int) → LCg.CompRest prog w A h₀ L m env elt x scope cl s (fun _ => True) P Fin j i ys ((pen, PenD sl aa bb cc t1 t2 t3 cap) :: base) := by
    intro j
    induction j with
    | zero =>
      intro i ys ws aa bb t1 t2 hi hy hl h0 h1
      exact LCg.CompRest.zero (fin ys ws aa bb t1 t2 hy (by omega) (by omega) h0 (by omega))
    | succ j ih =>
      intro i ys ws aa bb t1 t2 hi hy hl h0 h1
      refine LCg.CompRest.succ ?_
      intro v I oI C oC D m₂ h tk E' hv hC hx F N off ne
      refine wpAny_mono (turn aa bb t1 t2 I oI C oC D m₂ h tk ys E' h0 (by omega) hC F N off ne) (fun y s₂ hq => ?_) fun _ _ e => e
      obtain ⟨h', tk', nw, e, F', N', off', hS, wd, t, aa', bb', t1', t2', hy', hn', ha, hb⟩ := hq
      rw [hn'] at N' off'
      refine ⟨h', tk', _, e, F', N', off', trivial, ?_⟩
      rw [hy']
      refine ih (i + 1) _ (ws ++ [wd]) aa' bb' t1' t2' (by omega) (WIn.app hy (.cons _ t .nil)) (by rw [List.length_append, List.length_singleton, hl]) ha (by omega)
  exact key n 0 [] [] _ _ _ _ (by omega) .nil rfl ha₀.1 (by omega)
theorem wend {h₀ h' : Heap} {L I C D : Addr} {m : Str → Option Value} {s₁ : Shared} {oI oC oD : Obj} {all base : List (Addr × Obj)} {tk' : Nat} {pen sl : Addr} {cap k : Nat} {cc aa bb aa' bb' : Int} {t1 t2 t3 t1' t2' t : Tok}
    (F : Fr h₀ L h' m) (N : News h₀ L h' all) (hI : (I, oI) ∈ all) (hC : (C, oC) ∈ all) (hD : (D, oD) ∈ all) (hp : (pen, PenD sl aa' bb' cc t1' t2' t3 cap) ∈ all) (hb : ∀ p ∈ base, p ∈ all)
    (off : LCg.Off3 I C D ((pen, PenD sl aa bb cc t1 t2 t3 cap) :: base)) (hk : k < 11) (h0 : 0 ≤ aa') (h1 : aa' ≤ aa + 1) :
    LCg.CompEnd h₀ L m s₁ I oI C oC D oD (fun _ => True) (fun y news' => ∃ wd t aa' bb' t1' t2', y = .str (Wd.txt wd) t ∧ news' = (pen, PenD sl aa' bb' cc t1' t2' t3 cap) :: base ∧ 0 ≤ aa' ∧ aa' ≤ aa + 1)
      (.str ([Str.ofString "5", Str.ofString "0.25", Str.ofString "(", Str.ofString ")", Str.ofString "+", Str.ofString "-", Str.ofString "*", Str.ofString "/", Str.ofString "**", Str.ofString "THEN", Str.ofString "5"].getD (k : Int).toNat Str.empty) t) { s₁ with heap := h', toks := tk' } :=
  LCg.CompEnd.intro F N ((pen, PenD sl aa' bb' cc t1' t2' t3 cap) :: base) (List.forall_mem_cons.mpr ⟨hI, List.forall_mem_cons.mpr ⟨hC, List.forall_mem_cons.mpr ⟨hD, List.forall_mem_cons.mpr ⟨hp, hb⟩⟩⟩⟩) off trivial
    ⟨menuWd k, t, aa', bb', t1', t2', by rw [menu_txt hk], rfl, h0, h1⟩
theorem WIn.cons {vs : List Value} {ws : List Wd} (wd : Wd) (t : Tok) (h : WIn vs ws) : WIn (.str wd.txt t :: vs) (wd :: ws) := StrsAre.cons _ t h
theorem WIn.rep (wd : Wd) (t : Tok) : ∀ n : Nat, WIn (List.replicate n (.str wd.txt t)) (List.replicate n wd)
  | 0 => .nil
  | n + 1 => WIn.cons wd t (WIn.rep wd t n)
theorem allLt_2 {d pen : Addr} {news : List (Addr × Obj)} (h : pen < d ∧ ∀ p ∈ news, p.1 < d) : @LT.lt Nat _ pen d ∧ AllLt d news := ⟨h.1, allLt_of h.2⟩
theorem noX_ty {o : Obj} {c : String} (h : o.cls = .type c) : NoX o := .inl fun e => by rw [h] at e; cases e
theorem calm_nil : Calm [] := ⟨fun _ h => (by cases h), fun _ h => (by cases h)⟩
theorem calm_cons {p : Addr × Obj} {l : List (Addr × Obj)} (h : p.1 ≠ 232) (h' : NoX p.2) (C : Calm l) : Calm (p :: l) := ⟨List.forall_mem_cons.mpr ⟨h, C.ne⟩, List.forall_mem_cons.mpr ⟨h', C.ex⟩⟩
abbrev wsA : List Wd := [.mi, .lp, .n5, .pl, .n25, .rp, .pw, .n5, .st, .mi, .n5, .sl, .lp, .n5, .mi, .mi, .n25, .rp]
abbrev wsB : List Wd := [.n5, .mi, .mi, .n5, .pw, .n5, .pl, .pl, .lp, .lp, .n5, .rp, .rp]
theorem wo1 {k c : Nat} {i : Int} (h : (k : Int) < i) (e : decide (i = (c : Int)) = true) : k < c := by have := of_decide_eq_true e; rw [this] at h; exact Int.ofNat_lt.mp h
section
variable {prog : Program} {A : Around} {E Q : Value → Shared → Prop} {h₀ : Heap} {L l : Addr} {m : Str → Option Value} {news : List (Addr × Obj)} {n k : Nat} {u : Tok} {value slice : PySem.Expr}
theorem pick2 {a b tup : Addr} {va vb : List Value} {na nb nt : Nat} {pe : Addr × Obj} {rest : List (Addr × Obj)} (N : News h₀ L s.heap (pe :: (tup, { cls := .type "tuple", data := .seq #[.ref a, .ref b] nt }) :: (b, listOf vb.toArray nb) :: (a, listOf va.toArray na) :: rest))
    (hpa : pe.1 ≠ a) (hpb : pe.1 ≠ b) (wa : WIn va wsA) (wb : WIn vb wsB) (hk : k < 2) (h : ∀ D vs n (ws : List Wd), pe.1 ≠ D → News h₀ L s.heap (pe :: (D, listOf vs.toArray n) :: rest) → WIn vs ws → 0 < ws.length → ws.length ≤ 18 → Q (.ref D) s)
    (hs : subscripted slice false (.ref tup) (.int (k : Int) u) = operate [.ref tup, .int (k : Int) u] (getItem (.ref tup) (.int (k : Int) u)) := by with_unfolding_all rfl) (hg : ∀ r, letTemporaryGo value (.ref tup) r = pure () := by intro _; with_unfolding_all rfl) :
    wpAny (model prog w) A (subscriptTail value slice (.ref tup) (.int (k : Int) u)) Q E s := by
  have sub {x : Addr × Obj} (hx : x ∈ (pe :: (tup, { cls := .type "tuple", data := .seq #[.ref a, .ref b] nt }) :: (b, listOf vb.toArray nb) :: (a, listOf va.toArray na) :: rest)) : News h₀ L s.heap (pe :: x :: rest) :=
    List.forall_mem_cons.mpr ⟨N _ (.head _), List.forall_mem_cons.mpr ⟨N _ hx, fun p hp => N p (.tail _ (.tail _ (.tail _ (.tail _ hp))))⟩⟩
  match k, hk with
  | 0, _ => exact item_tupleL (l := [.ref a, .ref b]) (j := 0) (News.isTup N (.tail _ (.head _))) (by decide) (by decide) rfl rfl (h a va na wsA hpa (sub (.tail _ (.tail _ (.tail _ (.head _))))) wa (by decide) (by decide)) hs hg
  | 1, _ => exact item_tupleL (l := [.ref a, .ref b]) (j := 1) (News.isTup N (.tail _ (.head _))) (by decide) (by decide) rfl rfl (h b vb nb wsB hpb (sub (.tail _ (.tail _ (.head _)))) wb (by decide) (by decide)) hs hg
theorem dl1 {α : Type} {x : α} {k : Nat} (h : (k : Int) < 3) : (List.replicate (19 + k) x).length ≤ 70 := by rw [List.length_replicate]; omega
theorem dl2 {α : Type} {x y : α} {k : Nat} (h : (k : Int) < 3) : (List.replicate (19 + k) x ++ [y]).length ≤ 70 := by rw [List.length_append, List.length_replicate, List.length_singleton]; omega
theorem dl3 {α : Type} {x y z : α} {k : Nat} (h : (k : Int) < 3) : (List.replicate (19 + k) x ++ [y] ++ List.replicate (19 + k) z).length ≤ 60 := by rw [List.length_append, List.length_append, List.length_replicate, List.length_replicate, List.length_singleton]; omega
theorem dl4 {α : Type} {x y z : α} {k : Nat} : 0 < (List.replicate (19 + k) x ++ [y] ++ List.replicate (19 + k) z).length := by rw [List.length_append, List.length_append, List.length_singleton]; omega
theorem ile {a b c : Int} (h : a ≤ b) (hc : decide (b ≤ c) = true) : a ≤ c := Int.le_trans h (of_decide_eq_true hc)
theorem nle {a b c : Nat} (h : a ≤ b) (hc : Nat.ble b c = true) : a ≤ c := Nat.le_trans h (Nat.le_of_ble_eq_true hc)
theorem flat_one {α : Type} (x : α) : ∀ n : Nat, (List.replicate n [x]).flatten = List.replicate n x
  | 0 => rfl
  | n + 1 => by rw [List.replicate_succ, List.flatten_cons, flat_one x n, List.replicate_succ]; rfl
theorem reps {x : Value} (F : Fr h₀ L s.heap m) (N : News h₀ L s.heap news) (hm : (l, listOf [x].toArray n) ∈ news) (hk : k < 3)
    (h : ∀ D h', (∀ p ∈ news, p.1 < D) → Fr h₀ L h' m → News h₀ L h' ((D, listOf (List.replicate (19 + k) x).toArray 0) :: news) → Q (.ref D) { s with heap := h' }) :
    wpAny (model prog w) A (binaryOp .Mult (.ref l) (.int (19 + (k : Int)) u)) Q E s :=
  KMa.mul F N (N.isList hm) (by omega) (by omega) (by simp only [List.length_cons, List.length_nil]; omega) (by rw [show (19 + (k : Int)).toNat = 19 + k by omega]; exact flat_one x _) (fun D h' F' N' hl => h D h' hl F' N')
end
theorem enterC {K : Frag} {prog : Program} {A : Around} {R : Result → Shared → Prop} {name : Str} {params : Arguments} {body : List Stmt} {scope : Scope}
    {pm cd doc oc : Value} {od : Option Addr} {osl : Array (Option Value)} {f : Addr} {args : List Value} {binds : List (Str × Value)}
    (X : K.In s.heap) (hlim : s.heap.NoLimit) (hroom : A.depth < recursionLimit) (ho : K.lookup f = some ⟨oc, od, .func (Calls.docDef name params body scope pm cd doc), osl⟩) (hcd : codeIn K cd name = true)
    (hbind : bindArgs (Calls.docDef name params body scope pm cd doc) ⟨args, []⟩ = pure binds)
    (hkind : ∀ x ∈ binds, scope.names.lookup x.1 = some .local ∨ (scope.names.lookup x.1 = some .cell ∧ ((cellsFrom (s.heap.objs.size + 1) scope.names []).lookup x.1).isSome = true))
    (hnd : ((cellsFrom 0 scope.names []).map (·.1)).Nodup)
    (h : ∀ h₁ tk cells, Fr s.heap s.heap.objs.size h₁ (bindL (envOfC name scope s.heap.objs.size f cd).kindOf binds fun _ => none) → News s.heap s.heap.objs.size h₁ cells →
      CellsAre (bindC (envOfC name scope s.heap.objs.size f cd).kindOf binds fun _ => none) (cellsFrom (s.heap.objs.size + 1) scope.names []) cells →
      wpAny (model prog w) (A.deeper (envOfC name scope s.heap.objs.size f cd)) (execs body (envOfC name scope s.heap.objs.size f cd))
        (fun f s' => R (.ok (.ret (match f with | .ret v => v | _ => .none))) s')
        (fun e s' => wpAny (model prog w) (A.deeper (envOfC name scope s.heap.objs.size f cd)) (leaving (envOfC name scope s.heap.objs.size f cd) e)
          (fun _ s'' => R (.error e) s'') (fun e' s'' => R (.error e') s'') s')
        { s with heap := h₁, toks := tk })
    (hco : scope.isCoroutine = false) (hgen : scope.isGenerator = false) (hk : scope.kind = .function) :
    codeAny (model prog w) A (.call (.ref f) ⟨args, []⟩) R s :=
  call_cellsN hroom (X _ _ ho) rfl hlim (codeRec_of X hcd) hbind hkind hnd h hco hgen hk
example : True := by
  k_with "cj" => first | assumption | exact And.left (by assumption) | exact And.left (And.right (by assumption)) | exact And.left (And.right (And.right (by assumption))) | exact And.left (And.right (And.right (And.right (by assumption)))) | exact And.left (And.right (And.right (And.right (And.right (by assumption))))) | exact And.left (And.right (And.right (And.right (And.right (And.right (by assumption)))))) | exact And.left (And.right (And.right (And.right (And.right (And.right (And.right (by assumption))))))) | exact And.left (And.right (And.right (And.right (And.right (And.right (And.right (And.right (by assumption)))))))) | exact And.left (And.right (And.right (And.right (And.right (And.right (And.right (And.right (And.right (by assumption))))))))) | exact And.left (And.right (And.right (And.right (And.right (And.right (And.right (And.right (And.right (And.right (by assumption)))))))))) | exact And.left (And.right (And.right (And.right (And.right (And.right (And.right (And.right (And.right (And.right (And.right (by assumption))))))))))) | exact And.left (And.right (And.right (And.right (And.right (And.right (And.right (And.right (And.right (And.right (And.right (And.right (by assumption)))))))))))) | exact And.left (And.right (And.right (And.right (And.right (And.right (And.right (And.right (And.right (And.right (And.right (And.right (And.right (by assumption))))))))))))) | exact And.right (by assumption) | exact And.right (And.right (by assumption)) | exact And.right (And.right (And.right (by assumption))) | exact And.right (And.right (And.right (And.right (by assumption)))) | exact And.left (And.left (by assumption)) | exact And.left (And.right (And.left (by assumption))) | exact And.right (And.right (And.left (by assumption)))
  k_with "ne1" => k_whole; first | (show _ ≠ _; first | k_extra "cj" | exact Ne.symm (by k_extra "cj") | exact Nat.ne_of_gt (by k_extra "cj") | exact Nat.ne_of_lt (by k_extra "cj")) | (show (_ : Nat) < _; first | k_extra "cj" | exact wo1 (by assumption) rfl)
  k_with "ne" => (refine neN ?_; (try dsimp only); first | k_extra "ne1" | omega)
  k_with "om" => first | k_extra "ne1" | omega
  trivial
example : True := by
  k_with "upd" => exact updF_upd (by assumption) _
  trivial
example : True := by
  k_with "rel" => first | (with_reducible assumption) | k_extra "om" | exact rfl | (exact Nat.le_of_ble_eq_true rfl) | (refine RdIn.mono (by with_reducible assumption) ?_; (intro _ hz; (repeat' (first | exact hz | refine List.Mem.tail _ ?_)))) | exact UpdF.head (by with_reducible assumption) | (refine Kept.mono (by with_reducible assumption) ?_; (intro _ hz; first | exact hz | exact .tail _ hz | exact .tail _ (.tail _ hz) | exact .tail _ (.tail _ (.tail _ hz)) | exact .tail _ (.tail _ (.tail _ (.tail _ hz))) | exact .tail _ (.tail _ (.tail _ (.tail _ (.tail _ hz)))) | exact .tail _ (.tail _ (.tail _ (.tail _ (.tail _ (.tail _ hz))))))) | ((try dsimp only [ktrTop, Around.deeper]); k_extra "om") | assumption | k_mem | k_updF
  trivial
example : True := by
  k_with "mem" => first | ktr_member | (refine List.mem_cons_of_mem _ ?_; k_mem)
  trivial
example : True := by
  k_with "ite" => (k_closed; with_reducible first | refine ite_pos (by decide) ?_ | refine ite_neg (by decide) ?_)
  trivial
example : True := by
  k_with "call ref" => (k_here; (try dsimp only [List.nil_append, List.cons_append, List.append_nil]); (with_reducible show wpAny _ _ (call (Value.ref 467) [Value.ref _]) _ _ _); k_dflt (refine' pen_c (by ktr_rel) (by ktr_rel) (by ktr_rel) (by ktr_rel) (by ktr_rel) (by ktr_rel) (by ktr_rel) (by ktr_rel) (by ktr_rel) (by ktr_rel) (by ktr_rel) ?_); k_whole; intro h' tk' pn' sl' nz' cap' t1' t2' t3' cc' F' N' hcc' hlt'; (obtain ⟨hca', hcb'⟩ := hcc'); (simp only [AllLt] at hlt'); (obtain ⟨hq1', hq2', hq3', -⟩ := hlt'); (try k_sweep))
  trivial
example : True := by
  k_with "call ref" => (k_here; (try dsimp only [List.nil_append, List.cons_append, List.append_nil]); (with_reducible show wpAny _ _ (call (Value.ref 460) [Value.ref _, Value.int _ _]) _ _ _); (with_reducible rename News _ _ _ _ => N9); (try simp only [List.nil_append, List.cons_append, envOfC] at N9); k_dflt (refine' draw_c (by ktr_rel) (by ktr_rel) (by ktr_rel) (by first | (with_reducible assumption) | exact pull1 (by with_reducible assumption) | exact pull2 (by with_reducible assumption) | exact pull3 (by with_reducible assumption) | exact pull4 (by with_reducible assumption) | exact pull5 (by with_reducible assumption) | exact pull6 (by with_reducible assumption) | exact pull7 (by with_reducible assumption) | exact pull8 (by with_reducible assumption)) (by ktr_rel) (by ktr_rel) (by ktr_rel) (by ktr_rel) (by k_mem) (by with_reducible assumption) (by with_reducible assumption) (by (repeat' (first | exact List.forall_mem_nil _ | refine List.forall_mem_cons.mpr ⟨?_, ?_⟩)); all_goals ((try dsimp only); first | (with_reducible assumption) | exact Ne.symm (by with_reducible assumption) | exact Nat.ne_of_lt (by with_reducible assumption) | exact Nat.ne_of_gt (by with_reducible assumption) | exact Ne.symm (And.left (by with_reducible assumption)) | exact Nat.ne_of_gt (And.left (by with_reducible assumption)) | exact ne_of_objs N9 (by with_reducible (repeat' (first | exact List.mem_cons_self | refine List.mem_cons_of_mem _ ?_))) (by with_reducible (repeat' (first | exact List.mem_cons_self | refine List.mem_cons_of_mem _ ?_))) (fun e9 => by have e9 := congrArg Obj.cls e9; injection e9 with e9; exact absurd e9 (by decide)) | ((show ¬ @Eq Nat _ _); k_extra "om"))) (by first | (with_reducible assumption) | decide | exact ile (by with_reducible assumption) rfl | exact And.left (by with_reducible assumption) | exact And.right (by with_reducible assumption) | k_extra "om") (by first | (with_reducible assumption) | decide | exact ile (by with_reducible assumption) rfl | exact And.left (by with_reducible assumption) | exact And.right (by with_reducible assumption) | k_extra "om") (by first | (with_reducible assumption) | decide | exact ile (by with_reducible assumption) rfl | exact And.left (by with_reducible assumption) | exact And.right (by with_reducible assumption) | k_extra "om") (by first | (with_reducible assumption) | decide | exact ile (by with_reducible assumption) rfl | exact And.left (by with_reducible assumption) | exact And.right (by with_reducible assumption) | k_extra "om") (by first | (with_reducible assumption) | decide | exact ile (by with_reducible assumption) rfl | exact And.left (by with_reducible assumption) | exact And.right (by with_reducible assumption) | k_extra "om") (by first | (with_reducible assumption) | decide | exact ile (by with_reducible assumption) rfl | exact And.left (by with_reducible assumption) | exact And.right (by with_reducible assumption) | k_extra "om") ?_); k_whole; intro h' tk' k' tkk' aa' bb' t1' t2' ha' ha2' hk0' hk1' F' N'; (obtain ⟨kn, hkn⟩ := Int.eq_ofNat_of_zero_le hk0'; subst hkn); (have hb2' := Int.le_trans ha2' (Int.add_le_add_right (by first | exact Int.le_refl 0 | (with_reducible assumption)) 1)); (try k_sweep))
  trivial
example : True := by
  k_with "CompSrc" => (k_here; (with_reducible rename News _ _ _ _ => N9); (try simp only [List.nil_append, List.cons_append, envOfC] at N9); k_dflt (refine LCg.CompSrc.range (by rfl) (by k_asm) (by k_asm) (by assumption) (small_one (by k_extra "om") (by k_extra "om") (by k_extra "om") (by k_extra "om")) (rangeSize_nat _ _) (by rw [PySem.sizeLine_eq]; k_extra "om") ?_); intro g'; refine' words_rest ?hn ?ha ?turn ?fin; (case hn => k_extra "om"); (case ha => k_extra "om"); (case' turn => intro aa' bb' t1' t2' I' oI' C' oC' D' m' h' tk' ys' E' haa' haa2' hC' F' N' off' ne'; have offK' := off'; simp only [LCg.Off3, and_true] at offK'); (case' fin => intro ys' ws' aa' bb' t1' t2' hy' hl' hl2' haa' haa2'))
  trivial
example : True := by
  k_with "CompEnd" => ((with_reducible rename News _ _ _ _ => N9); (try simp only [List.nil_append, List.cons_append, envOfC] at N9); (with_reducible rename Fr _ _ _ _ => F9); (with_reducible rename LCg.Off3 _ _ _ _ => off9); k_dflt (refine wend F9 N9 (by with_reducible (repeat' (first | exact List.mem_cons_self | refine List.mem_cons_of_mem _ ?_))) (by with_reducible (repeat' (first | exact List.mem_cons_self | refine List.mem_cons_of_mem _ ?_))) (by with_reducible (repeat' (first | exact List.mem_cons_self | refine List.mem_cons_of_mem _ ?_))) (by with_reducible (repeat' (first | exact List.mem_cons_self | refine List.mem_cons_of_mem _ ?_))) (by intro p9 hp9; simp only [List.mem_cons] at hp9 ⊢; simp only [hp9, or_true, true_or]; done) off9 (by k_extra "om") (by first | (with_reducible assumption) | k_extra "om") (by first | (with_reducible assumption) | k_extra "om")))
  trivial
example : True := by
  k_with "call ref" => (k_here; (try dsimp only [List.nil_append, List.cons_append, List.append_nil]); (with_reducible show wpAny _ _ (call (Value.ref 509) [Value.ref _]) _ _ _); (with_reducible rename News _ _ _ _ => N9); (try simp only [List.nil_append, List.cons_append, envOfC] at N9); k_dflt (refine' right_c (by ktr_rel) (by ktr_rel) (by ktr_rel) (by first | (with_reducible assumption) | exact pull1 (by with_reducible assumption) | exact pull2 (by with_reducible assumption) | exact pull3 (by with_reducible assumption) | exact pull4 (by with_reducible assumption) | exact pull5 (by with_reducible assumption) | exact pull6 (by with_reducible assumption) | exact pull7 (by with_reducible assumption) | exact pull8 (by with_reducible assumption)) (by ktr_rel) (by ktr_rel) (by ktr_rel) (by ktr_rel) (by ktr_rel) (by ktr_rel) (by ktr_rel) ⟨(by with_reducible (repeat' (first | exact List.mem_cons_self | refine List.mem_cons_of_mem _ ?_))), (by first | (with_reducible assumption) | exact WIn.app (WIn.app (WIn.rep .lp _ _) (WIn.cons (ws := []) .n5 _ StrsAre.nil)) (WIn.rep .rp _ _)), (by first | exact nle (by with_reducible assumption) rfl | exact dl3 (by with_reducible assumption) | k_extra "om")⟩ (by first | (with_reducible assumption) | exact dl4 | k_extra "om") (by (repeat' (first | exact calm_nil | refine calm_cons ?_ ?_ ?_)); all_goals (first | (exact Or.inr ⟨_, by with_reducible assumption⟩) | (exact noX_ty rfl) | ((try dsimp only); first | (with_reducible assumption) | exact Ne.symm (by with_reducible assumption) | exact Nat.ne_of_lt (by with_reducible assumption) | exact Nat.ne_of_gt (by with_reducible assumption) | ((show ¬ @Eq Nat _ _); k_extra "om") | exact ne_of_objs N9 (by with_reducible (repeat' (first | exact List.mem_cons_self | refine List.mem_cons_of_mem _ ?_))) (by with_reducible (repeat' (first | exact List.mem_cons_self | refine List.mem_cons_of_mem _ ?_))) (fun e9 => by have e9 := congrArg Obj.data e9; cases e9)))) (by first | (with_reducible assumption) | exact Or.inl rfl) ?_); k_whole; intro h' tk' ps' tb' F' N'; (try k_sweep))
  trivial
example : True := by
  k_with "call ref" => (k_here; (try dsimp only [List.nil_append, List.cons_append, List.append_nil]); (with_reducible show wpAny _ _ (call (Value.ref 516) [Value.ref _, Value.ref _]) _ _ _); (with_reducible rename News _ _ _ _ => N9); (try simp only [List.nil_append, List.cons_append, envOfC] at N9); k_dflt (refine' bent_c (by ktr_rel) (by ktr_rel) (by ktr_rel) (by first | (with_reducible assumption) | exact pull1 (by with_reducible assumption) | exact pull2 (by with_reducible assumption) | exact pull3 (by with_reducible assumption) | exact pull4 (by with_reducible assumption) | exact pull5 (by with_reducible assumption) | exact pull6 (by with_reducible assumption) | exact pull7 (by with_reducible assumption) | exact pull8 (by with_reducible assumption)) (by ktr_rel) (by ktr_rel) (by ktr_rel) (by ktr_rel) (by k_mem) (by with_reducible assumption) (by with_reducible assumption) (by (repeat' (first | exact List.forall_mem_nil _ | refine List.forall_mem_cons.mpr ⟨?_, ?_⟩)); all_goals ((try dsimp only); first | (with_reducible assumption) | exact Ne.symm (by with_reducible assumption) | exact Nat.ne_of_lt (by with_reducible assumption) | exact Nat.ne_of_gt (by with_reducible assumption) | exact Ne.symm (And.left (by with_reducible assumption)) | exact Nat.ne_of_gt (And.left (by with_reducible assumption)) | exact ne_of_objs N9 (by with_reducible (repeat' (first | exact List.mem_cons_self | refine List.mem_cons_of_mem _ ?_))) (by with_reducible (repeat' (first | exact List.mem_cons_self | refine List.mem_cons_of_mem _ ?_))) (fun e9 => by have e9 := congrArg Obj.cls e9; injection e9 with e9; exact absurd e9 (by decide)) | ((show ¬ @Eq Nat _ _); k_extra "om"))) (by first | (with_reducible assumption) | decide | exact ile (by with_reducible assumption) rfl | exact And.left (by with_reducible assumption) | exact And.right (by with_reducible assumption) | k_extra "om") (by first | (with_reducible assumption) | decide | exact ile (by with_reducible assumption) rfl | exact And.left (by with_reducible assumption) | exact And.right (by with_reducible assumption) | k_extra "om") (by first | (with_reducible assumption) | decide | exact ile (by with_reducible assumption) rfl | exact And.left (by with_reducible assumption) | exact And.right (by with_reducible assumption) | k_extra "om") (by first | (with_reducible assumption) | decide | exact ile (by with_reducible assumption) rfl | exact And.left (by with_reducible assumption) | exact And.right (by with_reducible assumption) | k_extra "om") ⟨(by with_reducible (repeat' (first | exact List.mem_cons_self | refine List.mem_cons_of_mem _ ?_))), (by with_reducible assumption), (by first | exact nle (by with_reducible assumption) rfl | k_extra "om")⟩ (by first | (with_reducible assumption) | k_extra "om") ?_); k_whole; intro h' tk' rl' vs' n' ws' aa' bb' t1' t2' F' N' hG' hW' ha' ha2' hl' hl2'; (replace ha2' := Int.le_trans ha2' (Int.add_le_add_right (by first | exact Int.le_refl 0 | (with_reducible assumption)) 3)); (replace hl2' := Nat.le_trans hl2' (Nat.add_le_add_right (by with_reducible assumption) 1)); (have hL' := allLt_2 hG'); (simp only [AllLt] at hL'); (try k_sweep))
  trivial
example : True := by
  k_with "subscriptTail" => (k_here; (with_reducible show wpAny _ _ (subscriptTail (PySem.Expr.Name _ _) _ (Value.ref _) (Value.int _ _)) _ _ _); (with_reducible rename News _ _ _ _ => N9); (try simp only [List.nil_append, List.cons_append, envOfC] at N9); k_dflt (refine' pick2 N9 (by (try dsimp only); first | exact Nat.ne_of_lt (by with_reducible assumption) | ((show ¬ @Eq Nat _ _); k_extra "om")) (by (try dsimp only); first | exact Nat.ne_of_lt (by with_reducible assumption) | ((show ¬ @Eq Nat _ _); k_extra "om")) (WIn.cons .mi _ (WIn.cons .lp _ (WIn.cons .n5 _ (WIn.cons .pl _ (WIn.cons .n25 _ (WIn.cons .rp _ (WIn.cons .pw _ (WIn.cons .n5 _ (WIn.cons .st _ (WIn.cons .mi _ (WIn.cons .n5 _ (WIn.cons .sl _ (WIn.cons .lp _ (WIn.cons .n5 _ (WIn.cons .mi _ (WIn.cons .mi _ (WIn.cons .n25 _ (WIn.cons .rp _ StrsAre.nil)))))))))))))))))) (WIn.cons .n5 _ (WIn.cons .mi _ (WIn.cons .mi _ (WIn.cons .n5 _ (WIn.cons .pw _ (WIn.cons .n5 _ (WIn.cons .pl _ (WIn.cons .pl _ (WIn.cons .lp _ (WIn.cons .lp _ (WIn.cons .n5 _ (WIn.cons .rp _ (WIn.cons .rp _ StrsAre.nil))))))))))))) (by k_extra "om") ?_); intro D' vs' n' ws' he' N' hw' hl' hl2'; clear N9)
  trivial
example : True := by
  k_with "binaryOp Mult ref int" => (k_here; (try dsimp only); (with_reducible show wpAny _ _ (binaryOp Operator.Mult (Value.ref _) (Value.int _ _)) _ _ _); (with_reducible rename News _ _ _ _ => N9); (try simp only [List.nil_append, List.cons_append, envOfC] at N9); k_dflt (refine' reps (by k_asm) N9 (by with_reducible (repeat' (first | exact List.mem_cons_self | refine List.mem_cons_of_mem _ ?_))) (by k_extra "om") ?_); intro D' h' hG' F' N'; (replace hG' := allLt_of hG'; simp only [AllLt] at hG'))
  trivial
example : True := by
  k_with "binaryOp Add ref ref" => (k_here; (with_reducible show wpAny _ _ (binaryOp _ (Value.ref _) (Value.ref _)) _ _ _); (with_reducible rename News _ _ _ _ => N9); (try simp only [List.nil_append, List.cons_append, envOfC] at N9); k_dflt (refine' glue (by k_asm) N9 (by with_reducible (repeat' (first | exact List.mem_cons_self | refine List.mem_cons_of_mem _ ?_))) (by with_reducible (repeat' (first | exact List.mem_cons_self | refine List.mem_cons_of_mem _ ?_))) (by first | exact dl1 (by with_reducible assumption) | exact dl2 (by with_reducible assumption) | simp only [List.length_append, List.length_replicate, List.length_cons, List.length_nil]; k_extra "om") (by first | decide | exact dl1 (by with_reducible assumption) | simp only [List.length_append, List.length_replicate, List.length_cons, List.length_nil]; k_extra "om") ?_); intro D' h' hG' F' N'; (replace hG' := allLt_of hG'; simp only [AllLt] at hG'))
  trivial
theorem law_c {R : Result → Shared → Prop} (X : (Mine.frag.heap_1 w.params).In s.heap) (hb : s.heap.get? (nat_lit 0) = some (boot_o_0 w.params)) (hP : s.heap.get? 232 = some (tabObj #[])) (T : Top p loose mean mg mb s.heap)
    (hl : s.heap.IsList al vz.toArray) (hns : IntsAre vz ns) (hvl : vz.length ≤ 63)
    (ret : ∀ h' tk' ps, (∀ b o, (ghostOf s.heap [(236, 232)]).get? b = some o → h'.get? b = some o) → h'.get? 232 = some (tabObj ps) → R (.ok (.ret (.bool true))) { s with heap := h', toks := tk' }) :
    codeAny (model PySem.Challenge.rw_pc0133_01.prog w) callerA (.call (.ref 521) ⟨[.ref al], []⟩) R s := by
  revert X; k_fill; intro X
  have hT : TabsAt [(236, 232)] s.heap := List.forall_mem_cons.mpr ⟨⟨codeHd_of_K (c := 236) (P := 232) X (by kernel_rfl), hP⟩, fun _ h => nomatch h⟩
  refine' enterC X T.nolimit (by decide) ?ho ?hcd ?hb ?hk ?hn ?_ ?c1 ?c2 ?c3
  case ho => k_is
  case hcd => k_is
  case hb => exact rfl
  case hk => exact (kinds_of (by kinds_ok))
  case hn => decide
  case c1 => exact rfl
  case c2 => exact rfl
  case c3 => exact rfl
  intro h₁ tk₁ cells F N0 X0
  k_cells X0
  have X' := ghost_K hT X (by kernel_rfl)
  have T' := ghost_top hT T
  have B := ghost_below hT
  have N := ghost_news hT F N0
  have F' := ghost_fr hT F
  have hl' := ghost_list hT hl
  have hb' := ghost_get hT hb (by intro h; cases h)
  have l0 : 232 < s.heap.objs.size := Heap.lt_size hP
  simp only [tabNews, List.map_cons, List.map_nil, List.nil_append, List.cons_append] at N
  clear N0 F hl hb T hT X hP
  generalize ghostOf s.heap [(236, 232)] = h₀ at *
  generalize s.heap.objs.size = L at *
  (try k_unmd)
  k_fold
  k_extra "steps"
  all_goals (with_reducible rename Fr _ _ _ _ => F9; with_reducible rename News _ _ _ _ => N9; exact ret _ _ _ (Fr.keep F9) (News.get N9 (by with_reducible (repeat' (first | exact List.mem_cons_self | refine List.mem_cons_of_mem _ ?_)))))
end
end Mine
end
section
open PySem PySem.W PyProof.Rows
example : True := by k_with_none; trivial
example : True := by
  k_with "fold" => k_fold
  trivial
namespace Mine
set_option maxRecDepth 100000
set_option maxHeartbeats 0
abbrev asK : List Addr := [2, 3, 15, 17, 18, 20, 21, 22, 29, 30, 31, 33, 34, 36, 37, 38, 40, 41, 43, 44, 45, 46, 47, 48, 51, 58, 59, 60, 63, 70, 71, 72, 75, 77, 78, 80, 81, 82, 83, 85, 86, 88, 89, 90, 92, 93, 95, 96, 97, 99, 100, 102, 103, 104, 106, 107, 109, 110, 111, 113, 114, 116, 117, 118, 120, 121, 123, 124, 125, 127, 128, 130, 131, 132, 133, 135, 136, 138, 139, 140, 142, 143, 145, 146, 147, 149, 150, 152, 153, 154, 156, 157, 159, 160, 161, 163, 164, 166, 167, 168, 170, 171, 173, 174, 175, 177, 178, 180, 181, 182, 184, 185, 187, 188, 189, 191, 192, 194, 195, 196, 198, 199, 201, 202, 203, 205, 206, 208, 209, 210, 212, 213, 215, 216, 217, 219, 220, 222, 223, 224, 226, 227, 229, 230, 231, 233, 234, 236, 237, 238, 240, 241, 243, 244, 245, 248, 249, 257, 258, 260, 261, 263, 264, 265, 266, 268, 269, 271, 272, 273, 275, 276, 278, 279, 280, 282, 283, 285, 286, 287, 289, 290, 292, 293, 294, 295, 297, 298, 300, 301, 302, 304, 305, 307, 308, 309, 311, 312, 314, 315, 316, 318, 319, 321, 322, 323, 325, 326, 328, 329, 330, 332, 333, 335, 336, 337, 338, 340, 341, 343, 344, 345, 347, 348, 350, 351, 352, 354, 355, 357, 358, 359, 360, 362, 363, 365, 366, 367, 369, 370, 372, 373, 374, 376, 377, 379, 380, 381, 383, 384, 386, 387, 388, 390, 391, 393, 394, 395, 397, 398, 400, 401, 402, 404, 405, 407, 408, 409, 411, 412, 414, 415, 416, 417, 418, 419, 420, 430, 431, 432, 434, 435, 437, 438, 439, 441, 442, 444, 445, 446, 447, 448, 449, 450, 453, 454, 456, 457, 459, 460, 461, 463, 464, 466, 467, 468, 470, 471, 473, 474, 475, 477, 478, 480, 481, 482, 484, 485, 487, 488, 489, 491, 492, 494, 495, 496, 498, 499, 501, 502, 503, 505, 506, 508, 509, 510, 512, 513, 515, 516, 517, 520, 521]
def fixE (r : Str) (e : DictEntry) : DictEntry := ⟨e.hash, e.key, match e.val with | .str _ t => .str r t | v => v⟩
def fixO (r : Str) (o : Obj) : Obj := match o with
  | ⟨c, d, .dict es n, sl⟩ => ⟨c, d, .dict ⟨es.toList.modify 41 (fixE r)⟩ n, sl⟩
  | o => o
def fixP (r : Str) (p : Addr × Obj) : Addr × Obj := match Nat.beq p.1 3 with
  | true => (p.1, fixO r p.2)
  | false => p
noncomputable def K2 (P : Params) : Frag := (Mine.frag.heap_1 P).map (fixP resF)
theorem k2_frag (P : Params) : (Mine.frag.heap_1 P).map (fixP resO) = Mine.frag.heap_1 P := by kernel_rfl
theorem k2_eq (P : Params) : K2 P = Mine.frag.heap_1 P := by
  unfold K2
  rw [← res_eq]
  exact k2_frag P
theorem k2_keys (P : Params) : asK = (K2 P).map (·.1) := by rw [k2_eq]; kernel_rfl
noncomputable def K3 (P : Params) : Frag := (0, PySem.W.boot_o_0 P) :: K2 P
abbrev asK3 : List Addr := 0 :: asK
theorem k3_keys (P : Params) : asK3 = (K3 P).map (·.1) := congrArg (List.cons 0) (k2_keys P)
theorem k3_boot {P : Params} {h : Heap} (X : (K3 P).In h) : h.get? (nat_lit 0) = some (PySem.W.boot_o_0 P) := X 0 _ rfl
theorem k3_frag {P : Params} {h : Heap} (X : (K3 P).In h) : (Mine.frag.heap_1 P).In h := fun a o e => by
  rw [← k2_eq] at e
  refine X a o ?_
  unfold K3
  rw [List.lookup_cons]
  cases ha : a == 0 with
  | false => exact e
  | true =>
    have h0 : a = 0 := eq_of_beq ha
    subst h0
    have hn : (K2 P).lookup 0 = none := by rw [k2_eq]; kernel_rfl
    rw [hn] at e; cases e
def cutK : List Bool → List Stmt → List Stmt
  | true :: ks, s :: r => s :: cutK ks r
  | false :: ks, _ :: r => cutK ks r
  | _, r => r
def cutP (p : Program) : Program := { p with main := { p.main with body := cutK [true, false, true, true, true, false, true, true, false, true, true, true, true, true, true, false, true, true, true, true, true, true, true, true, true, false, true, true, true, true, true, true, true, true, true, false, true, true, true, true, true, false, true, false, true, true, true, true, true, true, true, true, true, true, true] p.main.body } }
noncomputable def main.tw1676004184569615912 : Program := cutP twP
theorem main.te1676004184569615912 : cutP PySem.Challenge.pw_pc0133_01 = main.tw1676004184569615912 := congrArg cutP teP
noncomputable def main.tw5566807235108098448 : Program := twP
theorem main.te5566807235108098448 : PySem.Challenge.pw_pc0133_01 = main.tw5566807235108098448 := teP
def main.tw11003572833241299968 : Nat := 0
def main.tw1054321117371714560 : Nat := 0
def main.tw7237411587787531456 : Nat := 0
def main.tw9557352009045844224 : Nat := 0
def main.tw5240779543111244032 : Nat := 0
def main.tw13157206579259725088 : Nat := 0
def main.tw5084117380071580128 : Nat := 0
def main.tw9976160756891316704 : Nat := 0
def main.tw1677766988990989824 : Nat := 0
def main.tw6541472054586571296 : Nat := 0
def main.tw11501822485730972192 : Nat := 0
def main.tw7439787175107056256 : Nat := 0
def main.tw9808303207383738048 : Nat := 0
def main.tw12483276189755474720 : Nat := 0
def main.tw6557543464795787104 : Nat := 0
def main.tw6449824600675878752 : Nat := 0
def main.tw3796207824708393856 : Nat := 0
def main.tw3627144658338631552 : Nat := 0
def main.tw12670839924663504800 : Nat := 0
def main.tw14064073609400967072 : Nat := 0
def main.tw17292155258170135553 : Nat := 0
def main.tw17402982504261768225 : Nat := 0
def main.tw17715262827843222689 : Nat := 0
def main.tw2110754180369666209 : Nat := 0
def main.tw13676971244355772609 : Nat := 0
def main.tw9376575566392132001 : Nat := 0
def main.tw15768048840197415361 : Nat := 0
def main.tw2538046985915079169 : Nat := 0
def main.tw9406782406253462049 : Nat := 0
def main.tw6635558491612396129 : Nat := 0
def main.tw16193401482309157537 : Nat := 0
def main.tw12077450504624328385 : Nat := 0
def main.tw15365013842991253249 : Nat := 0
def main.tw15624239662980076321 : Nat := 0
def main.tw15109750227778091905 : Nat := 0
def main.tw6389877041954997217 : Nat := 0
def main.tw13822928788525202466 : Nat := 0
def main.tw11987853993630220354 : Nat := 0
def main.tw223528310411579522 : Nat := 0
def main.tw4038153913678941442 : Nat := 0
def main.tw15303317825217679618 : Nat := 0
def main.tw10391951854915411234 : Nat := 0
def main.tw5613160597433933154 : Nat := 0
def main.tw12139096438432415106 : Nat := 0
def main.tw9302470337196694018 : Nat := 0
def main.tw11752208632293872130 : Nat := 0
def main.tw117567056420399618 : Nat := 0
def main.tw7298748307773712898 : Nat := 0
def main.tw14907226015203709474 : Nat := 0
def main.tw1306636233014830658 : Nat := 0
def main.tw4297412468100583042 : Nat := 0
def main.tw16950194794029067938 : Nat := 0
def main.tw6075091234017535682 : Nat := 0
def main.tw11092141859048813250 : Nat := 0
def main.tw11785714552879321826 : Nat := 0
def main.tw6385024630547198690 : Nat := 0
def main.tw6697339332421208802 : Nat := 0
def main.tw10669944970481658594 : Nat := 0
def main.tw961187720498965250 : Nat := 0
def main.tw6508729118710982530 : Nat := 0
def main.tw13224007501803129859 : Nat := 0
def main.tw18284262389922463811 : Nat := 0
def main.tw15467891735981029475 : Nat := 0
def main.tw2007339730380871907 : Nat := 0
def main.tw4900431672193113347 : Nat := 0
def main.tw9957550378297406723 : Nat := 0
def main.tw10609540516017602915 : Nat := 0
def main.tw13406003279186336099 : Nat := 0
def main.tw4605139254293405059 : Nat := 0
def main.tw14771111431291430275 : Nat := 0
def main.tw4475767826048309731 : Nat := 0
def main.tw2647654807098235363 : Nat := 0
def main.tw12702744160499308131 : Nat := 0
def main.tw17120147093228096131 : Nat := 0
def main.tw8466321980469482115 : Nat := 0
def main.tw387501639795913443 : Nat := 0
def main.tw17146568849442343683 : Nat := 0
def main.tw11101190512080308003 : Nat := 0
def main.tw11857135199678951331 : Nat := 0
def main.tw7214478077546791972 : Nat := 0
def main.tw8905464785575363620 : Nat := 0
def main.tw17289778040116689060 : Nat := 0
def main.tw962032349192862916 : Nat := 0
def main.tw13313126695403321540 : Nat := 0
def main.tw2211721106508330212 : Nat := 0
def main.tw4765469049745104132 : Nat := 0
def main.tw18171699568390191396 : Nat := 0
def main.tw11374851513655246148 : Nat := 0
def main.tw2729793432009153956 : Nat := 0
def main.tw7113585516715319716 : Nat := 0
def main.tw2225956059507018244 : Nat := 0
def main.tw5160751907100791332 : Nat := 0
def main.tw10663580350406149668 : Nat := 0
def main.tw1587290215689348708 : Nat := 0
def main.tw9840939614602229412 : Nat := 0
def main.tw14539993770535171780 : Nat := 0
def main.tw9756827057097773860 : Nat := 0
def main.tw7188597983481265988 : Nat := 0
def main.tw834873547066669988 : Nat := 0
def main.tw12252054271945606052 : Nat := 0
def main.tw9417822746687237092 : Nat := 0
def main.tw15017983477296125989 : Nat := 0
def main.tw1390771862084280389 : Nat := 0
def main.tw8260724100714396741 : Nat := 0
def main.tw8947760058931562597 : Nat := 0
def main.tw5234446048077146213 : Nat := 0
def main.tw15955573374722617477 : Nat := 0
def main.tw6910295442248876197 : Nat := 0
def main.tw11001617756164336837 : Nat := 0
def main.tw8211959896082780389 : Nat := 0
def main.tw12623159325031504133 : Nat := 0
def main.tw14510055921401542917 : Nat := 0
def main.tw9190990891756207365 : Nat := 0
def main.tw14662554035588321541 : Nat := 0
def main.tw917386388269078853 : Nat := 0
def main.tw2906824675625879941 : Nat := 0
def main.tw9253799994812790149 : Nat := 0
def main.tw16451033083921036709 : Nat := 0
def main.tw8467378866343419333 : Nat := 0
def main.tw7083192437325867461 : Nat := 0
def main.tw9268297945177815525 : Nat := 0
def main.tw3298483428156984901 : Nat := 0
def main.tw14759895335926876869 : Nat := 0
def main.tw1714950047550659301 : Nat := 0
def main.tw5665406974723832613 : Nat := 0
def main.tw13402765919934010277 : Nat := 0
def main.tw365850788961202214 : Nat := 0
def main.tw6545385358150927430 : Nat := 0
def main.tw9903775340124721222 : Nat := 0
def main.tw16411370214107742406 : Nat := 0
def main.tw11554813239044494598 : Nat := 0
def main.tw10750994468655217958 : Nat := 0
def main.tw12298629886278197574 : Nat := 0
def main.tw4458048076830672230 : Nat := 0
def main.tw6511744376749373798 : Nat := 0
def main.tw10707853282979444102 : Nat := 0
def main.tw16952715711813285254 : Nat := 0
def main.tw4044139247061151142 : Nat := 0
def main.tw8028553150416231878 : Nat := 0
def main.tw16361134009908129286 : Nat := 0
def main.tw17297283025540448806 : Nat := 0
def main.tw14009396871252706886 : Nat := 0
def main.tw471287901995484742 : Nat := 0
def main.tw9681375758050803366 : Nat := 0
def main.tw2852251193174398662 : Nat := 0
def main.tw17272174723667511238 : Nat := 0
def main.tw15514936471743626214 : Nat := 0
def main.tw11476092923266045095 : Nat := 0
def main.tw11716418206903941319 : Nat := 0
def main.tw5372645768047454471 : Nat := 0
def main.tw12518504611687188807 : Nat := 0
def main.tw16629339528299215175 : Nat := 0
def main.tw17737603089517620647 : Nat := 0
def main.tw5061512775090418087 : Nat := 0
def main.tw13350764725976880583 : Nat := 0
def main.tw8475525182357872103 : Nat := 0
def main.tw16965079339398995527 : Nat := 0
def main.tw11135027115929721415 : Nat := 0
def main.tw65644731488775911 : Nat := 0
def main.tw16519101796099990279 : Nat := 0
def main.tw18178676814319149831 : Nat := 0
def main.tw11261727412033496967 : Nat := 0
def main.tw10463206416058312583 : Nat := 0
def main.tw16049902774474827687 : Nat := 0
def main.tw4324958949535026087 : Nat := 0
def main.tw5781596087445459943 : Nat := 0
def main.tw13132915859168520264 : Nat := 0
def main.tw16153842264607907944 : Nat := 0
def main.tw14562738103837258888 : Nat := 0
def main.tw15079240505294077160 : Nat := 0
def main.tw52199770228462824 : Nat := 0
def main.tw11403851563620829512 : Nat := 0
def main.tw6161133996638707016 : Nat := 0
def main.tw1615956725737779560 : Nat := 0
def main.tw17201416709059790184 : Nat := 0
def main.tw18238007617527299592 : Nat := 0
def main.tw12057704586751987240 : Nat := 0
def main.tw4452170602077327944 : Nat := 0
def main.tw14161005256144132680 : Nat := 0
def main.tw7308723440029596264 : Nat := 0
def main.tw7751025194823839400 : Nat := 0
def main.tw14097447854668400296 : Nat := 0
def main.tw15734660467963936456 : Nat := 0
def main.tw17477492558424962760 : Nat := 0
def main.tw3706830351922483016 : Nat := 0
def main.tw10140136200207757160 : Nat := 0
def main.tw1270039299266317192 : Nat := 0
def main.tw1980160206288974728 : Nat := 0
def main.tw17052023290607921161 : Nat := 0
def main.tw1453356044741674121 : Nat := 0
def main.tw10450603732522932521 : Nat := 0
def main.tw17268439761433841065 : Nat := 0
def main.tw4261964983698606537 : Nat := 0
def main.tw13693970394777133609 : Nat := 0
def main.tw17699438841360665129 : Nat := 0
def main.tw15737690656516749961 : Nat := 0
def main.tw12872379398031375081 : Nat := 0
def main.tw5677329702179833609 : Nat := 0
def main.tw820145642477177705 : Nat := 0
def main.tw6461062158036542345 : Nat := 0
def main.tw3557749057250611081 : Nat := 0
def main.tw4990475226369331113 : Nat := 0
def main.tw11595355409239048105 : Nat := 0
def main.tw10625486282989778954 : Nat := 0
def main.tw4156125974679941130 : Nat := 0
def main.tw16102276660523340874 : Nat := 0
def main.tw5240536507193477226 : Nat := 0
def main.tw2566753976717531306 : Nat := 0
def main.tw14218914174604095658 : Nat := 0
def main.tw6855474311058116810 : Nat := 0
def main.tw18431692314602308842 : Nat := 0
def main.tw7698036289167662538 : Nat := 0
def main.tw1504049600530537962 : Nat := 0
def main.tw31828345220925962 : Nat := 0
def main.tw1628013610222277130 : Nat := 0
def main.tw13113777628852026922 : Nat := 0
def main.tw13777938177461255882 : Nat := 0
def main.tw10924716458440934090 : Nat := 0
def main.tw1319676515408343850 : Nat := 0
def main.tw16356685582667847594 : Nat := 0
def main.tw104360540948158410 : Nat := 0
def main.tw10334261112615635914 : Nat := 0
def main.tw11710404883906591787 : Nat := 0
def main.tw2279707942289718827 : Nat := 0
def main.tw832900586485598795 : Nat := 0
def main.tw4680327970133157515 : Nat := 0
def main.tw3359716175640689291 : Nat := 0
def main.tw18403998269306519403 : Nat := 0
def main.tw3905226178654972811 : Nat := 0
def main.tw7846812961960373227 : Nat := 0
def main.tw17708487481403421675 : Nat := 0
def main.tw16689149305811164139 : Nat := 0
def main.tw11646826074482590764 : Nat := 0
def main.tw16721930046160240684 : Nat := 0
def main.tw12732289081945773324 : Nat := 0
def main.tw8663697691656813868 : Nat := 0
def main.tw8930851030842425676 : Nat := 0
def main.tw11454918623770916204 : Nat := 0
def main.tw12941917028564957548 : Nat := 0
def main.tw15131278010643852716 : Nat := 0
def main.tw18315214858253571532 : Nat := 0
def main.tw18302796317244248524 : Nat := 0
def main.tw13591255225166038476 : Nat := 0
def main.tw9512817274939609580 : Nat := 0
def main.tw1130211791997205004 : Nat := 0
def main.tw8707812797481193996 : Nat := 0
def main.tw14639212616227390028 : Nat := 0
def main.tw10199874654664476236 : Nat := 0
def main.tw9274054859765456524 : Nat := 0
def main.tw14313897822631088780 : Nat := 0
def main.tw4637267157515435788 : Nat := 0
def main.tw9670510015898674028 : Nat := 0
def main.tw5436791530062809996 : Nat := 0
def main.tw15595112118272840620 : Nat := 0
def main.tw3234112476842188716 : Nat := 0
def main.tw9730157408454304684 : Nat := 0
def main.tw12093647306153771053 : Nat := 0
def main.tw7186131708394509389 : Nat := 0
def main.tw18134284020713443437 : Nat := 0
def main.tw7221758910455160077 : Nat := 0
def main.tw3466206800631347469 : Nat := 0
def main.tw7875838824674609581 : Nat := 0
def main.tw4585930131862741453 : Nat := 0
def main.tw1178595665728414349 : Nat := 0
def main.tw1632041292262086317 : Nat := 0
def main.tw10047389527955405517 : Nat := 0
def main.tw1886080085820668685 : Nat := 0
def main.tw5507402815253087181 : Nat := 0
def main.tw13962693860625380366 : Nat := 0
def main.tw6053611964639427726 : Nat := 0
def main.tw6657087868060814 : Nat := 0
def main.tw12800608258095302798 : Nat := 0
def main.tw13561545577150243054 : Nat := 0
def main.tw15643365686152983790 : Nat := 0
def main.tw3562595001068472590 : Nat := 0
def main.tw2287757881348798766 : Nat := 0
def main.tw979501456738626862 : Nat := 0
def main.tw3994622017586750766 : Nat := 0
def main.tw451873465583785326 : Nat := 0
def main.tw13348322127785295214 : Nat := 0
def main.tw6912675738884088206 : Nat := 0
def main.tw1826329307503635854 : Nat := 0
def main.tw89018832547983758 : Nat := 0
def main.tw13974046611088194958 : Nat := 0
def main.tw7332552209862256014 : Nat := 0
def main.tw2019394398466159022 : Nat := 0
def main.tw4650958065196391918 : Nat := 0
def main.tw5127751686995613262 : Nat := 0
def main.tw13642826006792871662 : Nat := 0
def main.tw5532463470591059822 : Nat := 0
def main.tw3779293765908593550 : Nat := 0
def main.tw1678875084529416142 : Nat := 0
def main.tw18120430973489738927 : Nat := 0
def main.tw8478376212529829071 : Nat := 0
def main.tw15136431859952498927 : Nat := 0
def main.tw73751810991705359 : Nat := 0
def main.tw4500915450034043215 : Nat := 0
def main.tw7268301785047649679 : Nat := 0
def main.tw10094358506670053839 : Nat := 0
def main.tw11982392923317675503 : Nat := 0
def main.tw17510229520200029679 : Nat := 0
def main.tw17871620999419790863 : Nat := 0
def main.tw9272984997812220495 : Nat := 0
def main.tw10234815189450012239 : Nat := 0
def main.tw13876859957761632879 : Nat := 0
def main.tw3829396358689915599 : Nat := 0
def main.tw3332543467307319023 : Nat := 0
def main.tw6696893160125735727 : Nat := 0
def main.tw16859178282178679631 : Nat := 0
def main.tw1372806426800153423 : Nat := 0
def main.tw13180746182150919023 : Nat := 0
def main.tw17725498274588495791 : Nat := 0
def main.tw7514964652732493775 : Nat := 0
def main.tw5400957986263281647 : Nat := 0
def main.tw14798791472264738832 : Nat := 0
def main.tw5418533224930618480 : Nat := 0
def main.tw6877560268529008848 : Nat := 0
def main.tw15734200111481486640 : Nat := 0
def main.tw6565609875121592624 : Nat := 0
def main.tw12885673836220544336 : Nat := 0
def main.tw18190005008629794160 : Nat := 0
def main.tw8729708805864041840 : Nat := 0
def main.tw4681395471914393968 : Nat := 0
def main.tw2702614204127132176 : Nat := 0
def main.tw17974016328880235120 : Nat := 0
def main.tw7904437144335635152 : Nat := 0
def main.tw7815416585372320496 : Nat := 0
def main.tw17118054049896295152 : Nat := 0
def main.tw5871769198996169552 : Nat := 0
def main.tw6542085627976250192 : Nat := 0
def main.tw12564604832814323664 : Nat := 0
def main.tw16008252555379753968 : Nat := 0
def main.tw12343854547171428336 : Nat := 0
def main.tw13667920496262714385 : Nat := 0
def main.tw16572128252103988241 : Nat := 0
def main.tw452746233719593009 : Nat := 0
def main.tw15616401959046598769 : Nat := 0
def main.tw2544328076492683441 : Nat := 0
def main.tw6569515737239586001 : Nat := 0
def main.tw16251939892948500945 : Nat := 0
def main.tw12839114828313443825 : Nat := 0
def main.tw4072190877284726289 : Nat := 0
def main.tw9897820754763898449 : Nat := 0
def main.tw12339594417782637201 : Nat := 0
def main.tw1429040668314091153 : Nat := 0
def main.tw3960113756560652017 : Nat := 0
def main.tw15401465843660388081 : Nat := 0
def main.tw13503263706703578961 : Nat := 0
def main.tw9682133043923132273 : Nat := 0
def main.tw12885385263037960081 : Nat := 0
def main.tw11120327062377616369 : Nat := 0
def main.tw7093617532817203218 : Nat := 0
def main.tw14060465935940456498 : Nat := 0
def main.tw18031918436515192882 : Nat := 0
def main.tw17767330081159143506 : Nat := 0
def main.tw4812270449578504274 : Nat := 0
def main.tw5518243967957118194 : Nat := 0
def main.tw13995172100960836882 : Nat := 0
def main.tw341453280667917650 : Nat := 0
def main.tw8998591120061296050 : Nat := 0
def main.tw14909365282108701170 : Nat := 0
def main.tw9508770018378322450 : Nat := 0
def main.tw7757583807332260498 : Nat := 0
def main.tw5797031442667253490 : Nat := 0
def main.tw13784452646732761970 : Nat := 0
def main.tw4573282807186111410 : Nat := 0
def main.tw17679725944135375923 : Nat := 0
def main.tw16136984950599521427 : Nat := 0
def main.tw12590340796369385619 : Nat := 0
def main.tw14635473669698735251 : Nat := 0
def main.tw4651154628705390771 : Nat := 0
def main.tw2714283472998740243 : Nat := 0
def main.tw16102231251864390963 : Nat := 0
def main.tw10114013102757674387 : Nat := 0
def main.tw4365514962571936147 : Nat := 0
def main.tw6785657489111691699 : Nat := 0
def main.tw14865273321584834035 : Nat := 0
def main.tw1084114956928915155 : Nat := 0
def main.tw8207831470162742035 : Nat := 0
def main.tw10665089971535097683 : Nat := 0
def main.tw5585478044538960755 : Nat := 0
def main.tw2524017781993486291 : Nat := 0
def main.tw3532412968194664532 : Nat := 0
def main.tw6674386428176565332 : Nat := 0
def main.tw8627561154394265716 : Nat := 0
def main.tw15270170921892066516 : Nat := 0
def main.tw11086099901593105684 : Nat := 0
def main.tw17561526911342447988 : Nat := 0
def main.tw3045742163950154196 : Nat := 0
def main.tw9483120023164983764 : Nat := 0
def main.tw1496695287857109588 : Nat := 0
def main.tw15020379664683085428 : Nat := 0
def main.tw2821470743931037460 : Nat := 0
def main.tw1615045767204293396 : Nat := 0
def main.tw11461230924637031220 : Nat := 0
def main.tw17958375852430007124 : Nat := 0
def main.tw2195194259037543316 : Nat := 0
def main.tw10896356407431480244 : Nat := 0
def main.tw9189880136782149556 : Nat := 0
def main.tw8844999433837080629 : Nat := 0
def main.tw15928290008803537013 : Nat := 0
def main.tw14722489848711283861 : Nat := 0
def main.tw18442785490491869365 : Nat := 0
def main.tw2921958311620399285 : Nat := 0
def main.tw3394367416137920725 : Nat := 0
def main.tw8436210846270712021 : Nat := 0
def main.tw3027586509356016917 : Nat := 0
def main.tw453184122279072053 : Nat := 0
def main.tw4544244032028310869 : Nat := 0
def main.tw13724616953566380437 : Nat := 0
def main.tw14005587885025406389 : Nat := 0
def main.tw3454311308915712629 : Nat := 0
def main.tw13293747886898857621 : Nat := 0
def main.tw10363585996791799541 : Nat := 0
def main.tw3137596982192898869 : Nat := 0
def main.tw10159738436595150677 : Nat := 0
def main.tw2583023086579268501 : Nat := 0
def main.tw12205347405646519318 : Nat := 0
def main.tw330327031418712150 : Nat := 0
def main.tw8557395850702784662 : Nat := 0
def main.tw15554039934745177238 : Nat := 0
def main.tw14492832472218066102 : Nat := 0
def main.tw9561784451562097942 : Nat := 0
def main.tw13530913438724192630 : Nat := 0
def main.tw3848698983108048278 : Nat := 0
def main.tw13838900630717943254 : Nat := 0
def main.tw4749052000479324790 : Nat := 0
def main.tw9069182735580402390 : Nat := 0
def main.tw1850612553970854742 : Nat := 0
def main.tw3549514262204291990 : Nat := 0
def main.tw16320729459185622934 : Nat := 0
def main.tw4026956272090484662 : Nat := 0
def main.tw10665469846841522134 : Nat := 0
def main.tw2190695567426971638 : Nat := 0
def main.tw16832360635688203351 : Nat := 0
def main.tw15510692781650021527 : Nat := 0
def main.tw1277820614484962519 : Nat := 0
def main.tw10821422270917381399 : Nat := 0
def main.tw2238316416991798583 : Nat := 0
def main.tw7074144079889050967 : Nat := 0
def main.tw17453503289922162039 : Nat := 0
def main.tw7380652910202371479 : Nat := 0
def main.tw8652556701797213591 : Nat := 0
def main.tw6596593509180878263 : Nat := 0
def main.tw14106445559736802775 : Nat := 0
def main.tw7974275031393228247 : Nat := 0
def main.tw3768103844333499927 : Nat := 0
def main.tw2537397370156994071 : Nat := 0
def main.tw8834365191522931223 : Nat := 0
def main.tw5401703158475992631 : Nat := 0
def main.tw18218335207050127959 : Nat := 0
def main.tw18063282731904131703 : Nat := 0
def main.tw18325589031809861271 : Nat := 0
def main.tw5517759331935216279 : Nat := 0
def main.tw2895952525429962455 : Nat := 0
def main.tw2921621734765799159 : Nat := 0
def main.tw9994787619460420439 : Nat := 0
def main.tw7691172733374981047 : Nat := 0
def main.tw6862492499505807319 : Nat := 0
def main.tw15342904991969174519 : Nat := 0
def main.tw10877679251791092727 : Nat := 0
def main.tw9925469786538053656 : Nat := 0
def main.tw16641786646906312760 : Nat := 0
def main.tw2433702464844828792 : Nat := 0
def main.tw10825838108423173272 : Nat := 0
def main.tw5102693214775723256 : Nat := 0
def main.tw1157997071576566072 : Nat := 0
def main.tw645136716886899192 : Nat := 0
def main.tw7235775444256392728 : Nat := 0
def main.tw12027323910402764344 : Nat := 0
def main.tw1409966394225722968 : Nat := 0
def main.tw1156462466702112376 : Nat := 0
def main.tw9656510801202774680 : Nat := 0
def main.tw17236958762192778904 : Nat := 0
def main.tw13626721169425172152 : Nat := 0
def main.tw9848185148710128376 : Nat := 0
def main.tw2744014450722944760 : Nat := 0
def main.tw11692516046256081784 : Nat := 0
def main.tw16922381011570985944 : Nat := 0
def main.tw11815829001073249272 : Nat := 0
def main.tw33456957511925785 : Nat := 0
def main.tw9369988214560726041 : Nat := 0
def main.tw8440099810896429113 : Nat := 0
def main.tw15984706205718930553 : Nat := 0
def main.tw15410482203810522393 : Nat := 0
def main.tw10455743928339290457 : Nat := 0
def main.tw5203219222101121401 : Nat := 0
def main.tw9361300454564663673 : Nat := 0
def main.tw16046730324260685337 : Nat := 0
def main.tw11487549891475536569 : Nat := 0
def main.tw16452447596832230105 : Nat := 0
def main.tw6334894449686545209 : Nat := 0
def main.tw5396188567872606041 : Nat := 0
def main.tw10298723112805639129 : Nat := 0
def main.tw2724176850512262202 : Nat := 0
def main.tw7173623326730630234 : Nat := 0
def main.tw8952462522180670554 : Nat := 0
def main.tw16187894506366716058 : Nat := 0
def main.tw8118072479153026202 : Nat := 0
def main.tw7647378279178456250 : Nat := 0
def main.tw1545906260438175962 : Nat := 0
def main.tw765107192605250810 : Nat := 0
def main.tw10642606787283503386 : Nat := 0
def main.tw12043207630009799994 : Nat := 0
def main.tw5665735395497279834 : Nat := 0
def main.tw656089360051881306 : Nat := 0
def main.tw9498315638749924794 : Nat := 0
def main.tw5995161000843957690 : Nat := 0
def main.tw6655696309031964122 : Nat := 0
def main.tw12646911602827044314 : Nat := 0
def main.tw6886502059237256666 : Nat := 0
def main.tw3934531018447913466 : Nat := 0
def main.tw4839478117068044826 : Nat := 0
def main.tw716429049611869786 : Nat := 0
def main.tw66260789543402106 : Nat := 0
def main.tw1118068078248606362 : Nat := 0
def main.tw6519269512792494810 : Nat := 0
def main.tw14457758005677747962 : Nat := 0
def main.tw9515011664573035354 : Nat := 0
def main.tw13803360072150633466 : Nat := 0
def main.tw14794545995343047707 : Nat := 0
def main.tw16008457594558532635 : Nat := 0
def main.tw15803610866087392283 : Nat := 0
def main.tw12922898485456448571 : Nat := 0
def main.tw12431561837914552411 : Nat := 0
def main.tw9917466644066708603 : Nat := 0
def main.tw16923884221124529275 : Nat := 0
def main.tw6222487380544312443 : Nat := 0
def main.tw15465920861327815835 : Nat := 0
def main.tw5473700226181020891 : Nat := 0
def main.tw291464280887544091 : Nat := 0
def main.tw17353955331779342651 : Nat := 0
def main.tw9121559901702372667 : Nat := 0
def main.tw3583811862363856187 : Nat := 0
def main.tw16035907590883218939 : Nat := 0
def main.tw16074028906463159803 : Nat := 0
def main.tw3491332818749588091 : Nat := 0
def main.tw7153082081811710619 : Nat := 0
def main.tw11962923498438245051 : Nat := 0
def main.tw17695171507069755227 : Nat := 0
def main.tw17223442867436993403 : Nat := 0
def main.tw10204856939554784155 : Nat := 0
def main.tw1098248734344127483 : Nat := 0
def main.tw9942282790977331292 : Nat := 0
def main.tw12900284412222446716 : Nat := 0
def main.tw16778611742570070204 : Nat := 0
def main.tw3613476055612923068 : Nat := 0
def main.tw5243159528196176124 : Nat := 0
def main.tw15162887387933576508 : Nat := 0
def main.tw6183352029847204284 : Nat := 0
def main.tw2406621943657119228 : Nat := 0
def main.tw5571399437266216444 : Nat := 0
def main.tw11251407683458634364 : Nat := 0
def main.tw302440914744352476 : Nat := 0
def main.tw14080665800827857628 : Nat := 0
def main.tw9155575984036265788 : Nat := 0
def main.tw11349898740250378076 : Nat := 0
def main.tw11273777480241942364 : Nat := 0
def main.tw5649967823195072380 : Nat := 0
def main.tw14439473939278146460 : Nat := 0
def main.tw14027531716089632829 : Nat := 0
def main.tw4766233809647381661 : Nat := 0
def main.tw6112859857366181021 : Nat := 0
def main.tw13116522157475607773 : Nat := 0
def main.tw11181722664286889309 : Nat := 0
def main.tw9381277316556691805 : Nat := 0
def main.tw15356762974548107741 : Nat := 0
def main.tw16480584520131690045 : Nat := 0
def main.tw3864431920445960829 : Nat := 0
def main.tw16676564476587882173 : Nat := 0
def main.tw12927740378394474205 : Nat := 0
def main.tw16819838333489098493 : Nat := 0
def main.tw12915833801598196605 : Nat := 0
def main.tw15485851114877660061 : Nat := 0
def main.tw7761410557224570781 : Nat := 0
def main.tw10177057350305019805 : Nat := 0
def main.tw3343439749351644125 : Nat := 0
def main.tw1099256609624015869 : Nat := 0
def main.tw6660377722381337597 : Nat := 0
def main.tw14788915703135433725 : Nat := 0
def main.tw17128291446047057950 : Nat := 0
def main.tw4906733209612196958 : Nat := 0
def main.tw17450470499104002142 : Nat := 0
def main.tw6418098437765475518 : Nat := 0
def main.tw4333880214566435006 : Nat := 0
def main.tw15060185592220127646 : Nat := 0
def main.tw18418235949754561950 : Nat := 0
def main.tw17336282652733537790 : Nat := 0
def main.tw13270728482189477470 : Nat := 0
def main.tw2759098988195820126 : Nat := 0
def main.tw9563168847844234846 : Nat := 0
def main.tw10876375607700338302 : Nat := 0
def main.tw12361340156312767134 : Nat := 0
def main.tw4775608329324902142 : Nat := 0
def main.tw12543713266681445118 : Nat := 0
def main.tw1236483940969888574 : Nat := 0
def main.tw11221353774195762014 : Nat := 0
def main.tw6361450105264607166 : Nat := 0
def main.tw8079908401900000222 : Nat := 0
def main.tw15806524323241146399 : Nat := 0
def main.tw11544348965984651327 : Nat := 0
def main.tw3234654855845582943 : Nat := 0
def main.tw16656740534632174751 : Nat := 0
def main.tw15336437855995106495 : Nat := 0
def main.tw6495345334283862335 : Nat := 0
def main.tw7332330508316399935 : Nat := 0
def main.tw7293298908176781663 : Nat := 0
def main.tw221909299271738847 : Nat := 0
def main.tw14504180641510445567 : Nat := 0
def main.tw17091655785135471103 : Nat := 0
def main.tw9265829497004654079 : Nat := 0
def main.tw18332899500509843999 : Nat := 0
def main.tw12273490649430754879 : Nat := 0
def main.tw3314904115985164895 : Nat := 0
def main.tw4126091431370883743 : Nat := 0
def main.tw18287795668848337631 : Nat := 0
def main.tw17057053908230417247 : Nat := 0
def main.tw10231336680788121439 : Nat := 0
def main.tw15491723280356408159 : Nat := 0
def main.tw9360745474812902239 : Nat := 0
def main.tw6162249291895867263 : Nat := 0
def main.tw13355152605343272895 : Nat := 0
def main.tw14672674291997333471 : Nat := 0
def main.tw17699476320425303637 : Nat := 0
def main.tw15068483726869450994 : Nat := 0
def main.tw1990848578997373394 : Nat := 0
def main.tw411197118754577738 : Nat := 0
def main.tw10692530663425739588 : Nat := 0
def main.tw11450261341291978320 : Nat := 0
def main.tw11945763474007920114 : Nat := 0
theorem post1 (xs : List Int) : PySem.Challenge.rw_pc0133_01.row.claim.post [ofPy (PyData.list (List.map PyData.int xs))] (.bool true) [ofPy (PyData.list (List.map PyData.int xs))] = true :=
  (postW_of (by wrow_shape) (by wtm_val) (by str_meet; first | done | w_fin))
theorem main : PySem.Challenge.rw_pc0133_01.Holds := by
  w_on; refine holds_law Mine.said fun said => ?_; o_head (kmHook Mine.K3 Mine.asK3 Mine.k3_keys [232]); (case hw => w_witness2)
  k_fill
  intro w s₀ s₁ mg mb G Y fa o pm cd doc dV kV ho hd hcd hD hmg hg args vals as hpre hlay hrd hwl hlo
  have KX := km_in_of Y
  have hT8 := km_tabs_of Y
  have V := (Ground.X G).2
  refine Ground.open G ?_
  intro T B D TE TW
  have hb := k3_boot KX
  have X := k3_frag KX
  have hT9 : TabsAt [(236, 232)] s₁.heap := List.forall_mem_cons.mpr ⟨⟨codeHd_of_K (c := 236) (P := 232) X (by kernel_rfl), hT8 232 (.head _)⟩, fun _ h => nomatch h⟩
  have hfa := mg_of (n := PySem.Str.ofString "law") (v := .ref 521) X T.g (by kernel_rfl)
  have hfe : fa = 521 := by
    have e := hmg.symm.trans hfa
    injection e with e; injection e
  subst hfe
  clear hmg hfa
  wrow_args hpre hlay hrd hwl hlo
  refine enter_call ?_
  kn_posts
  rename Heap.IsList _ _ _ => hL
  rename IntsAre _ _ => hI
  rename ¬ (_ < _) => hc
  have hlen := IntsAre.length hI
  refine law_c (w := w) (s := s₁) X hb (hT8 232 (.head _)) T hL hI (by omega) fun h' tk' ps hk h232 => ?_
  exact ⟨⟨.inl ⟨.bool true, .bool true, [], rfl, fun _ => rfl, .bool _, post1 _, fun _ => ⟨List.nodup_nil, fun _ h => nomatch h⟩⟩, hk, rfl, hg⟩, ⟨⟨ps, h232⟩, trivial⟩⟩
end Mine
end
theorem PySem.Challenge.cw_pc0133_01_holds : PySem.Challenge.rw_pc0133_01.Holds := by
  exact Mine.main
