import PyProof.Rows.All
import Wide.All
import OpenK.AllK
import Wide.FinOn
import HandS.ForMost
import HandS.Walk
import HandS.IsInst
import HandS.Wide
import HandS.Zip
import HandS.Codes
import HandS.Conv
import HandS.NoneIn
import HandS.More
import HandS.Deep
import HandS.Style
import HandS.Text
import HandS.ForExc
import HandS.ExcInit
import HandS.ExcIs
import KE.KExcIs
import HandS.RaiseMore
import KE.GoesMore
import KE.GoesZip
import HandS.TupSets
import KE.KDictCopyH
import HandS.TryOnly
import HandS.ExcField
import HandS.FStr
import KE.KDictZip
import KE.KDictItemsList
import HandS.ListItems
import HandS.Head2
import PySem.Challenge.RW_outlivers_k60_lines_of_no_form
set_option Elab.async false
set_option linter.all false
set_option maxRecDepth 100000
set_option maxHeartbeats 4000000
namespace Dd
open PySem L2
def spOf0 (K : PySem.W.Frag) : Sp := fun vs H Q _ => ∃ (a : Addr) (ns : List Int), vs = [.ref a] ∧ SqL K H a (ns.map V.int) ∧ ns.length ≤ 63 ∧ ∀ H', Q (.bl true) H'
def clsI : Stmt → Stmt
  | .ClassDef _ _ _ body _ _ _ _ _ _ _ => body.headD (.Pass ⟨0, 0, 0, 0⟩)
  | s => s
def entS (e : DictEntry) : Option (Str × Str) := match e.key, e.val with
  | .str k _, .str v _ => some (k, v)
  | _, _ => none
def topS (i : Nat) : Stmt := PySem.Challenge.pw_outlivers_k60_lines_of_no_form.main.body.getD i (.Pass ⟨0, 0, 0, 0⟩)
def tab_SHAPES_pages : List (Str × Str) := [("join", "nc"), ("pay", "nc"), ("draw", "nc"), ("tie", "nn"), ("untie", "nn"), ("bet", "nnc"), ("drop", "nn"), ("blanks", "c"), ("strike", "c")]
def tab_SHAPES_lines : List (Str × Str) := [("copy", "ww"), ("close", "w"), ("move", "wwwc"), ("names", ""), ("back", "w"), ("again", "w"), ("living", "w"), ("coins", "ww"), ("free", "ww"), ("age", "ww"), ("total", "w"), ("who", "wc"), ("told", "w"), ("bets", "w"), ("shut", "w"), ("odds", "wwc")]
abbrev tab_SHAPES := tab_SHAPES_pages
abbrev st_XBadAge : Stmt := clsI (topS 6)
abbrev st_XBadBlanks : Stmt := clsI (topS 18)
abbrev st_XBadCoins : Stmt := clsI (topS 9)
abbrev st_XBadName : Stmt := clsI (topS 3)
abbrev st_XBadTable : Stmt := clsI (topS 17)
abbrev st_XDead : Stmt := clsI (topS 8)
abbrev st_XFull : Stmt := clsI (topS 5)
abbrev st_XKnown : Stmt := clsI (topS 23)
abbrev st_XNoDeed : Stmt := clsI (topS 22)
abbrev st_XNoMember : Stmt := clsI (topS 7)
abbrev st_XNoSociety : Stmt := clsI (topS 24)
abbrev st_XTaken : Stmt := clsI (topS 4)
abbrev st_l_box : Stmt := topS 113
abbrev st_l_take : Stmt := topS 114
abbrev st_l_names : Stmt := topS 116
abbrev st_m_Society_now : Stmt := inClass (topS 83) 1
abbrev st_m_Society_names : Stmt := inClass (topS 83) 17
abbrev st_m_Stand_alive_names : Stmt := inClass (topS 76) 8
abbrev st_m_Society_living : Stmt := inClass (topS 83) 18
abbrev st_m_Society_is_tied : Stmt := inClass (topS 83) 19
abbrev st_m_Society_table : Stmt := inClass (topS 83) 20
abbrev st_m_Society_blanks : Stmt := inClass (topS 83) 21
abbrev st_p_total : Stmt := topS 57
abbrev st_p_tickets_at : Stmt := topS 56
abbrev st_m_Stand_member : Stmt := inClass (topS 76) 2
abbrev st_m_Stand_tickets_of : Stmt := inClass (topS 76) 7
abbrev st_m_Stand_live_tickets : Stmt := inClass (topS 76) 21
abbrev st_m_Society_total : Stmt := inClass (topS 83) 22
abbrev st_m_Society_deeds : Stmt := inClass (topS 83) 14
abbrev st_m_Society_bets : Stmt := inClass (topS 83) 28
abbrev st_m_Society_strokes : Stmt := inClass (topS 83) 36
abbrev st_m_Society_age : Stmt := inClass (topS 83) 23
abbrev st_m_Society_coins : Stmt := inClass (topS 83) 24
abbrev st_m_Stand_held_of : Stmt := inClass (topS 76) 10
abbrev st_m_Stand_free_of : Stmt := inClass (topS 76) 11
abbrev st_m_Society_free : Stmt := inClass (topS 83) 25
abbrev st_m_Society_tickets : Stmt := inClass (topS 83) 26
abbrev st_m_Stand_are_tied : Stmt := inClass (topS 76) 5
abbrev st_m_Society_ties : Stmt := inClass (topS 83) 27
abbrev st_l_seen : Stmt := topS 117
abbrev st_l_nearly : Stmt := topS 120
abbrev st_l_same : Stmt := topS 115
abbrev st_l_no_form : Stmt := topS 119
abbrev st_l_line : Stmt := topS 118
abbrev st_p_is_name : Stmt := topS 30
abbrev st_p_look_at_name : Stmt := topS 31
abbrev st_m_House_look_at_new : Stmt := inClass (topS 111) 2
abbrev st_p_look_at_table : Stmt := topS 54
abbrev st_p_look_at_blanks : Stmt := topS 55
abbrev st_m_Stand_init : Stmt := inClass (topS 76) 0
abbrev st_m_Society_init : Stmt := inClass (topS 83) 0
abbrev st_m_House_open_one : Stmt := inClass (topS 111) 3
abbrev st_m_Member_init : Stmt := inClass (topS 75) 0
abbrev st_m_Stand_put_member : Stmt := inClass (topS 76) 12
abbrev st_m_Stand_check_living : Stmt := inClass (topS 76) 3
abbrev st_m_Stand_put_coins : Stmt := inClass (topS 76) 13
abbrev st_p_done_by : Stmt := topS 82
abbrev st_m_Member_like : Stmt := inClass (topS 75) 1
abbrev st_m_Stand_like : Stmt := inClass (topS 76) 1
abbrev st_m_Society_deed : Stmt := inClass (topS 83) 2
abbrev st_m_House_one : Stmt := inClass (topS 111) 1
abbrev st_m_House_deed : Stmt := inClass (topS 111) 11
abbrev st_m_Society_nowS : Stmt := inClass (topS 83) 1
abbrev st_m_Society_twin : Stmt := inClass (topS 83) 15
abbrev st_m_House_view : Stmt := inClass (topS 111) 9
abbrev st_p_is_number : Stmt := topS 89
abbrev st_p_parts_of : Stmt := topS 104
abbrev st_p_changed : Stmt := topS 107
abbrev st_p_listed : Stmt := topS 101
abbrev st_p_rows_text : Stmt := topS 102
abbrev st_p_of_society : Stmt := topS 108
abbrev st_p_opened_line : Stmt := topS 105
abbrev st_p_number_in : Stmt := topS 90
abbrev st_p_deed_of : Stmt := topS 92
abbrev st_p_deed_line : Stmt := topS 106
abbrev st_m_House_names : Stmt := inClass (topS 111) 8
abbrev st_p_answered : Stmt := topS 109
abbrev st_m_House_say : Stmt := inClass (topS 111) 14
abbrev st_m_House_init : Stmt := inClass (topS 111) 0
abbrev st_law : Stmt := topS 121
def AllMk : Prop := ∀ {l : PySem.W.OpenLaw} {w : World} {K : PySem.W.Frag} {h : Heap} {mg : Str → Option Value} {fa : Addr} (X : K.In h) (G : h.Ns mainGlobals mg) (hfa : mg "law" = some (.ref fa))
    {C_Society : Addr} (aCSociety : PySem.W.nsIn K mainGlobals "Society" = some (some (.ref C_Society))) (pgSociety : PySem.W.plainGet K C_Society Str.empty = true) (hdSociety : PySem.W.hasDictIn K C_Society = true) (poSociety : PySem.W.plainOver K C_Society = true) (saSociety : PySem.W.findIn K (.ref C_Society) "__setattr__" = some (some (.builtin "object.__setattr__"))) (mkSociety : PySem.W.makesIn K C_Society = true) (kcSociety : PySem.W.keepIn K (.ref C_Society) = true)
    (nf0Society : PySem.W.findIn K (.ref C_Society) "stands" = some none)
    (nf1Society : PySem.W.findIn K (.ref C_Society) "done" = some none)
    (nf2Society : PySem.W.findIn K (.ref C_Society) "undone" = some none)
    {C_Member : Addr} (aCMember : PySem.W.nsIn K mainGlobals "Member" = some (some (.ref C_Member))) (pgMember : PySem.W.plainGet K C_Member Str.empty = true) (hdMember : PySem.W.hasDictIn K C_Member = true) (poMember : PySem.W.plainOver K C_Member = true) (saMember : PySem.W.findIn K (.ref C_Member) "__setattr__" = some (some (.builtin "object.__setattr__"))) (mkMember : PySem.W.makesIn K C_Member = true) (kcMember : PySem.W.keepIn K (.ref C_Member) = true)
    (nf0Member : PySem.W.findIn K (.ref C_Member) "years" = some none)
    (nf1Member : PySem.W.findIn K (.ref C_Member) "purse" = some none)
    (nf2Member : PySem.W.findIn K (.ref C_Member) "alive" = some none)
    {C_Stand : Addr} (aCStand : PySem.W.nsIn K mainGlobals "Stand" = some (some (.ref C_Stand))) (pgStand : PySem.W.plainGet K C_Stand Str.empty = true) (hdStand : PySem.W.hasDictIn K C_Stand = true) (poStand : PySem.W.plainOver K C_Stand = true) (saStand : PySem.W.findIn K (.ref C_Stand) "__setattr__" = some (some (.builtin "object.__setattr__"))) (mkStand : PySem.W.makesIn K C_Stand = true) (kcStand : PySem.W.keepIn K (.ref C_Stand) = true)
    (nf0Stand : PySem.W.findIn K (.ref C_Stand) "by_age" = some none)
    (nf1Stand : PySem.W.findIn K (.ref C_Stand) "only_tied" = some none)
    (nf2Stand : PySem.W.findIn K (.ref C_Stand) "many" = some none)
    (nf3Stand : PySem.W.findIn K (.ref C_Stand) "people" = some none)
    (nf4Stand : PySem.W.findIn K (.ref C_Stand) "pairs" = some none)
    (nf5Stand : PySem.W.findIn K (.ref C_Stand) "hand" = some none)
    (nf6Stand : PySem.W.findIn K (.ref C_Stand) "history" = some none)
    {C_House : Addr} (aCHouse : PySem.W.nsIn K mainGlobals "House" = some (some (.ref C_House))) (pgHouse : PySem.W.plainGet K C_House Str.empty = true) (hdHouse : PySem.W.hasDictIn K C_House = true) (poHouse : PySem.W.plainOver K C_House = true) (saHouse : PySem.W.findIn K (.ref C_House) "__setattr__" = some (some (.builtin "object.__setattr__"))) (mkHouse : PySem.W.makesIn K C_House = true) (kcHouse : PySem.W.keepIn K (.ref C_House) = true)
    (nf0House : PySem.W.findIn K (.ref C_House) "kept" = some none)
    {f1 : Addr} {od1 an1 : Option Addr} {sl1 : Array (Option Value)} {oc1 kV1 dc1 pm1 cd1 ct1 : Value}
    (a1 : PySem.W.nsIn K mainGlobals "_law_box" = some (some (.ref f1))) (l1 : K.lookup f1 = some ⟨oc1, od1, .func (PySem.W.fnOf "_law_box" "_law_box" (defArgs st_l_box) (defBody st_l_box) (defScope st_l_box) .none kV1 dc1 pm1 an1 cd1 ct1), sl1⟩) (c1 : PySem.W.codeIn K cd1 "_law_box" = true) (k1 : PySem.W.keepIn K (.ref f1) = true)
    {f2 : Addr} {od2 an2 : Option Addr} {sl2 : Array (Option Value)} {oc2 kV2 dc2 pm2 cd2 ct2 : Value}
    (a2 : PySem.W.nsIn K mainGlobals "_law_take" = some (some (.ref f2))) (l2 : K.lookup f2 = some ⟨oc2, od2, .func (PySem.W.fnOf "_law_take" "_law_take" (defArgs st_l_take) (defBody st_l_take) (defScope st_l_take) .none kV2 dc2 pm2 an2 cd2 ct2), sl2⟩) (c2 : PySem.W.codeIn K cd2 "_law_take" = true) (k2 : PySem.W.keepIn K (.ref f2) = true)
    {f3 : Addr} {od3 an3 : Option Addr} {sl3 : Array (Option Value)} {oc3 kV3 dc3 pm3 cd3 ct3 : Value}
    (a3 : PySem.W.nsIn K mainGlobals "_law_names" = some (some (.ref f3))) (l3 : K.lookup f3 = some ⟨oc3, od3, .func (PySem.W.fnOf "_law_names" "_law_names" (defArgs st_l_names) (defBody st_l_names) (defScope st_l_names) .none kV3 dc3 pm3 an3 cd3 ct3), sl3⟩) (c3 : PySem.W.codeIn K cd3 "_law_names" = true) (k3 : PySem.W.keepIn K (.ref f3) = true)
    {f4 : Addr} {od4 an4 : Option Addr} {sl4 : Array (Option Value)} {oc4 kV4 dc4 pm4 cd4 ct4 : Value}
    (a4 : PySem.W.findIn K (.ref C_Society) "now" = some (some (.ref f4))) (i4 : PySem.W.isFn K (.ref f4) = true) (l4 : K.lookup f4 = some ⟨oc4, od4, .func (PySem.W.fnOf "now" "Society.now" (defArgs st_m_Society_now) (defBody st_m_Society_now) (defScope st_m_Society_now) .none kV4 dc4 pm4 an4 cd4 ct4), sl4⟩) (c4 : PySem.W.codeIn K cd4 "Society.now" = true) (k4 : PySem.W.keepIn K (.ref f4) = true)
    {f5 : Addr} {od5 an5 : Option Addr} {sl5 : Array (Option Value)} {oc5 kV5 dc5 pm5 cd5 ct5 : Value}
    (a5 : PySem.W.findIn K (.ref C_Society) "names" = some (some (.ref f5))) (i5 : PySem.W.isFn K (.ref f5) = true) (l5 : K.lookup f5 = some ⟨oc5, od5, .func (PySem.W.fnOf "names" "Society.names" (defArgs st_m_Society_names) (defBody st_m_Society_names) (defScope st_m_Society_names) .none kV5 dc5 pm5 an5 cd5 ct5), sl5⟩) (c5 : PySem.W.codeIn K cd5 "Society.names" = true) (k5 : PySem.W.keepIn K (.ref f5) = true)
    {f6 : Addr} {od6 an6 : Option Addr} {sl6 : Array (Option Value)} {oc6 kV6 dc6 pm6 cd6 ct6 : Value}
    (a6 : PySem.W.findIn K (.ref C_Stand) "alive_names" = some (some (.ref f6))) (i6 : PySem.W.isFn K (.ref f6) = true) (l6 : K.lookup f6 = some ⟨oc6, od6, .func (PySem.W.fnOf "alive_names" "Stand.alive_names" (defArgs st_m_Stand_alive_names) (defBody st_m_Stand_alive_names) (defScope st_m_Stand_alive_names) .none kV6 dc6 pm6 an6 cd6 ct6), sl6⟩) (c6 : PySem.W.codeIn K cd6 "Stand.alive_names" = true) (k6 : PySem.W.keepIn K (.ref f6) = true)
    {f7 : Addr} {od7 an7 : Option Addr} {sl7 : Array (Option Value)} {oc7 kV7 dc7 pm7 cd7 ct7 : Value}
    (a7 : PySem.W.findIn K (.ref C_Society) "living" = some (some (.ref f7))) (i7 : PySem.W.isFn K (.ref f7) = true) (l7 : K.lookup f7 = some ⟨oc7, od7, .func (PySem.W.fnOf "living" "Society.living" (defArgs st_m_Society_living) (defBody st_m_Society_living) (defScope st_m_Society_living) .none kV7 dc7 pm7 an7 cd7 ct7), sl7⟩) (c7 : PySem.W.codeIn K cd7 "Society.living" = true) (k7 : PySem.W.keepIn K (.ref f7) = true)
    {f8 : Addr} {od8 an8 : Option Addr} {sl8 : Array (Option Value)} {oc8 kV8 dc8 pm8 cd8 ct8 : Value}
    (a8 : PySem.W.findIn K (.ref C_Society) "is_tied" = some (some (.ref f8))) (i8 : PySem.W.isFn K (.ref f8) = true) (l8 : K.lookup f8 = some ⟨oc8, od8, .func (PySem.W.fnOf "is_tied" "Society.is_tied" (defArgs st_m_Society_is_tied) (defBody st_m_Society_is_tied) (defScope st_m_Society_is_tied) .none kV8 dc8 pm8 an8 cd8 ct8), sl8⟩) (c8 : PySem.W.codeIn K cd8 "Society.is_tied" = true) (k8 : PySem.W.keepIn K (.ref f8) = true)
    {f9 : Addr} {od9 an9 : Option Addr} {sl9 : Array (Option Value)} {oc9 kV9 dc9 pm9 cd9 ct9 : Value}
    (a9 : PySem.W.findIn K (.ref C_Society) "table" = some (some (.ref f9))) (i9 : PySem.W.isFn K (.ref f9) = true) (l9 : K.lookup f9 = some ⟨oc9, od9, .func (PySem.W.fnOf "table" "Society.table" (defArgs st_m_Society_table) (defBody st_m_Society_table) (defScope st_m_Society_table) .none kV9 dc9 pm9 an9 cd9 ct9), sl9⟩) (c9 : PySem.W.codeIn K cd9 "Society.table" = true) (k9 : PySem.W.keepIn K (.ref f9) = true)
    {f10 : Addr} {od10 an10 : Option Addr} {sl10 : Array (Option Value)} {oc10 kV10 dc10 pm10 cd10 ct10 : Value}
    (a10 : PySem.W.findIn K (.ref C_Society) "blanks" = some (some (.ref f10))) (i10 : PySem.W.isFn K (.ref f10) = true) (l10 : K.lookup f10 = some ⟨oc10, od10, .func (PySem.W.fnOf "blanks" "Society.blanks" (defArgs st_m_Society_blanks) (defBody st_m_Society_blanks) (defScope st_m_Society_blanks) .none kV10 dc10 pm10 an10 cd10 ct10), sl10⟩) (c10 : PySem.W.codeIn K cd10 "Society.blanks" = true) (k10 : PySem.W.keepIn K (.ref f10) = true)
    {f11 : Addr} {od11 an11 : Option Addr} {sl11 : Array (Option Value)} {oc11 kV11 dc11 pm11 cd11 ct11 : Value}
    (a11 : PySem.W.nsIn K mainGlobals "total" = some (some (.ref f11))) (l11 : K.lookup f11 = some ⟨oc11, od11, .func (PySem.W.fnOf "total" "total" (defArgs st_p_total) (defBody st_p_total) (defScope st_p_total) .none kV11 dc11 pm11 an11 cd11 ct11), sl11⟩) (c11 : PySem.W.codeIn K cd11 "total" = true) (k11 : PySem.W.keepIn K (.ref f11) = true)
    {f12 : Addr} {od12 an12 : Option Addr} {sl12 : Array (Option Value)} {oc12 kV12 dc12 pm12 cd12 ct12 : Value}
    (a12 : PySem.W.nsIn K mainGlobals "tickets_at" = some (some (.ref f12))) (l12 : K.lookup f12 = some ⟨oc12, od12, .func (PySem.W.fnOf "tickets_at" "tickets_at" (defArgs st_p_tickets_at) (defBody st_p_tickets_at) (defScope st_p_tickets_at) .none kV12 dc12 pm12 an12 cd12 ct12), sl12⟩) (c12 : PySem.W.codeIn K cd12 "tickets_at" = true) (k12 : PySem.W.keepIn K (.ref f12) = true)
    {f13 : Addr} {od13 an13 : Option Addr} {sl13 : Array (Option Value)} {oc13 kV13 dc13 pm13 cd13 ct13 : Value}
    (a13 : PySem.W.findIn K (.ref C_Stand) "member" = some (some (.ref f13))) (i13 : PySem.W.isFn K (.ref f13) = true) (l13 : K.lookup f13 = some ⟨oc13, od13, .func (PySem.W.fnOf "member" "Stand.member" (defArgs st_m_Stand_member) (defBody st_m_Stand_member) (defScope st_m_Stand_member) .none kV13 dc13 pm13 an13 cd13 ct13), sl13⟩) (c13 : PySem.W.codeIn K cd13 "Stand.member" = true) (k13 : PySem.W.keepIn K (.ref f13) = true)
    {f14 : Addr} {od14 an14 : Option Addr} {sl14 : Array (Option Value)} {oc14 kV14 dc14 pm14 cd14 ct14 : Value}
    (a14 : PySem.W.findIn K (.ref C_Stand) "tickets_of" = some (some (.ref f14))) (i14 : PySem.W.isFn K (.ref f14) = true) (l14 : K.lookup f14 = some ⟨oc14, od14, .func (PySem.W.fnOf "tickets_of" "Stand.tickets_of" (defArgs st_m_Stand_tickets_of) (defBody st_m_Stand_tickets_of) (defScope st_m_Stand_tickets_of) .none kV14 dc14 pm14 an14 cd14 ct14), sl14⟩) (c14 : PySem.W.codeIn K cd14 "Stand.tickets_of" = true) (k14 : PySem.W.keepIn K (.ref f14) = true)
    {f15 : Addr} {od15 an15 : Option Addr} {sl15 : Array (Option Value)} {oc15 kV15 dc15 pm15 cd15 ct15 : Value}
    (a15 : PySem.W.findIn K (.ref C_Stand) "live_tickets" = some (some (.ref f15))) (i15 : PySem.W.isFn K (.ref f15) = true) (l15 : K.lookup f15 = some ⟨oc15, od15, .func (PySem.W.fnOf "live_tickets" "Stand.live_tickets" (defArgs st_m_Stand_live_tickets) (defBody st_m_Stand_live_tickets) (defScope st_m_Stand_live_tickets) .none kV15 dc15 pm15 an15 cd15 ct15), sl15⟩) (c15 : PySem.W.codeIn K cd15 "Stand.live_tickets" = true) (k15 : PySem.W.keepIn K (.ref f15) = true)
    {f16 : Addr} {od16 an16 : Option Addr} {sl16 : Array (Option Value)} {oc16 kV16 dc16 pm16 cd16 ct16 : Value}
    (a16 : PySem.W.findIn K (.ref C_Society) "total" = some (some (.ref f16))) (i16 : PySem.W.isFn K (.ref f16) = true) (l16 : K.lookup f16 = some ⟨oc16, od16, .func (PySem.W.fnOf "total" "Society.total" (defArgs st_m_Society_total) (defBody st_m_Society_total) (defScope st_m_Society_total) .none kV16 dc16 pm16 an16 cd16 ct16), sl16⟩) (c16 : PySem.W.codeIn K cd16 "Society.total" = true) (k16 : PySem.W.keepIn K (.ref f16) = true)
    {f17 : Addr} {od17 an17 : Option Addr} {sl17 : Array (Option Value)} {oc17 kV17 dc17 pm17 cd17 ct17 : Value}
    (a17 : PySem.W.findIn K (.ref C_Society) "deeds" = some (some (.ref f17))) (i17 : PySem.W.isFn K (.ref f17) = true) (l17 : K.lookup f17 = some ⟨oc17, od17, .func (PySem.W.fnOf "deeds" "Society.deeds" (defArgs st_m_Society_deeds) (defBody st_m_Society_deeds) (defScope st_m_Society_deeds) .none kV17 dc17 pm17 an17 cd17 ct17), sl17⟩) (c17 : PySem.W.codeIn K cd17 "Society.deeds" = true) (k17 : PySem.W.keepIn K (.ref f17) = true)
    {f18 : Addr} {od18 an18 : Option Addr} {sl18 : Array (Option Value)} {oc18 kV18 dc18 pm18 cd18 ct18 : Value}
    (a18 : PySem.W.findIn K (.ref C_Society) "bets" = some (some (.ref f18))) (i18 : PySem.W.isFn K (.ref f18) = true) (l18 : K.lookup f18 = some ⟨oc18, od18, .func (PySem.W.fnOf "bets" "Society.bets" (defArgs st_m_Society_bets) (defBody st_m_Society_bets) (defScope st_m_Society_bets) .none kV18 dc18 pm18 an18 cd18 ct18), sl18⟩) (c18 : PySem.W.codeIn K cd18 "Society.bets" = true) (k18 : PySem.W.keepIn K (.ref f18) = true)
    {f19 : Addr} {od19 an19 : Option Addr} {sl19 : Array (Option Value)} {oc19 kV19 dc19 pm19 cd19 ct19 : Value}
    (a19 : PySem.W.findIn K (.ref C_Society) "strokes" = some (some (.ref f19))) (i19 : PySem.W.isFn K (.ref f19) = true) (l19 : K.lookup f19 = some ⟨oc19, od19, .func (PySem.W.fnOf "strokes" "Society.strokes" (defArgs st_m_Society_strokes) (defBody st_m_Society_strokes) (defScope st_m_Society_strokes) .none kV19 dc19 pm19 an19 cd19 ct19), sl19⟩) (c19 : PySem.W.codeIn K cd19 "Society.strokes" = true) (k19 : PySem.W.keepIn K (.ref f19) = true)
    {f20 : Addr} {od20 an20 : Option Addr} {sl20 : Array (Option Value)} {oc20 kV20 dc20 pm20 cd20 ct20 : Value}
    (a20 : PySem.W.findIn K (.ref C_Society) "age" = some (some (.ref f20))) (i20 : PySem.W.isFn K (.ref f20) = true) (l20 : K.lookup f20 = some ⟨oc20, od20, .func (PySem.W.fnOf "age" "Society.age" (defArgs st_m_Society_age) (defBody st_m_Society_age) (defScope st_m_Society_age) .none kV20 dc20 pm20 an20 cd20 ct20), sl20⟩) (c20 : PySem.W.codeIn K cd20 "Society.age" = true) (k20 : PySem.W.keepIn K (.ref f20) = true)
    {f21 : Addr} {od21 an21 : Option Addr} {sl21 : Array (Option Value)} {oc21 kV21 dc21 pm21 cd21 ct21 : Value}
    (a21 : PySem.W.findIn K (.ref C_Society) "coins" = some (some (.ref f21))) (i21 : PySem.W.isFn K (.ref f21) = true) (l21 : K.lookup f21 = some ⟨oc21, od21, .func (PySem.W.fnOf "coins" "Society.coins" (defArgs st_m_Society_coins) (defBody st_m_Society_coins) (defScope st_m_Society_coins) .none kV21 dc21 pm21 an21 cd21 ct21), sl21⟩) (c21 : PySem.W.codeIn K cd21 "Society.coins" = true) (k21 : PySem.W.keepIn K (.ref f21) = true)
    {f22 : Addr} {od22 an22 : Option Addr} {sl22 : Array (Option Value)} {oc22 kV22 dc22 pm22 cd22 ct22 : Value}
    (a22 : PySem.W.findIn K (.ref C_Stand) "held_of" = some (some (.ref f22))) (i22 : PySem.W.isFn K (.ref f22) = true) (l22 : K.lookup f22 = some ⟨oc22, od22, .func (PySem.W.fnOf "held_of" "Stand.held_of" (defArgs st_m_Stand_held_of) (defBody st_m_Stand_held_of) (defScope st_m_Stand_held_of) .none kV22 dc22 pm22 an22 cd22 ct22), sl22⟩) (c22 : PySem.W.codeIn K cd22 "Stand.held_of" = true) (k22 : PySem.W.keepIn K (.ref f22) = true)
    {f23 : Addr} {od23 an23 : Option Addr} {sl23 : Array (Option Value)} {oc23 kV23 dc23 pm23 cd23 ct23 : Value}
    (a23 : PySem.W.findIn K (.ref C_Stand) "free_of" = some (some (.ref f23))) (i23 : PySem.W.isFn K (.ref f23) = true) (l23 : K.lookup f23 = some ⟨oc23, od23, .func (PySem.W.fnOf "free_of" "Stand.free_of" (defArgs st_m_Stand_free_of) (defBody st_m_Stand_free_of) (defScope st_m_Stand_free_of) .none kV23 dc23 pm23 an23 cd23 ct23), sl23⟩) (c23 : PySem.W.codeIn K cd23 "Stand.free_of" = true) (k23 : PySem.W.keepIn K (.ref f23) = true)
    {f24 : Addr} {od24 an24 : Option Addr} {sl24 : Array (Option Value)} {oc24 kV24 dc24 pm24 cd24 ct24 : Value}
    (a24 : PySem.W.findIn K (.ref C_Society) "free" = some (some (.ref f24))) (i24 : PySem.W.isFn K (.ref f24) = true) (l24 : K.lookup f24 = some ⟨oc24, od24, .func (PySem.W.fnOf "free" "Society.free" (defArgs st_m_Society_free) (defBody st_m_Society_free) (defScope st_m_Society_free) .none kV24 dc24 pm24 an24 cd24 ct24), sl24⟩) (c24 : PySem.W.codeIn K cd24 "Society.free" = true) (k24 : PySem.W.keepIn K (.ref f24) = true)
    {f25 : Addr} {od25 an25 : Option Addr} {sl25 : Array (Option Value)} {oc25 kV25 dc25 pm25 cd25 ct25 : Value}
    (a25 : PySem.W.findIn K (.ref C_Society) "tickets" = some (some (.ref f25))) (i25 : PySem.W.isFn K (.ref f25) = true) (l25 : K.lookup f25 = some ⟨oc25, od25, .func (PySem.W.fnOf "tickets" "Society.tickets" (defArgs st_m_Society_tickets) (defBody st_m_Society_tickets) (defScope st_m_Society_tickets) .none kV25 dc25 pm25 an25 cd25 ct25), sl25⟩) (c25 : PySem.W.codeIn K cd25 "Society.tickets" = true) (k25 : PySem.W.keepIn K (.ref f25) = true)
    {f26 : Addr} {od26 an26 : Option Addr} {sl26 : Array (Option Value)} {oc26 kV26 dc26 pm26 cd26 ct26 : Value}
    (a26 : PySem.W.findIn K (.ref C_Stand) "are_tied" = some (some (.ref f26))) (i26 : PySem.W.isFn K (.ref f26) = true) (l26 : K.lookup f26 = some ⟨oc26, od26, .func (PySem.W.fnOf "are_tied" "Stand.are_tied" (defArgs st_m_Stand_are_tied) (defBody st_m_Stand_are_tied) (defScope st_m_Stand_are_tied) .none kV26 dc26 pm26 an26 cd26 ct26), sl26⟩) (c26 : PySem.W.codeIn K cd26 "Stand.are_tied" = true) (k26 : PySem.W.keepIn K (.ref f26) = true)
    {f27 : Addr} {od27 an27 : Option Addr} {sl27 : Array (Option Value)} {oc27 kV27 dc27 pm27 cd27 ct27 : Value}
    (a27 : PySem.W.findIn K (.ref C_Society) "ties" = some (some (.ref f27))) (i27 : PySem.W.isFn K (.ref f27) = true) (l27 : K.lookup f27 = some ⟨oc27, od27, .func (PySem.W.fnOf "ties" "Society.ties" (defArgs st_m_Society_ties) (defBody st_m_Society_ties) (defScope st_m_Society_ties) .none kV27 dc27 pm27 an27 cd27 ct27), sl27⟩) (c27 : PySem.W.codeIn K cd27 "Society.ties" = true) (k27 : PySem.W.keepIn K (.ref f27) = true)
    {f28 : Addr} {od28 an28 : Option Addr} {sl28 : Array (Option Value)} {oc28 kV28 dc28 pm28 cd28 ct28 : Value}
    (a28 : PySem.W.nsIn K mainGlobals "_law_seen" = some (some (.ref f28))) (l28 : K.lookup f28 = some ⟨oc28, od28, .func (PySem.W.fnOf "_law_seen" "_law_seen" (defArgs st_l_seen) (defBody st_l_seen) (defScope st_l_seen) .none kV28 dc28 pm28 an28 cd28 ct28), sl28⟩) (c28 : PySem.W.codeIn K cd28 "_law_seen" = true) (k28 : PySem.W.keepIn K (.ref f28) = true)
    {f29 : Addr} {od29 an29 : Option Addr} {sl29 : Array (Option Value)} {oc29 kV29 dc29 pm29 cd29 ct29 : Value}
    (a29 : PySem.W.nsIn K mainGlobals "_law_nearly" = some (some (.ref f29))) (l29 : K.lookup f29 = some ⟨oc29, od29, .func (PySem.W.fnOf "_law_nearly" "_law_nearly" (defArgs st_l_nearly) (defBody st_l_nearly) (defScope st_l_nearly) .none kV29 dc29 pm29 an29 cd29 ct29), sl29⟩) (c29 : PySem.W.codeIn K cd29 "_law_nearly" = true) (k29 : PySem.W.keepIn K (.ref f29) = true)
    {f30 : Addr} {od30 an30 : Option Addr} {sl30 : Array (Option Value)} {oc30 kV30 dc30 pm30 cd30 ct30 : Value}
    (a30 : PySem.W.nsIn K mainGlobals "_law_same" = some (some (.ref f30))) (l30 : K.lookup f30 = some ⟨oc30, od30, .func (PySem.W.fnOf "_law_same" "_law_same" (defArgs st_l_same) (defBody st_l_same) (defScope st_l_same) .none kV30 dc30 pm30 an30 cd30 ct30), sl30⟩) (c30 : PySem.W.codeIn K cd30 "_law_same" = true) (k30 : PySem.W.keepIn K (.ref f30) = true)
    {f31 : Addr} {od31 an31 : Option Addr} {sl31 : Array (Option Value)} {oc31 kV31 dc31 pm31 cd31 ct31 : Value}
    (a31 : PySem.W.nsIn K mainGlobals "_law_no_form" = some (some (.ref f31))) (l31 : K.lookup f31 = some ⟨oc31, od31, .func (PySem.W.fnOf "_law_no_form" "_law_no_form" (defArgs st_l_no_form) (defBody st_l_no_form) (defScope st_l_no_form) .none kV31 dc31 pm31 an31 cd31 ct31), sl31⟩) (c31 : PySem.W.codeIn K cd31 "_law_no_form" = true) (k31 : PySem.W.keepIn K (.ref f31) = true)
    {f32 : Addr} {od32 an32 : Option Addr} {sl32 : Array (Option Value)} {oc32 kV32 dc32 pm32 cd32 ct32 : Value}
    (a32 : PySem.W.nsIn K mainGlobals "_law_line" = some (some (.ref f32))) (l32 : K.lookup f32 = some ⟨oc32, od32, .func (PySem.W.fnOf "_law_line" "_law_line" (defArgs st_l_line) (defBody st_l_line) (defScope st_l_line) .none kV32 dc32 pm32 an32 cd32 ct32), sl32⟩) (c32 : PySem.W.codeIn K cd32 "_law_line" = true) (k32 : PySem.W.keepIn K (.ref f32) = true)
    {f33 : Addr} {od33 an33 : Option Addr} {sl33 : Array (Option Value)} {oc33 kV33 dc33 pm33 cd33 ct33 : Value}
    (a33 : PySem.W.nsIn K mainGlobals "is_name" = some (some (.ref f33))) (l33 : K.lookup f33 = some ⟨oc33, od33, .func (PySem.W.fnOf "is_name" "is_name" (defArgs st_p_is_name) (defBody st_p_is_name) (defScope st_p_is_name) .none kV33 dc33 pm33 an33 cd33 ct33), sl33⟩) (c33 : PySem.W.codeIn K cd33 "is_name" = true) (k33 : PySem.W.keepIn K (.ref f33) = true)
    {f34 : Addr} {od34 an34 : Option Addr} {sl34 : Array (Option Value)} {oc34 kV34 dc34 pm34 cd34 ct34 : Value}
    (a34 : PySem.W.nsIn K mainGlobals "look_at_name" = some (some (.ref f34))) (l34 : K.lookup f34 = some ⟨oc34, od34, .func (PySem.W.fnOf "look_at_name" "look_at_name" (defArgs st_p_look_at_name) (defBody st_p_look_at_name) (defScope st_p_look_at_name) .none kV34 dc34 pm34 an34 cd34 ct34), sl34⟩) (c34 : PySem.W.codeIn K cd34 "look_at_name" = true) (k34 : PySem.W.keepIn K (.ref f34) = true)
    {f35 : Addr} {od35 an35 : Option Addr} {sl35 : Array (Option Value)} {oc35 kV35 dc35 pm35 cd35 ct35 : Value}
    (a35 : PySem.W.findIn K (.ref C_House) "look_at_new" = some (some (.ref f35))) (i35 : PySem.W.isFn K (.ref f35) = true) (l35 : K.lookup f35 = some ⟨oc35, od35, .func (PySem.W.fnOf "look_at_new" "House.look_at_new" (defArgs st_m_House_look_at_new) (defBody st_m_House_look_at_new) (defScope st_m_House_look_at_new) .none kV35 dc35 pm35 an35 cd35 ct35), sl35⟩) (c35 : PySem.W.codeIn K cd35 "House.look_at_new" = true) (k35 : PySem.W.keepIn K (.ref f35) = true)
    {f36 : Addr} {od36 an36 : Option Addr} {sl36 : Array (Option Value)} {oc36 kV36 dc36 pm36 cd36 ct36 : Value}
    (a36 : PySem.W.nsIn K mainGlobals "look_at_table" = some (some (.ref f36))) (l36 : K.lookup f36 = some ⟨oc36, od36, .func (PySem.W.fnOf "look_at_table" "look_at_table" (defArgs st_p_look_at_table) (defBody st_p_look_at_table) (defScope st_p_look_at_table) .none kV36 dc36 pm36 an36 cd36 ct36), sl36⟩) (c36 : PySem.W.codeIn K cd36 "look_at_table" = true) (k36 : PySem.W.keepIn K (.ref f36) = true)
    {f37 : Addr} {od37 an37 : Option Addr} {sl37 : Array (Option Value)} {oc37 kV37 dc37 pm37 cd37 ct37 : Value}
    (a37 : PySem.W.nsIn K mainGlobals "look_at_blanks" = some (some (.ref f37))) (l37 : K.lookup f37 = some ⟨oc37, od37, .func (PySem.W.fnOf "look_at_blanks" "look_at_blanks" (defArgs st_p_look_at_blanks) (defBody st_p_look_at_blanks) (defScope st_p_look_at_blanks) .none kV37 dc37 pm37 an37 cd37 ct37), sl37⟩) (c37 : PySem.W.codeIn K cd37 "look_at_blanks" = true) (k37 : PySem.W.keepIn K (.ref f37) = true)
    {f38 : Addr} {od38 an38 : Option Addr} {sl38 : Array (Option Value)} {oc38 kV38 dc38 pm38 cd38 ct38 : Value}
    (a38 : PySem.W.findIn K (.ref C_Stand) "__init__" = some (some (.ref f38))) (i38 : PySem.W.isFn K (.ref f38) = true) (l38 : K.lookup f38 = some ⟨oc38, od38, .func (PySem.W.fnOf "__init__" "Stand.__init__" (defArgs st_m_Stand_init) (defBody st_m_Stand_init) (defScope st_m_Stand_init) .none kV38 dc38 pm38 an38 cd38 ct38), sl38⟩) (c38 : PySem.W.codeIn K cd38 "Stand.__init__" = true) (k38 : PySem.W.keepIn K (.ref f38) = true)
    {f39 : Addr} {od39 an39 : Option Addr} {sl39 : Array (Option Value)} {oc39 kV39 dc39 pm39 cd39 ct39 : Value}
    (a39 : PySem.W.findIn K (.ref C_Society) "__init__" = some (some (.ref f39))) (i39 : PySem.W.isFn K (.ref f39) = true) (l39 : K.lookup f39 = some ⟨oc39, od39, .func (PySem.W.fnOf "__init__" "Society.__init__" (defArgs st_m_Society_init) (defBody st_m_Society_init) (defScope st_m_Society_init) .none kV39 dc39 pm39 an39 cd39 ct39), sl39⟩) (c39 : PySem.W.codeIn K cd39 "Society.__init__" = true) (k39 : PySem.W.keepIn K (.ref f39) = true)
    {f40 : Addr} {od40 an40 : Option Addr} {sl40 : Array (Option Value)} {oc40 kV40 dc40 pm40 cd40 ct40 : Value}
    (a40 : PySem.W.findIn K (.ref C_House) "open_one" = some (some (.ref f40))) (i40 : PySem.W.isFn K (.ref f40) = true) (l40 : K.lookup f40 = some ⟨oc40, od40, .func (PySem.W.fnOf "open_one" "House.open_one" (defArgs st_m_House_open_one) (defBody st_m_House_open_one) (defScope st_m_House_open_one) .none kV40 dc40 pm40 an40 cd40 ct40), sl40⟩) (c40 : PySem.W.codeIn K cd40 "House.open_one" = true) (k40 : PySem.W.keepIn K (.ref f40) = true)
    {f41 : Addr} {od41 an41 : Option Addr} {sl41 : Array (Option Value)} {oc41 kV41 dc41 pm41 cd41 ct41 : Value}
    (a41 : PySem.W.findIn K (.ref C_Member) "__init__" = some (some (.ref f41))) (i41 : PySem.W.isFn K (.ref f41) = true) (l41 : K.lookup f41 = some ⟨oc41, od41, .func (PySem.W.fnOf "__init__" "Member.__init__" (defArgs st_m_Member_init) (defBody st_m_Member_init) (defScope st_m_Member_init) .none kV41 dc41 pm41 an41 cd41 ct41), sl41⟩) (c41 : PySem.W.codeIn K cd41 "Member.__init__" = true) (k41 : PySem.W.keepIn K (.ref f41) = true)
    {f42 : Addr} {od42 an42 : Option Addr} {sl42 : Array (Option Value)} {oc42 kV42 dc42 pm42 cd42 ct42 : Value}
    (a42 : PySem.W.findIn K (.ref C_Stand) "put_member" = some (some (.ref f42))) (i42 : PySem.W.isFn K (.ref f42) = true) (l42 : K.lookup f42 = some ⟨oc42, od42, .func (PySem.W.fnOf "put_member" "Stand.put_member" (defArgs st_m_Stand_put_member) (defBody st_m_Stand_put_member) (defScope st_m_Stand_put_member) .none kV42 dc42 pm42 an42 cd42 ct42), sl42⟩) (c42 : PySem.W.codeIn K cd42 "Stand.put_member" = true) (k42 : PySem.W.keepIn K (.ref f42) = true)
    {f43 : Addr} {od43 an43 : Option Addr} {sl43 : Array (Option Value)} {oc43 kV43 dc43 pm43 cd43 ct43 : Value}
    (a43 : PySem.W.findIn K (.ref C_Stand) "check_living" = some (some (.ref f43))) (i43 : PySem.W.isFn K (.ref f43) = true) (l43 : K.lookup f43 = some ⟨oc43, od43, .func (PySem.W.fnOf "check_living" "Stand.check_living" (defArgs st_m_Stand_check_living) (defBody st_m_Stand_check_living) (defScope st_m_Stand_check_living) .none kV43 dc43 pm43 an43 cd43 ct43), sl43⟩) (c43 : PySem.W.codeIn K cd43 "Stand.check_living" = true) (k43 : PySem.W.keepIn K (.ref f43) = true)
    {f44 : Addr} {od44 an44 : Option Addr} {sl44 : Array (Option Value)} {oc44 kV44 dc44 pm44 cd44 ct44 : Value}
    (a44 : PySem.W.findIn K (.ref C_Stand) "put_coins" = some (some (.ref f44))) (i44 : PySem.W.isFn K (.ref f44) = true) (l44 : K.lookup f44 = some ⟨oc44, od44, .func (PySem.W.fnOf "put_coins" "Stand.put_coins" (defArgs st_m_Stand_put_coins) (defBody st_m_Stand_put_coins) (defScope st_m_Stand_put_coins) .none kV44 dc44 pm44 an44 cd44 ct44), sl44⟩) (c44 : PySem.W.codeIn K cd44 "Stand.put_coins" = true) (k44 : PySem.W.keepIn K (.ref f44) = true)
    {f45 : Addr} {od45 an45 : Option Addr} {sl45 : Array (Option Value)} {oc45 kV45 dc45 pm45 cd45 ct45 : Value}
    (a45 : PySem.W.nsIn K mainGlobals "done_by" = some (some (.ref f45))) (l45 : K.lookup f45 = some ⟨oc45, od45, .func (PySem.W.fnOf "done_by" "done_by" (defArgs st_p_done_by) (defBody st_p_done_by) (defScope st_p_done_by) .none kV45 dc45 pm45 an45 cd45 ct45), sl45⟩) (c45 : PySem.W.codeIn K cd45 "done_by" = true) (k45 : PySem.W.keepIn K (.ref f45) = true)
    {f46 : Addr} {od46 an46 : Option Addr} {sl46 : Array (Option Value)} {oc46 kV46 dc46 pm46 cd46 ct46 : Value}
    (a46 : PySem.W.findIn K (.ref C_Member) "like" = some (some (.ref f46))) (i46 : PySem.W.isFn K (.ref f46) = true) (l46 : K.lookup f46 = some ⟨oc46, od46, .func (PySem.W.fnOf "like" "Member.like" (defArgs st_m_Member_like) (defBody st_m_Member_like) (defScope st_m_Member_like) .none kV46 dc46 pm46 an46 cd46 ct46), sl46⟩) (c46 : PySem.W.codeIn K cd46 "Member.like" = true) (k46 : PySem.W.keepIn K (.ref f46) = true)
    {f47 : Addr} {od47 an47 : Option Addr} {sl47 : Array (Option Value)} {oc47 kV47 dc47 pm47 cd47 ct47 : Value}
    (a47 : PySem.W.findIn K (.ref C_Stand) "like" = some (some (.ref f47))) (i47 : PySem.W.isFn K (.ref f47) = true) (l47 : K.lookup f47 = some ⟨oc47, od47, .func (PySem.W.fnOf "like" "Stand.like" (defArgs st_m_Stand_like) (defBody st_m_Stand_like) (defScope st_m_Stand_like) .none kV47 dc47 pm47 an47 cd47 ct47), sl47⟩) (c47 : PySem.W.codeIn K cd47 "Stand.like" = true) (k47 : PySem.W.keepIn K (.ref f47) = true)
    {f48 : Addr} {od48 an48 : Option Addr} {sl48 : Array (Option Value)} {oc48 kV48 dc48 pm48 cd48 ct48 : Value}
    (a48 : PySem.W.findIn K (.ref C_Society) "deed" = some (some (.ref f48))) (i48 : PySem.W.isFn K (.ref f48) = true) (l48 : K.lookup f48 = some ⟨oc48, od48, .func (PySem.W.fnOf "deed" "Society.deed" (defArgs st_m_Society_deed) (defBody st_m_Society_deed) (defScope st_m_Society_deed) .none kV48 dc48 pm48 an48 cd48 ct48), sl48⟩) (c48 : PySem.W.codeIn K cd48 "Society.deed" = true) (k48 : PySem.W.keepIn K (.ref f48) = true)
    {f49 : Addr} {od49 an49 : Option Addr} {sl49 : Array (Option Value)} {oc49 kV49 dc49 pm49 cd49 ct49 : Value}
    (a49 : PySem.W.findIn K (.ref C_House) "one" = some (some (.ref f49))) (i49 : PySem.W.isFn K (.ref f49) = true) (l49 : K.lookup f49 = some ⟨oc49, od49, .func (PySem.W.fnOf "one" "House.one" (defArgs st_m_House_one) (defBody st_m_House_one) (defScope st_m_House_one) .none kV49 dc49 pm49 an49 cd49 ct49), sl49⟩) (c49 : PySem.W.codeIn K cd49 "House.one" = true) (k49 : PySem.W.keepIn K (.ref f49) = true)
    {f50 : Addr} {od50 an50 : Option Addr} {sl50 : Array (Option Value)} {oc50 kV50 dc50 pm50 cd50 ct50 : Value}
    (a50 : PySem.W.findIn K (.ref C_House) "deed" = some (some (.ref f50))) (i50 : PySem.W.isFn K (.ref f50) = true) (l50 : K.lookup f50 = some ⟨oc50, od50, .func (PySem.W.fnOf "deed" "House.deed" (defArgs st_m_House_deed) (defBody st_m_House_deed) (defScope st_m_House_deed) .none kV50 dc50 pm50 an50 cd50 ct50), sl50⟩) (c50 : PySem.W.codeIn K cd50 "House.deed" = true) (k50 : PySem.W.keepIn K (.ref f50) = true)
    {f51 : Addr} {od51 an51 : Option Addr} {sl51 : Array (Option Value)} {oc51 kV51 dc51 pm51 cd51 ct51 : Value}
    (a51 : PySem.W.findIn K (.ref C_Society) "now" = some (some (.ref f51))) (i51 : PySem.W.isFn K (.ref f51) = true) (l51 : K.lookup f51 = some ⟨oc51, od51, .func (PySem.W.fnOf "now" "Society.now" (defArgs st_m_Society_nowS) (defBody st_m_Society_nowS) (defScope st_m_Society_nowS) .none kV51 dc51 pm51 an51 cd51 ct51), sl51⟩) (c51 : PySem.W.codeIn K cd51 "Society.now" = true) (k51 : PySem.W.keepIn K (.ref f51) = true)
    {f52 : Addr} {od52 an52 : Option Addr} {sl52 : Array (Option Value)} {oc52 kV52 dc52 pm52 cd52 ct52 : Value}
    (a52 : PySem.W.findIn K (.ref C_Society) "twin" = some (some (.ref f52))) (i52 : PySem.W.isFn K (.ref f52) = true) (l52 : K.lookup f52 = some ⟨oc52, od52, .func (PySem.W.fnOf "twin" "Society.twin" (defArgs st_m_Society_twin) (defBody st_m_Society_twin) (defScope st_m_Society_twin) .none kV52 dc52 pm52 an52 cd52 ct52), sl52⟩) (c52 : PySem.W.codeIn K cd52 "Society.twin" = true) (k52 : PySem.W.keepIn K (.ref f52) = true)
    {f53 : Addr} {od53 an53 : Option Addr} {sl53 : Array (Option Value)} {oc53 kV53 dc53 pm53 cd53 ct53 : Value}
    (a53 : PySem.W.findIn K (.ref C_House) "view" = some (some (.ref f53))) (i53 : PySem.W.isFn K (.ref f53) = true) (l53 : K.lookup f53 = some ⟨oc53, od53, .func (PySem.W.fnOf "view" "House.view" (defArgs st_m_House_view) (defBody st_m_House_view) (defScope st_m_House_view) .none kV53 dc53 pm53 an53 cd53 ct53), sl53⟩) (c53 : PySem.W.codeIn K cd53 "House.view" = true) (k53 : PySem.W.keepIn K (.ref f53) = true)
    {f54 : Addr} {od54 an54 : Option Addr} {sl54 : Array (Option Value)} {oc54 kV54 dc54 pm54 cd54 ct54 : Value}
    (a54 : PySem.W.nsIn K mainGlobals "is_number" = some (some (.ref f54))) (l54 : K.lookup f54 = some ⟨oc54, od54, .func (PySem.W.fnOf "is_number" "is_number" (defArgs st_p_is_number) (defBody st_p_is_number) (defScope st_p_is_number) .none kV54 dc54 pm54 an54 cd54 ct54), sl54⟩) (c54 : PySem.W.codeIn K cd54 "is_number" = true) (k54 : PySem.W.keepIn K (.ref f54) = true)
    {f55 : Addr} {od55 an55 : Option Addr} {sl55 : Array (Option Value)} {oc55 kV55 dc55 pm55 cd55 ct55 : Value}
    (a55 : PySem.W.nsIn K mainGlobals "parts_of" = some (some (.ref f55))) (l55 : K.lookup f55 = some ⟨oc55, od55, .func (PySem.W.fnOf "parts_of" "parts_of" (defArgs st_p_parts_of) (defBody st_p_parts_of) (defScope st_p_parts_of) .none kV55 dc55 pm55 an55 cd55 ct55), sl55⟩) (c55 : PySem.W.codeIn K cd55 "parts_of" = true) (k55 : PySem.W.keepIn K (.ref f55) = true)
    {f56 : Addr} {od56 an56 : Option Addr} {sl56 : Array (Option Value)} {oc56 kV56 dc56 pm56 cd56 ct56 : Value}
    (a56 : PySem.W.nsIn K mainGlobals "changed" = some (some (.ref f56))) (l56 : K.lookup f56 = some ⟨oc56, od56, .func (PySem.W.fnOf "changed" "changed" (defArgs st_p_changed) (defBody st_p_changed) (defScope st_p_changed) .none kV56 dc56 pm56 an56 cd56 ct56), sl56⟩) (c56 : PySem.W.codeIn K cd56 "changed" = true) (k56 : PySem.W.keepIn K (.ref f56) = true)
    {f57 : Addr} {od57 an57 : Option Addr} {sl57 : Array (Option Value)} {oc57 kV57 dc57 pm57 cd57 ct57 : Value}
    (a57 : PySem.W.nsIn K mainGlobals "listed" = some (some (.ref f57))) (l57 : K.lookup f57 = some ⟨oc57, od57, .func (PySem.W.fnOf "listed" "listed" (defArgs st_p_listed) (defBody st_p_listed) (defScope st_p_listed) .none kV57 dc57 pm57 an57 cd57 ct57), sl57⟩) (c57 : PySem.W.codeIn K cd57 "listed" = true) (k57 : PySem.W.keepIn K (.ref f57) = true)
    {f58 : Addr} {od58 an58 : Option Addr} {sl58 : Array (Option Value)} {oc58 kV58 dc58 pm58 cd58 ct58 : Value}
    (a58 : PySem.W.nsIn K mainGlobals "rows_text" = some (some (.ref f58))) (l58 : K.lookup f58 = some ⟨oc58, od58, .func (PySem.W.fnOf "rows_text" "rows_text" (defArgs st_p_rows_text) (defBody st_p_rows_text) (defScope st_p_rows_text) .none kV58 dc58 pm58 an58 cd58 ct58), sl58⟩) (c58 : PySem.W.codeIn K cd58 "rows_text" = true) (k58 : PySem.W.keepIn K (.ref f58) = true)
    {f59 : Addr} {od59 an59 : Option Addr} {sl59 : Array (Option Value)} {oc59 kV59 dc59 pm59 cd59 ct59 : Value}
    (a59 : PySem.W.nsIn K mainGlobals "of_society" = some (some (.ref f59))) (l59 : K.lookup f59 = some ⟨oc59, od59, .func (PySem.W.fnOf "of_society" "of_society" (defArgs st_p_of_society) (defBody st_p_of_society) (defScope st_p_of_society) .none kV59 dc59 pm59 an59 cd59 ct59), sl59⟩) (c59 : PySem.W.codeIn K cd59 "of_society" = true) (k59 : PySem.W.keepIn K (.ref f59) = true)
    {f60 : Addr} {od60 an60 : Option Addr} {sl60 : Array (Option Value)} {oc60 kV60 dc60 pm60 cd60 ct60 : Value}
    (a60 : PySem.W.nsIn K mainGlobals "opened_line" = some (some (.ref f60))) (l60 : K.lookup f60 = some ⟨oc60, od60, .func (PySem.W.fnOf "opened_line" "opened_line" (defArgs st_p_opened_line) (defBody st_p_opened_line) (defScope st_p_opened_line) .none kV60 dc60 pm60 an60 cd60 ct60), sl60⟩) (c60 : PySem.W.codeIn K cd60 "opened_line" = true) (k60 : PySem.W.keepIn K (.ref f60) = true)
    {f61 : Addr} {od61 an61 : Option Addr} {sl61 : Array (Option Value)} {oc61 kV61 dc61 pm61 cd61 ct61 : Value}
    (a61 : PySem.W.nsIn K mainGlobals "number_in" = some (some (.ref f61))) (l61 : K.lookup f61 = some ⟨oc61, od61, .func (PySem.W.fnOf "number_in" "number_in" (defArgs st_p_number_in) (defBody st_p_number_in) (defScope st_p_number_in) .none kV61 dc61 pm61 an61 cd61 ct61), sl61⟩) (c61 : PySem.W.codeIn K cd61 "number_in" = true) (k61 : PySem.W.keepIn K (.ref f61) = true)
    {f62 : Addr} {od62 an62 : Option Addr} {sl62 : Array (Option Value)} {oc62 kV62 dc62 pm62 cd62 ct62 : Value}
    (a62 : PySem.W.nsIn K mainGlobals "deed_of" = some (some (.ref f62))) (l62 : K.lookup f62 = some ⟨oc62, od62, .func (PySem.W.fnOf "deed_of" "deed_of" (defArgs st_p_deed_of) (defBody st_p_deed_of) (defScope st_p_deed_of) .none kV62 dc62 pm62 an62 cd62 ct62), sl62⟩) (c62 : PySem.W.codeIn K cd62 "deed_of" = true) (k62 : PySem.W.keepIn K (.ref f62) = true)
    {f63 : Addr} {od63 an63 : Option Addr} {sl63 : Array (Option Value)} {oc63 kV63 dc63 pm63 cd63 ct63 : Value}
    (a63 : PySem.W.nsIn K mainGlobals "deed_line" = some (some (.ref f63))) (l63 : K.lookup f63 = some ⟨oc63, od63, .func (PySem.W.fnOf "deed_line" "deed_line" (defArgs st_p_deed_line) (defBody st_p_deed_line) (defScope st_p_deed_line) .none kV63 dc63 pm63 an63 cd63 ct63), sl63⟩) (c63 : PySem.W.codeIn K cd63 "deed_line" = true) (k63 : PySem.W.keepIn K (.ref f63) = true)
    {f64 : Addr} {od64 an64 : Option Addr} {sl64 : Array (Option Value)} {oc64 kV64 dc64 pm64 cd64 ct64 : Value}
    (a64 : PySem.W.findIn K (.ref C_House) "names" = some (some (.ref f64))) (i64 : PySem.W.isFn K (.ref f64) = true) (l64 : K.lookup f64 = some ⟨oc64, od64, .func (PySem.W.fnOf "names" "House.names" (defArgs st_m_House_names) (defBody st_m_House_names) (defScope st_m_House_names) .none kV64 dc64 pm64 an64 cd64 ct64), sl64⟩) (c64 : PySem.W.codeIn K cd64 "House.names" = true) (k64 : PySem.W.keepIn K (.ref f64) = true)
    {f65 : Addr} {od65 an65 : Option Addr} {sl65 : Array (Option Value)} {oc65 kV65 dc65 pm65 cd65 ct65 : Value}
    (a65 : PySem.W.nsIn K mainGlobals "answered" = some (some (.ref f65))) (l65 : K.lookup f65 = some ⟨oc65, od65, .func (PySem.W.fnOf "answered" "answered" (defArgs st_p_answered) (defBody st_p_answered) (defScope st_p_answered) .none kV65 dc65 pm65 an65 cd65 ct65), sl65⟩) (c65 : PySem.W.codeIn K cd65 "answered" = true) (k65 : PySem.W.keepIn K (.ref f65) = true)
    {f66 : Addr} {od66 an66 : Option Addr} {sl66 : Array (Option Value)} {oc66 kV66 dc66 pm66 cd66 ct66 : Value}
    (a66 : PySem.W.findIn K (.ref C_House) "say" = some (some (.ref f66))) (i66 : PySem.W.isFn K (.ref f66) = true) (l66 : K.lookup f66 = some ⟨oc66, od66, .func (PySem.W.fnOf "say" "House.say" (defArgs st_m_House_say) (defBody st_m_House_say) (defScope st_m_House_say) .none kV66 dc66 pm66 an66 cd66 ct66), sl66⟩) (c66 : PySem.W.codeIn K cd66 "House.say" = true) (k66 : PySem.W.keepIn K (.ref f66) = true)
    {f67 : Addr} {od67 an67 : Option Addr} {sl67 : Array (Option Value)} {oc67 kV67 dc67 pm67 cd67 ct67 : Value}
    (a67 : PySem.W.findIn K (.ref C_House) "__init__" = some (some (.ref f67))) (i67 : PySem.W.isFn K (.ref f67) = true) (l67 : K.lookup f67 = some ⟨oc67, od67, .func (PySem.W.fnOf "__init__" "House.__init__" (defArgs st_m_House_init) (defBody st_m_House_init) (defScope st_m_House_init) .none kV67 dc67 pm67 an67 cd67 ct67), sl67⟩) (c67 : PySem.W.codeIn K cd67 "House.__init__" = true) (k67 : PySem.W.keepIn K (.ref f67) = true)
    {f68 : Addr} {od68 an68 : Option Addr} {sl68 : Array (Option Value)} {oc68 kV68 dc68 pm68 cd68 ct68 : Value}
    (a68 : PySem.W.nsIn K mainGlobals "law" = some (some (.ref f68))) (l68 : K.lookup f68 = some ⟨oc68, od68, .func (PySem.W.fnOf "law" "law" (defArgs st_law) (defBody st_law) (defScope st_law) .none kV68 dc68 pm68 an68 cd68 ct68), sl68⟩) (c68 : PySem.W.codeIn K cd68 "law" = true) (k68 : PySem.W.keepIn K (.ref f68) = true)
    (aAtotal_tickets : PySem.W.nsIn K mainGlobals "total_tickets" = some (some (.ref f11)))
    (z0 : PySem.W.nsIn K mainGlobals "all" = some none)
    (z1 : PySem.W.nsIn K mainGlobals "bool" = some none)
    (z2 : PySem.W.nsIn K mainGlobals "dict" = some none)
    (z3 : PySem.W.nsIn K mainGlobals "int" = some none)
    (z4 : PySem.W.nsIn K mainGlobals "isinstance" = some none)
    (z5 : PySem.W.nsIn K mainGlobals "len" = some none)
    (z6 : PySem.W.nsIn K mainGlobals "list" = some none)
    (z7 : PySem.W.nsIn K mainGlobals "range" = some none)
    (z8 : PySem.W.nsIn K mainGlobals "str" = some none)
    (z9 : PySem.W.nsIn K mainGlobals "sum" = some none)
    (z10 : PySem.W.nsIn K mainGlobals "tuple" = some none)
    (z11 : PySem.W.nsIn K mainGlobals "zip" = some none)
    {t0 : Tok} (y0 : PySem.W.nsIn K mainGlobals "FIGURES" = some (some (.str "0123456789" t0)))
    {DKINDS : Addr} {oKINDS : Obj} {itsKINDS : Array Value} {nnKINDS : Nat} (y1 : PySem.W.nsIn K mainGlobals "KINDS" = some (some (.ref DKINDS))) (kLKINDS : K.lookup DKINDS = some oKINDS) (kcKINDS : oKINDS.cls = .type "tuple") (kdKINDS : oKINDS.data = .seq itsKINDS nnKINDS) (kzKINDS : itsKINDS.size ≤ sizeLine) (kvKINDS : Vals ((["free", "tied"] : List Str).map V.str) itsKINDS.toList)
    {t2 : Tok} (y2 : PySem.W.nsIn K mainGlobals "LETTERS" = some (some (.str "abcdefghijklmnopqrstuvwxyz" t2)))
    {t3 : Tok} (y3 : PySem.W.nsIn K mainGlobals "LONGEST_names" = some (some (.int 8 t3)))
    {t4 : Tok} (y4 : PySem.W.nsIn K mainGlobals "LONGEST_tickets" = some (some (.int 60 t4)))
    {t5 : Tok} (y5 : PySem.W.nsIn K mainGlobals "MOST" = some (some (.int 1000 t5)))
    {t6 : Tok} (y6 : PySem.W.nsIn K mainGlobals "MOST_AGE" = some (some (.int 99 t6)))
    {t7 : Tok} (y7 : PySem.W.nsIn K mainGlobals "MOST_FIGURES" = some (some (.int 10 t7)))
    {t8 : Tok} (y8 : PySem.W.nsIn K mainGlobals "MOST_LIVING" = some (some (.int 12 t8)))
    {t9 : Tok} (y9 : PySem.W.nsIn K mainGlobals "MOST_PAID" = some (some (.int 1000000 t9)))
    {DSHAPES_lines : Addr} {esSHAPES_lines : Array DictEntry} {nnSHAPES_lines : Nat} (y10 : PySem.W.nsIn K mainGlobals "SHAPES_lines" = some (some (.ref DSHAPES_lines))) (kLSHAPES_lines : K.lookup DSHAPES_lines = some ⟨.type "dict", none, .dict esSHAPES_lines nnSHAPES_lines, #[]⟩) (kKSHAPES_lines : PySem.W.KeysLit w.params esSHAPES_lines.toList) (klSHAPES_lines : (DSHAPES_lines == sysModules) = false) (kESHAPES_lines : esSHAPES_lines.toList.map entS = tab_SHAPES_lines.map some)
    {DSHAPES_pages : Addr} {esSHAPES_pages : Array DictEntry} {nnSHAPES_pages : Nat} (y11 : PySem.W.nsIn K mainGlobals "SHAPES_pages" = some (some (.ref DSHAPES_pages))) (kLSHAPES_pages : K.lookup DSHAPES_pages = some ⟨.type "dict", none, .dict esSHAPES_pages nnSHAPES_pages, #[]⟩) (kKSHAPES_pages : PySem.W.KeysLit w.params esSHAPES_pages.toList) (klSHAPES_pages : (DSHAPES_pages == sysModules) = false) (kESHAPES_pages : esSHAPES_pages.toList.map entS = tab_SHAPES_pages.map some)
    {XBadAge : Addr} (aXBadAge : PySem.W.nsIn K mainGlobals "BadAge" = some (some (.ref XBadAge)))
    {XBadBlanks : Addr} (aXBadBlanks : PySem.W.nsIn K mainGlobals "BadBlanks" = some (some (.ref XBadBlanks)))
    {XBadCoins : Addr} (aXBadCoins : PySem.W.nsIn K mainGlobals "BadCoins" = some (some (.ref XBadCoins)))
    {XBadName : Addr} (aXBadName : PySem.W.nsIn K mainGlobals "BadName" = some (some (.ref XBadName)))
    {XBadTable : Addr} (aXBadTable : PySem.W.nsIn K mainGlobals "BadTable" = some (some (.ref XBadTable)))
    {XDead : Addr} (aXDead : PySem.W.nsIn K mainGlobals "Dead" = some (some (.ref XDead)))
    {XFull : Addr} (aXFull : PySem.W.nsIn K mainGlobals "Full" = some (some (.ref XFull)))
    {XKnown : Addr} (aXKnown : PySem.W.nsIn K mainGlobals "Known" = some (some (.ref XKnown)))
    {XNoDeed : Addr} (aXNoDeed : PySem.W.nsIn K mainGlobals "NoDeed" = some (some (.ref XNoDeed)))
    {XNoMember : Addr} (aXNoMember : PySem.W.nsIn K mainGlobals "NoMember" = some (some (.ref XNoMember)))
    {XNoSociety : Addr} (aXNoSociety : PySem.W.nsIn K mainGlobals "NoSociety" = some (some (.ref XNoSociety)))
    {XOutError : Addr} (aXOutError : PySem.W.nsIn K mainGlobals "OutError" = some (some (.ref XOutError)))
    {XTaken : Addr} (aXTaken : PySem.W.nsIn K mainGlobals "Taken" = some (some (.ref XTaken)))
    {n1BadAge n2BadAge : Str} {NBadAge BBadAge IBadAge : Addr} {bsBadAge subBadAge : List Value} {snBadAge : List Str} {abBadAge : Bool} {coBadAge : Option Bool} {ddBadAge odBadAge anBadAge : Option Addr} {k0BadAge k1BadAge k2BadAge k3BadAge k5BadAge : Option Value} {ocBadAge kVBadAge dcBadAge pmBadAge cdBadAge ctBadAge : Value} {slBadAge : Array (Option Value)}
    (xLBadAge : K.lookup XBadAge = some (excClassObj n1BadAge n2BadAge XBadAge NBadAge bsBadAge [.ref BBadAge, .type "ValueError", .type "Exception", .type "BaseException", .type "object"] true snBadAge subBadAge abBadAge coBadAge ddBadAge k0BadAge k1BadAge k2BadAge k3BadAge k5BadAge "ValueError.__new__"))
    (saBadAge : PySem.W.findIn K (.ref XBadAge) "__setattr__" = some (some (.builtin "object.__setattr__")))
    (gaBadAge : PySem.W.findIn K (.ref XBadAge) "__getattribute__" = some (some (.builtin "BaseException.__getattribute__")))
    (ggBadAge : PySem.W.findIn K (.ref XBadAge) "__getattr__" = some none)
    (nwBadAge : PySem.W.findIn K (.ref XBadAge) "word" = some none)
    (iCBadAge : PySem.W.findIn K (.ref XBadAge) "__init__" = some (some (.ref IBadAge)))
    (tIBadAge : PySem.W.typeIn K (.ref IBadAge) = some (.type "function"))
    (lIBadAge : K.lookup IBadAge = some ⟨ocBadAge, odBadAge, .func (PySem.W.fnOf "__init__" "BadAge.__init__" (defArgs st_XBadAge) (defBody st_XBadAge) (defScope st_XBadAge) .none kVBadAge dcBadAge pmBadAge anBadAge cdBadAge ctBadAge), slBadAge⟩)
    (cIBadAge : PySem.W.codeIn K cdBadAge "BadAge.__init__" = true)
    (kIBadAge : PySem.W.keepIn K (.ref IBadAge) = true)
    (kCBadAge : PySem.W.keepIn K (.ref XBadAge) = true)
    (eCBadAge : PySem.W.subIn K (.ref XBadAge) (.type "BaseException") = some true)
    (tCBadAge : PySem.W.typeIn K (.ref XBadAge) = some (.type "type"))
    (cCBadAge : PySem.W.isClsIn K XBadAge = true)
    (sDBadAge : PySem.W.subIn K (.ref XBadAge) (.ref XBadAge) = some true)
    (haBadAge : PySem.W.findIn K (.ref XBadAge) "__class__" = some (some (.builtin "object.__class__")))
    (hmBadAge : PySem.W.mroIn K XBadAge (.type "object") = some true)
    {n1BadBlanks n2BadBlanks : Str} {NBadBlanks BBadBlanks IBadBlanks : Addr} {bsBadBlanks subBadBlanks : List Value} {snBadBlanks : List Str} {abBadBlanks : Bool} {coBadBlanks : Option Bool} {ddBadBlanks odBadBlanks anBadBlanks : Option Addr} {k0BadBlanks k1BadBlanks k2BadBlanks k3BadBlanks k5BadBlanks : Option Value} {ocBadBlanks kVBadBlanks dcBadBlanks pmBadBlanks cdBadBlanks ctBadBlanks : Value} {slBadBlanks : Array (Option Value)}
    (xLBadBlanks : K.lookup XBadBlanks = some (excClassObj n1BadBlanks n2BadBlanks XBadBlanks NBadBlanks bsBadBlanks [.ref BBadBlanks, .type "ValueError", .type "Exception", .type "BaseException", .type "object"] true snBadBlanks subBadBlanks abBadBlanks coBadBlanks ddBadBlanks k0BadBlanks k1BadBlanks k2BadBlanks k3BadBlanks k5BadBlanks "ValueError.__new__"))
    (saBadBlanks : PySem.W.findIn K (.ref XBadBlanks) "__setattr__" = some (some (.builtin "object.__setattr__")))
    (gaBadBlanks : PySem.W.findIn K (.ref XBadBlanks) "__getattribute__" = some (some (.builtin "BaseException.__getattribute__")))
    (ggBadBlanks : PySem.W.findIn K (.ref XBadBlanks) "__getattr__" = some none)
    (nwBadBlanks : PySem.W.findIn K (.ref XBadBlanks) "word" = some none)
    (iCBadBlanks : PySem.W.findIn K (.ref XBadBlanks) "__init__" = some (some (.ref IBadBlanks)))
    (tIBadBlanks : PySem.W.typeIn K (.ref IBadBlanks) = some (.type "function"))
    (lIBadBlanks : K.lookup IBadBlanks = some ⟨ocBadBlanks, odBadBlanks, .func (PySem.W.fnOf "__init__" "BadBlanks.__init__" (defArgs st_XBadBlanks) (defBody st_XBadBlanks) (defScope st_XBadBlanks) .none kVBadBlanks dcBadBlanks pmBadBlanks anBadBlanks cdBadBlanks ctBadBlanks), slBadBlanks⟩)
    (cIBadBlanks : PySem.W.codeIn K cdBadBlanks "BadBlanks.__init__" = true)
    (kIBadBlanks : PySem.W.keepIn K (.ref IBadBlanks) = true)
    (kCBadBlanks : PySem.W.keepIn K (.ref XBadBlanks) = true)
    (eCBadBlanks : PySem.W.subIn K (.ref XBadBlanks) (.type "BaseException") = some true)
    (tCBadBlanks : PySem.W.typeIn K (.ref XBadBlanks) = some (.type "type"))
    (cCBadBlanks : PySem.W.isClsIn K XBadBlanks = true)
    (sDBadBlanks : PySem.W.subIn K (.ref XBadBlanks) (.ref XBadBlanks) = some true)
    (haBadBlanks : PySem.W.findIn K (.ref XBadBlanks) "__class__" = some (some (.builtin "object.__class__")))
    (hmBadBlanks : PySem.W.mroIn K XBadBlanks (.type "object") = some true)
    {n1BadCoins n2BadCoins : Str} {NBadCoins BBadCoins IBadCoins : Addr} {bsBadCoins subBadCoins : List Value} {snBadCoins : List Str} {abBadCoins : Bool} {coBadCoins : Option Bool} {ddBadCoins odBadCoins anBadCoins : Option Addr} {k0BadCoins k1BadCoins k2BadCoins k3BadCoins k5BadCoins : Option Value} {ocBadCoins kVBadCoins dcBadCoins pmBadCoins cdBadCoins ctBadCoins : Value} {slBadCoins : Array (Option Value)}
    (xLBadCoins : K.lookup XBadCoins = some (excClassObj n1BadCoins n2BadCoins XBadCoins NBadCoins bsBadCoins [.ref BBadCoins, .type "ValueError", .type "Exception", .type "BaseException", .type "object"] true snBadCoins subBadCoins abBadCoins coBadCoins ddBadCoins k0BadCoins k1BadCoins k2BadCoins k3BadCoins k5BadCoins "ValueError.__new__"))
    (saBadCoins : PySem.W.findIn K (.ref XBadCoins) "__setattr__" = some (some (.builtin "object.__setattr__")))
    (gaBadCoins : PySem.W.findIn K (.ref XBadCoins) "__getattribute__" = some (some (.builtin "BaseException.__getattribute__")))
    (ggBadCoins : PySem.W.findIn K (.ref XBadCoins) "__getattr__" = some none)
    (nwBadCoins : PySem.W.findIn K (.ref XBadCoins) "word" = some none)
    (iCBadCoins : PySem.W.findIn K (.ref XBadCoins) "__init__" = some (some (.ref IBadCoins)))
    (tIBadCoins : PySem.W.typeIn K (.ref IBadCoins) = some (.type "function"))
    (lIBadCoins : K.lookup IBadCoins = some ⟨ocBadCoins, odBadCoins, .func (PySem.W.fnOf "__init__" "BadCoins.__init__" (defArgs st_XBadCoins) (defBody st_XBadCoins) (defScope st_XBadCoins) .none kVBadCoins dcBadCoins pmBadCoins anBadCoins cdBadCoins ctBadCoins), slBadCoins⟩)
    (cIBadCoins : PySem.W.codeIn K cdBadCoins "BadCoins.__init__" = true)
    (kIBadCoins : PySem.W.keepIn K (.ref IBadCoins) = true)
    (kCBadCoins : PySem.W.keepIn K (.ref XBadCoins) = true)
    (eCBadCoins : PySem.W.subIn K (.ref XBadCoins) (.type "BaseException") = some true)
    (tCBadCoins : PySem.W.typeIn K (.ref XBadCoins) = some (.type "type"))
    (cCBadCoins : PySem.W.isClsIn K XBadCoins = true)
    (sDBadCoins : PySem.W.subIn K (.ref XBadCoins) (.ref XBadCoins) = some true)
    (haBadCoins : PySem.W.findIn K (.ref XBadCoins) "__class__" = some (some (.builtin "object.__class__")))
    (hmBadCoins : PySem.W.mroIn K XBadCoins (.type "object") = some true)
    {n1BadName n2BadName : Str} {NBadName BBadName IBadName : Addr} {bsBadName subBadName : List Value} {snBadName : List Str} {abBadName : Bool} {coBadName : Option Bool} {ddBadName odBadName anBadName : Option Addr} {k0BadName k1BadName k2BadName k3BadName k5BadName : Option Value} {ocBadName kVBadName dcBadName pmBadName cdBadName ctBadName : Value} {slBadName : Array (Option Value)}
    (xLBadName : K.lookup XBadName = some (excClassObj n1BadName n2BadName XBadName NBadName bsBadName [.ref BBadName, .type "ValueError", .type "Exception", .type "BaseException", .type "object"] true snBadName subBadName abBadName coBadName ddBadName k0BadName k1BadName k2BadName k3BadName k5BadName "ValueError.__new__"))
    (saBadName : PySem.W.findIn K (.ref XBadName) "__setattr__" = some (some (.builtin "object.__setattr__")))
    (gaBadName : PySem.W.findIn K (.ref XBadName) "__getattribute__" = some (some (.builtin "BaseException.__getattribute__")))
    (ggBadName : PySem.W.findIn K (.ref XBadName) "__getattr__" = some none)
    (nwBadName : PySem.W.findIn K (.ref XBadName) "word" = some none)
    (iCBadName : PySem.W.findIn K (.ref XBadName) "__init__" = some (some (.ref IBadName)))
    (tIBadName : PySem.W.typeIn K (.ref IBadName) = some (.type "function"))
    (lIBadName : K.lookup IBadName = some ⟨ocBadName, odBadName, .func (PySem.W.fnOf "__init__" "BadName.__init__" (defArgs st_XBadName) (defBody st_XBadName) (defScope st_XBadName) .none kVBadName dcBadName pmBadName anBadName cdBadName ctBadName), slBadName⟩)
    (cIBadName : PySem.W.codeIn K cdBadName "BadName.__init__" = true)
    (kIBadName : PySem.W.keepIn K (.ref IBadName) = true)
    (kCBadName : PySem.W.keepIn K (.ref XBadName) = true)
    (eCBadName : PySem.W.subIn K (.ref XBadName) (.type "BaseException") = some true)
    (tCBadName : PySem.W.typeIn K (.ref XBadName) = some (.type "type"))
    (cCBadName : PySem.W.isClsIn K XBadName = true)
    (sDBadName : PySem.W.subIn K (.ref XBadName) (.ref XBadName) = some true)
    (haBadName : PySem.W.findIn K (.ref XBadName) "__class__" = some (some (.builtin "object.__class__")))
    (hmBadName : PySem.W.mroIn K XBadName (.type "object") = some true)
    {n1BadTable n2BadTable : Str} {NBadTable BBadTable IBadTable : Addr} {bsBadTable subBadTable : List Value} {snBadTable : List Str} {abBadTable : Bool} {coBadTable : Option Bool} {ddBadTable odBadTable anBadTable : Option Addr} {k0BadTable k1BadTable k2BadTable k3BadTable k5BadTable : Option Value} {ocBadTable kVBadTable dcBadTable pmBadTable cdBadTable ctBadTable : Value} {slBadTable : Array (Option Value)}
    (xLBadTable : K.lookup XBadTable = some (excClassObj n1BadTable n2BadTable XBadTable NBadTable bsBadTable [.ref BBadTable, .type "ValueError", .type "Exception", .type "BaseException", .type "object"] true snBadTable subBadTable abBadTable coBadTable ddBadTable k0BadTable k1BadTable k2BadTable k3BadTable k5BadTable "ValueError.__new__"))
    (saBadTable : PySem.W.findIn K (.ref XBadTable) "__setattr__" = some (some (.builtin "object.__setattr__")))
    (gaBadTable : PySem.W.findIn K (.ref XBadTable) "__getattribute__" = some (some (.builtin "BaseException.__getattribute__")))
    (ggBadTable : PySem.W.findIn K (.ref XBadTable) "__getattr__" = some none)
    (nwBadTable : PySem.W.findIn K (.ref XBadTable) "word" = some none)
    (iCBadTable : PySem.W.findIn K (.ref XBadTable) "__init__" = some (some (.ref IBadTable)))
    (tIBadTable : PySem.W.typeIn K (.ref IBadTable) = some (.type "function"))
    (lIBadTable : K.lookup IBadTable = some ⟨ocBadTable, odBadTable, .func (PySem.W.fnOf "__init__" "BadTable.__init__" (defArgs st_XBadTable) (defBody st_XBadTable) (defScope st_XBadTable) .none kVBadTable dcBadTable pmBadTable anBadTable cdBadTable ctBadTable), slBadTable⟩)
    (cIBadTable : PySem.W.codeIn K cdBadTable "BadTable.__init__" = true)
    (kIBadTable : PySem.W.keepIn K (.ref IBadTable) = true)
    (kCBadTable : PySem.W.keepIn K (.ref XBadTable) = true)
    (eCBadTable : PySem.W.subIn K (.ref XBadTable) (.type "BaseException") = some true)
    (tCBadTable : PySem.W.typeIn K (.ref XBadTable) = some (.type "type"))
    (cCBadTable : PySem.W.isClsIn K XBadTable = true)
    (sDBadTable : PySem.W.subIn K (.ref XBadTable) (.ref XBadTable) = some true)
    (haBadTable : PySem.W.findIn K (.ref XBadTable) "__class__" = some (some (.builtin "object.__class__")))
    (hmBadTable : PySem.W.mroIn K XBadTable (.type "object") = some true)
    {n1Dead n2Dead : Str} {NDead BDead IDead : Addr} {bsDead subDead : List Value} {snDead : List Str} {abDead : Bool} {coDead : Option Bool} {ddDead odDead anDead : Option Addr} {k0Dead k1Dead k2Dead k3Dead k5Dead : Option Value} {ocDead kVDead dcDead pmDead cdDead ctDead : Value} {slDead : Array (Option Value)}
    (xLDead : K.lookup XDead = some (excClassObj n1Dead n2Dead XDead NDead bsDead [.ref BDead, .type "ValueError", .type "Exception", .type "BaseException", .type "object"] true snDead subDead abDead coDead ddDead k0Dead k1Dead k2Dead k3Dead k5Dead "ValueError.__new__"))
    (saDead : PySem.W.findIn K (.ref XDead) "__setattr__" = some (some (.builtin "object.__setattr__")))
    (gaDead : PySem.W.findIn K (.ref XDead) "__getattribute__" = some (some (.builtin "BaseException.__getattribute__")))
    (ggDead : PySem.W.findIn K (.ref XDead) "__getattr__" = some none)
    (nwDead : PySem.W.findIn K (.ref XDead) "word" = some none)
    (iCDead : PySem.W.findIn K (.ref XDead) "__init__" = some (some (.ref IDead)))
    (tIDead : PySem.W.typeIn K (.ref IDead) = some (.type "function"))
    (lIDead : K.lookup IDead = some ⟨ocDead, odDead, .func (PySem.W.fnOf "__init__" "Dead.__init__" (defArgs st_XDead) (defBody st_XDead) (defScope st_XDead) .none kVDead dcDead pmDead anDead cdDead ctDead), slDead⟩)
    (cIDead : PySem.W.codeIn K cdDead "Dead.__init__" = true)
    (kIDead : PySem.W.keepIn K (.ref IDead) = true)
    (kCDead : PySem.W.keepIn K (.ref XDead) = true)
    (eCDead : PySem.W.subIn K (.ref XDead) (.type "BaseException") = some true)
    (tCDead : PySem.W.typeIn K (.ref XDead) = some (.type "type"))
    (cCDead : PySem.W.isClsIn K XDead = true)
    (sDDead : PySem.W.subIn K (.ref XDead) (.ref XDead) = some true)
    (haDead : PySem.W.findIn K (.ref XDead) "__class__" = some (some (.builtin "object.__class__")))
    (hmDead : PySem.W.mroIn K XDead (.type "object") = some true)
    {n1Full n2Full : Str} {NFull BFull IFull : Addr} {bsFull subFull : List Value} {snFull : List Str} {abFull : Bool} {coFull : Option Bool} {ddFull odFull anFull : Option Addr} {k0Full k1Full k2Full k3Full k5Full : Option Value} {ocFull kVFull dcFull pmFull cdFull ctFull : Value} {slFull : Array (Option Value)}
    (xLFull : K.lookup XFull = some (excClassObj n1Full n2Full XFull NFull bsFull [.ref BFull, .type "ValueError", .type "Exception", .type "BaseException", .type "object"] true snFull subFull abFull coFull ddFull k0Full k1Full k2Full k3Full k5Full "ValueError.__new__"))
    (saFull : PySem.W.findIn K (.ref XFull) "__setattr__" = some (some (.builtin "object.__setattr__")))
    (gaFull : PySem.W.findIn K (.ref XFull) "__getattribute__" = some (some (.builtin "BaseException.__getattribute__")))
    (ggFull : PySem.W.findIn K (.ref XFull) "__getattr__" = some none)
    (nwFull : PySem.W.findIn K (.ref XFull) "word" = some none)
    (iCFull : PySem.W.findIn K (.ref XFull) "__init__" = some (some (.ref IFull)))
    (tIFull : PySem.W.typeIn K (.ref IFull) = some (.type "function"))
    (lIFull : K.lookup IFull = some ⟨ocFull, odFull, .func (PySem.W.fnOf "__init__" "Full.__init__" (defArgs st_XFull) (defBody st_XFull) (defScope st_XFull) .none kVFull dcFull pmFull anFull cdFull ctFull), slFull⟩)
    (cIFull : PySem.W.codeIn K cdFull "Full.__init__" = true)
    (kIFull : PySem.W.keepIn K (.ref IFull) = true)
    (kCFull : PySem.W.keepIn K (.ref XFull) = true)
    (eCFull : PySem.W.subIn K (.ref XFull) (.type "BaseException") = some true)
    (tCFull : PySem.W.typeIn K (.ref XFull) = some (.type "type"))
    (cCFull : PySem.W.isClsIn K XFull = true)
    (sDFull : PySem.W.subIn K (.ref XFull) (.ref XFull) = some true)
    (haFull : PySem.W.findIn K (.ref XFull) "__class__" = some (some (.builtin "object.__class__")))
    (hmFull : PySem.W.mroIn K XFull (.type "object") = some true)
    {n1Known n2Known : Str} {NKnown BKnown IKnown : Addr} {bsKnown subKnown : List Value} {snKnown : List Str} {abKnown : Bool} {coKnown : Option Bool} {ddKnown odKnown anKnown : Option Addr} {k0Known k1Known k2Known k3Known k5Known : Option Value} {ocKnown kVKnown dcKnown pmKnown cdKnown ctKnown : Value} {slKnown : Array (Option Value)}
    (xLKnown : K.lookup XKnown = some (excClassObj n1Known n2Known XKnown NKnown bsKnown [.ref BKnown, .type "ValueError", .type "Exception", .type "BaseException", .type "object"] true snKnown subKnown abKnown coKnown ddKnown k0Known k1Known k2Known k3Known k5Known "ValueError.__new__"))
    (saKnown : PySem.W.findIn K (.ref XKnown) "__setattr__" = some (some (.builtin "object.__setattr__")))
    (gaKnown : PySem.W.findIn K (.ref XKnown) "__getattribute__" = some (some (.builtin "BaseException.__getattribute__")))
    (ggKnown : PySem.W.findIn K (.ref XKnown) "__getattr__" = some none)
    (nwKnown : PySem.W.findIn K (.ref XKnown) "word" = some none)
    (iCKnown : PySem.W.findIn K (.ref XKnown) "__init__" = some (some (.ref IKnown)))
    (tIKnown : PySem.W.typeIn K (.ref IKnown) = some (.type "function"))
    (lIKnown : K.lookup IKnown = some ⟨ocKnown, odKnown, .func (PySem.W.fnOf "__init__" "Known.__init__" (defArgs st_XKnown) (defBody st_XKnown) (defScope st_XKnown) .none kVKnown dcKnown pmKnown anKnown cdKnown ctKnown), slKnown⟩)
    (cIKnown : PySem.W.codeIn K cdKnown "Known.__init__" = true)
    (kIKnown : PySem.W.keepIn K (.ref IKnown) = true)
    (kCKnown : PySem.W.keepIn K (.ref XKnown) = true)
    (eCKnown : PySem.W.subIn K (.ref XKnown) (.type "BaseException") = some true)
    (tCKnown : PySem.W.typeIn K (.ref XKnown) = some (.type "type"))
    (cCKnown : PySem.W.isClsIn K XKnown = true)
    (sDKnown : PySem.W.subIn K (.ref XKnown) (.ref XKnown) = some true)
    (haKnown : PySem.W.findIn K (.ref XKnown) "__class__" = some (some (.builtin "object.__class__")))
    (hmKnown : PySem.W.mroIn K XKnown (.type "object") = some true)
    {n1NoDeed n2NoDeed : Str} {NNoDeed BNoDeed INoDeed : Addr} {bsNoDeed subNoDeed : List Value} {snNoDeed : List Str} {abNoDeed : Bool} {coNoDeed : Option Bool} {ddNoDeed odNoDeed anNoDeed : Option Addr} {k0NoDeed k1NoDeed k2NoDeed k3NoDeed k5NoDeed : Option Value} {ocNoDeed kVNoDeed dcNoDeed pmNoDeed cdNoDeed ctNoDeed : Value} {slNoDeed : Array (Option Value)}
    (xLNoDeed : K.lookup XNoDeed = some (excClassObj n1NoDeed n2NoDeed XNoDeed NNoDeed bsNoDeed [.ref BNoDeed, .type "ValueError", .type "Exception", .type "BaseException", .type "object"] true snNoDeed subNoDeed abNoDeed coNoDeed ddNoDeed k0NoDeed k1NoDeed k2NoDeed k3NoDeed k5NoDeed "ValueError.__new__"))
    (saNoDeed : PySem.W.findIn K (.ref XNoDeed) "__setattr__" = some (some (.builtin "object.__setattr__")))
    (gaNoDeed : PySem.W.findIn K (.ref XNoDeed) "__getattribute__" = some (some (.builtin "BaseException.__getattribute__")))
    (ggNoDeed : PySem.W.findIn K (.ref XNoDeed) "__getattr__" = some none)
    (nwNoDeed : PySem.W.findIn K (.ref XNoDeed) "word" = some none)
    (iCNoDeed : PySem.W.findIn K (.ref XNoDeed) "__init__" = some (some (.ref INoDeed)))
    (tINoDeed : PySem.W.typeIn K (.ref INoDeed) = some (.type "function"))
    (lINoDeed : K.lookup INoDeed = some ⟨ocNoDeed, odNoDeed, .func (PySem.W.fnOf "__init__" "NoDeed.__init__" (defArgs st_XNoDeed) (defBody st_XNoDeed) (defScope st_XNoDeed) .none kVNoDeed dcNoDeed pmNoDeed anNoDeed cdNoDeed ctNoDeed), slNoDeed⟩)
    (cINoDeed : PySem.W.codeIn K cdNoDeed "NoDeed.__init__" = true)
    (kINoDeed : PySem.W.keepIn K (.ref INoDeed) = true)
    (kCNoDeed : PySem.W.keepIn K (.ref XNoDeed) = true)
    (eCNoDeed : PySem.W.subIn K (.ref XNoDeed) (.type "BaseException") = some true)
    (tCNoDeed : PySem.W.typeIn K (.ref XNoDeed) = some (.type "type"))
    (cCNoDeed : PySem.W.isClsIn K XNoDeed = true)
    (sDNoDeed : PySem.W.subIn K (.ref XNoDeed) (.ref XNoDeed) = some true)
    (haNoDeed : PySem.W.findIn K (.ref XNoDeed) "__class__" = some (some (.builtin "object.__class__")))
    (hmNoDeed : PySem.W.mroIn K XNoDeed (.type "object") = some true)
    {n1NoMember n2NoMember : Str} {NNoMember BNoMember INoMember : Addr} {bsNoMember subNoMember : List Value} {snNoMember : List Str} {abNoMember : Bool} {coNoMember : Option Bool} {ddNoMember odNoMember anNoMember : Option Addr} {k0NoMember k1NoMember k2NoMember k3NoMember k5NoMember : Option Value} {ocNoMember kVNoMember dcNoMember pmNoMember cdNoMember ctNoMember : Value} {slNoMember : Array (Option Value)}
    (xLNoMember : K.lookup XNoMember = some (excClassObj n1NoMember n2NoMember XNoMember NNoMember bsNoMember [.ref BNoMember, .type "ValueError", .type "Exception", .type "BaseException", .type "object"] true snNoMember subNoMember abNoMember coNoMember ddNoMember k0NoMember k1NoMember k2NoMember k3NoMember k5NoMember "ValueError.__new__"))
    (saNoMember : PySem.W.findIn K (.ref XNoMember) "__setattr__" = some (some (.builtin "object.__setattr__")))
    (gaNoMember : PySem.W.findIn K (.ref XNoMember) "__getattribute__" = some (some (.builtin "BaseException.__getattribute__")))
    (ggNoMember : PySem.W.findIn K (.ref XNoMember) "__getattr__" = some none)
    (nwNoMember : PySem.W.findIn K (.ref XNoMember) "word" = some none)
    (iCNoMember : PySem.W.findIn K (.ref XNoMember) "__init__" = some (some (.ref INoMember)))
    (tINoMember : PySem.W.typeIn K (.ref INoMember) = some (.type "function"))
    (lINoMember : K.lookup INoMember = some ⟨ocNoMember, odNoMember, .func (PySem.W.fnOf "__init__" "NoMember.__init__" (defArgs st_XNoMember) (defBody st_XNoMember) (defScope st_XNoMember) .none kVNoMember dcNoMember pmNoMember anNoMember cdNoMember ctNoMember), slNoMember⟩)
    (cINoMember : PySem.W.codeIn K cdNoMember "NoMember.__init__" = true)
    (kINoMember : PySem.W.keepIn K (.ref INoMember) = true)
    (kCNoMember : PySem.W.keepIn K (.ref XNoMember) = true)
    (eCNoMember : PySem.W.subIn K (.ref XNoMember) (.type "BaseException") = some true)
    (tCNoMember : PySem.W.typeIn K (.ref XNoMember) = some (.type "type"))
    (cCNoMember : PySem.W.isClsIn K XNoMember = true)
    (sDNoMember : PySem.W.subIn K (.ref XNoMember) (.ref XNoMember) = some true)
    (haNoMember : PySem.W.findIn K (.ref XNoMember) "__class__" = some (some (.builtin "object.__class__")))
    (hmNoMember : PySem.W.mroIn K XNoMember (.type "object") = some true)
    {n1NoSociety n2NoSociety : Str} {NNoSociety BNoSociety INoSociety : Addr} {bsNoSociety subNoSociety : List Value} {snNoSociety : List Str} {abNoSociety : Bool} {coNoSociety : Option Bool} {ddNoSociety odNoSociety anNoSociety : Option Addr} {k0NoSociety k1NoSociety k2NoSociety k3NoSociety k5NoSociety : Option Value} {ocNoSociety kVNoSociety dcNoSociety pmNoSociety cdNoSociety ctNoSociety : Value} {slNoSociety : Array (Option Value)}
    (xLNoSociety : K.lookup XNoSociety = some (excClassObj n1NoSociety n2NoSociety XNoSociety NNoSociety bsNoSociety [.ref BNoSociety, .type "ValueError", .type "Exception", .type "BaseException", .type "object"] true snNoSociety subNoSociety abNoSociety coNoSociety ddNoSociety k0NoSociety k1NoSociety k2NoSociety k3NoSociety k5NoSociety "ValueError.__new__"))
    (saNoSociety : PySem.W.findIn K (.ref XNoSociety) "__setattr__" = some (some (.builtin "object.__setattr__")))
    (gaNoSociety : PySem.W.findIn K (.ref XNoSociety) "__getattribute__" = some (some (.builtin "BaseException.__getattribute__")))
    (ggNoSociety : PySem.W.findIn K (.ref XNoSociety) "__getattr__" = some none)
    (nwNoSociety : PySem.W.findIn K (.ref XNoSociety) "word" = some none)
    (iCNoSociety : PySem.W.findIn K (.ref XNoSociety) "__init__" = some (some (.ref INoSociety)))
    (tINoSociety : PySem.W.typeIn K (.ref INoSociety) = some (.type "function"))
    (lINoSociety : K.lookup INoSociety = some ⟨ocNoSociety, odNoSociety, .func (PySem.W.fnOf "__init__" "NoSociety.__init__" (defArgs st_XNoSociety) (defBody st_XNoSociety) (defScope st_XNoSociety) .none kVNoSociety dcNoSociety pmNoSociety anNoSociety cdNoSociety ctNoSociety), slNoSociety⟩)
    (cINoSociety : PySem.W.codeIn K cdNoSociety "NoSociety.__init__" = true)
    (kINoSociety : PySem.W.keepIn K (.ref INoSociety) = true)
    (kCNoSociety : PySem.W.keepIn K (.ref XNoSociety) = true)
    (eCNoSociety : PySem.W.subIn K (.ref XNoSociety) (.type "BaseException") = some true)
    (tCNoSociety : PySem.W.typeIn K (.ref XNoSociety) = some (.type "type"))
    (cCNoSociety : PySem.W.isClsIn K XNoSociety = true)
    (sDNoSociety : PySem.W.subIn K (.ref XNoSociety) (.ref XNoSociety) = some true)
    (haNoSociety : PySem.W.findIn K (.ref XNoSociety) "__class__" = some (some (.builtin "object.__class__")))
    (hmNoSociety : PySem.W.mroIn K XNoSociety (.type "object") = some true)
    {n1Taken n2Taken : Str} {NTaken BTaken ITaken : Addr} {bsTaken subTaken : List Value} {snTaken : List Str} {abTaken : Bool} {coTaken : Option Bool} {ddTaken odTaken anTaken : Option Addr} {k0Taken k1Taken k2Taken k3Taken k5Taken : Option Value} {ocTaken kVTaken dcTaken pmTaken cdTaken ctTaken : Value} {slTaken : Array (Option Value)}
    (xLTaken : K.lookup XTaken = some (excClassObj n1Taken n2Taken XTaken NTaken bsTaken [.ref BTaken, .type "ValueError", .type "Exception", .type "BaseException", .type "object"] true snTaken subTaken abTaken coTaken ddTaken k0Taken k1Taken k2Taken k3Taken k5Taken "ValueError.__new__"))
    (saTaken : PySem.W.findIn K (.ref XTaken) "__setattr__" = some (some (.builtin "object.__setattr__")))
    (gaTaken : PySem.W.findIn K (.ref XTaken) "__getattribute__" = some (some (.builtin "BaseException.__getattribute__")))
    (ggTaken : PySem.W.findIn K (.ref XTaken) "__getattr__" = some none)
    (nwTaken : PySem.W.findIn K (.ref XTaken) "word" = some none)
    (iCTaken : PySem.W.findIn K (.ref XTaken) "__init__" = some (some (.ref ITaken)))
    (tITaken : PySem.W.typeIn K (.ref ITaken) = some (.type "function"))
    (lITaken : K.lookup ITaken = some ⟨ocTaken, odTaken, .func (PySem.W.fnOf "__init__" "Taken.__init__" (defArgs st_XTaken) (defBody st_XTaken) (defScope st_XTaken) .none kVTaken dcTaken pmTaken anTaken cdTaken ctTaken), slTaken⟩)
    (cITaken : PySem.W.codeIn K cdTaken "Taken.__init__" = true)
    (kITaken : PySem.W.keepIn K (.ref ITaken) = true)
    (kCTaken : PySem.W.keepIn K (.ref XTaken) = true)
    (eCTaken : PySem.W.subIn K (.ref XTaken) (.type "BaseException") = some true)
    (tCTaken : PySem.W.typeIn K (.ref XTaken) = some (.type "type"))
    (cCTaken : PySem.W.isClsIn K XTaken = true)
    (sDTaken : PySem.W.subIn K (.ref XTaken) (.ref XTaken) = some true)
    (haTaken : PySem.W.findIn K (.ref XTaken) "__class__" = some (some (.builtin "object.__class__")))
    (hmTaken : PySem.W.mroIn K XTaken (.type "object") = some true)
    (hnX : PySem.W.specialIn K (.builtin "object.__class__") "__get__" = some (some (.builtin "getset_descriptor.__get__"))) (htX : PySem.W.takesIn K (.builtin "object.__class__") = some true)
    (dENoDeed : PySem.W.hasDictIn K XNoDeed = true) (eENoDeed : PySem.W.subIn K (.ref XNoDeed) (.type "BaseException") = some true) (tENoDeed : PySem.W.typeIn K (.ref XNoDeed) = some (.type "type"))
    (sENoDeedNoDeed : PySem.W.subIn K (.ref XNoDeed) (.ref XNoDeed) = some true)
    (dEOutError : PySem.W.hasDictIn K XOutError = true) (eEOutError : PySem.W.subIn K (.ref XOutError) (.type "BaseException") = some true) (tEOutError : PySem.W.typeIn K (.ref XOutError) = some (.type "type"))
    (sEOutErrorBadAge : PySem.W.subIn K (.ref XBadAge) (.ref XOutError) = some true)
    (sEOutErrorBadBlanks : PySem.W.subIn K (.ref XBadBlanks) (.ref XOutError) = some true)
    (sEOutErrorBadCoins : PySem.W.subIn K (.ref XBadCoins) (.ref XOutError) = some true)
    (sEOutErrorBadName : PySem.W.subIn K (.ref XBadName) (.ref XOutError) = some true)
    (sEOutErrorBadTable : PySem.W.subIn K (.ref XBadTable) (.ref XOutError) = some true)
    (sEOutErrorDead : PySem.W.subIn K (.ref XDead) (.ref XOutError) = some true)
    (sEOutErrorFull : PySem.W.subIn K (.ref XFull) (.ref XOutError) = some true)
    (sEOutErrorKnown : PySem.W.subIn K (.ref XKnown) (.ref XOutError) = some true)
    (sEOutErrorNoDeed : PySem.W.subIn K (.ref XNoDeed) (.ref XOutError) = some true)
    (sEOutErrorNoMember : PySem.W.subIn K (.ref XNoMember) (.ref XOutError) = some true)
    (sEOutErrorNoSociety : PySem.W.subIn K (.ref XNoSociety) (.ref XOutError) = some true)
    (sEOutErrorTaken : PySem.W.subIn K (.ref XTaken) (.ref XOutError) = some true),
    ∃ fd : FuncData, (∀ (s : Shared) (v : Value), BindsTo s fd ⟨[v], []⟩ [("_law_script", v)]) ∧ ∀ base : Heap, K.In base → base.Ns mainGlobals mg → FnOk l.prog w K mg base CX0 10 fa fd ["_law_script"] (spOf0 K)
end Dd
namespace DdL
open PySem PySem.W PySem.Calls PyProof.Rows
set_option maxHeartbeats 0
local macro_rules | `(tactic| o_head (kHook $k $a $e)) => `(tactic| (have _z := kHook $k $a $e; assumption))
theorem lay (h : (OpenLaw.row PySem.Challenge.rw_outlivers_k60_lines_of_no_form).Holds) : (OpenLaw.row PySem.Challenge.rw_outlivers_k60_lines_of_no_form).Holds := by k_head
end DdL
namespace DdH
open PySem PySem.W PySem.Calls PyProof.Rows
set_option maxHeartbeats 0
abbrev RR : OpenRow := OpenLaw.row PySem.Challenge.rw_outlivers_k60_lines_of_no_form
abbrev qF : Program := view RR.prog [121]
def loose0 : List PySem.Str := ([("_wall" : PySem.Str), ("OutError" : PySem.Str), ("BadName" : PySem.Str), ("Taken" : PySem.Str), ("Full" : PySem.Str), ("BadAge" : PySem.Str), ("NoMember" : PySem.Str), ("Dead" : PySem.Str), ("BadCoins" : PySem.Str), ("Short" : PySem.Str), ("Same" : PySem.Str), ("Tied" : PySem.Str), ("NotTied" : PySem.Str), ("Standing" : PySem.Str), ("BadUnits" : PySem.Str)] : List PySem.Str)
def loose1 : List PySem.Str := ([("NoBet" : PySem.Str), ("BadTable" : PySem.Str), ("BadBlanks" : PySem.Str), ("BadTicket" : PySem.Str), ("BadStrokes" : PySem.Str), ("NothingLeft" : PySem.Str), ("NoDeed" : PySem.Str), ("Known" : PySem.Str), ("NoSociety" : PySem.Str), ("Holding" : PySem.Str), ("NoPage" : PySem.Str), ("LETTERS" : PySem.Str), ("LONGEST_names" : PySem.Str), ("is_name" : PySem.Str), ("look_at_name" : PySem.Str)] : List PySem.Str)
def loose2 : List PySem.Str := ([("divisor" : PySem.Str), ("unit" : PySem.Str), ("unit_weight" : PySem.Str), ("bets_of" : PySem.Str), ("lowest" : PySem.Str), ("added" : PySem.Str), ("times" : PySem.Str), ("lives" : PySem.Str), ("tied" : PySem.Str), ("Roads" : PySem.Str), ("greatest" : PySem.Str), ("shut_of" : PySem.Str), ("moved" : PySem.Str), ("LONGEST_tickets" : PySem.Str), ("MOST" : PySem.Str)] : List PySem.Str)
def loose3 : List PySem.Str := ([("look_at_table" : PySem.Str), ("look_at_blanks" : PySem.Str), ("tickets_at" : PySem.Str), ("total" : PySem.Str), ("total_tickets" : PySem.Str), ("ticket_of" : PySem.Str), ("weights" : PySem.Str), ("overweight" : PySem.Str), ("arcs" : PySem.Str), ("lap" : PySem.Str), ("ring" : PySem.Str), ("star" : PySem.Str), ("wheel" : PySem.Str), ("MOST_LIVING" : PySem.Str), ("MOST_AGE" : PySem.Str)] : List PySem.Str)
def loose4 : List PySem.Str := ([("MOST_PAID" : PySem.Str), ("MOST_DRAWN" : PySem.Str), ("MOST_UNITS" : PySem.Str), ("Member" : PySem.Str), ("Stand" : PySem.Str), ("branches" : PySem.Str), ("tree_of" : PySem.Str), ("MOST_STROKES" : PySem.Str), ("done_by" : PySem.Str), ("Society" : PySem.Str), ("FIGURES" : PySem.Str), ("MOST_FIGURES" : PySem.Str), ("SHAPES_pages" : PySem.Str), ("KINDS" : PySem.Str), ("is_number" : PySem.Str)] : List PySem.Str)
def loose5 : List PySem.Str := ([("number_in" : PySem.Str), ("deed_text" : PySem.Str), ("deed_of" : PySem.Str), ("opening_text" : PySem.Str), ("opening_of" : PySem.Str), ("page" : PySem.Str), ("page_pages" : PySem.Str), ("begun" : PySem.Str), ("society_of" : PySem.Str), ("SHAPES_lines" : PySem.Str), ("listed" : PySem.Str), ("rows_text" : PySem.Str), ("named" : PySem.Str), ("parts_of" : PySem.Str), ("opened_line" : PySem.Str)] : List PySem.Str)
def loose6 : List PySem.Str := ([("deed_line" : PySem.Str), ("changed" : PySem.Str), ("of_society" : PySem.Str), ("answered" : PySem.Str), ("House" : PySem.Str), ("_law_box" : PySem.Str), ("_law_take" : PySem.Str), ("_law_same" : PySem.Str), ("_law_names" : PySem.Str), ("_law_seen" : PySem.Str), ("_law_line" : PySem.Str), ("_law_no_form" : PySem.Str), ("_law_nearly" : PySem.Str)] : List PySem.Str)
def looseF : List PySem.Str := loose0 ++ loose1 ++ loose2 ++ loose3 ++ loose4 ++ loose5 ++ loose6
def as0 : List Nat := [2, 3, 15, 17, 18, 20, 21, 22, 29, 31, 32, 34, 35, 36, 37, 38, 39, 42, 49, 51, 52, 54, 55, 56, 57, 58, 61, 68, 70, 71, 73, 74, 75, 76, 77, 80, 87, 89, 90, 92]
def as1 : List Nat := [93, 94, 95, 96, 99, 106, 108, 109, 111, 112, 113, 114, 115, 118, 125, 127, 128, 130, 131, 132, 133, 134, 137, 144, 146, 147, 149, 150, 151, 152, 153, 156, 163, 165, 166, 168, 169, 170, 171, 172]
def as2 : List Nat := [175, 182, 184, 185, 187, 188, 189, 190, 191, 194, 201, 203, 204, 206, 207, 208, 209, 210, 213, 220, 222, 223, 225, 226, 227, 228, 229, 232, 239, 241, 242, 244, 245, 246, 247, 248, 251, 258, 260, 261]
def as3 : List Nat := [263, 264, 265, 266, 267, 270, 277, 279, 280, 282, 283, 284, 285, 286, 289, 296, 298, 299, 301, 302, 303, 304, 305, 308, 315, 317, 318, 320, 321, 322, 323, 324, 327, 334, 336, 337, 339, 340, 341, 342]
def as4 : List Nat := [343, 346, 353, 355, 356, 358, 359, 360, 361, 362, 365, 372, 374, 375, 377, 378, 379, 380, 381, 384, 391, 393, 394, 396, 397, 398, 399, 400, 403, 410, 412, 413, 415, 416, 417, 418, 419, 422, 429, 431]
def as5 : List Nat := [432, 434, 435, 436, 437, 438, 441, 448, 450, 451, 453, 454, 455, 456, 457, 460, 467, 469, 470, 472, 473, 474, 475, 476, 479, 486, 488, 489, 491, 492, 493, 494, 495, 498, 500, 501, 503, 504, 505, 507]
def as6 : List Nat := [508, 510, 511, 512, 514, 515, 517, 518, 519, 521, 522, 524, 525, 526, 528, 529, 531, 532, 533, 535, 536, 538, 539, 540, 542, 543, 545, 546, 547, 549, 550, 552, 553, 554, 556, 557, 559, 560, 561, 563]
def as7 : List Nat := [564, 566, 567, 568, 570, 571, 573, 574, 582, 585, 586, 587, 590, 591, 592, 594, 595, 597, 598, 599, 601, 602, 604, 605, 606, 608, 609, 611, 612, 613, 615, 616, 618, 619, 620, 622, 623, 625, 626, 627]
def as8 : List Nat := [630, 631, 632, 634, 635, 637, 638, 639, 642, 643, 644, 645, 646, 647, 648, 651, 653, 654, 656, 657, 658, 660, 661, 663, 664, 665, 667, 668, 670, 671, 672, 674, 675, 677, 678, 679, 681, 682, 684, 685]
def as9 : List Nat := [686, 688, 689, 691, 692, 693, 695, 696, 698, 699, 700, 702, 703, 705, 706, 707, 710, 711, 712, 714, 715, 717, 718, 719, 721, 722, 724, 725, 726, 728, 729, 731, 732, 733, 735, 736, 738, 739, 740, 743]
def as10 : List Nat := [744, 745, 747, 748, 750, 751, 759, 761, 762, 764, 765, 766, 768, 769, 771, 772, 773, 774, 775, 776, 777, 787, 789, 790, 792, 793, 794, 796, 797, 799, 800, 801, 803, 804, 806, 807, 808, 810, 811, 813]
def as11 : List Nat := [814, 815, 817, 818, 820, 821, 822, 824, 825, 827, 828, 829, 831, 832, 834, 835, 836, 838, 839, 841, 842, 843, 846, 847, 848, 850, 851, 853, 854, 855, 857, 858, 860, 861, 862, 864, 865, 867, 868, 869]
def as12 : List Nat := [871, 872, 874, 875, 876, 878, 879, 881, 882, 883, 885, 886, 888, 889, 890, 892, 893, 895, 896, 897, 900, 901, 902, 904, 905, 907, 908, 909, 911, 912, 914, 915, 916, 918, 919, 921, 922, 923, 926, 927]
def as13 : List Nat := [928, 931, 932, 933, 936, 937, 938, 941, 942, 943, 945, 946, 948, 949, 950, 952, 953, 955, 956, 957, 960, 961, 962, 964, 965, 967, 968, 969, 971, 972, 974, 975, 976, 978, 979, 981, 982, 983, 985, 986]
def as14 : List Nat := [988, 989, 990, 993, 994, 995, 996, 997, 998, 999, 1002, 1004, 1005, 1007, 1008, 1009, 1012, 1013, 1014, 1016, 1017, 1019, 1020, 1028, 1030, 1031, 1033, 1034, 1035, 1037, 1038, 1040, 1041, 1042, 1044, 1045, 1047, 1048, 1049, 1051]
def as15 : List Nat := [1052, 1054, 1055, 1056, 1058, 1059, 1061, 1062, 1063, 1065, 1066, 1068, 1069, 1070, 1072, 1073, 1075, 1076, 1077, 1079, 1080, 1082, 1083, 1084, 1086, 1087, 1089, 1090, 1091, 1093, 1094, 1096, 1097, 1098, 1100, 1101, 1103, 1104, 1105, 1107]
def as16 : List Nat := [1108, 1110, 1111, 1112, 1114, 1115, 1117, 1118, 1119, 1121, 1122, 1124, 1125, 1126, 1128, 1129, 1131, 1132, 1133, 1135, 1136, 1138, 1139, 1140, 1142, 1143, 1145, 1146, 1147, 1149, 1150, 1152, 1153, 1154, 1156, 1157, 1159, 1160, 1161, 1163]
def as17 : List Nat := [1164, 1166, 1167, 1168, 1170, 1171, 1173, 1174, 1175, 1177, 1178, 1180, 1181, 1182, 1184, 1185, 1187, 1188, 1189, 1191, 1192, 1194, 1195, 1196, 1198, 1199, 1201, 1202, 1203, 1205, 1206, 1208, 1209, 1210, 1212, 1213, 1215, 1216, 1217, 1220]
def as18 : List Nat := [1221, 1222, 1224, 1225, 1227, 1228, 1229, 1231, 1232, 1234, 1235, 1236, 1239, 1240, 1241, 1243, 1244, 1246, 1247, 1248, 1250, 1251, 1253, 1254, 1255, 1257, 1258, 1260, 1261, 1262, 1264, 1265, 1267, 1268, 1269, 1271, 1272, 1274, 1275, 1276]
def as19 : List Nat := [1278, 1279, 1281, 1282, 1283, 1285, 1286, 1288, 1289, 1290, 1292, 1293, 1295, 1296, 1297, 1298, 1299, 1300, 1301, 1304, 1305, 1306, 1308, 1309, 1311, 1312, 1313, 1315, 1316, 1318, 1319, 1320, 1323, 1324, 1325, 1327, 1328, 1330, 1331, 1332]
def as20 : List Nat := [1335, 1336, 1337, 1340, 1341, 1342, 1345, 1346, 1347, 1349, 1350, 1352, 1353, 1354, 1356, 1357, 1359, 1360, 1361, 1362, 1364, 1365, 1367, 1368, 1369, 1372, 1373, 1374, 1376, 1377, 1379, 1380, 1381, 1383, 1384, 1386, 1387, 1388, 1391, 1392]
def as21 : List Nat := [1393, 1395, 1396, 1398, 1399, 1400, 1402, 1403, 1405, 1406, 1407, 1409, 1410, 1412, 1413, 1414, 1416, 1417, 1419, 1420, 1428, 1430, 1431, 1433, 1434, 1435, 1437, 1438, 1440, 1441, 1442, 1444, 1445, 1447, 1448, 1449, 1451, 1452, 1454, 1455]
def as22 : List Nat := [1456, 1458, 1459, 1461, 1462, 1463, 1465, 1466, 1468, 1469, 1470, 1472, 1473, 1475, 1476, 1477, 1479, 1480, 1482, 1483, 1484, 1486, 1487, 1489, 1490, 1491, 1493, 1494, 1496, 1497, 1498, 1500, 1501, 1503, 1504, 1505, 1507, 1508, 1510, 1511]
def as23 : List Nat := [1512, 1514, 1515, 1517, 1518, 1519, 1521, 1522, 1524, 1525, 1526, 1528, 1529, 1531, 1532, 1533, 1534, 1535, 1536, 1537, 1540, 1542, 1543, 1545, 1546, 1547, 1549, 1550, 1552, 1553, 1554, 1557, 1558, 1559, 1562, 1563, 1564, 1566, 1567, 1569]
def as24 : List Nat := [1570, 1571, 1573, 1574, 1576, 1577, 1578, 1580, 1581, 1583, 1584, 1585, 1587, 1588, 1590, 1591, 1592, 1594, 1595, 1597, 1598]
def asF : List Addr := as0 ++ as1 ++ as2 ++ as3 ++ as4 ++ as5 ++ as6 ++ as7 ++ as8 ++ as9 ++ as10 ++ as11 ++ as12 ++ as13 ++ as14 ++ as15 ++ as16 ++ as17 ++ as18 ++ as19 ++ as20 ++ as21 ++ as22 ++ as23 ++ as24
theorem asF_ok (P : Params) : asF = (DdL.lay.heap_1 P).map (·.1) := by kernel_rfl
def obF (s : SharedT) : List (Option Obj) := asF.map (HandSHeadRun.getT s)
theorem obF_eq (s : SharedT) : obF s = Hook.obs (kHook DdL.lay.heap_1 asF asF_ok) s.abs := congrArg asF.map (funext (HandSHeadRun.getT_eq s))
theorem runF0 (w : World) : HandSHeadRun.RunEq RR qF (kHook DdL.lay.heap_1 asF asF_ok) obF 20000 looseF (w.withFollow "special-get-raises" false) := by
  intro os
  kernel_rfl
theorem runF1 (w : World) : HandSHeadRun.RunEq RR qF (kHook DdL.lay.heap_1 asF asF_ok) obF 20000 looseF (w.withFollow "special-get-raises" true) := by
  intro os
  kernel_rfl
theorem runF (w : World) : HandSHeadRun.RunEq RR qF (kHook DdL.lay.heap_1 asF asF_ok) obF 20000 looseF w := byRow2 "special-get-raises" (P := HandSHeadRun.RunEq RR qF (kHook DdL.lay.heap_1 asF asF_ok) obF 20000 looseF) runF0 runF1 w
end DdH
section
open PySem PySem.W PyProof.Rows
set_option maxRecDepth 100000 in
set_option maxHeartbeats 0 in
theorem Dd.early (H0 : Dd.AllMk) : PySem.Challenge.rw_outlivers_k60_lines_of_no_form.Holds := by
  w_on; o_law
  refine HandSHeadRun.head_any (r := DdH.RR) (q := DdH.qF) (H := kHook DdL.lay.heap_1 DdH.asF DdH.asF_ok) (ob := DdH.obF) (M := 20000) (loose := DdH.looseF) (d := HandSHeadRun.topDef DdH.RR.prog 121) (kwd := []) DdH.obF_eq
    (by kernel_rfl) (fun s => by kernel_rfl) DdH.runF (by kernel_rfl) (by kernel_rfl) (by kernel_rfl) (by rfl) (by first | assumption | decide +kernel) (by decide +kernel) ⟨rfl, rfl, rfl, rfl, rfl, by decide +kernel⟩ ?hw ?hc
  case hw => w_witness2
  k_fill
  refine L2.walk_of (l := PySem.Challenge.rw_outlivers_k60_lines_of_no_form) (n := 63) (k := 10) (x := "_law_script") (CX := fun _ => L2.CX0) (sp := fun w => Dd.spOf0 _) rfl (by decide) (by kernel_rfl) ⟨rfl, by decide, by decide⟩ (fun w h Y => PySem.W.kIn_of Y) ?F (fun _ _ a ns hl _ hS => ⟨a, ns, rfl, hS, hl, fun _ => rfl⟩) (fun _ _ _ _ _ h => h)
  case F =>
    intro w mg fa h KX G hmg0
    have hmg : mg ("law" : PySem.Str) = some (.ref fa) := by
      have e : (HandSHeadRun.topDef DdH.RR.prog 121).name = ("law" : PySem.Str) := by kernel_rfl
      rw [← e]
      exact hmg0
    refine' H0 KX G hmg ?aCSociety ?pgSociety ?hdSociety ?poSociety ?saSociety ?mkSociety ?kcSociety ?nf0Society ?nf1Society ?nf2Society ?aCMember ?pgMember ?hdMember ?poMember ?saMember ?mkMember ?kcMember ?nf0Member ?nf1Member ?nf2Member ?aCStand ?pgStand ?hdStand ?poStand ?saStand ?mkStand ?kcStand ?nf0Stand ?nf1Stand ?nf2Stand ?nf3Stand ?nf4Stand ?nf5Stand ?nf6Stand ?aCHouse ?pgHouse ?hdHouse ?poHouse ?saHouse ?mkHouse ?kcHouse ?nf0House ?a1 ?l1 ?c1 ?k1 ?a2 ?l2 ?c2 ?k2 ?a3 ?l3 ?c3 ?k3 ?a4 ?i4 ?l4 ?c4 ?k4 ?a5 ?i5 ?l5 ?c5 ?k5 ?a6 ?i6 ?l6 ?c6 ?k6 ?a7 ?i7 ?l7 ?c7 ?k7 ?a8 ?i8 ?l8 ?c8 ?k8 ?a9 ?i9 ?l9 ?c9 ?k9 ?a10 ?i10 ?l10 ?c10 ?k10 ?a11 ?l11 ?c11 ?k11 ?a12 ?l12 ?c12 ?k12 ?a13 ?i13 ?l13 ?c13 ?k13 ?a14 ?i14 ?l14 ?c14 ?k14 ?a15 ?i15 ?l15 ?c15 ?k15 ?a16 ?i16 ?l16 ?c16 ?k16 ?a17 ?i17 ?l17 ?c17 ?k17 ?a18 ?i18 ?l18 ?c18 ?k18 ?a19 ?i19 ?l19 ?c19 ?k19 ?a20 ?i20 ?l20 ?c20 ?k20 ?a21 ?i21 ?l21 ?c21 ?k21 ?a22 ?i22 ?l22 ?c22 ?k22 ?a23 ?i23 ?l23 ?c23 ?k23 ?a24 ?i24 ?l24 ?c24 ?k24 ?a25 ?i25 ?l25 ?c25 ?k25 ?a26 ?i26 ?l26 ?c26 ?k26 ?a27 ?i27 ?l27 ?c27 ?k27 ?a28 ?l28 ?c28 ?k28 ?a29 ?l29 ?c29 ?k29 ?a30 ?l30 ?c30 ?k30 ?a31 ?l31 ?c31 ?k31 ?a32 ?l32 ?c32 ?k32 ?a33 ?l33 ?c33 ?k33 ?a34 ?l34 ?c34 ?k34 ?a35 ?i35 ?l35 ?c35 ?k35 ?a36 ?l36 ?c36 ?k36 ?a37 ?l37 ?c37 ?k37 ?a38 ?i38 ?l38 ?c38 ?k38 ?a39 ?i39 ?l39 ?c39 ?k39 ?a40 ?i40 ?l40 ?c40 ?k40 ?a41 ?i41 ?l41 ?c41 ?k41 ?a42 ?i42 ?l42 ?c42 ?k42 ?a43 ?i43 ?l43 ?c43 ?k43 ?a44 ?i44 ?l44 ?c44 ?k44 ?a45 ?l45 ?c45 ?k45 ?a46 ?i46 ?l46 ?c46 ?k46 ?a47 ?i47 ?l47 ?c47 ?k47 ?a48 ?i48 ?l48 ?c48 ?k48 ?a49 ?i49 ?l49 ?c49 ?k49 ?a50 ?i50 ?l50 ?c50 ?k50 ?a51 ?i51 ?l51 ?c51 ?k51 ?a52 ?i52 ?l52 ?c52 ?k52 ?a53 ?i53 ?l53 ?c53 ?k53 ?a54 ?l54 ?c54 ?k54 ?a55 ?l55 ?c55 ?k55 ?a56 ?l56 ?c56 ?k56 ?a57 ?l57 ?c57 ?k57 ?a58 ?l58 ?c58 ?k58 ?a59 ?l59 ?c59 ?k59 ?a60 ?l60 ?c60 ?k60 ?a61 ?l61 ?c61 ?k61 ?a62 ?l62 ?c62 ?k62 ?a63 ?l63 ?c63 ?k63 ?a64 ?i64 ?l64 ?c64 ?k64 ?a65 ?l65 ?c65 ?k65 ?a66 ?i66 ?l66 ?c66 ?k66 ?a67 ?i67 ?l67 ?c67 ?k67 ?a68 ?l68 ?c68 ?k68 ?aAtotal_tickets ?z0 ?z1 ?z2 ?z3 ?z4 ?z5 ?z6 ?z7 ?z8 ?z9 ?z10 ?z11 ?y0 ?y1 ?kLKINDS ?kcKINDS ?kdKINDS ?kzKINDS ?kvKINDS ?y2 ?y3 ?y4 ?y5 ?y6 ?y7 ?y8 ?y9 ?y10 ?kLSHAPES_lines ?kKSHAPES_lines ?klSHAPES_lines ?kESHAPES_lines ?y11 ?kLSHAPES_pages ?kKSHAPES_pages ?klSHAPES_pages ?kESHAPES_pages ?aXBadAge ?aXBadBlanks ?aXBadCoins ?aXBadName ?aXBadTable ?aXDead ?aXFull ?aXKnown ?aXNoDeed ?aXNoMember ?aXNoSociety ?aXOutError ?aXTaken ?xLBadAge ?saBadAge ?gaBadAge ?ggBadAge ?nwBadAge ?iCBadAge ?tIBadAge ?lIBadAge ?cIBadAge ?kIBadAge ?kCBadAge ?eCBadAge ?tCBadAge ?cCBadAge ?sDBadAge ?haBadAge ?hmBadAge ?xLBadBlanks ?saBadBlanks ?gaBadBlanks ?ggBadBlanks ?nwBadBlanks ?iCBadBlanks ?tIBadBlanks ?lIBadBlanks ?cIBadBlanks ?kIBadBlanks ?kCBadBlanks ?eCBadBlanks ?tCBadBlanks ?cCBadBlanks ?sDBadBlanks ?haBadBlanks ?hmBadBlanks ?xLBadCoins ?saBadCoins ?gaBadCoins ?ggBadCoins ?nwBadCoins ?iCBadCoins ?tIBadCoins ?lIBadCoins ?cIBadCoins ?kIBadCoins ?kCBadCoins ?eCBadCoins ?tCBadCoins ?cCBadCoins ?sDBadCoins ?haBadCoins ?hmBadCoins ?xLBadName ?saBadName ?gaBadName ?ggBadName ?nwBadName ?iCBadName ?tIBadName ?lIBadName ?cIBadName ?kIBadName ?kCBadName ?eCBadName ?tCBadName ?cCBadName ?sDBadName ?haBadName ?hmBadName ?xLBadTable ?saBadTable ?gaBadTable ?ggBadTable ?nwBadTable ?iCBadTable ?tIBadTable ?lIBadTable ?cIBadTable ?kIBadTable ?kCBadTable ?eCBadTable ?tCBadTable ?cCBadTable ?sDBadTable ?haBadTable ?hmBadTable ?xLDead ?saDead ?gaDead ?ggDead ?nwDead ?iCDead ?tIDead ?lIDead ?cIDead ?kIDead ?kCDead ?eCDead ?tCDead ?cCDead ?sDDead ?haDead ?hmDead ?xLFull ?saFull ?gaFull ?ggFull ?nwFull ?iCFull ?tIFull ?lIFull ?cIFull ?kIFull ?kCFull ?eCFull ?tCFull ?cCFull ?sDFull ?haFull ?hmFull ?xLKnown ?saKnown ?gaKnown ?ggKnown ?nwKnown ?iCKnown ?tIKnown ?lIKnown ?cIKnown ?kIKnown ?kCKnown ?eCKnown ?tCKnown ?cCKnown ?sDKnown ?haKnown ?hmKnown ?xLNoDeed ?saNoDeed ?gaNoDeed ?ggNoDeed ?nwNoDeed ?iCNoDeed ?tINoDeed ?lINoDeed ?cINoDeed ?kINoDeed ?kCNoDeed ?eCNoDeed ?tCNoDeed ?cCNoDeed ?sDNoDeed ?haNoDeed ?hmNoDeed ?xLNoMember ?saNoMember ?gaNoMember ?ggNoMember ?nwNoMember ?iCNoMember ?tINoMember ?lINoMember ?cINoMember ?kINoMember ?kCNoMember ?eCNoMember ?tCNoMember ?cCNoMember ?sDNoMember ?haNoMember ?hmNoMember ?xLNoSociety ?saNoSociety ?gaNoSociety ?ggNoSociety ?nwNoSociety ?iCNoSociety ?tINoSociety ?lINoSociety ?cINoSociety ?kINoSociety ?kCNoSociety ?eCNoSociety ?tCNoSociety ?cCNoSociety ?sDNoSociety ?haNoSociety ?hmNoSociety ?xLTaken ?saTaken ?gaTaken ?ggTaken ?nwTaken ?iCTaken ?tITaken ?lITaken ?cITaken ?kITaken ?kCTaken ?eCTaken ?tCTaken ?cCTaken ?sDTaken ?haTaken ?hmTaken ?hnX ?htX ?dENoDeed ?eENoDeed ?tENoDeed ?sENoDeedNoDeed ?dEOutError ?eEOutError ?tEOutError ?sEOutErrorBadAge ?sEOutErrorBadBlanks ?sEOutErrorBadCoins ?sEOutErrorBadName ?sEOutErrorBadTable ?sEOutErrorDead ?sEOutErrorFull ?sEOutErrorKnown ?sEOutErrorNoDeed ?sEOutErrorNoMember ?sEOutErrorNoSociety ?sEOutErrorTaken
    (case aCSociety => k_is)
    (case pgSociety => k_is)
    (case hdSociety => k_is)
    (case poSociety => k_is)
    (case saSociety => k_is)
    (case mkSociety => k_is)
    (case kcSociety => k_is)
    (case nf0Society => k_is)
    (case nf1Society => k_is)
    (case nf2Society => k_is)
    (case aCMember => k_is)
    (case pgMember => k_is)
    (case hdMember => k_is)
    (case poMember => k_is)
    (case saMember => k_is)
    (case mkMember => k_is)
    (case kcMember => k_is)
    (case nf0Member => k_is)
    (case nf1Member => k_is)
    (case nf2Member => k_is)
    (case aCStand => k_is)
    (case pgStand => k_is)
    (case hdStand => k_is)
    (case poStand => k_is)
    (case saStand => k_is)
    (case mkStand => k_is)
    (case kcStand => k_is)
    (case nf0Stand => k_is)
    (case nf1Stand => k_is)
    (case nf2Stand => k_is)
    (case nf3Stand => k_is)
    (case nf4Stand => k_is)
    (case nf5Stand => k_is)
    (case nf6Stand => k_is)
    (case aCHouse => k_is)
    (case pgHouse => k_is)
    (case hdHouse => k_is)
    (case poHouse => k_is)
    (case saHouse => k_is)
    (case mkHouse => k_is)
    (case kcHouse => k_is)
    (case nf0House => k_is)
    (case a1 => k_is)
    (case l1 => k_is)
    (case c1 => k_is)
    (case k1 => k_is)
    (case a2 => k_is)
    (case l2 => k_is)
    (case c2 => k_is)
    (case k2 => k_is)
    (case a3 => k_is)
    (case l3 => k_is)
    (case c3 => k_is)
    (case k3 => k_is)
    (case a4 => k_is)
    (case i4 => k_is)
    (case l4 => k_is)
    (case c4 => k_is)
    (case k4 => k_is)
    (case a5 => k_is)
    (case i5 => k_is)
    (case l5 => k_is)
    (case c5 => k_is)
    (case k5 => k_is)
    (case a6 => k_is)
    (case i6 => k_is)
    (case l6 => k_is)
    (case c6 => k_is)
    (case k6 => k_is)
    (case a7 => k_is)
    (case i7 => k_is)
    (case l7 => k_is)
    (case c7 => k_is)
    (case k7 => k_is)
    (case a8 => k_is)
    (case i8 => k_is)
    (case l8 => k_is)
    (case c8 => k_is)
    (case k8 => k_is)
    (case a9 => k_is)
    (case i9 => k_is)
    (case l9 => k_is)
    (case c9 => k_is)
    (case k9 => k_is)
    (case a10 => k_is)
    (case i10 => k_is)
    (case l10 => k_is)
    (case c10 => k_is)
    (case k10 => k_is)
    (case a11 => k_is)
    (case l11 => k_is)
    (case c11 => k_is)
    (case k11 => k_is)
    (case a12 => k_is)
    (case l12 => k_is)
    (case c12 => k_is)
    (case k12 => k_is)
    (case a13 => k_is)
    (case i13 => k_is)
    (case l13 => k_is)
    (case c13 => k_is)
    (case k13 => k_is)
    (case a14 => k_is)
    (case i14 => k_is)
    (case l14 => k_is)
    (case c14 => k_is)
    (case k14 => k_is)
    (case a15 => k_is)
    (case i15 => k_is)
    (case l15 => k_is)
    (case c15 => k_is)
    (case k15 => k_is)
    (case a16 => k_is)
    (case i16 => k_is)
    (case l16 => k_is)
    (case c16 => k_is)
    (case k16 => k_is)
    (case a17 => k_is)
    (case i17 => k_is)
    (case l17 => k_is)
    (case c17 => k_is)
    (case k17 => k_is)
    (case a18 => k_is)
    (case i18 => k_is)
    (case l18 => k_is)
    (case c18 => k_is)
    (case k18 => k_is)
    (case a19 => k_is)
    (case i19 => k_is)
    (case l19 => k_is)
    (case c19 => k_is)
    (case k19 => k_is)
    (case a20 => k_is)
    (case i20 => k_is)
    (case l20 => k_is)
    (case c20 => k_is)
    (case k20 => k_is)
    (case a21 => k_is)
    (case i21 => k_is)
    (case l21 => k_is)
    (case c21 => k_is)
    (case k21 => k_is)
    (case a22 => k_is)
    (case i22 => k_is)
    (case l22 => k_is)
    (case c22 => k_is)
    (case k22 => k_is)
    (case a23 => k_is)
    (case i23 => k_is)
    (case l23 => k_is)
    (case c23 => k_is)
    (case k23 => k_is)
    (case a24 => k_is)
    (case i24 => k_is)
    (case l24 => k_is)
    (case c24 => k_is)
    (case k24 => k_is)
    (case a25 => k_is)
    (case i25 => k_is)
    (case l25 => k_is)
    (case c25 => k_is)
    (case k25 => k_is)
    (case a26 => k_is)
    (case i26 => k_is)
    (case l26 => k_is)
    (case c26 => k_is)
    (case k26 => k_is)
    (case a27 => k_is)
    (case i27 => k_is)
    (case l27 => k_is)
    (case c27 => k_is)
    (case k27 => k_is)
    (case a28 => k_is)
    (case l28 => k_is)
    (case c28 => k_is)
    (case k28 => k_is)
    (case a29 => k_is)
    (case l29 => k_is)
    (case c29 => k_is)
    (case k29 => k_is)
    (case a30 => k_is)
    (case l30 => k_is)
    (case c30 => k_is)
    (case k30 => k_is)
    (case a31 => k_is)
    (case l31 => k_is)
    (case c31 => k_is)
    (case k31 => k_is)
    (case a32 => k_is)
    (case l32 => k_is)
    (case c32 => k_is)
    (case k32 => k_is)
    (case a33 => k_is)
    (case l33 => k_is)
    (case c33 => k_is)
    (case k33 => k_is)
    (case a34 => k_is)
    (case l34 => k_is)
    (case c34 => k_is)
    (case k34 => k_is)
    (case a35 => k_is)
    (case i35 => k_is)
    (case l35 => k_is)
    (case c35 => k_is)
    (case k35 => k_is)
    (case a36 => k_is)
    (case l36 => k_is)
    (case c36 => k_is)
    (case k36 => k_is)
    (case a37 => k_is)
    (case l37 => k_is)
    (case c37 => k_is)
    (case k37 => k_is)
    (case a38 => k_is)
    (case i38 => k_is)
    (case l38 => k_is)
    (case c38 => k_is)
    (case k38 => k_is)
    (case a39 => k_is)
    (case i39 => k_is)
    (case l39 => k_is)
    (case c39 => k_is)
    (case k39 => k_is)
    (case a40 => k_is)
    (case i40 => k_is)
    (case l40 => k_is)
    (case c40 => k_is)
    (case k40 => k_is)
    (case a41 => k_is)
    (case i41 => k_is)
    (case l41 => k_is)
    (case c41 => k_is)
    (case k41 => k_is)
    (case a42 => k_is)
    (case i42 => k_is)
    (case l42 => k_is)
    (case c42 => k_is)
    (case k42 => k_is)
    (case a43 => k_is)
    (case i43 => k_is)
    (case l43 => k_is)
    (case c43 => k_is)
    (case k43 => k_is)
    (case a44 => k_is)
    (case i44 => k_is)
    (case l44 => k_is)
    (case c44 => k_is)
    (case k44 => k_is)
    (case a45 => k_is)
    (case l45 => k_is)
    (case c45 => k_is)
    (case k45 => k_is)
    (case a46 => k_is)
    (case i46 => k_is)
    (case l46 => k_is)
    (case c46 => k_is)
    (case k46 => k_is)
    (case a47 => k_is)
    (case i47 => k_is)
    (case l47 => k_is)
    (case c47 => k_is)
    (case k47 => k_is)
    (case a48 => k_is)
    (case i48 => k_is)
    (case l48 => k_is)
    (case c48 => k_is)
    (case k48 => k_is)
    (case a49 => k_is)
    (case i49 => k_is)
    (case l49 => k_is)
    (case c49 => k_is)
    (case k49 => k_is)
    (case a50 => k_is)
    (case i50 => k_is)
    (case l50 => k_is)
    (case c50 => k_is)
    (case k50 => k_is)
    (case a51 => k_is)
    (case i51 => k_is)
    (case l51 => k_is)
    (case c51 => k_is)
    (case k51 => k_is)
    (case a52 => k_is)
    (case i52 => k_is)
    (case l52 => k_is)
    (case c52 => k_is)
    (case k52 => k_is)
    (case a53 => k_is)
    (case i53 => k_is)
    (case l53 => k_is)
    (case c53 => k_is)
    (case k53 => k_is)
    (case a54 => k_is)
    (case l54 => k_is)
    (case c54 => k_is)
    (case k54 => k_is)
    (case a55 => k_is)
    (case l55 => k_is)
    (case c55 => k_is)
    (case k55 => k_is)
    (case a56 => k_is)
    (case l56 => k_is)
    (case c56 => k_is)
    (case k56 => k_is)
    (case a57 => k_is)
    (case l57 => k_is)
    (case c57 => k_is)
    (case k57 => k_is)
    (case a58 => k_is)
    (case l58 => k_is)
    (case c58 => k_is)
    (case k58 => k_is)
    (case a59 => k_is)
    (case l59 => k_is)
    (case c59 => k_is)
    (case k59 => k_is)
    (case a60 => k_is)
    (case l60 => k_is)
    (case c60 => k_is)
    (case k60 => k_is)
    (case a61 => k_is)
    (case l61 => k_is)
    (case c61 => k_is)
    (case k61 => k_is)
    (case a62 => k_is)
    (case l62 => k_is)
    (case c62 => k_is)
    (case k62 => k_is)
    (case a63 => k_is)
    (case l63 => k_is)
    (case c63 => k_is)
    (case k63 => k_is)
    (case a64 => k_is)
    (case i64 => k_is)
    (case l64 => k_is)
    (case c64 => k_is)
    (case k64 => k_is)
    (case a65 => k_is)
    (case l65 => k_is)
    (case c65 => k_is)
    (case k65 => k_is)
    (case a66 => k_is)
    (case i66 => k_is)
    (case l66 => k_is)
    (case c66 => k_is)
    (case k66 => k_is)
    (case a67 => k_is)
    (case i67 => k_is)
    (case l67 => k_is)
    (case c67 => k_is)
    (case k67 => k_is)
    (case a68 => k_is)
    (case l68 => k_is)
    (case c68 => k_is)
    (case k68 => k_is)
    (case aAtotal_tickets => k_is)
    (case z0 => k_is)
    (case z1 => k_is)
    (case z2 => k_is)
    (case z3 => k_is)
    (case z4 => k_is)
    (case z5 => k_is)
    (case z6 => k_is)
    (case z7 => k_is)
    (case z8 => k_is)
    (case z9 => k_is)
    (case z10 => k_is)
    (case z11 => k_is)
    (case y0 => k_is)
    (case y1 => k_is)
    (case kLKINDS => k_is)
    (case kcKINDS => rfl)
    (case kdKINDS => rfl)
    (case kzKINDS => decide)
    (case kvKINDS => exact .cons ⟨_, rfl⟩ (.cons ⟨_, rfl⟩ .nil))
    (case y2 => k_is)
    (case y3 => k_is)
    (case y4 => k_is)
    (case y5 => k_is)
    (case y6 => k_is)
    (case y7 => k_is)
    (case y8 => k_is)
    (case y9 => k_is)
    (case y10 => k_is)
    (case kLSHAPES_lines => k_is)
    (case kKSHAPES_lines => repeat (first | exact trivial | refine ⟨⟨_, _, rfl, rfl⟩, ?_⟩))
    (case klSHAPES_lines => first | rfl | decide +kernel | k_is)
    (case kESHAPES_lines => first | rfl | decide +kernel)
    (case y11 => k_is)
    (case kLSHAPES_pages => k_is)
    (case kKSHAPES_pages => repeat (first | exact trivial | refine ⟨⟨_, _, rfl, rfl⟩, ?_⟩))
    (case klSHAPES_pages => first | rfl | decide +kernel | k_is)
    (case kESHAPES_pages => first | rfl | decide +kernel)
    (case aXBadAge => k_is)
    (case aXBadBlanks => k_is)
    (case aXBadCoins => k_is)
    (case aXBadName => k_is)
    (case aXBadTable => k_is)
    (case aXDead => k_is)
    (case aXFull => k_is)
    (case aXKnown => k_is)
    (case aXNoDeed => k_is)
    (case aXNoMember => k_is)
    (case aXNoSociety => k_is)
    (case aXOutError => k_is)
    (case aXTaken => k_is)
    (case xLBadAge => k_is)
    (case saBadAge => k_is)
    (case gaBadAge => k_is)
    (case ggBadAge => k_is)
    (case nwBadAge => k_is)
    (case iCBadAge => k_is)
    (case tIBadAge => k_is)
    (case lIBadAge => k_is)
    (case cIBadAge => k_is)
    (case kIBadAge => k_is)
    (case kCBadAge => k_is)
    (case eCBadAge => k_is)
    (case tCBadAge => k_is)
    (case cCBadAge => k_is)
    (case sDBadAge => k_is)
    (case haBadAge => k_is)
    (case hmBadAge => k_is)
    (case xLBadBlanks => k_is)
    (case saBadBlanks => k_is)
    (case gaBadBlanks => k_is)
    (case ggBadBlanks => k_is)
    (case nwBadBlanks => k_is)
    (case iCBadBlanks => k_is)
    (case tIBadBlanks => k_is)
    (case lIBadBlanks => k_is)
    (case cIBadBlanks => k_is)
    (case kIBadBlanks => k_is)
    (case kCBadBlanks => k_is)
    (case eCBadBlanks => k_is)
    (case tCBadBlanks => k_is)
    (case cCBadBlanks => k_is)
    (case sDBadBlanks => k_is)
    (case haBadBlanks => k_is)
    (case hmBadBlanks => k_is)
    (case xLBadCoins => k_is)
    (case saBadCoins => k_is)
    (case gaBadCoins => k_is)
    (case ggBadCoins => k_is)
    (case nwBadCoins => k_is)
    (case iCBadCoins => k_is)
    (case tIBadCoins => k_is)
    (case lIBadCoins => k_is)
    (case cIBadCoins => k_is)
    (case kIBadCoins => k_is)
    (case kCBadCoins => k_is)
    (case eCBadCoins => k_is)
    (case tCBadCoins => k_is)
    (case cCBadCoins => k_is)
    (case sDBadCoins => k_is)
    (case haBadCoins => k_is)
    (case hmBadCoins => k_is)
    (case xLBadName => k_is)
    (case saBadName => k_is)
    (case gaBadName => k_is)
    (case ggBadName => k_is)
    (case nwBadName => k_is)
    (case iCBadName => k_is)
    (case tIBadName => k_is)
    (case lIBadName => k_is)
    (case cIBadName => k_is)
    (case kIBadName => k_is)
    (case kCBadName => k_is)
    (case eCBadName => k_is)
    (case tCBadName => k_is)
    (case cCBadName => k_is)
    (case sDBadName => k_is)
    (case haBadName => k_is)
    (case hmBadName => k_is)
    (case xLBadTable => k_is)
    (case saBadTable => k_is)
    (case gaBadTable => k_is)
    (case ggBadTable => k_is)
    (case nwBadTable => k_is)
    (case iCBadTable => k_is)
    (case tIBadTable => k_is)
    (case lIBadTable => k_is)
    (case cIBadTable => k_is)
    (case kIBadTable => k_is)
    (case kCBadTable => k_is)
    (case eCBadTable => k_is)
    (case tCBadTable => k_is)
    (case cCBadTable => k_is)
    (case sDBadTable => k_is)
    (case haBadTable => k_is)
    (case hmBadTable => k_is)
    (case xLDead => k_is)
    (case saDead => k_is)
    (case gaDead => k_is)
    (case ggDead => k_is)
    (case nwDead => k_is)
    (case iCDead => k_is)
    (case tIDead => k_is)
    (case lIDead => k_is)
    (case cIDead => k_is)
    (case kIDead => k_is)
    (case kCDead => k_is)
    (case eCDead => k_is)
    (case tCDead => k_is)
    (case cCDead => k_is)
    (case sDDead => k_is)
    (case haDead => k_is)
    (case hmDead => k_is)
    (case xLFull => k_is)
    (case saFull => k_is)
    (case gaFull => k_is)
    (case ggFull => k_is)
    (case nwFull => k_is)
    (case iCFull => k_is)
    (case tIFull => k_is)
    (case lIFull => k_is)
    (case cIFull => k_is)
    (case kIFull => k_is)
    (case kCFull => k_is)
    (case eCFull => k_is)
    (case tCFull => k_is)
    (case cCFull => k_is)
    (case sDFull => k_is)
    (case haFull => k_is)
    (case hmFull => k_is)
    (case xLKnown => k_is)
    (case saKnown => k_is)
    (case gaKnown => k_is)
    (case ggKnown => k_is)
    (case nwKnown => k_is)
    (case iCKnown => k_is)
    (case tIKnown => k_is)
    (case lIKnown => k_is)
    (case cIKnown => k_is)
    (case kIKnown => k_is)
    (case kCKnown => k_is)
    (case eCKnown => k_is)
    (case tCKnown => k_is)
    (case cCKnown => k_is)
    (case sDKnown => k_is)
    (case haKnown => k_is)
    (case hmKnown => k_is)
    (case xLNoDeed => k_is)
    (case saNoDeed => k_is)
    (case gaNoDeed => k_is)
    (case ggNoDeed => k_is)
    (case nwNoDeed => k_is)
    (case iCNoDeed => k_is)
    (case tINoDeed => k_is)
    (case lINoDeed => k_is)
    (case cINoDeed => k_is)
    (case kINoDeed => k_is)
    (case kCNoDeed => k_is)
    (case eCNoDeed => k_is)
    (case tCNoDeed => k_is)
    (case cCNoDeed => k_is)
    (case sDNoDeed => k_is)
    (case haNoDeed => k_is)
    (case hmNoDeed => k_is)
    (case xLNoMember => k_is)
    (case saNoMember => k_is)
    (case gaNoMember => k_is)
    (case ggNoMember => k_is)
    (case nwNoMember => k_is)
    (case iCNoMember => k_is)
    (case tINoMember => k_is)
    (case lINoMember => k_is)
    (case cINoMember => k_is)
    (case kINoMember => k_is)
    (case kCNoMember => k_is)
    (case eCNoMember => k_is)
    (case tCNoMember => k_is)
    (case cCNoMember => k_is)
    (case sDNoMember => k_is)
    (case haNoMember => k_is)
    (case hmNoMember => k_is)
    (case xLNoSociety => k_is)
    (case saNoSociety => k_is)
    (case gaNoSociety => k_is)
    (case ggNoSociety => k_is)
    (case nwNoSociety => k_is)
    (case iCNoSociety => k_is)
    (case tINoSociety => k_is)
    (case lINoSociety => k_is)
    (case cINoSociety => k_is)
    (case kINoSociety => k_is)
    (case kCNoSociety => k_is)
    (case eCNoSociety => k_is)
    (case tCNoSociety => k_is)
    (case cCNoSociety => k_is)
    (case sDNoSociety => k_is)
    (case haNoSociety => k_is)
    (case hmNoSociety => k_is)
    (case xLTaken => k_is)
    (case saTaken => k_is)
    (case gaTaken => k_is)
    (case ggTaken => k_is)
    (case nwTaken => k_is)
    (case iCTaken => k_is)
    (case tITaken => k_is)
    (case lITaken => k_is)
    (case cITaken => k_is)
    (case kITaken => k_is)
    (case kCTaken => k_is)
    (case eCTaken => k_is)
    (case tCTaken => k_is)
    (case cCTaken => k_is)
    (case sDTaken => k_is)
    (case haTaken => k_is)
    (case hmTaken => k_is)
    (case hnX => k_is)
    (case htX => k_is)
    (case dENoDeed => k_is)
    (case eENoDeed => k_is)
    (case tENoDeed => k_is)
    (case sENoDeedNoDeed => k_is)
    (case dEOutError => k_is)
    (case eEOutError => k_is)
    (case tEOutError => k_is)
    (case sEOutErrorBadAge => k_is)
    (case sEOutErrorBadBlanks => k_is)
    (case sEOutErrorBadCoins => k_is)
    (case sEOutErrorBadName => k_is)
    (case sEOutErrorBadTable => k_is)
    (case sEOutErrorDead => k_is)
    (case sEOutErrorFull => k_is)
    (case sEOutErrorKnown => k_is)
    (case sEOutErrorNoDeed => k_is)
    (case sEOutErrorNoMember => k_is)
    (case sEOutErrorNoSociety => k_is)
    (case sEOutErrorTaken => k_is)
end
/-! Data-level readings: what an expression, a statement, a def does to plain data. -/
namespace Dd
open PySem L2
abbrev Ex (F H : Hp) : Prop := ∀ a o, F a = some o → H a = some o
theorem Ex.trans {A B C : Hp} (h : Ex A B) (k : Ex B C) : Ex A C := fun a o e => k a o (h a o e)
theorem Ex.rfl' (A : Hp) : Ex A A := fun _ _ e => e
/-! ### trees: a leaf is settled data, a node a list that nobody else holds, own p t the tree t whose root is known to stand at p -/
inductive T where
  | leaf (d : PyData)
  | node (ts : List T)
  | own (p : Addr) (t : T)
  | ins (C : Addr) (ks : List Str) (ts : List T)
  | dic (ks : List Key) (ts : List T)
  | diT (ks : List (List Key)) (ts : List T)
  | sto (m : Addr → Option T)
  | fro (m : Addr → Option PyData)
  | eff (m : Addr → Option T) (t : T)
/-- an object that stands in the store, by its address -/
abbrev objD (a : Addr) : PyData := .dict [(.bool false, .int (a : Nat))]
/-- an instance of the class at C, settled -/
abbrev insD (C : Addr) (fs : List (Str × PyData)) : PyData := .dict ((.bool true, .int (C : Nat)) :: fs.map fun p => (.str p.1, p.2))
def keyD : Key → PyData
  | .inl i => .int i
  | .inr x => .str x
/-- a dict, settled -/
abbrev dicD (fs : List (Key × PyData)) : PyData := .dict ((.none, .none) :: fs.map fun p => (keyD p.1, p.2))
abbrev diTD (fs : List (List Key × PyData)) : PyData := .dict ((.none, .bool true) :: fs.map fun p => (.tuple (p.1.map keyD), p.2))
mutual
def T.dat : T → PyData
  | .leaf d => d
  | .node ts => .list (T.dats ts)
  | .own _ t => t.dat
  | .ins C ks ts => insD C (ks.zip (T.dats ts))
  | .dic ks ts => dicD (ks.zip (T.dats ts))
  | .diT ks ts => diTD (ks.zip (T.dats ts))
  | .sto _ => .none
  | .fro _ => .none
  | .eff _ t => t.dat
def T.dats : List T → List PyData
  | [] => []
  | t :: ts => t.dat :: T.dats ts
end
theorem dats_eq : ∀ ts : List T, T.dats ts = ts.map T.dat
  | [] => rfl
  | t :: ts => by
    show t.dat :: T.dats ts = _
    rw [dats_eq ts] <;> rfl
theorem dats_leaf : ∀ ds : List PyData, T.dats (ds.map T.leaf) = ds
  | [] => rfl
  | d :: ds => by
    show d :: T.dats (ds.map T.leaf) = _
    rw [dats_leaf ds]
abbrev int (i : Int) : T := .leaf (.int i)
abbrev boo (b : Bool) : T := .leaf (.bool b)
abbrev non : T := .leaf .none
abbrev bx : PyData := .dict []
/-- an exception that a suite holds -/
abbrev excD (a d : Addr) (n : Str) (pl : PyData) : PyData := .dict [(.int (a : Nat), .str n), (.int (d : Nat), pl)]
/-- the fields of an exception -/
def exF (n : Str) : PyData → List (Str × V)
  | .int r => [("row", .int r), ("word", .str n)]
  | _ => [("word", .str n)]
mutual
inductive Rp (b : Option Addr) (G : Hp) : V → PyData → Prop
  | non : Rp b G .non .none
  | bl (k : Bool) : Rp b G (.bl k) (.bool k)
  | int (i : Int) : Rp b G (.int i) (.int i)
  | str (x : Str) : Rp b G (.str x) (.str x)
  | lst {a : Addr} {xs : List V} {ds : List PyData} : G a = some (.lst xs) → RpAll b G xs ds → Rp b G (.ref a) (.list ds)
  | tup {a : Addr} {xs : List V} {ds : List PyData} : G a = some (.tup xs) → RpAll b G xs ds → Rp b G (.ref a) (.tuple ds)
  | box {a : Addr} : b = some a → Rp b G (.ref a) (.dict [])
  | exc {a d : Addr} {n : Str} {pl : PyData} : G d = some (.xd (exF n pl)) → Rp b G (.ref a) (.dict [(.int (a : Nat), .str n), (.int (d : Nat), pl)])
  | obj (a : Addr) : Rp b G (.ref a) (objD a)
  | ins {a dx C : Addr} {us : List (Str × V)} {fs : List (Str × PyData)} : G a = some (.ins C dx us) → G dx = some (.own a) → us.map (·.1) = fs.map (·.1) → RpAll b G (us.map (·.2)) (fs.map (·.2)) → Rp b G (.ref a) (insD C fs)
  | dic {a : Addr} {us : List (Key × V)} {fs : List (Key × PyData)} : Rd G a (.dK us) → us.map (·.1) = fs.map (·.1) → RpAll b G (us.map (·.2)) (fs.map (·.2)) → Rp b G (.ref a) (dicD fs)
  | diT {a : Addr} {us : List (List Key × V)} {fs : List (List Key × PyData)} : Rd G a (.dT us) → us.map (·.1) = fs.map (·.1) → RpAll b G (us.map (·.2)) (fs.map (·.2)) → Rp b G (.ref a) (diTD fs)
inductive RpAll (b : Option Addr) (G : Hp) : List V → List PyData → Prop
  | nil : RpAll b G [] []
  | cons {v : V} {vs : List V} {d : PyData} {ds : List PyData} : Rp b G v d → RpAll b G vs ds → RpAll b G (v :: vs) (d :: ds)
end
theorem rd_mono {G G' : Hp} (e : Ex G G') {a : Addr} {u : HO} (h : Rd G a u) : Rd G' a u := h.elim (fun h => .inl (e _ _ h)) fun ⟨o, h⟩ => .inr ⟨o, e _ _ h⟩
mutual
theorem Rp.mono {b : Option Addr} {G G' : Hp} (e : Ex G G') : ∀ {v : V} {d : PyData}, Rp b G v d → Rp b G' v d
  | _, _, .non => .non
  | _, _, .bl k => .bl k
  | _, _, .int i => .int i
  | _, _, .str x => .str x
  | _, _, .lst h r => .lst (e _ _ h) (RpAll.mono e r)
  | _, _, .tup h r => .tup (e _ _ h) (RpAll.mono e r)
  | _, _, .box h => .box h
  | _, _, .exc h => .exc (e _ _ h)
  | _, _, .obj a => .obj a
  | _, _, .ins h h2 k r => .ins (e _ _ h) (e _ _ h2) k (RpAll.mono e r)
  | _, _, .dic h k r => .dic (rd_mono e h) k (RpAll.mono e r)
  | _, _, .diT h k r => .diT (rd_mono e h) k (RpAll.mono e r)
theorem RpAll.mono {b : Option Addr} {G G' : Hp} (e : Ex G G') : ∀ {vs : List V} {ds : List PyData}, RpAll b G vs ds → RpAll b G' vs ds
  | _, _, .nil => .nil
  | _, _, .cons h r => .cons (Rp.mono e h) (RpAll.mono e r)
end
theorem RpAll.len {b : Option Addr} {G : Hp} : ∀ {vs : List V} {ds : List PyData}, RpAll b G vs ds → vs.length = ds.length
  | _, _, .nil => rfl
  | _, _, .cons _ r => by simp [RpAll.len r]
theorem RpAll.get {b : Option Addr} {G : Hp} : ∀ {vs : List V} {ds : List PyData} {i : Nat} {d : PyData}, RpAll b G vs ds → ds[i]? = some d → ∃ v, vs[i]? = some v ∧ Rp b G v d
  | _, _, _, _, .nil, e => by simp at e
  | _, _, 0, _, .cons h _, e => by
    simp at e
    subst e
    exact ⟨_, rfl, h⟩
  | _, _, i + 1, d, .cons _ r, e => by
    obtain ⟨v, h1, h2⟩ := RpAll.get (i := i) (d := d) r (by simpa using e)
    exact ⟨v, by simpa using h1, h2⟩
theorem RpAll.get' {b : Option Addr} {G : Hp} {vs : List V} {ds : List PyData} {i : Nat} {v : V} (h : RpAll b G vs ds) (e : vs[i]? = some v) : ∃ d, ds[i]? = some d ∧ Rp b G v d := by
  have hl := h.len
  have hi := (List.getElem?_eq_some_iff.mp e).1
  obtain ⟨v', e', r⟩ := h.get (i := i) (d := ds[i]'(by omega)) (List.getElem?_eq_getElem _)
  rw [e] at e'
  cases e'
  exact ⟨_, List.getElem?_eq_getElem _, r⟩
theorem RpAll.append {b : Option Addr} {G : Hp} : ∀ {vs ws : List V} {ds es : List PyData}, RpAll b G vs ds → RpAll b G ws es → RpAll b G (vs ++ ws) (ds ++ es)
  | _, _, _, _, .nil, h => h
  | _, _, _, _, .cons h r, k => .cons h (RpAll.append r k)
theorem RpAll.take {b : Option Addr} {G : Hp} : ∀ {vs : List V} {ds : List PyData} (n : Nat), RpAll b G vs ds → RpAll b G (vs.take n) (ds.take n)
  | _, _, 0, _ => .nil
  | _, _, _ + 1, .nil => .nil
  | _, _, n + 1, .cons h r => .cons h (RpAll.take n r)
theorem RpAll.drop {b : Option Addr} {G : Hp} : ∀ {vs : List V} {ds : List PyData} (n : Nat), RpAll b G vs ds → RpAll b G (vs.drop n) (ds.drop n)
  | _, _, 0, r => r
  | _, _, _ + 1, .nil => .nil
  | _, _, n + 1, .cons _ r => RpAll.drop n r
/-! ### the draw box, what is good, a step -/
def BoxOk (K : PySem.W.Frag) (G H : Hp) (a : Addr) : Prop :=
  ∃ (c : Addr) (cells : List Int) (pos : Nat) (rest seed : Int), H a = some (.lst [.ref c, .int pos, .int rest, .int seed]) ∧ G c = some (.lst (cells.map V.int)) ∧ cells.length ≤ 63 ∧ pos ≤ 63 ∧ 0 ≤ rest ∧ 0 ≤ seed ∧ seed < 2147483629
structure Good (K : PySem.W.Frag) (b : Option Addr) (G H : Hp) : Prop where
  ex : Ex G H
  box : ∀ a, b = some a → G a = none ∧ BoxOk K G H a
/-- the cells' list of the box -/
def boxc (H : Hp) (a : Addr) : Option V := match H a with
  | some (.lst xs) => xs[0]?
  | _ => none
structure Stp (K : PySem.W.Frag) (b : Option Addr) (G H G' H' : Hp) : Prop where
  ex : Ex G G'
  good : Good K b G' H'
  keep : ∀ a o, b ≠ some a → H a = some o → H' a = some o
  out : ∀ a o, G a = none → H a = some o → G' a = none
  cel : ∀ a, b = some a → boxc H' a = boxc H a
theorem boxc_eq {H H' : Hp} {a : Addr} (h : H' a = H a) : boxc H' a = boxc H a := by unfold boxc; rw [h]
section
variable {K : PySem.W.Frag} {b : Option Addr} {G H G' H' G2 H2 : Hp}
theorem Good.stp (h : Good K b G H) : Stp K b G H G H := ⟨Ex.rfl' _, h, fun _ _ _ e => e, fun _ _ e _ => e, fun _ _ => rfl⟩
theorem Stp.there (h : Stp K b G H G' H') (g : Good K b G H) {a : Addr} {o : HO} (e : H a = some o) : ∃ o', H' a = some o' := by
  by_cases c : b = some a
  · obtain ⟨_, _, _, _, _, _, q, _⟩ := h.good.box a c
    exact ⟨_, q⟩
  · exact ⟨o, h.keep a o c e⟩
theorem Stp.trans (g : Good K b G H) (h : Stp K b G H G' H') (k : Stp K b G' H' G2 H2) : Stp K b G H G2 H2 :=
  ⟨h.ex.trans k.ex, k.good, fun a o c e => k.keep a o c (h.keep a o c e), fun a o n e => by
    obtain ⟨o', e'⟩ := h.there g e
    exact k.out a o' (h.out a o n e) e', fun a c => (k.cel a c).trans (h.cel a c)⟩
/-- what was fresh behind is fresh ahead -/
theorem Stp.free (h : Stp K b G H G' H') (g : Good K b G H) {a : Addr} (e : H' a = none) : H a = none := by
  cases q : H a with
  | none => rfl
  | some o =>
    obtain ⟨o', e'⟩ := h.there g q
    rw [e] at e'
    cases e'
/-- a new object, settled -/
theorem Good.new (g : Good K b G H) {p : Addr} (o : HO) (hp : H p = none) : Stp K b G H (upd G p o) (upd H p o) ∧ G p = none := by
  have gp : G p = none := by
    cases q : G p with
    | none => rfl
    | some u =>
      rw [g.ex p u q] at hp
      cases hp
  have nbp : ∀ a, b = some a → a ≠ p := fun a c => by
    obtain ⟨_, _, _, _, _, _, h1, _⟩ := g.box a c
    exact ne_of_none h1 hp
  refine ⟨⟨fun a u e => ?_, ⟨fun a u e => ?_, fun a c => ?_⟩, fun a u _ e => ?_, fun a u n e => ?_, fun a c => boxc_eq (upd_ne (nbp a c))⟩, gp⟩
  · rw [upd_ne (ne_of_none e gp)]
    exact e
  · by_cases c : a = p
    · subst c
      rw [upd_same] at e ⊢
      exact e
    · rw [upd_ne c] at e ⊢
      exact g.ex a u e
  · obtain ⟨n, cc, cells, pos, rest, seed, h1, h2, h3⟩ := g.box a c
    have na : a ≠ p := ne_of_none h1 hp
    exact ⟨by rw [upd_ne na]; exact n, cc, cells, pos, rest, seed, by rw [upd_ne na]; exact h1, by rw [upd_ne (ne_of_none h2 gp)]; exact h2, h3⟩
  · rw [upd_ne (ne_of_none e hp)]
    exact e
  · rw [upd_ne (ne_of_none e hp)]
    exact n
/-- a new object that is not settled -/
theorem Good.own (g : Good K b G H) {p : Addr} (o : HO) (hp : H p = none) : Stp K b G H G (upd H p o) := by
  have nbp : ∀ a, b = some a → a ≠ p := fun a c => by
    obtain ⟨_, _, _, _, _, _, h1, _⟩ := g.box a c
    exact ne_of_none h1 hp
  refine ⟨fun a u e => e, ⟨fun a u e => ?_, fun a c => ?_⟩, fun a u _ e => ?_, fun a u n e => n, fun a c => boxc_eq (upd_ne (nbp a c))⟩
  · rw [upd_ne (ne_of_none (g.ex a u e) hp)]
    exact g.ex a u e
  · obtain ⟨n, cc, cells, pos, rest, seed, h1, h2, h3⟩ := g.box a c
    exact ⟨n, cc, cells, pos, rest, seed, by rw [upd_ne (ne_of_none h1 hp)]; exact h1, h2, h3⟩
  · rw [upd_ne (ne_of_none e hp)]
    exact e
end
/-! ### how a tree lies -/
mutual
inductive Tr (b : Option Addr) (G H : Hp) : List Addr → V → T → Prop
  | leaf {v : V} {d : PyData} : Rp b G v d → Tr b G H [] v (.leaf d)
  | node {p : Addr} {fp : List Addr} {vs : List V} {ts : List T} : H p = some (.lst vs) → G p = none → b ≠ some p → TrAll b G H fp vs ts → p ∉ fp → Tr b G H (p :: fp) (.ref p) (.node ts)
  | own {p : Addr} {fp : List Addr} {t : T} : Tr b G H fp (.ref p) t → Tr b G H fp (.ref p) (.own p t)
  | ins {p dx C : Addr} {fp : List Addr} {us : List (Str × V)} {ks : List Str} {ts : List T} : H p = some (.ins C dx us) → H dx = some (.own p) → G p = none → G dx = none → b ≠ some p → b ≠ some dx → us.map (·.1) = ks → TrAll b G H fp (us.map (·.2)) ts → p ∉ fp → dx ∉ fp → dx ≠ p → Tr b G H (p :: dx :: fp) (.ref p) (.ins C ks ts)
  | dic {p : Addr} {fp : List Addr} {us : List (Key × V)} {ks : List Key} {ts : List T} : H p = some (.dK us) → G p = none → b ≠ some p → us.map (·.1) = ks → TrAll b G H fp (us.map (·.2)) ts → p ∉ fp → Tr b G H (p :: fp) (.ref p) (.dic ks ts)
  | diT {p : Addr} {fp : List Addr} {us : List (List Key × V)} {ks : List (List Key)} {ts : List T} : H p = some (.dT us) → G p = none → b ≠ some p → us.map (·.1) = ks → TrAll b G H fp (us.map (·.2)) ts → p ∉ fp → Tr b G H (p :: fp) (.ref p) (.diT ks ts)
  | sto {fp : List Addr} {m : Addr → Option T} {fps : Addr → List Addr} : (∀ p t, m p = some t → p ∈ fps p) → (∀ p t, m p = some t → Tr b G H (fps p) (.ref p) t) → (∀ p t a, m p = some t → a ∈ fps p → a ∈ fp) → (∀ p q t u a, p ≠ q → m p = some t → m q = some u → a ∈ fps p → a ∉ fps q) → (∀ a, a ∈ fp → ∃ p t, m p = some t ∧ a ∈ fps p) → Tr b G H fp .non (.sto m)
  | fro {m : Addr → Option PyData} : (∀ p d, m p = some d → Rp b G (.ref p) d) → Tr b G H [] .non (.fro m)
  | eff {fs fv : List Addr} {m : Addr → Option T} {v : V} {t : T} : Tr b G H fs .non (.sto m) → Tr b G H fv v t → (∀ a, a ∈ fs → a ∉ fv) → Tr b G H (fs ++ fv) v (.eff m t)
inductive TrAll (b : Option Addr) (G H : Hp) : List Addr → List V → List T → Prop
  | nil : TrAll b G H [] [] []
  | cons {fp fq : List Addr} {v : V} {vs : List V} {t : T} {ts : List T} : Tr b G H fp v t → TrAll b G H fq vs ts → (∀ a, a ∈ fp → a ∉ fq) → TrAll b G H (fp ++ fq) (v :: vs) (t :: ts)
end
mutual
theorem Tr.mem {b : Option Addr} {G H : Hp} : ∀ {fp : List Addr} {v : V} {t : T}, Tr b G H fp v t → ∀ a, a ∈ fp → G a = none ∧ b ≠ some a ∧ ∃ o, H a = some o
  | _, _, _, .leaf _, a, h => nomatch h
  | _, _, _, .node (fp := fp) hp gp bp r n, a, h => (List.mem_cons.mp h).elim (fun e => by subst e; exact ⟨gp, bp, _, hp⟩) fun h => TrAll.mem r a h
  | _, _, _, .own h, a, m => Tr.mem h a m
  | _, _, _, .ins hp hx gp gx bp bx _ r _ _ _, a, h => (List.mem_cons.mp h).elim (fun e => by subst e; exact ⟨gp, bp, _, hp⟩) fun h => (List.mem_cons.mp h).elim (fun e => by subst e; exact ⟨gx, bx, _, hx⟩) fun h => TrAll.mem r a h
  | _, _, _, .dic hp gp bp _ r n, a, h => (List.mem_cons.mp h).elim (fun e => by subst e; exact ⟨gp, bp, _, hp⟩) fun h => TrAll.mem r a h
  | _, _, _, .diT hp gp bp _ r n, a, h => (List.mem_cons.mp h).elim (fun e => by subst e; exact ⟨gp, bp, _, hp⟩) fun h => TrAll.mem r a h
  | _, _, _, .sto _ h1 _ _ h4, a, m => by
    obtain ⟨p, t, e, ha⟩ := h4 a m
    exact Tr.mem (h1 p t e) a ha
  | _, _, _, .fro _, a, h => nomatch h
  | _, _, _, .eff s r _, a, h => (List.mem_append.mp h).elim (fun h => Tr.mem s a h) fun h => Tr.mem r a h
theorem TrAll.mem {b : Option Addr} {G H : Hp} : ∀ {fp : List Addr} {vs : List V} {ts : List T}, TrAll b G H fp vs ts → ∀ a, a ∈ fp → G a = none ∧ b ≠ some a ∧ ∃ o, H a = some o
  | _, _, _, .nil, a, h => nomatch h
  | _, _, _, .cons q r d, a, h => (List.mem_append.mp h).elim (fun h => Tr.mem q a h) fun h => TrAll.mem r a h
end
mutual
theorem Tr.move {b : Option Addr} {G H G' H' : Hp} (e : Ex G G') : ∀ {fp : List Addr} {v : V} {t : T}, Tr b G H fp v t → (∀ a, a ∈ fp → G' a = none ∧ H' a = H a) → Tr b G' H' fp v t
  | _, _, _, .leaf h, _ => .leaf (h.mono e)
  | _, _, _, .node hp gp bp r n, k => .node (by rw [(k _ (List.mem_cons_self ..)).2]; exact hp) (k _ (List.mem_cons_self ..)).1 bp (TrAll.move e r fun a h => k a (List.mem_cons_of_mem _ h)) n
  | _, _, _, .own h, k => .own (Tr.move e h k)
  | _, _, _, .ins hp hx gp gx bp bx ks r n n2 ne, k => .ins (by rw [(k _ (List.mem_cons_self ..)).2]; exact hp) (by rw [(k _ (List.mem_cons_of_mem _ (List.mem_cons_self ..))).2]; exact hx) (k _ (List.mem_cons_self ..)).1 (k _ (List.mem_cons_of_mem _ (List.mem_cons_self ..))).1 bp bx ks (TrAll.move e r fun a h => k a (List.mem_cons_of_mem _ (List.mem_cons_of_mem _ h))) n n2 ne
  | _, _, _, .dic hp gp bp ks r n, k => .dic (by rw [(k _ (List.mem_cons_self ..)).2]; exact hp) (k _ (List.mem_cons_self ..)).1 bp ks (TrAll.move e r fun a h => k a (List.mem_cons_of_mem _ h)) n
  | _, _, _, .diT hp gp bp ks r n, k => .diT (by rw [(k _ (List.mem_cons_self ..)).2]; exact hp) (k _ (List.mem_cons_self ..)).1 bp ks (TrAll.move e r fun a h => k a (List.mem_cons_of_mem _ h)) n
  | _, _, _, .sto h0 h1 h2 h3 h4, k => .sto h0 (fun p t q => Tr.move e (h1 p t q) fun a h => k a (h2 p t a q h)) h2 h3 h4
  | _, _, _, .fro h, k => .fro fun p d q => (h p d q).mono e
  | _, _, _, .eff s r d, k => .eff (Tr.move e s fun a h => k a (List.mem_append_left _ h)) (Tr.move e r fun a h => k a (List.mem_append_right _ h)) d
theorem TrAll.move {b : Option Addr} {G H G' H' : Hp} (e : Ex G G') : ∀ {fp : List Addr} {vs : List V} {ts : List T}, TrAll b G H fp vs ts → (∀ a, a ∈ fp → G' a = none ∧ H' a = H a) → TrAll b G' H' fp vs ts
  | _, _, _, .nil, _ => .nil
  | _, _, _, .cons q r d, k => .cons (Tr.move e q fun a h => k a (List.mem_append_left _ h)) (TrAll.move e r fun a h => k a (List.mem_append_right _ h)) d
end
theorem TrAll.len {b : Option Addr} {G H : Hp} : ∀ {fp : List Addr} {vs : List V} {ts : List T}, TrAll b G H fp vs ts → vs.length = ts.length
  | _, _, _, .nil => rfl
  | _, _, _, .cons _ r _ => by simp [TrAll.len r]
theorem dats_len (ts : List T) : (T.dats ts).length = ts.length := by rw [dats_eq, List.length_map]
theorem zip_fst {α β : Type} : ∀ {ks : List α} {ds : List β}, ks.length = ds.length → (ks.zip ds).map (·.1) = ks
  | [], [], _ => rfl
  | _ :: _, _ :: _, h => by simp [zip_fst (ks := _) (ds := _) (by simpa using h)]
theorem zip_snd {α β : Type} : ∀ {ks : List α} {ds : List β}, ks.length = ds.length → (ks.zip ds).map (·.2) = ds
  | [], [], _ => rfl
  | _ :: _, _ :: _, h => by simp [zip_snd (ks := _) (ds := _) (by simpa using h)]
theorem TrAll.keys {b : Option Addr} {G H : Hp} {α : Type} {fp : List Addr} {us : List (α × V)} {ks : List α} {ts : List T} (hk : us.map (·.1) = ks) (r : TrAll b G H fp (us.map (·.2)) ts) : ks.length = (T.dats ts).length := by
  have := r.len
  rw [dats_len, ← this, ← hk, List.length_map, List.length_map]
mutual
theorem Tr.settle {b : Option Addr} {G H G' : Hp} (e : Ex G G') : ∀ {fp : List Addr} {v : V} {t : T}, Tr b G H fp v t → (∀ a, a ∈ fp → G' a = H a) → Rp b G' v t.dat
  | _, _, _, .leaf h, _ => h.mono e
  | _, _, _, .node hp gp bp r n, k => .lst (by rw [k _ (List.mem_cons_self ..)]; exact hp) (TrAll.settle e r fun a h => k a (List.mem_cons_of_mem _ h))
  | _, _, .own _ t, .own h, k => show Rp b G' _ (T.dat t) from Tr.settle e h k
  | _, _, .ins C ks ts, .ins hp hx gp gx bp bx hk r n n2 ne, k => show Rp b G' _ (insD C (ks.zip (T.dats ts))) from
    .ins (by rw [k _ (List.mem_cons_self ..)]; exact hp) (by rw [k _ (List.mem_cons_of_mem _ (List.mem_cons_self ..))]; exact hx) (by rw [zip_fst (r.keys hk)]; exact hk) (by rw [zip_snd (r.keys hk)]; exact TrAll.settle e r fun a h => k a (List.mem_cons_of_mem _ (List.mem_cons_of_mem _ h)))
  | _, _, .dic ks ts, .dic hp gp bp hk r n, k => show Rp b G' _ (dicD (ks.zip (T.dats ts))) from
    .dic (.inl (by rw [k _ (List.mem_cons_self ..)]; exact hp)) (by rw [zip_fst (r.keys hk)]; exact hk) (by rw [zip_snd (r.keys hk)]; exact TrAll.settle e r fun a h => k a (List.mem_cons_of_mem _ h))
  | _, _, .diT ks ts, .diT hp gp bp hk r n, k => show Rp b G' _ (diTD (ks.zip (T.dats ts))) from
    .diT (.inl (by rw [k _ (List.mem_cons_self ..)]; exact hp)) (by rw [zip_fst (r.keys hk)]; exact hk) (by rw [zip_snd (r.keys hk)]; exact TrAll.settle e r fun a h => k a (List.mem_cons_of_mem _ h))
  | _, _, .sto _, .sto _ _ _ _ _, _ => show Rp b G' _ .none from .non
  | _, _, .fro _, .fro _, _ => show Rp b G' _ .none from .non
  | _, _, .eff _ t, .eff s r d, k => show Rp b G' _ (T.dat t) from Tr.settle e r fun a h => k a (List.mem_append_right _ h)
theorem TrAll.settle {b : Option Addr} {G H G' : Hp} (e : Ex G G') : ∀ {fp : List Addr} {vs : List V} {ts : List T}, TrAll b G H fp vs ts → (∀ a, a ∈ fp → G' a = H a) → RpAll b G' vs (T.dats ts)
  | _, _, _, .nil, _ => .nil
  | _, _, _, .cons q r d, k => .cons (Tr.settle e q fun a h => k a (List.mem_append_left _ h)) (TrAll.settle e r fun a h => k a (List.mem_append_right _ h))
end
theorem TrAll.leaves {b : Option Addr} {G H : Hp} : ∀ {vs : List V} {ds : List PyData}, RpAll b G vs ds → TrAll b G H [] vs (ds.map T.leaf)
  | _, _, .nil => .nil
  | _, _, .cons h r => TrAll.cons (fp := []) (fq := []) (.leaf h) (TrAll.leaves r) fun _ z => nomatch z
theorem TrAll.snoc {b : Option Addr} {G H : Hp} {fq : List Addr} {v : V} {t : T} : ∀ {fp : List Addr} {vs : List V} {ts : List T}, TrAll b G H fp vs ts → Tr b G H fq v t → (∀ a, a ∈ fp → a ∉ fq) → ∃ fr, TrAll b G H fr (vs ++ [v]) (ts ++ [t]) ∧ ∀ a, a ∈ fr → a ∈ fp ∨ a ∈ fq
  | _, _, _, .nil, h, _ => ⟨fq ++ [], .cons h .nil (fun _ _ z => nomatch z), fun a z => .inr (by simpa using z)⟩
  | _, _, _, .cons (fp := f1) (fq := f2) q r d, h, k => by
    obtain ⟨fr, h1, h2⟩ := TrAll.snoc r h fun a z => k a (List.mem_append_right _ z)
    refine ⟨f1 ++ fr, .cons q h1 fun a z y => ?_, fun a z => ?_⟩
    · rcases h2 a y with y | y
      · exact d a z y
      · exact k a (List.mem_append_left _ z) y
    · rcases List.mem_append.mp z with z | z
      · exact .inl (List.mem_append_left _ z)
      · rcases h2 a z with y | y
        · exact .inl (List.mem_append_right _ y)
        · exact .inr y
theorem TrAll.setLeaf {b : Option Addr} {G H : Hp} {v : V} {d : PyData} (h : Rp b G v d) : ∀ {fp : List Addr} {vs : List V} {ts : List T} (i : Nat), TrAll b G H fp vs ts → ∃ fr, TrAll b G H fr (vs.set i v) (ts.set i (.leaf d)) ∧ ∀ a, a ∈ fr → a ∈ fp
  | _, _, _, _, .nil => ⟨[], .nil, fun _ z => z⟩
  | _, _, _, 0, .cons (fp := f1) (fq := f2) q r k => ⟨[] ++ f2, .cons (.leaf h) r (fun _ z => nomatch z), fun a z => List.mem_append_right _ (by simpa using z)⟩
  | _, _, _, i + 1, .cons (fp := f1) (fq := f2) q r k => by
    obtain ⟨fr, h1, h2⟩ := TrAll.setLeaf h i r
    exact ⟨f1 ++ fr, .cons q h1 fun a z y => k a z (h2 a y), fun a z => (List.mem_append.mp z).elim (fun z => List.mem_append_left _ z) fun z => List.mem_append_right _ (h2 a z)⟩
/-- settled -/
def addF (G H : Hp) (fp : List Addr) : Hp := fun a => if a ∈ fp then H a else G a
section
variable {K : PySem.W.Frag} {b : Option Addr} {G H G' H' : Hp} {fp : List Addr}
theorem addF_in {a : Addr} (h : a ∈ fp) : addF G H fp a = H a := if_pos h
theorem addF_out {a : Addr} (h : a ∉ fp) : addF G H fp a = G a := if_neg h
theorem addF_ex (k : ∀ a, a ∈ fp → G a = none) : Ex G (addF G H fp) := fun a o e => by
  by_cases h : a ∈ fp
  · rw [k a h] at e
    cases e
  · rw [addF_out h]
    exact e
theorem addF_good (g : Good K b G H) (k : ∀ a, a ∈ fp → G a = none ∧ b ≠ some a) : Good K b (addF G H fp) H := by
  refine ⟨fun a o e => ?_, fun a c => ?_⟩
  · by_cases h : a ∈ fp
    · rw [addF_in h] at e
      exact e
    · rw [addF_out h] at e
      exact g.ex a o e
  · obtain ⟨n, cc, cells, pos, rest, seed, h1, h2, h3⟩ := g.box a c
    have na : a ∉ fp := fun h => (k a h).2 c
    exact ⟨by rw [addF_out na]; exact n, cc, cells, pos, rest, seed, h1, addF_ex (fun a h => (k a h).1) _ _ h2, h3⟩
end
end Dd
namespace Dd
open PySem L2
/-! ### slots -/
abbrev Rho := List (Option T)
structure Env (b : Option Addr) (B G H : Hp) (σ : L2.St) (ρ : Rho) : Prop where
  len : σ.length = ρ.length
  ex : ∃ fps : Nat → List Addr, (∀ (i : Nat) t, ρ[i]? = some (some t) → ∃ v, σ[i]? = some (some v) ∧ Tr b G H (fps i) v t) ∧
    (∀ i a, a ∈ fps i → B a = none ∧ G a = none ∧ b ≠ some a ∧ ∃ o, H a = some o) ∧ ∀ i j a, i ≠ j → a ∈ fps i → a ∉ fps j
section
variable {K : PySem.W.Frag} {b : Option Addr} {B G H G' H' : Hp} {σ : L2.St} {ρ : Rho}
theorem Env.stp (E : Env b B G H σ ρ) (h : Stp K b G H G' H') : Env b B G' H' σ ρ := by
  obtain ⟨hl, fps, h1, h2, h3⟩ := E
  have kk : ∀ i a, a ∈ fps i → G' a = none ∧ H' a = H a := fun i a m => by
    obtain ⟨_, g, c, o, e⟩ := h2 i a m
    exact ⟨h.out a o g e, by rw [e]; exact h.keep a o c e⟩
  refine ⟨hl, fps, fun i t e => ?_, fun i a m => ?_, h3⟩
  · obtain ⟨v, e1, tr⟩ := h1 i t e
    exact ⟨v, e1, tr.move h.ex fun a m => kk i a m⟩
  · obtain ⟨z, g, c, o, e⟩ := h2 i a m
    exact ⟨z, (kk i a m).1, c, o, by rw [(kk i a m).2]; exact e⟩
/-- a new tree at a slot: its addresses were free in Hb, where all trees of the slots stood -/
theorem Env.put {Hb : Hp} {fp : List Addr} {v : V} {t : T} (E : Env b B G Hb σ ρ) (k : ∀ a o, b ≠ some a → Hb a = some o → H a = some o) (i : Nat) (tr : Tr b G H fp v t) (fr : ∀ a, a ∈ fp → Hb a = none) (sub : ∀ a, Hb a = none → B a = none) : Env b B G H (σ.set i (some v)) (ρ.set i (some t)) := by
  obtain ⟨hl, fps, h1, h2, h3⟩ := E
  refine ⟨by rw [List.length_set, List.length_set]; exact hl, fun j => if j = i then fp else fps j, fun j u e => ?_, fun j a m => ?_, fun j j' a n m => ?_⟩
  · by_cases c : j = i
    · subst c
      have hi : j < ρ.length := by
        have := (List.getElem?_eq_some_iff.mp e).1
        rw [List.length_set] at this
        exact this
      rw [List.getElem?_set_self hi] at e
      cases e
      exact ⟨v, by rw [List.getElem?_set_self (by rw [hl]; exact hi)], by simp only [if_pos]; exact tr⟩
    · rw [List.getElem?_set_ne (Ne.symm c)] at e ⊢
      obtain ⟨w, e1, q⟩ := h1 j u e
      refine ⟨w, e1, ?_⟩
      simp only [if_neg c]
      exact q.move (Ex.rfl' _) fun a m => by
        obtain ⟨_, g, cc, o, e⟩ := h2 j a m
        exact ⟨g, by rw [e]; exact k a o cc e⟩
  · by_cases c : j = i
    · simp only [if_pos c] at m
      obtain ⟨g, cc, o⟩ := tr.mem a m
      exact ⟨sub a (fr a m), g, cc, o⟩
    · simp only [if_neg c] at m
      obtain ⟨z, g, cc, o, e⟩ := h2 j a m
      exact ⟨z, g, cc, o, k a o cc e⟩
  · by_cases c : j = i
    · simp only [if_pos c] at m
      have c' : j' ≠ i := fun q => n (c.trans q.symm)
      simp only [if_neg c']
      intro q
      obtain ⟨_, _, _, o, e⟩ := h2 j' a q
      rw [fr a m] at e
      cases e
    · simp only [if_neg c] at m
      by_cases c' : j' = i
      · simp only [if_pos c']
        intro q
        obtain ⟨_, _, _, o, e⟩ := h2 j a m
        rw [fr a q] at e
        cases e
      · simp only [if_neg c']
        exact h3 j j' a n m
theorem Env.leaf {v : V} {d : PyData} (E : Env b B G H σ ρ) (i : Nat) (r : Rp b G v d) : Env b B G H (σ.set i (some v)) (ρ.set i (some (.leaf d))) := by
  obtain ⟨hl, fps, h1, h2, h3⟩ := E
  refine ⟨by rw [List.length_set, List.length_set]; exact hl, fun j => if j = i then [] else fps j, fun j u e => ?_, fun j a m => ?_, fun j j' a n m => ?_⟩
  · by_cases c : j = i
    · subst c
      have hi : j < ρ.length := by
        have := (List.getElem?_eq_some_iff.mp e).1
        rw [List.length_set] at this
        exact this
      rw [List.getElem?_set_self hi] at e
      cases e
      exact ⟨v, by rw [List.getElem?_set_self (by rw [hl]; exact hi)], by simp only [if_pos]; exact .leaf r⟩
    · rw [List.getElem?_set_ne (Ne.symm c)] at e ⊢
      obtain ⟨w, e1, q⟩ := h1 j u e
      exact ⟨w, e1, by simp only [if_neg c]; exact q⟩
  · by_cases c : j = i
    · simp only [if_pos c] at m
      cases m
    · simp only [if_neg c] at m
      exact h2 j a m
  · by_cases c : j = i
    · simp only [if_pos c] at m
      cases m
    · simp only [if_neg c] at m
      by_cases c' : j' = i
      · simp only [if_pos c']
        exact fun q => nomatch q
      · simp only [if_neg c']
        exact h3 j j' a n m
/-- a slot's tree, taken out of its slot: settled -/
theorem Env.settle {i : Nat} {t : T} (E : Env b B G H σ ρ) (g : Good K b G H) (e : ρ[i]? = some (some t)) : ∃ fp v, σ[i]? = some (some v) ∧ Tr b G H fp v t ∧ (∀ a, a ∈ fp → B a = none) ∧ Rp b (addF G H fp) v t.dat ∧ Good K b (addF G H fp) H ∧ Ex G (addF G H fp) ∧ Env b B (addF G H fp) H σ (ρ.set i (some (.leaf t.dat))) := by
  obtain ⟨hl, fps, h1, h2, h3⟩ := E
  obtain ⟨v, e1, tr⟩ := h1 i t e
  have ex : Ex G (addF G H (fps i)) := addF_ex fun a m => (h2 i a m).2.1
  have rp : Rp b (addF G H (fps i)) v t.dat := tr.settle ex fun a m => addF_in m
  refine ⟨fps i, v, e1, tr, fun a m => (h2 i a m).1, rp, addF_good g (fun a m => ⟨(h2 i a m).2.1, (h2 i a m).2.2.1⟩), ex, ?_⟩
  refine ⟨by rw [List.length_set]; exact hl, fun j => if j = i then [] else fps j, fun j u q => ?_, fun j a m => ?_, fun j j' a n m => ?_⟩
  · by_cases c : j = i
    · subst c
      have hi : j < ρ.length := (List.getElem?_eq_some_iff.mp e).1
      rw [List.getElem?_set_self hi] at q
      cases q
      exact ⟨v, e1, by simp only [if_pos]; exact .leaf rp⟩
    · rw [List.getElem?_set_ne (Ne.symm c)] at q
      obtain ⟨w, e2, tr2⟩ := h1 j u q
      refine ⟨w, e2, ?_⟩
      simp only [if_neg c]
      exact tr2.move ex fun a m => ⟨by rw [addF_out (h3 j i a c m)]; exact (h2 j a m).2.1, rfl⟩
  · by_cases c : j = i
    · simp only [if_pos c] at m
      cases m
    · simp only [if_neg c] at m
      obtain ⟨z, g', cc, o⟩ := h2 j a m
      exact ⟨z, by rw [addF_out (h3 j i a c m)]; exact g', cc, o⟩
  · by_cases c : j = i
    · simp only [if_pos c] at m
      cases m
    · simp only [if_neg c] at m
      by_cases c' : j' = i
      · simp only [if_pos c']
        exact fun q => nomatch q
      · simp only [if_neg c']
        exact h3 j j' a n m
end
/-! ### readings of data -/
/-- what is told of an exception: its class's name, what it bears -/
abbrev XP := Str → PyData → Prop
abbrev WE := XP → Rho → (T → Prop) → Prop
abbrev WA := XP → Rho → (List PyData → Prop) → Prop
abbrev WT := XP → Rho → (Bool → Prop) → Prop
structure Ctl where
  nx : Rho → Prop
  rt : T → Prop
  bk : Rho → Prop := fun _ => False
  ct : Rho → Prop := fun _ => False
  xc : Rho → XP := fun _ _ _ => False
abbrev WS := Ctl → Rho → Prop
abbrev SX := L2.St → XK
/-- where an expression stands -/
structure Here (K : PySem.W.Frag) (b : Option Addr) (B G H : Hp) (σ : L2.St) (ρ : Rho) : Prop where
  good : Good K b G H
  env : Env b B G H σ ρ
  sub : ∀ a, H a = none → B a = none
/-- what an exception comes to -/
def XC (K : PySem.W.Frag) (mg : Str → Option Value) (E : XK) (b : Option Addr) (G H : Hp) (xp : XP) : Prop :=
  ∀ (n : Str) (pl : PyData) (C d : Addr) (G' H' : Hp), xp n pl → mg n = some (.ref C) → G' d = some (.xd (exF n pl)) → Stp K b G H G' H' → E (.ref C) (some d) H'
structure Site (K : PySem.W.Frag) (mg : Str → Option Value) (E : XK) (b : Option Addr) (B G H : Hp) (σ : L2.St) (ρ : Rho) (xp : XP) : Prop extends Here K b B G H σ ρ where
  xc : XC K mg E b G H xp
def Ktn (K : PySem.W.Frag) (b : Option Addr) (G H : Hp) (P : T → Prop) (Q : VK) : Prop := ∀ (G' H' : Hp) (v : V) (t : T) (fp : List Addr), P t → Stp K b G H G' H' → Tr b G' H' fp v t → (∀ a, a ∈ fp → H a = none) → Q v H'
def tOf (K : PySem.W.Frag) (mg : Str → Option Value) (E : SX) (w : WE) : TE := fun σ H Q => ∃ (b : Option Addr) (B G : Hp) (ρ : Rho) (xp : XP) (P : T → Prop), w xp ρ P ∧ Site K mg (E σ) b B G H σ ρ xp ∧ Ktn K b G H P Q
def aOf (K : PySem.W.Frag) (mg : Str → Option Value) (E : SX) (w : WA) : TA := fun σ H Q => ∃ (b : Option Addr) (B G : Hp) (ρ : Rho) (xp : XP) (P : List PyData → Prop), w xp ρ P ∧ Site K mg (E σ) b B G H σ ρ xp ∧ ∀ (G' H' : Hp) (vs : List V) (ds : List PyData), P ds → Stp K b G H G' H' → RpAll b G' vs ds → Q vs H'
def ttOf (K : PySem.W.Frag) (mg : Str → Option Value) (E : SX) (w : WT) : TT := fun σ H Q => ∃ (b : Option Addr) (B G : Hp) (ρ : Rho) (xp : XP) (P : Bool → Prop), w xp ρ P ∧ Site K mg (E σ) b B G H σ ρ xp ∧ ∀ (G' H' : Hp) (k : Bool), P k → Stp K b G H G' H' → Q k H'
/-- settled values -/
def tOfD (K : PySem.W.Frag) (mg : Str → Option Value) (E : SX) (w : WE) : TE := fun σ H Q => ∃ (b : Option Addr) (B G : Hp) (ρ : Rho) (xp : XP) (P : PyData → Prop), w xp ρ (fun t => P t.dat) ∧ Site K mg (E σ) b B G H σ ρ xp ∧
  ∀ (G' H' : Hp) (v : V) (d : PyData), P d → Stp K b G H G' H' → Site K mg (E σ) b B G' H' σ ρ xp → Rp b G' v d → Q v H'
section
variable {K : PySem.W.Frag} {mg : Str → Option Value} {E : SX} {b : Option Addr} {B G H G' H' : Hp} {σ : L2.St} {ρ : Rho} {xp : XP}
theorem Here.stp (h : Here K b B G H σ ρ) (s : Stp K b G H G' H') : Here K b B G' H' σ ρ := ⟨s.good, h.env.stp s, fun a e => h.sub a (s.free h.good e)⟩
theorem XC.stp {E : XK} (h : XC K mg E b G H xp) (g : Good K b G H) (s : Stp K b G H G' H') : XC K mg E b G' H' xp := fun n pl C d G2 H2 x m e s2 => h n pl C d G2 H2 x m e (s.trans g s2)
theorem Site.stp {E : XK} (h : Site K mg E b B G H σ ρ xp) (s : Stp K b G H G' H') : Site K mg E b B G' H' σ ρ xp := ⟨h.toHere.stp s, h.xc.stp h.good s⟩
/-- a result settles -/
theorem Stp.settle {fp : List Addr} {v : V} {t : T} (g : Good K b G H) (s : Stp K b G H G' H') (tr : Tr b G' H' fp v t) (fr : ∀ a, a ∈ fp → H a = none) : Stp K b G H (addF G' H' fp) H' ∧ Rp b (addF G' H' fp) v t.dat := by
  have m := tr.mem
  have ex : Ex G' (addF G' H' fp) := addF_ex fun a z => (m a z).1
  refine ⟨⟨s.ex.trans ex, addF_good s.good fun a z => ⟨(m a z).1, (m a z).2.1⟩, s.keep, fun a o n e => ?_, s.cel⟩, tr.settle ex fun a z => addF_in z⟩
  have na : a ∉ fp := fun z => by
    rw [fr a z] at e
    cases e
  rw [addF_out na]
  exact s.out a o n e
theorem tOfD_of {w : WE} {Q : VK} (h : tOfD K mg E w σ H Q) : tOf K mg E w σ H Q := by
  obtain ⟨b, B, G, ρ, xp, P, hw, hr, k⟩ := h
  refine ⟨b, B, G, ρ, xp, _, hw, hr, fun G' H' v t fp hP s tr fr => ?_⟩
  obtain ⟨s', rp⟩ := s.settle hr.good tr fr
  exact k _ _ _ _ hP s' (hr.stp s') rp
theorem Ktn.leaf {P : T → Prop} {Q : VK} (k : Ktn K b G H P Q) (g : Good K b G H) {v : V} {d : PyData} (p : P (.leaf d)) (r : Rp b G v d) : Q v H := k G H v _ [] p g.stp (.leaf r) fun _ z => nomatch z
theorem Ktn.stp {P : T → Prop} {Q : VK} (k : Ktn K b G H P Q) (g : Good K b G H) (s : Stp K b G H G' H') : Ktn K b G' H' P Q := fun G2 H2 v t fp hp s2 tr fr => k G2 H2 v t fp hp (s.trans g s2) tr fun a m => s.free g (fr a m)
end
/-! ### all slots settled for a while -/
def T.frz : T → T
  | .sto m => .fro fun p => (m p).map T.dat
  | .fro m => .fro m
  | .leaf d => .leaf d
  | .node ts => .leaf (T.node ts).dat
  | .own _ t => .leaf t.dat
  | .ins C ks ts => .leaf (T.ins C ks ts).dat
  | .dic ks ts => .leaf (T.dic ks ts).dat
  | .diT ks ts => .leaf (T.diT ks ts).dat
  | .eff _ t => .leaf t.dat
theorem frz_tr {b : Option Addr} {G H G' H' : Hp} (e : Ex G G') {fp : List Addr} {v : V} {t : T} (tr : Tr b G H fp v t) (k : ∀ a, a ∈ fp → G' a = H a) : Tr b G' H' [] v t.frz := by
  have r := tr.settle e k
  cases tr with
  | @sto _ m fps h0 h1 h2 h3 h4 =>
    refine .fro fun p d q => ?_
    cases em : m p with
    | none =>
      rw [em] at q
      cases q
    | some t =>
      rw [em] at q
      cases q
      exact (h1 p t em).settle e fun a m => k a (h2 p t a em m)
  | fro h => exact .fro fun p d q => (h p d q).mono e
  | _ => exact .leaf r
def frzR (ρ : Rho) : Rho := ρ.map (Option.map T.frz)
open Classical in
noncomputable def addA (G H : Hp) (fps : Nat → List Addr) : Hp := fun a => if ∃ i, a ∈ fps i then H a else G a
theorem addA_in {G H : Hp} {fps : Nat → List Addr} {a : Addr} (h : ∃ i, a ∈ fps i) : addA G H fps a = H a := if_pos h
theorem addA_out {G H : Hp} {fps : Nat → List Addr} {a : Addr} (h : ¬ ∃ i, a ∈ fps i) : addA G H fps a = G a := if_neg h
/-- back out of it: nothing but the heap has grown -/
theorem Stp.back {K : PySem.W.Frag} {b : Option Addr} {G G1 G2 H H2 : Hp} (g : Good K b G H) (ex : Ex G G1) (s : Stp K b G1 H G2 H2) : Stp K b G H G H2 := by
  refine ⟨Ex.rfl' _, ⟨fun a o e => s.good.ex a o (s.ex a o (ex a o e)), fun a c => ?_⟩, s.keep, fun a o n _ => n, s.cel⟩
  obtain ⟨n, cc, cells, pos, rest, seed, q1, q2, q3⟩ := g.box a c
  obtain ⟨n', cc', cells', pos', rest', seed', q1', q2', _, q3'⟩ := s.good.box a c
  have e := s.cel a c
  unfold boxc at e
  rw [q1, q1'] at e
  have e' : cc' = cc := by simpa using e
  subst e'
  exact ⟨n, cc', cells, pos', rest', seed', q1', q2, q3.1, q3'⟩
end Dd
namespace Dd
open PySem L2
section
variable {X : Cx} {E : SX} {e e2 : Expr} {es : List Expr} {w wa wb : WE} {pos : Pos}
theorem PE.of {t : TE} (h : PE X e t) (k : ∀ σ H Q, tOf X.K X.mg E w σ H Q → t σ H Q) : PE X e (tOf X.K X.mg E w) := ⟨fun pins s σ H Q I q => h.run pins s σ H Q I (k σ H Q q)⟩
theorem PT.of {t : TT} {w : WT} (h : PT X e t) (k : ∀ σ H Q, ttOf X.K X.mg E w σ H Q → t σ H Q) : PT X e (ttOf X.K X.mg E w) := ⟨fun pins s σ H Q I q => h.run pins s σ H Q I (k σ H Q q)⟩
theorem PW.of {t : TT} {w : WT} (h : PW X e t) (k : ∀ σ H Q, ttOf X.K X.mg E w σ H Q → t σ H Q) : PW X e (ttOf X.K X.mg E w) := ⟨fun wh pins s σ H Q I q => h.run wh pins s σ H Q I (k σ H Q q)⟩
theorem PA.of {t : TA} {w : WA} (h : PA X es t) (k : ∀ σ H Q, aOf X.K X.mg E w σ H Q → t σ H Q) : PA X es (aOf X.K X.mg E w) := ⟨fun ps pins s σ H Q I q => h.run ps pins s σ H Q I (k σ H Q q)⟩
/-! ### names, constants, settling -/
def dVar (i : Nat) : WE := fun x ρ P => ∃ d, ρ[i]? = some (some (.leaf d)) ∧ P (.leaf d)
def dC (d : PyData) : WE := fun _ _ P => P (.leaf d)
def dFr (w : WE) : WE := fun x ρ P => w x ρ fun t => P (.leaf t.dat)
theorem d_var (i : Nat) {x : Str} (hN : X.N[i]? = some x := by rfl) (hv : Vis X.env.scope x := by first | exact Or.inl rfl | exact Or.inr (Or.inl rfl) | exact Or.inr (Or.inr rfl)) (hd : (x == ("__debug__" : Str)) = false := by decide) (hcd : (x == ("__classdict__" : Str)) = false := by decide) :
    PE X (.Name x pos) (tOf X.K X.mg E (dVar i)) := PE.of (pe_var hN hv hd hcd) fun σ H Q h => by
  obtain ⟨b, B, G, ρ, xp, P, ⟨d, e, p⟩, hr, k⟩ := h
  obtain ⟨fps, h1, h2, h3⟩ := hr.env.ex
  obtain ⟨v, ev, tr⟩ := h1 i _ e
  refine ⟨v, ev, ?_⟩
  generalize fps i = fp at tr
  cases tr with
  | leaf r => exact k.leaf hr.good p r
theorem d_int {i j} : PE X (.Constant (.int i) j pos) (tOf X.K X.mg E (dC (.int i))) := PE.of pe_int fun σ H Q ⟨b, B, G, ρ, xp, P, p, hr, k⟩ => k.leaf hr.good p (.int i)
theorem d_bl {i j} : PE X (.Constant (.bool i) j pos) (tOf X.K X.mg E (dC (.bool i))) := PE.of pe_bl fun σ H Q ⟨b, B, G, ρ, xp, P, p, hr, k⟩ => k.leaf hr.good p (.bl i)
theorem d_non {j} : PE X (.Constant .none j pos) (tOf X.K X.mg E (dC .none)) := PE.of pe_non fun σ H Q ⟨b, B, G, ρ, xp, P, p, hr, k⟩ => k.leaf hr.good p .non
theorem d_str {i j} : PE X (.Constant (.str i) j pos) (tOf X.K X.mg E (dC (.str i))) := PE.of pe_str fun σ H Q ⟨b, B, G, ρ, xp, P, p, hr, k⟩ => k.leaf hr.good p (.str i)
theorem d_fr (h : PE X e (tOf X.K X.mg E w)) : PE X e (tOf X.K X.mg E (dFr w)) := PE.of h fun σ H Q ⟨b, B, G, ρ, xp, P, p, hr, k⟩ => tOfD_of ⟨b, B, G, ρ, xp, fun d => P (.leaf d), p, hr, fun G' H' v d hp s _ r => k G' H' v _ [] hp s (.leaf r) fun _ z => nomatch z⟩
/-! ### operations on settled values -/
abbrev R2D := PyData → PyData → (T → Prop) → Prop
def RdOk (K : PySem.W.Frag) (r : R2) (rd : R2D) : Prop := ∀ (b : Option Addr) (G H : Hp) (x y : V) (d e : PyData) (P : T → Prop) (Q : VK), Good K b G H → Rp b G x d → Rp b G y e → rd d e P →
  Ktn K b G H P Q → r x y H Q
def dOp (rd : R2D) (wa wb : WE) : WE := fun x ρ P => wa x ρ fun t => wb x ρ fun u => rd t.dat u.dat P
theorem dop_core {K : PySem.W.Frag} {mg : Str → Option Value} {r : R2} {rd : R2D} (h : RdOk K r rd) {σ : L2.St} {H : Hp} {Q : VK} (q : tOf K mg E (dOp rd wa wb) σ H Q) : tOp r (tOf K mg E wa) (tOf K mg E wb) σ H Q := by
  obtain ⟨b, B, G, ρ, xp, P, p, hr, k⟩ := q
  refine tOfD_of ⟨b, B, G, ρ, xp, fun d => wb xp ρ fun u => rd d u.dat P, p, hr, fun G1 H1 x d p1 s1 hr1 rx => ?_⟩
  refine tOfD_of ⟨b, B, G1, ρ, xp, fun u => rd d u P, p1, hr1, fun G2 H2 y u p2 s2 hr2 ry => ?_⟩
  exact h b G2 H2 x y d u P Q s2.good (rx.mono s2.ex) ry p2 ((k.stp hr.good s1).stp hr1.good s2)
theorem d_bin {op : Operator} {r : R2} {rd : R2D} (ho : OpR X (binaryOp op) r) (h : RdOk X.K r rd) (ha : PE X e (tOf X.K X.mg E wa)) (hb : PE X e2 (tOf X.K X.mg E wb)) : PE X (.BinOp e op e2 pos) (tOf X.K X.mg E (dOp rd wa wb)) := PE.of (pe_op ho ha hb) fun _ _ _ q => dop_core h q
theorem d_cmp {op : CmpOp} {r : R2} {rd : R2D} (ho : OpR X (compareOp op) r) (h : RdOk X.K r rd) (ha : PE X e (tOf X.K X.mg E wa)) (hb : PE X e2 (tOf X.K X.mg E wb)) (hm : behindInMarks op e2 = false := by rfl) : PE X (.Compare e [op] [e2] pos) (tOf X.K X.mg E (dOp rd wa wb)) := PE.of (pe_cmpR ho ha hb hm) fun _ _ _ q => dop_core h q
theorem d_ix {r : R2} {rd : R2D} (ho : IxR X r) (h : RdOk X.K r rd) (ha : PE X e (tOf X.K X.mg E wa)) (hb : PE X e2 (tOf X.K X.mg E wb)) (hs : PlainIx e2 := by exact fun _ _ => rfl) : PE X (.Subscript e e2 pos) (tOf X.K X.mg E (dOp rd wa wb)) := PE.of (pe_ix ho ha hb hs) fun _ _ _ q => dop_core h q
theorem opr_or {f : Value → Value → Sem Value} {r1 r2 : R2} (h1 : OpR X f r1) (h2 : OpR X f r2) : OpR X f (fun x y H Q => r1 x y H Q ∨ r2 x y H Q) := fun pins s σ H x y v u Q I rx ry h => h.elim (h1 pins s σ H x y v u Q I rx ry) (h2 pins s σ H x y v u Q I rx ry)
theorem ixr_or {r1 r2 : R2} (h1 : IxR X r1) (h2 : IxR X r2) : IxR X (fun x y H Q => r1 x y H Q ∨ r2 x y H Q) := fun a c pins s σ H x y v u Q I rx ry h hs => h.elim (fun h => h1 a c pins s σ H x y v u Q I rx ry h hs) fun h => h2 a c pins s σ H x y v u Q I rx ry h hs
/-- two whole numbers -/
def rdI (C : Int → Int → Prop) (g : Int → Int → PyData) : R2D := fun d e P => match d, e with
  | .int i, .int j => C i j ∧ P (.leaf (g i j))
  | _, _ => False
def rdI0 (g : Int → Int → PyData) : R2D := fun d e P => match d, e with
  | .int i, .int j => P (.leaf (g i j))
  | _, _ => False
def pyV : PyData → V
  | .none => .non
  | .bool b => .bl b
  | .int i => .int i
  | .str x => .str x
  | _ => .non
def flatD : PyData → Bool
  | .none | .bool _ | .int _ | .str _ => true
  | _ => false
theorem rp_flat {b : Option Addr} {G : Hp} : ∀ {d : PyData}, flatD d = true → Rp b G (pyV d) d
  | .none, _ => .non
  | .bool k, _ => .bl k
  | .int i, _ => .int i
  | .str x, _ => .str x
theorem ok_I {K : PySem.W.Frag} {C : Int → Int → Prop} {g : Int → Int → PyData} (hg : ∀ i j, flatD (g i j) = true) : RdOk K (rI C fun i j => pyV (g i j)) (rdI C g) := fun b G H x y d e P Q g1 rx ry h k => by
  unfold rdI at h
  split at h
  · obtain ⟨c, p⟩ := h
    cases rx
    cases ry
    exact ⟨_, _, rfl, rfl, c, k G H _ _ [] p g1.stp (.leaf (rp_flat (hg _ _))) fun _ z => nomatch z⟩
  · exact h.elim
theorem ok_I0 {K : PySem.W.Frag} {g : Int → Int → PyData} (hg : ∀ i j, flatD (g i j) = true) : RdOk K (rI0 fun i j => pyV (g i j)) (rdI0 g) := fun b G H x y d e P Q g1 rx ry h k => by
  unfold rdI0 at h
  split at h
  · cases rx
    cases ry
    exact ⟨_, _, rfl, rfl, k G H _ _ [] h g1.stp (.leaf (rp_flat (hg _ _))) fun _ z => nomatch z⟩
  · exact h.elim
theorem RdOk.or {K : PySem.W.Frag} {r1 r2 : R2} {d1 d2 : R2D} (h1 : RdOk K r1 d1) (h2 : RdOk K r2 d2) : RdOk K (fun x y H Q => r1 x y H Q ∨ r2 x y H Q) (fun d e P => d1 d e P ∨ d2 d e P) := fun b G H x y d e P Q g rx ry h k => h.elim (fun h => .inl (h1 b G H x y d e P Q g rx ry h k)) fun h => .inr (h2 b G H x y d e P Q g rx ry h k)
/-- a new list of settled items -/
theorem new_lst {K : PySem.W.Frag} {b : Option Addr} {G H : Hp} {P : T → Prop} {Q : VK} {xs : List V} {ds : List PyData} (g : Good K b G H) (r : RpAll b G xs ds) (p : P (.node (ds.map .leaf)))
    (k : Ktn K b G H P Q) {a : Addr} (ha : H a = none) : Q (.ref a) (upd H a (.lst xs)) := by
  have ga := (g.new (.lst xs) ha).2
  have nb : b ≠ some a := fun c => by
    obtain ⟨_, _, _, _, _, _, q, _⟩ := g.box a c
    rw [ha] at q
    cases q
  refine k G _ _ _ [a] p (g.own _ ha) (.node upd_same ga nb (TrAll.leaves r) (fun z => nomatch z)) fun c m => ?_
  rw [show c = a by simpa using m]
  exact ha
theorem new_tup {K : PySem.W.Frag} {b : Option Addr} {G H : Hp} {P : T → Prop} {Q : VK} {xs : List V} {ds : List PyData} (g : Good K b G H) (r : RpAll b G xs ds) (p : P (.leaf (.tuple ds)))
    (k : Ktn K b G H P Q) {a : Addr} (ha : H a = none) : Q (.ref a) (upd H a (.tup xs)) := by
  have st := (g.new (.tup xs) ha).1
  exact k _ _ _ _ [] p st (.leaf (.tup upd_same (r.mono st.ex))) fun _ z => nomatch z
def lim : Nat := 100000
theorem lim_le {n : Nat} (h : n ≤ lim) : n ≤ sizeLine := Nat.le_trans h (by decide)
theorem lim_lt {n : Nat} (h : n < lim) : n < sizeLine := Nat.lt_of_lt_of_le h (by decide)
/-- list + list -/
def rdCat : R2D := fun d e P => ∃ xs ys, d = .list xs ∧ e = .list ys ∧ xs.length + ys.length ≤ lim ∧ P (.node ((xs ++ ys).map .leaf))
theorem ok_cat {K : PySem.W.Frag} : RdOk K rCat rdCat := fun b G H x y d e P Q g rx ry h k => by
  obtain ⟨xs, ys, rfl, rfl, hl, p⟩ := h
  cases rx with
  | lst h1 r1 =>
    cases ry with
    | lst h2 r2 =>
      refine ⟨_, _, _, _, rfl, rfl, g.ex _ _ h1, g.ex _ _ h2, ?_, fun a ha => new_lst g (r1.append r2) p k ha⟩
      rw [r1.len, r2.len]
      exact lim_le hl
/-- tuple + tuple, the left one not empty -/
def rdCatT : R2D := fun d e P => ∃ xs ys, d = .tuple xs ∧ e = .tuple ys ∧ xs ≠ [] ∧ xs.length + ys.length ≤ lim ∧ P (.leaf (.tuple (xs ++ ys)))
theorem ok_catT {K : PySem.W.Frag} : RdOk K (rCatT K) rdCatT := fun b G H x y d e P Q g rx ry h k => by
  obtain ⟨xs, ys, rfl, rfl, hne, hl, p⟩ := h
  cases rx with
  | @tup a vs _ h1 r1 =>
    cases ry with
    | @tup c us _ h2 r2 =>
      have n1 : vs ≠ [] := fun z => by
        subst z
        have := r1.len
        cases xs with
        | nil => exact hne rfl
        | cons _ _ => simp at this
      refine ⟨_, _, _, _, rfl, rfl, .inl (.inl (g.ex _ _ h1)), .inl (.inl (g.ex _ _ h2)), n1, ?_, ?_⟩
      · rw [r1.len, r2.len]
        exact lim_le hl
      · refine ⟨fun e => ?_, fun _ a ha => new_tup g (r1.append r2) p k ha⟩
        subst e
        cases r2
        rw [List.append_nil] at p
        exact k G H _ _ [] p g.stp (.leaf (.tup h1 r1)) fun _ z => nomatch z
theorem RpAll.rep {b : Option Addr} {G : Hp} {vs : List V} {ds : List PyData} (h : RpAll b G vs ds) : ∀ n : Nat, RpAll b G (List.replicate n vs).flatten (List.replicate n ds).flatten
  | 0 => .nil
  | n + 1 => by
    rw [List.replicate_succ, List.replicate_succ, List.flatten_cons, List.flatten_cons]
    exact h.append (RpAll.rep h n)
/-- list * number -/
def rdRep : R2D := fun d e P => ∃ xs i, d = .list xs ∧ e = .int i ∧ 0 ≤ i ∧ i ≤ 1000 ∧ xs.length ≤ 10 ∧ P (.node ((List.replicate i.toNat xs).flatten.map .leaf))
theorem ok_rep {K : PySem.W.Frag} : RdOk K rRep rdRep := fun b G H x y d e P Q g rx ry h k => by
  obtain ⟨xs, i, rfl, rfl, h0, h1, hl, p⟩ := h
  cases rx with
  | @lst _ vs _ h1' r1 =>
    cases ry
    have hz : vs.length * i.toNat ≤ sizeLine := by
      rw [r1.len]
      exact Nat.le_trans (Nat.mul_le_mul hl (show i.toNat ≤ 1000 by omega)) (by decide)
    exact ⟨_, _, _, rfl, rfl, g.ex _ _ h1', by omega, by omega, hz, fun a ha => new_lst g (r1.rep _) p k ha⟩
/-- == of data -/
def rdEq : R2D := fun d e P => match d, e with
  | .int i, .int j => P (boo (decide (i = j)))
  | .str i, .str j => P (boo (decide (i = j)))
  | .bool i, .bool j => P (boo (decide (i = j)))
  | d, e => SeqAt.shaped d = true ∧ SeqAt.shaped e = true ∧ P (boo (PyData.eqv d e))
def rdNe : R2D := fun d e P => match d, e with
  | .int i, .int j => P (boo (decide (i ≠ j)))
  | .str i, .str j => P (boo (decide (i ≠ j)))
  | .bool i, .bool j => P (boo (decide (i ≠ j)))
  | d, e => SeqAt.shaped d = true ∧ SeqAt.shaped e = true ∧ P (boo (!PyData.eqv d e))
mutual
theorem rp_dp {K : PySem.W.Frag} {b : Option Addr} {G H : Hp} (e : Ex G H) : ∀ {v : V} {d : PyData}, Rp b G v d → d.canLay0 = true → Dp K H v d
  | _, _, .non, _ => .non
  | _, _, .bl k, _ => .bl k
  | _, _, .int i, _ => .int i
  | _, _, .str i, _ => .str i
  | _, _, .lst h r, c => .lst (.inl (.inl (e _ _ h))) (rp_dpAll e r (by simpa [PyData.canLay0] using c))
  | _, _, .tup h r, c => .tup (.inl (.inl (e _ _ h))) (rp_dpAll e r (by simpa [PyData.canLay0] using c))
  | _, _, .box _, c => by simp [PyData.canLay0] at c
  | _, _, .exc _, c => by simp [PyData.canLay0] at c
  | _, _, .obj _, c => by simp [PyData.canLay0] at c
  | _, _, .ins _ _ _ _, c => by simp [PyData.canLay0] at c
  | _, _, .dic _ _ _, c => by simp [PyData.canLay0] at c
  | _, _, .diT _ _ _, c => by simp [PyData.canLay0] at c
theorem rp_dpAll {K : PySem.W.Frag} {b : Option Addr} {G H : Hp} (e : Ex G H) : ∀ {vs : List V} {ds : List PyData}, RpAll b G vs ds → PyData.canLayAll0 ds = true → DpAll K H vs ds
  | _, _, .nil, _ => .nil
  | _, _, .cons h r, c => by
    rw [PyData.canLayAll0, Bool.and_eq_true] at c
    exact .cons (rp_dp e h c.1) (rp_dpAll e r c.2)
end
theorem shaped_lay {d : PyData} (h : SeqAt.shaped d = true) : d.canLay0 = true := by
  unfold SeqAt.shaped at h
  rw [Bool.and_eq_true] at h
  exact h.1
theorem eqv_eq {d : PyData} (h : SeqAt.shaped d = true) : PyData.eqv d d = true := SeqAt.eqv_refl d (shaped_lay h)
theorem ok_eq {K : PySem.W.Frag} : RdOk K (fun x y H Q => rEq x y H Q ∨ rEqD K x y H Q) rdEq := fun b G H x y d e P Q g rx ry h k => by
  unfold rdEq at h
  split at h
  · cases rx
    cases ry
    refine .inl ⟨rfl, ?_⟩
    have q := k G H (.bl _) _ [] h g.stp (.leaf (.bl _)) fun _ z => nomatch z
    simpa using q
  · cases rx
    cases ry
    refine .inl ⟨rfl, ?_⟩
    have q := k G H (.bl _) _ [] h g.stp (.leaf (.bl _)) fun _ z => nomatch z
    simpa using q
  · cases rx
    cases ry
    refine .inl ⟨rfl, ?_⟩
    have q := k G H (.bl _) _ [] h g.stp (.leaf (.bl _)) fun _ z => nomatch z
    simpa using q
  · obtain ⟨s1, s2, p⟩ := h
    exact .inr ⟨_, _, rp_dp g.ex rx (shaped_lay s1), rp_dp g.ex ry (shaped_lay s2), s1, s2, k G H _ _ [] p g.stp (.leaf (.bl _)) fun _ z => nomatch z⟩
theorem ok_ne {K : PySem.W.Frag} : RdOk K (fun x y H Q => rNe x y H Q ∨ rNeD K x y H Q) rdNe := fun b G H x y d e P Q g rx ry h k => by
  unfold rdNe at h
  split at h
  · cases rx
    cases ry
    refine .inl ⟨rfl, ?_⟩
    have q := k G H (.bl _) _ [] h g.stp (.leaf (.bl _)) fun _ z => nomatch z
    simpa using q
  · cases rx
    cases ry
    refine .inl ⟨rfl, ?_⟩
    have q := k G H (.bl _) _ [] h g.stp (.leaf (.bl _)) fun _ z => nomatch z
    simpa using q
  · cases rx
    cases ry
    refine .inl ⟨rfl, ?_⟩
    have q := k G H (.bl _) _ [] h g.stp (.leaf (.bl _)) fun _ z => nomatch z
    simpa using q
  · obtain ⟨s1, s2, p⟩ := h
    exact .inr ⟨_, _, rp_dp g.ex rx (shaped_lay s1), rp_dp g.ex ry (shaped_lay s2), s1, s2, k G H _ _ [] p g.stp (.leaf (.bl _)) fun _ z => nomatch z⟩
/-- items by place -/
def rdIx : R2D := fun d e P => match d, e with
  | .list xs, .int i => ∃ x, atI xs i = some x ∧ P (.leaf x)
  | .tuple xs, .int i => ∃ x, atI xs i = some x ∧ P (.leaf x)
  | _, _ => False
theorem RpAll.atI {b : Option Addr} {G : Hp} {vs : List V} {ds : List PyData} (h : RpAll b G vs ds) {i : Int} {d : PyData} (e : L2.atI ds i = some d) : ∃ v, L2.atI vs i = some v ∧ Rp b G v d := by
  unfold L2.atI at e ⊢
  rw [h.len]
  cases q : ixN ds.length i with
  | none =>
    rw [q] at e
    cases e
  | some j =>
    rw [q] at e
    exact h.get (i := j) e
theorem ok_ix {K : PySem.W.Frag} : RdOk K (fun x y H Q => rIxL K x y H Q ∨ rIxT K x y H Q) rdIx := fun b G H x y d e P Q g rx ry h k => by
  unfold rdIx at h
  split at h
  · obtain ⟨z, ez, p⟩ := h
    cases rx with
    | lst h1 r1 =>
      cases ry
      obtain ⟨v, ev, rv⟩ := r1.atI ez
      exact .inl ⟨_, _, _, v, rfl, rfl, .inl (.inl (g.ex _ _ h1)), ev, k G H _ _ [] p g.stp (.leaf rv) fun _ z => nomatch z⟩
  · obtain ⟨z, ez, p⟩ := h
    cases rx with
    | tup h1 r1 =>
      cases ry
      obtain ⟨v, ev, rv⟩ := r1.atI ez
      exact .inr ⟨_, _, _, v, rfl, rfl, .inl (.inl (g.ex _ _ h1)), ev, k G H _ _ [] p g.stp (.leaf rv) fun _ z => nomatch z⟩
  · exact h.elim
/-- is None, is not None -/
def rdIsN : R2D := fun d e P => e = .none ∧ P (boo (match d with | .none => true | _ => false))
def rdNotN : R2D := fun d e P => e = .none ∧ P (boo (match d with | .none => false | _ => true))
theorem ok_isN {K : PySem.W.Frag} : RdOk K (fun x y H Q => y = .non ∧ Q (.bl (decide (x = .non))) H) rdIsN := fun b G H x y d e P Q g rx ry h k => by
  obtain ⟨rfl, p⟩ := h
  cases ry
  refine ⟨rfl, ?_⟩
  cases rx <;> exact k G H _ _ [] p g.stp (.leaf (.bl _)) fun _ z => nomatch z
theorem ok_notN {K : PySem.W.Frag} : RdOk K (fun x y H Q => y = .non ∧ Q (.bl (!decide (x = .non))) H) rdNotN := fun b G H x y d e P Q g rx ry h k => by
  obtain ⟨rfl, p⟩ := h
  cases ry
  refine ⟨rfl, ?_⟩
  cases rx <;> exact k G H _ _ [] p g.stp (.leaf (.bl _)) fun _ z => nomatch z
/-! ### the operators -/
variable {op : Operator}
def rdAdd : R2D := fun d e P => match d, e with
  | .int i, .int j => P (int (i + j))
  | d, e => rdCat d e P ∨ rdCatT d e P
theorem ok_add {K : PySem.W.Frag} : RdOk K (fun x y H Q => (rI0 fun i j => .int (i + j)) x y H Q ∨ (rCat x y H Q ∨ rCatT K x y H Q)) rdAdd := fun b G H x y d e P Q g rx ry h k => by
  unfold rdAdd at h
  split at h
  · exact .inl (ok_I0 (K := K) (g := fun i j => .int (i + j)) (fun _ _ => rfl) b G H x y _ _ P Q g rx ry h k)
  · exact h.elim (fun h => .inr (.inl (ok_cat (K := K) b G H x y _ _ P Q g rx ry h k))) fun h => .inr (.inr (ok_catT b G H x y _ _ P Q g rx ry h k))
theorem d_add (ha : PE X e (tOf X.K X.mg E wa)) (hb : PE X e2 (tOf X.K X.mg E wb)) : PE X (.BinOp e .Add e2 pos) (tOf X.K X.mg E (dOp rdAdd wa wb)) := d_bin (opr_or op_add (opr_or op_cat op_catT)) ok_add ha hb
abbrev rdSub : R2D := rdI0 fun i j => .int (i - j)
theorem d_sub (ha : PE X e (tOf X.K X.mg E wa)) (hb : PE X e2 (tOf X.K X.mg E wb)) : PE X (.BinOp e .Sub e2 pos) (tOf X.K X.mg E (dOp rdSub wa wb)) := d_bin op_sub (ok_I0 fun _ _ => rfl) ha hb
def rdMul : R2D := fun d e P => match d, e with
  | .int i, .int j => CMulW i j ∧ P (int (i * j))
  | d, e => rdRep d e P
theorem d_mul (ha : PE X e (tOf X.K X.mg E wa)) (hb : PE X e2 (tOf X.K X.mg E wb)) : PE X (.BinOp e .Mult e2 pos) (tOf X.K X.mg E (dOp rdMul wa wb)) := d_bin (opr_or op_mulW op_rep) (fun b G H x y d e P Q g rx ry h k => by
  unfold rdMul at h
  split at h
  · exact .inl (ok_I (K := X.K) (g := fun i j => .int (i * j)) (fun _ _ => rfl) b G H x y _ _ P Q g rx ry h k)
  · exact .inr (ok_rep (K := X.K) b G H x y _ _ P Q g rx ry h k)) ha hb
abbrev rdMod : R2D := rdI (fun _ j => 0 < j) fun i j => .int (i % j)
theorem d_mod (ha : PE X e (tOf X.K X.mg E wa)) (hb : PE X e2 (tOf X.K X.mg E wb)) : PE X (.BinOp e .Mod e2 pos) (tOf X.K X.mg E (dOp rdMod wa wb)) := d_bin op_mod (ok_I fun _ _ => rfl) ha hb
abbrev rdLt : R2D := rdI0 fun i j => .bool (decide (i < j))
abbrev rdLe : R2D := rdI0 fun i j => .bool (decide (i ≤ j))
abbrev rdGt : R2D := rdI0 fun i j => .bool (decide (j < i))
abbrev rdGe : R2D := rdI0 fun i j => .bool (decide (j ≤ i))
theorem d_eq (hu : X.A.units + 64 < cLine) (ha : PE X e (tOf X.K X.mg E wa)) (hb : PE X e2 (tOf X.K X.mg E wb)) : PE X (.Compare e [.Eq] [e2] pos) (tOf X.K X.mg E (dOp rdEq wa wb)) := d_cmp (opr_or op_eq (op_eqD hu)) ok_eq ha hb (nomark _)
theorem d_ne (hu : X.A.units + 64 < cLine) (ha : PE X e (tOf X.K X.mg E wa)) (hb : PE X e2 (tOf X.K X.mg E wb)) : PE X (.Compare e [.NotEq] [e2] pos) (tOf X.K X.mg E (dOp rdNe wa wb)) := d_cmp (opr_or op_ne (op_neD hu)) ok_ne ha hb (nomark _)
theorem d_isN (ha : PE X e (tOf X.K X.mg E wa)) (hb : PE X e2 (tOf X.K X.mg E wb)) : PE X (.Compare e [.Is] [e2] pos) (tOf X.K X.mg E (dOp rdIsN wa wb)) := d_cmp op_isN ok_isN ha hb (nomark _)
theorem d_at (ha : PE X e (tOf X.K X.mg E wa)) (hb : PE X e2 (tOf X.K X.mg E wb)) (hs : PlainIx e2 := by exact fun _ _ => rfl) : PE X (.Subscript e e2 pos) (tOf X.K X.mg E (dOp rdIx wa wb)) := d_ix (ixr_or ix_list ix_tup) ok_ix ha hb hs
end
end Dd
namespace Dd
open PySem L2
/-! ### arguments, calls -/
/-- a promise at data's level: arguments, what is wanted of the value, of an exception -/
abbrev Spec := List PyData → (T → Prop) → XP → Prop
def spOf (K : PySem.W.Frag) (mg : Str → Option Value) (S : Spec) : Sp := fun vs H Q E => ∃ (b : Option Addr) (G : Hp) (ds : List PyData) (P : T → Prop) (xp : XP), S ds P xp ∧ Good K b G H ∧ RpAll b G vs ds ∧ Ktn K b G H P Q ∧ XC K mg E b G H xp
section
variable {X : Cx} {E : SX} {e e2 : Expr} {es : List Expr} {w wa wb : WE} {ws : WA} {wt wu : WT} {pos p apos : Pos} {x : Str}
def aNil : WA := fun _ _ P => P []
def aCons (w : WE) (ws : WA) : WA := fun x ρ P => w x ρ fun t => ws x ρ fun ds => P (t.dat :: ds)
theorem a_nil : PA X [] (aOf X.K X.mg E aNil) := PA.of pa_nil fun σ H Q ⟨b, B, G, ρ, xp, P, p, hr, k⟩ => k G H [] [] p hr.good.stp .nil
theorem a_cons (ha : PE X e (tOf X.K X.mg E w)) (hb : PA X es (aOf X.K X.mg E ws)) (hs : starEach (e :: es) X.env = (false, eval e X.env) :: starEach es X.env := by rfl) : PA X (e :: es) (aOf X.K X.mg E (aCons w ws)) := PA.of (pa_cons ha hb hs) fun σ H Q ⟨b, B, G, ρ, xp, P, p, hr, k⟩ => by
  refine tOfD_of ⟨b, B, G, ρ, xp, fun d => ws xp ρ fun ds => P (d :: ds), p, hr, fun G1 H1 x d p1 s1 hr1 rx => ?_⟩
  exact ⟨b, B, G1, ρ, xp, fun ds => P (d :: ds), p1, hr1, fun G2 H2 vs ds p2 s2 r2 => k G2 H2 _ _ p2 (s1.trans hr.good s2) (.cons (rx.mono s2.ex) r2)⟩
def dCall (S : Spec) (ws : WA) : WE := fun x ρ P => ws x ρ fun ds => S ds P x
section
variable {CX : CXT} {k : Nat} {f : Addr} {fd : FuncData} {ps : List Str} {S : Spec}
theorem dcall_core {K : PySem.W.Frag} {mg : Str → Option Value} {σ : L2.St} {H : Hp} {Q : VK} (q : tOf K mg E (dCall S ws) σ H Q) : aOf K mg E ws σ H fun vs H1 => spOf K mg S (vs ++ []) H1 Q (E σ) := by
  obtain ⟨b, B, G, ρ, xp, P, p, hr, k⟩ := q
  refine ⟨b, B, G, ρ, xp, fun ds => S ds P xp, p, hr, fun G1 H1 vs ds p1 s1 r1 => ?_⟩
  show spOf K mg S (vs ++ []) H1 Q (E σ)
  rw [List.append_nil]
  exact ⟨b, G1, ds, P, xp, p1, s1.good, r1, k.stp hr.good s1, hr.xc.stp hr.good s1⟩
/-- a call where nothing is raised -/
theorem d_call {j : Nat} (F : FnOk X.prog X.w X.K X.mg X.base CX0 k f fd ps (spOf X.K X.mg S)) (hr : Room j X.A) (hg : Gl X x) (hm : X.mg x = some (.ref f)) (hk : PySem.W.keepIn X.K (.ref f) = true) (hb : Binds X.K fd ps [])
    (ha : PA X (e :: es) (aOf X.K X.mg E ws)) (hj : k ≤ j := by decide) (hdb : (x == ("__debug__" : Str)) = false := by decide) (he : starEach (e :: es) X.env = (false, eval e X.env) :: starEach es X.env := by rfl) (hpl : (backTo pos (starEach es X.env)).any (·.1) = false := by rfl) :
    PE X (.Call (.Name x p) (e :: es) [] pos) (tOf X.K X.mg E (dCall S ws)) := ⟨fun pins s σ H Q I q => (pe_call (E := E σ) F (hr.mono hj) hg hm hk hb .nil pass0 ha hdb he hpl).run pins s σ H Q I (dcall_core q)⟩
end
/-! ### displays -/
def dLst (ws : WA) : WE := fun x ρ P => ws x ρ fun ds => ds.length ≤ lim ∧ P (.node (ds.map .leaf))
def dTup (ws : WA) : WE := fun x ρ P => ws x ρ fun ds => ds.length ≤ lim ∧ P (.leaf (.tuple ds))
theorem d_lst (h : PA X es (aOf X.K X.mg E ws)) : PE X (.List es pos) (tOf X.K X.mg E (dLst ws)) := PE.of (pe_lst h) fun σ H Q ⟨b, B, G, ρ, xp, P, p, hr, k⟩ =>
  ⟨b, B, G, ρ, xp, fun ds => ds.length ≤ lim ∧ P (.node (ds.map .leaf)), p, hr, fun G1 H1 vs ds p1 s1 r1 => ⟨by rw [r1.len]; exact lim_le p1.1, fun a ha => new_lst s1.good r1 p1.2 (k.stp hr.good s1) ha⟩⟩
theorem d_tup {j : Nat} (h : PA X es (aOf X.K X.mg E ws)) : PE X (.Tuple es j pos) (tOf X.K X.mg E (dTup ws)) := PE.of (pe_tup h) fun σ H Q ⟨b, B, G, ρ, xp, P, p, hr, k⟩ =>
  ⟨b, B, G, ρ, xp, fun ds => ds.length ≤ lim ∧ P (.leaf (.tuple ds)), p, hr, fun G1 H1 vs ds p1 s1 r1 => ⟨by rw [r1.len]; exact lim_le p1.1, fun a ha => new_tup s1.good r1 p1.2 (k.stp hr.good s1) ha⟩⟩
/-! ### built-ins by their settled arguments -/
abbrev CD := List PyData → (T → Prop) → Prop
def CdOk (K : PySem.W.Frag) (r : List V → Hp → VK → Prop) (c : CD) : Prop := ∀ (b : Option Addr) (G H : Hp) (vs : List V) (ds : List PyData) (P : T → Prop) (Q : VK), Good K b G H → RpAll b G vs ds → c ds P → Ktn K b G H P Q → r vs H Q
def dBlt (c : CD) (ws : WA) : WE := fun x ρ P => ws x ρ fun ds => c ds P
theorem dblt_core {K : PySem.W.Frag} {mg : Str → Option Value} {r : List V → Hp → VK → Prop} {c : CD} (h : CdOk K r c) {σ : L2.St} {H : Hp} {Q : VK} (q : tOf K mg E (dBlt c ws) σ H Q) : tCB r (aOf K mg E ws) σ H Q := by
  obtain ⟨b, B, G, ρ, xp, P, p, hr, k⟩ := q
  exact ⟨b, B, G, ρ, xp, fun ds => c ds P, p, hr, fun G1 H1 vs ds p1 s1 r1 => h b G1 H1 vs ds P Q s1.good r1 p1 (k.stp hr.good s1)⟩
theorem d_blt {id : String} {r : List V → Hp → VK → Prop} {c : CD} (hc : CallR X (.builtin id) r) (h : CdOk X.K r c) (hg : Gl X x) (hm : X.mg x = none) (hv : bootBuiltins x = some (.builtin id)) (ha : PA X (e :: es) (aOf X.K X.mg E ws)) (hn : x ≠ "__name__" := by decide) (hdb : (x == ("__debug__" : Str)) = false := by decide)
    (he : starEach (e :: es) X.env = (false, eval e X.env) :: starEach es X.env := by rfl) (hpl : (backTo pos (starEach es X.env)).any (·.1) = false := by rfl) : PE X (.Call (.Name x p) (e :: es) [] pos) (tOf X.K X.mg E (dBlt c ws)) := PE.of (pe_callB hc hg hm hv ha hn hdb he hpl) fun σ H Q q => dblt_core h q
theorem d_ty {id : String} {r : List V → Hp → VK → Prop} {c : CD} (hc : CallR X (.type id) r) (h : CdOk X.K r c) (hg : Gl X x) (hm : X.mg x = none) (hv : bootBuiltins x = some (.type id)) (ha : PA X (e :: es) (aOf X.K X.mg E ws)) (hn : x ≠ "__name__" := by decide) (hdb : (x == ("__debug__" : Str)) = false := by decide)
    (he : starEach (e :: es) X.env = (false, eval e X.env) :: starEach es X.env := by rfl) (hpl : (backTo pos (starEach es X.env)).any (·.1) = false := by rfl) : PE X (.Call (.Name x p) (e :: es) [] pos) (tOf X.K X.mg E (dBlt c ws)) := PE.of (pe_callTy hc hg hm hv ha hn hdb he hpl) fun σ H Q q => dblt_core h q
/-- len -/
def cLen : CD := fun ds P => match ds with
  | [.list xs] => P (int xs.length)
  | [.tuple xs] => P (int xs.length)
  | [.str z] => z.length ≤ lim ∧ P (int z.length)
  | _ => False
theorem ok_len {K : PySem.W.Frag} : CdOk K (fun xs H Q => ∃ x n, xs = [x] ∧ LenV K x H n ∧ Q (.int n) H) cLen := fun b G H vs ds P Q g r h k => by
  unfold cLen at h
  split at h
  · cases r with
    | cons r1 r2 =>
      cases r2
      cases r1 with
      | lst h1 h2 => exact ⟨_, _, rfl, .inl ⟨_, .inl (.inl (g.ex _ _ h1)), rfl⟩, by rw [h2.len]; exact k.leaf g h (.int _)⟩
  · cases r with
    | cons r1 r2 =>
      cases r2
      cases r1 with
      | tup h1 h2 => exact ⟨_, _, rfl, .inr ⟨_, .inl (.inl (g.ex _ _ h1)), rfl⟩, by rw [h2.len]; exact k.leaf g h (.int _)⟩
  · cases r with
    | cons r1 r2 =>
      cases r2
      cases r1
      exact ⟨_, _, rfl, ⟨lim_le h.1, rfl⟩, k.leaf g h.2 (.int _)⟩
  · exact h.elim
theorem d_len (hm : X.mg "len" = none) (ha : PA X [e] (aOf X.K X.mg E ws)) (hg : Gl X "len" := by rfl) (he : starEach [e] X.env = (false, eval e X.env) :: starEach [] X.env := by rfl) (hpl : (backTo pos (starEach [] X.env)).any (·.1) = false := by rfl) : PE X (.Call (.Name "len" p) [e] [] pos) (tOf X.K X.mg E (dBlt cLen ws)) :=
  d_blt call_len ok_len hg hm PySem.boot_len ha (by decide) (by decide) he hpl
/-- ints as data -/
def intsD (ns : List Int) : List PyData := ns.map .int
theorem rp_ints {b : Option Addr} {G : Hp} : ∀ {ns : List Int} {vs : List V}, RpAll b G vs (intsD ns) → vs = ns.map V.int
  | [], _, .nil => rfl
  | n :: ns, _, .cons (.int _) r => by
    rw [rp_ints (ns := ns) r] <;> rfl
theorem rp_bools {b : Option Addr} {G : Hp} : ∀ {ns : List Bool} {vs : List V}, RpAll b G vs (ns.map .bool) → vs = ns.map V.bl
  | [], _, .nil => rfl
  | n :: ns, _, .cons (.bl _) r => by
    rw [rp_bools (ns := ns) r] <;> rfl
/-- sum of a list of whole numbers -/
def cSum : CD := fun ds P => ∃ ns : List Int, ds = [.list (intsD ns)] ∧ P (int ns.sum)
theorem ok_sum {K : PySem.W.Frag} : CdOk K (rSum K) cSum := fun b G H vs ds P Q g r h k => by
  obtain ⟨ns, rfl, p⟩ := h
  cases r with
  | cons r1 r2 =>
    cases r2
    cases r1 with
    | lst h1 h2 =>
      have e := rp_ints h2
      subst e
      exact ⟨_, ns, rfl, .inl (.inl (g.ex _ _ h1)), k.leaf g p (.int _)⟩
def cAll : CD := fun ds P => ∃ ns : List Bool, ds = [.list (ns.map .bool)] ∧ P (boo (ns.all id))
theorem ok_all {K : PySem.W.Frag} : CdOk K (rAll K) cAll := fun b G H vs ds P Q g r h k => by
  obtain ⟨ns, rfl, p⟩ := h
  cases r with
  | cons r1 r2 =>
    cases r2
    cases r1 with
    | lst h1 h2 =>
      have e := rp_bools h2
      subst e
      exact ⟨_, ns, rfl, .inl (.inl (g.ex _ _ h1)), k.leaf g p (.bl _)⟩
/-- list(xs) -/
def cList : CD := fun ds P => match ds with
  | [.list xs] => P (.node (xs.map .leaf))
  | [.tuple xs] => P (.node (xs.map .leaf))
  | _ => False
theorem ok_list {K : PySem.W.Frag} : CdOk K (fun xs H Q => ∃ p ys, xs = [.ref p] ∧ (SqL K H p ys ∨ SqT K H p ys) ∧ ∀ l, H l = none → Q (.ref l) (upd H l (.lst ys))) cList := fun b G H vs ds P Q g r h k => by
  unfold cList at h
  split at h
  · cases r with
    | cons r1 r2 =>
      cases r2
      cases r1 with
      | lst h1 h2 => exact ⟨_, _, rfl, .inl (.inl (.inl (g.ex _ _ h1))), fun a ha => new_lst g h2 h k ha⟩
  · cases r with
    | cons r1 r2 =>
      cases r2
      cases r1 with
      | tup h1 h2 => exact ⟨_, _, rfl, .inr (.inl (.inl (g.ex _ _ h1))), fun a ha => new_lst g h2 h k ha⟩
  · exact h.elim
theorem d_list (hm : X.mg "list" = none) (ha : PA X [e] (aOf X.K X.mg E ws)) (hg : Gl X "list" := by rfl) (he : starEach [e] X.env = (false, eval e X.env) :: starEach [] X.env := by rfl) (hpl : (backTo pos (starEach [] X.env)).any (·.1) = false := by rfl) : PE X (.Call (.Name "list" p) [e] [] pos) (tOf X.K X.mg E (dBlt cList ws)) :=
  d_ty call_list_of ok_list hg hm (by decide +kernel) ha (by decide) (by decide) he hpl
theorem d_sum (hc : X.calm = true) (hm : X.mg "sum" = none) (ha : PA X [e] (aOf X.K X.mg E ws)) (hg : Gl X "sum" := by rfl) (he : starEach [e] X.env = (false, eval e X.env) :: starEach [] X.env := by rfl) (hpl : (backTo pos (starEach [] X.env)).any (·.1) = false := by rfl) : PE X (.Call (.Name "sum" p) [e] [] pos) (tOf X.K X.mg E (dBlt cSum ws)) :=
  d_blt (cr_sum hc) ok_sum hg hm (by decide +kernel) ha (by decide) (by decide) he hpl
theorem d_all (hc : X.calm = true) (hm : X.mg "all" = none) (ha : PA X [e] (aOf X.K X.mg E ws)) (hg : Gl X "all" := by rfl) (he : starEach [e] X.env = (false, eval e X.env) :: starEach [] X.env := by rfl) (hpl : (backTo pos (starEach [] X.env)).any (·.1) = false := by rfl) : PE X (.Call (.Name "all" p) [e] [] pos) (tOf X.K X.mg E (dBlt cAll ws)) :=
  d_blt (cr_all hc) ok_all hg hm (by decide +kernel) ha (by decide) (by decide) he hpl
/-! ### tests -/
def dTst (w : WE) : WT := fun x ρ P => w x ρ fun t => match t with
  | .leaf (.bool k) => P k
  | _ => False
theorem dtst_core {K : PySem.W.Frag} {mg : Str → Option Value} {σ : L2.St} {H : Hp} {Q : Bool → Hp → Prop} (q : ttOf K mg E (dTst w) σ H Q) : tOf K mg E w σ H fun x H1 => ∃ c, x = .bl c ∧ Q c H1 := by
  obtain ⟨b, B, G, ρ, xp, P, p, hr, k⟩ := q
  refine ⟨b, B, G, ρ, xp, _, p, hr, fun G' H' v t fp hp s tr fr => ?_⟩
  dsimp only at hp
  split at hp
  · cases tr with
    | leaf r =>
      cases r
      exact ⟨_, rfl, k G' H' _ hp s⟩
  · exact hp.elim
theorem t_cmp {op : CmpOp} {r : R2} {rd : R2D} (ho : OpR X (compareOp op) r) (h : RdOk X.K r rd) (ha : PE X e (tOf X.K X.mg E wa)) (hb : PE X e2 (tOf X.K X.mg E wb)) (hm : behindInMarks op e2 = false := by rfl) : PT X (.Compare e [op] [e2] pos) (ttOf X.K X.mg E (dTst (dOp rd wa wb))) := PT.of (pt_cmpR ho ha hb hm) fun σ H Q q => dop_core h (dtst_core q)
theorem t_val (h : PE X e (tOf X.K X.mg E w)) (he : ∀ whole, isTrue e X.env whole = (do let v ← whole; standAt e.pos; holding [v] (truthy v)) := by intro _; rfl) : PT X e (ttOf X.K X.mg E (dTst w)) := PT.of (pt_val h he) fun σ H Q q => dtst_core q
def dNot (w : WT) : WT := fun x ρ P => w x ρ fun k => P (!k)
def dAnd (w u : WT) : WT := fun x ρ P => w x ρ fun k => (k = true → u x ρ P) ∧ (k = false → P false)
def dOr (w u : WT) : WT := fun x ρ P => w x ρ fun k => (k = true → P true) ∧ (k = false → u x ρ P)
theorem t_not (ha : PT X e (ttOf X.K X.mg E wt)) : PT X (.UnaryOp .Not e pos) (ttOf X.K X.mg E (dNot wt)) := PT.of (pt_not ha) fun σ H Q ⟨b, B, G, ρ, xp, P, p, hr, k⟩ => ⟨b, B, G, ρ, xp, fun c => P (!c), p, hr, fun G' H' c hp s => k G' H' _ hp s⟩
theorem w_and1 (ha : PT X e (ttOf X.K X.mg E wt)) : PW X (.BoolOp .And [e] pos) (ttOf X.K X.mg E wt) := pw_and1 ha
theorem w_or1 (ha : PT X e (ttOf X.K X.mg E wt)) : PW X (.BoolOp .Or [e] pos) (ttOf X.K X.mg E wt) := pw_or1 ha
theorem w_and (ha : PT X e (ttOf X.K X.mg E wt)) (hb : PW X (.BoolOp .And (e2 :: es) pos) (ttOf X.K X.mg E wu)) : PW X (.BoolOp .And (e :: e2 :: es) pos) (ttOf X.K X.mg E (dAnd wt wu)) := PW.of (pw_and ha hb) fun σ H Q ⟨b, B, G, ρ, xp, P, p, hr, k⟩ =>
  ⟨b, B, G, ρ, xp, _, p, hr, fun G' H' c hp s => by
    cases c with
    | true =>
      show ttOf X.K X.mg E wu σ H' Q
      exact ⟨b, B, G', ρ, xp, P, hp.1 rfl, hr.stp s, fun G2 H2 c2 p2 s2 => k G2 H2 c2 p2 (s.trans hr.good s2)⟩
    | false => exact k G' H' false (hp.2 rfl) s⟩
theorem w_or (ha : PT X e (ttOf X.K X.mg E wt)) (hb : PW X (.BoolOp .Or (e2 :: es) pos) (ttOf X.K X.mg E wu)) : PW X (.BoolOp .Or (e :: e2 :: es) pos) (ttOf X.K X.mg E (dOr wt wu)) := PW.of (pw_or ha hb) fun σ H Q ⟨b, B, G, ρ, xp, P, p, hr, k⟩ =>
  ⟨b, B, G, ρ, xp, _, p, hr, fun G' H' c hp s => by
    cases c with
    | false =>
      show ttOf X.K X.mg E wu σ H' Q
      exact ⟨b, B, G', ρ, xp, P, hp.2 rfl, hr.stp s, fun G2 H2 c2 p2 s2 => k G2 H2 c2 p2 (s.trans hr.good s2)⟩
    | true => exact k G' H' true (hp.1 rfl) s⟩
/-- and, or, not as values -/
def dAndV (wa wb : WE) : WE := fun x ρ P => wa x ρ fun t => match t with
  | .leaf (.bool k) => (k = true → wb x ρ P) ∧ (k = false → P (boo false))
  | _ => False
def dOrV (wa wb : WE) : WE := fun x ρ P => wa x ρ fun t => match t with
  | .leaf (.bool k) => (k = true → P (boo true)) ∧ (k = false → wb x ρ P)
  | _ => False
theorem d_one {op : BoolOp} (h : PE X e (tOf X.K X.mg E w)) : PE X (.BoolOp op [e] pos) (tOf X.K X.mg E w) := pe_one h
theorem d_and (ha : PE X e (tOf X.K X.mg E wa)) (hb : PE X (.BoolOp .And (e2 :: es) pos) (tOf X.K X.mg E wb)) : PE X (.BoolOp .And (e :: e2 :: es) pos) (tOf X.K X.mg E (dAndV wa wb)) := PE.of (pe_and ha hb) fun σ H Q ⟨b, B, G, ρ, xp, P, p, hr, k⟩ =>
  ⟨b, B, G, ρ, xp, _, p, hr, fun G' H' v t fp hp s tr fr => by
    dsimp only at hp
    split at hp
    · cases tr with
      | leaf r =>
        cases r
        rename_i c
        refine ⟨_, rfl, ?_⟩
        cases c with
        | true =>
          show tOf X.K X.mg E wb σ H' Q
          exact ⟨b, B, G', ρ, xp, P, hp.1 rfl, hr.stp s, k.stp hr.good s⟩
        | false => exact (k.stp hr.good s).leaf s.good (hp.2 rfl) (.bl _)
    · exact hp.elim⟩
theorem d_or (ha : PE X e (tOf X.K X.mg E wa)) (hb : PE X (.BoolOp .Or (e2 :: es) pos) (tOf X.K X.mg E wb)) : PE X (.BoolOp .Or (e :: e2 :: es) pos) (tOf X.K X.mg E (dOrV wa wb)) := PE.of (pe_or ha hb) fun σ H Q ⟨b, B, G, ρ, xp, P, p, hr, k⟩ =>
  ⟨b, B, G, ρ, xp, _, p, hr, fun G' H' v t fp hp s tr fr => by
    dsimp only at hp
    split at hp
    · cases tr with
      | leaf r =>
        cases r
        rename_i c
        refine ⟨_, rfl, ?_⟩
        cases c with
        | false =>
          show tOf X.K X.mg E wb σ H' Q
          exact ⟨b, B, G', ρ, xp, P, hp.2 rfl, hr.stp s, k.stp hr.good s⟩
        | true => exact (k.stp hr.good s).leaf s.good (hp.1 rfl) (.bl _)
    · exact hp.elim⟩
def dNeg (wa : WE) : WE := fun x ρ P => wa x ρ fun t => match t with
  | .leaf (.int i) => P (int (-i))
  | _ => False
theorem d_neg (ha : PE X e (tOf X.K X.mg E wa)) : PE X (.UnaryOp .USub e pos) (tOf X.K X.mg E (dNeg wa)) := PE.of (pe_un un_neg ha) fun σ H Q ⟨b, B, G, ρ, xp, P, p, hr, k⟩ =>
  ⟨b, B, G, ρ, xp, _, p, hr, fun G' H' v t fp hp s tr fr => by
    dsimp only at hp
    split at hp
    · cases tr with
      | leaf r =>
        cases r
        exact ⟨_, rfl, (k.stp hr.good s).leaf s.good hp (.int _)⟩
    · exact hp.elim⟩
end
end Dd
namespace Dd
open PySem L2
/-! ### what is walked -/
abbrev WI := XP → Rho → (List PyData → Prop) → Prop
structure WalkD (K : PySem.W.Frag) (b : Option Addr) (F : Hp) (J : It) (ds : List PyData) : Prop where
  goes : ∀ i G H, i < ds.length → Ex F G → Good K b G H → J.go i H
  stops : ∀ G H, Ex F G → Good K b G H → J.stop ds.length H
  yields : ∀ i G H x H', i < ds.length → Ex F G → Good K b G H → J.yld i H x H' → ∃ G' d, ds[i]? = some d ∧ Stp K b G H G' H' ∧ Rp b G' x d
def iOf (K : PySem.W.Frag) (mg : Str → Option Value) (E : SX) (w : WI) : TI := fun σ H R => ∃ (b : Option Addr) (B G : Hp) (ρ : Rho) (xp : XP) (P : List PyData → Prop), w xp ρ P ∧ Site K mg (E σ) b B G H σ ρ xp ∧
  ∀ (G' H' : Hp) (ds : List PyData) (J : It), P ds → Stp K b G H G' H' → WalkD K b G' J ds → R J H'
section
variable {K : PySem.W.Frag} {b : Option Addr} {F : Hp}
theorem walkD_list {a : Addr} {xs : List V} {ds : List PyData} (h : F a = some (.lst xs)) (r : RpAll b F xs ds) : WalkD K b F (Itl K a) ds := by
  have hl := r.len
  refine ⟨fun i G H hi e g => ⟨xs, xs[i]'(by omega), .inl (.inl (g.ex _ _ (e _ _ h))), List.getElem?_eq_getElem _⟩, fun G H e g => ⟨xs, .inl (.inl (g.ex _ _ (e _ _ h))), by omega⟩, fun i G H x H' hi e g y => ?_⟩
  obtain ⟨e1, y2⟩ := y
  subst e1
  obtain ⟨d, e2, rd⟩ := r.get' (y2 xs (.inl (.inl (g.ex _ _ (e _ _ h)))))
  exact ⟨G, d, e2, g.stp, rd.mono e⟩
theorem walkD_tup {a : Addr} {xs : List V} {ds : List PyData} (h : F a = some (.tup xs)) (r : RpAll b F xs ds) : WalkD K b F (Itt K a) ds := by
  have hl := r.len
  refine ⟨fun i G H hi e g => ⟨xs, xs[i]'(by omega), .inl (.inl (g.ex _ _ (e _ _ h))), List.getElem?_eq_getElem _⟩, fun G H e g => ⟨xs, .inl (.inl (g.ex _ _ (e _ _ h))), by omega⟩, fun i G H x H' hi e g y => ?_⟩
  obtain ⟨e1, y2⟩ := y
  subst e1
  obtain ⟨d, e2, rd⟩ := r.get' (y2 xs (.inl (.inl (g.ex _ _ (e _ _ h)))))
  exact ⟨G, d, e2, g.stp, rd.mono e⟩
def rngD (lo : Int) (n : Nat) : List PyData := (List.range n).map fun i => .int (lo + (i : Nat))
theorem rngD_len {lo : Int} {n : Nat} : (rngD lo n).length = n := by simp [rngD]
theorem rngD_get {lo : Int} {n i : Nat} (h : i < n) : (rngD lo n)[i]? = some (.int (lo + (i : Nat))) := by simp [rngD, h]
theorem walkD_rng {lo : Int} {n : Nat} : WalkD K b F (Itr lo n) (rngD lo n) := by
  refine ⟨fun i G H hi e g => ?_, fun G H e g => ?_, fun i G H x H' hi e g y => ?_⟩
  · rw [rngD_len] at hi
    exact hi
  · show n ≤ (rngD lo n).length
    rw [rngD_len]
    all_goals exact Nat.le_refl _
  · rw [rngD_len] at hi
    obtain ⟨e1, e2⟩ := y
    subst e1 e2
    exact ⟨G, _, rngD_get hi, g.stp, .int _⟩
/-- pairs made on the way -/
theorem pair_new {G H : Hp} (g : Good K b G H) {T : Addr} {x y : V} {d e : PyData} (hT : H T = none) (rx : Rp b G x d) (ry : Rp b G y e) : ∃ G', Stp K b G H G' (upd H T (.tup [x, y])) ∧ Rp b G' (.ref T) (.tuple [d, e]) := by
  have st := (g.new (.tup [x, y]) hT).1
  exact ⟨_, st, .tup upd_same (.cons (rx.mono st.ex) (.cons (ry.mono st.ex) .nil))⟩
def zipD : List PyData → List PyData → List PyData
  | x :: xs, y :: ys => .tuple [x, y] :: zipD xs ys
  | _, _ => []
theorem zipD_len : ∀ xs ys, (zipD xs ys).length = min xs.length ys.length
  | [], _ => by simp [zipD]
  | _ :: _, [] => by simp [zipD]
  | x :: xs, y :: ys => by
    have := zipD_len xs ys
    simp [zipD, this]
    all_goals omega
theorem zipD_get : ∀ (xs ys : List PyData) (i : Nat) (x y : PyData), xs[i]? = some x → ys[i]? = some y → (zipD xs ys)[i]? = some (.tuple [x, y])
  | [], _, _, _, _, h, _ => by simp at h
  | _ :: _, [], _, _, _, _, h => by simp at h
  | x :: xs, y :: ys, 0, _, _, h, k => by
    simp at h k
    subst h k
    rfl
  | x :: xs, y :: ys, i + 1, u, v, h, k => by
    show (zipD xs ys)[i]? = _
    exact zipD_get xs ys i u v (by simpa using h) (by simpa using k)
theorem walkD_zip {a c : Addr} {xs ys : List V} {ds es : List PyData} (h : F a = some (.lst xs)) (r : RpAll b F xs ds) (h' : F c = some (.lst ys)) (r' : RpAll b F ys es) : WalkD K b F (Itz K a c) (zipD ds es) := by
  have l1 := r.len
  have l2 := r'.len
  have W := walk_zip (K := K) (a := a) (b := c) (xs := xs) (ys := ys) (n := (zipD ds es).length) (by rw [zipD_len, l1, l2])
  have at1 : ∀ {G H : Hp}, Ex F G → Good K b G H → SqL K H a xs ∧ SqL K H c ys := fun e g => ⟨.inl (.inl (g.ex _ _ (e _ _ h))), .inl (.inl (g.ex _ _ (e _ _ h')))⟩
  refine ⟨fun i G H hi e g => W.goes i H hi (at1 e g), fun G H e g => W.stops H (at1 e g), fun i G H x H' hi e g y => ?_⟩
  obtain ⟨T, u, v, rfl, hT, rfl, e1, e2⟩ := W.yields i H x H' hi (at1 e g) y
  obtain ⟨d, q1, r1⟩ := r.get' e1
  obtain ⟨d', q2, r2⟩ := r'.get' e2
  obtain ⟨G', s, rr⟩ := pair_new g hT (r1.mono e) (r2.mono e)
  exact ⟨G', _, zipD_get _ _ i _ _ q1 q2, s, rr⟩
theorem walkD_zipT {a c : Addr} {xs ys : List V} {ds es : List PyData} (h : F a = some (.tup xs)) (r : RpAll b F xs ds) (h' : F c = some (.tup ys)) (r' : RpAll b F ys es) : WalkD K b F (RZ.ItzT K a c) (zipD ds es) := by
  have l1 := r.len
  have l2 := r'.len
  have le := zipD_len ds es
  have at1 : ∀ {G H : Hp}, Ex F G → Good K b G H → SqT K H a xs ∧ SqT K H c ys := fun e g => ⟨.inl (.inl (g.ex _ _ (e _ _ h))), .inl (.inl (g.ex _ _ (e _ _ h')))⟩
  refine ⟨fun i G H hi e g => ?_, fun G H e g => ?_, fun i G H x H' hi e g y => ?_⟩
  · have k1 : i < xs.length := by omega
    have k2 : i < ys.length := by omega
    exact ⟨xs, ys, xs[i], ys[i], (at1 e g).1, (at1 e g).2, List.getElem?_eq_getElem k1, List.getElem?_eq_getElem k2⟩
  · exact ⟨xs, ys, (at1 e g).1, (at1 e g).2, by omega⟩
  · obtain ⟨T, u, v, rfl, hT, rfl, f1, f2⟩ := y
    obtain ⟨d, q1, r1⟩ := r.get' (f1 _ (at1 e g).1)
    obtain ⟨d', q2, r2⟩ := r'.get' (f2 _ (at1 e g).2)
    obtain ⟨G', s, rr⟩ := pair_new g hT (r1.mono e) (r2.mono e)
    exact ⟨G', _, zipD_get _ _ i _ _ q1 q2, s, rr⟩
theorem strD_walk {z : Str} : WalkD K b F (Its z) (z.cps.toList.map fun c => .str ⟨#[c]⟩) := by
  have W := walk_str (z := z)
  have le : (z.cps.toList.map fun c => PyData.str ⟨#[c]⟩).length = z.cps.size := by simp
  refine ⟨fun i G H hi e g => W.goes i H (by omega) trivial, fun G H e g => by rw [le]; exact W.stops H trivial, fun i G H x H' hi e g y => ?_⟩
  obtain ⟨rfl, c, e1, rfl⟩ := W.yields i H x H' (by omega) trivial y
  refine ⟨G, _, ?_, g.stp, .str _⟩
  rw [List.getElem?_map, Array.getElem?_toList, e1] <;> rfl
end
section
variable {X : Cx} {E : SX} {e e2 tg : Expr} {es : List Expr} {w wa wb : WE} {ws : WA} {wt wu : WT} {pos p apos tpos : Pos} {x : Str}
theorem PI.of {t : TI} {w : WI} (h : PI X tg e t) (k : ∀ σ H Q, iOf X.K X.mg E w σ H Q → t σ H Q) : PI X tg e (iOf X.K X.mg E w) := ⟨fun pins s σ H Q I q => h.run pins s σ H Q I (k σ H Q q)⟩
/-- over a list (settled) -/
def iL (w : WE) : WI := fun x ρ P => w x ρ fun t => match t.dat with
  | .list ds => P ds
  | _ => False
def iT (w : WE) : WI := fun x ρ P => w x ρ fun t => match t.dat with
  | .tuple ds => P ds
  | _ => False
theorem i_list (h : PE X e (tOf X.K X.mg E w)) : PI X tg e (iOf X.K X.mg E (iL w)) := PI.of (pi_list h) fun σ H Q ⟨b, B, G, ρ, xp, P, p, hr, k⟩ => tOfD_of ⟨b, B, G, ρ, xp, fun d => match d with
  | .list ds => P ds
  | _ => False, p, hr, fun G1 H1 v d hp s hr1 r => by
    try dsimp only at hp
    split at hp
    · cases r with
      | lst h1 r1 => exact ⟨_, rfl, ⟨_, .inl (.inl (hr1.good.ex _ _ h1))⟩, k G1 H1 _ _ hp s (walkD_list h1 r1)⟩
    · exact hp.elim⟩
theorem i_tup (h : PE X e (tOf X.K X.mg E w)) : PI X tg e (iOf X.K X.mg E (iT w)) := PI.of (pi_tup h) fun σ H Q ⟨b, B, G, ρ, xp, P, p, hr, k⟩ => tOfD_of ⟨b, B, G, ρ, xp, fun d => match d with
  | .tuple ds => P ds
  | _ => False, p, hr, fun G1 H1 v d hp s hr1 r => by
    try dsimp only at hp
    split at hp
    · cases r with
      | tup h1 r1 => exact ⟨_, rfl, ⟨_, .inl (.inl (hr1.good.ex _ _ h1))⟩, k G1 H1 _ _ hp s (walkD_tup h1 r1)⟩
    · exact hp.elim⟩
def iStrD (w : WE) : WI := fun x ρ P => w x ρ fun t => match t.dat with
  | .str z => P (z.cps.toList.map fun c => .str ⟨#[c]⟩)
  | _ => False
/-- range(n), range(a, b) -/
def iR1 (ws : WA) : WI := fun x ρ P => ws x ρ fun ds => match ds with
  | [.int j] => (-(2 ^ 62) ≤ j ∧ j < 2 ^ 62) ∧ P (rngD 0 j.toNat)
  | _ => False
theorem i_rng1 (hm : X.mg "range" = none) (ha : PA X [e] (aOf X.K X.mg E ws)) (hg : Gl X "range" := by rfl) (hs : starEach [e] X.env = [(false, eval e X.env)] := by rfl) : PI X tg (.Call (.Name "range" p) [e] [] pos) (iOf X.K X.mg E (iR1 ws)) := PI.of (pi_range1 hg hm ha hs) fun σ H Q ⟨b, B, G, ρ, xp, P, p, hr, k⟩ =>
  ⟨b, B, G, ρ, xp, _, p, hr, fun G1 H1 vs ds hp s r => by
    try dsimp only at hp
    split at hp
    · cases r with
      | cons r1 r2 =>
        cases r1
        cases r2
        exact ⟨_, rfl, hp.1.1, hp.1.2, k G1 H1 _ _ hp.2 s walkD_rng⟩
    · exact hp.elim⟩
def iZi (ws : WA) : WI := fun x ρ P => ws x ρ fun ds => match ds with
  | [.list xs, .list ys] => P (zipD xs ys)
  | [.tuple xs, .tuple ys] => P (zipD xs ys)
  | _ => False
theorem i_zip {elts : List Expr} {kk : Nat} (hm : X.mg "zip" = none) (ha : PA X [e, e2] (aOf X.K X.mg E ws)) (hg : Gl X "zip" := by rfl) (hs : starEach [e, e2] X.env = (false, eval e X.env) :: starEach [e2] X.env := by rfl) (hpl : (backTo pos (starEach [e2] X.env)).any (·.1) = false := by rfl) : PI X (.Tuple elts kk tpos) (.Call (.Name "zip" p) [e, e2] [] pos) (iOf X.K X.mg E (iZi ws)) := PI.of (RZ.pi_zipA hg hm ha hs hpl) fun σ H Q ⟨b, B, G, ρ, xp, P, p, hr, k⟩ =>
  ⟨b, B, G, ρ, xp, _, p, hr, fun G1 H1 vs ds hp s r => by
    try dsimp only at hp
    split at hp
    · cases r with
      | cons r1 r2 =>
        cases r2 with
        | cons r3 r4 =>
          cases r4
          cases r1 with
          | lst h1 q1 =>
            cases r3 with
            | lst h2 q2 => exact ⟨_, _, _, _, rfl, .inl ⟨.inl (.inl (s.good.ex _ _ h1)), .inl (.inl (s.good.ex _ _ h2)), k G1 H1 _ _ hp s (walkD_zip h1 q1 h2 q2)⟩⟩
    · cases r with
      | cons r1 r2 =>
        cases r2 with
        | cons r3 r4 =>
          cases r4
          cases r1 with
          | tup h1 q1 =>
            cases r3 with
            | tup h2 q2 => exact ⟨_, _, _, _, rfl, .inr ⟨.inl (.inl (s.good.ex _ _ h1)), .inl (.inl (s.good.ex _ _ h2)), k G1 H1 _ _ hp s (walkD_zipT h1 q1 h2 q2)⟩⟩
    · exact hp.elim⟩
end
/-! ### targets: ts the slots that may change -/
abbrev WG := PyData → Rho → (Rho → Prop) → Prop
abbrev WGs := List PyData → Rho → (Rho → Prop) → Prop
structure But (ts : List Nat) (σ σ' : L2.St) : Prop where
  len : σ'.length = σ.length
  get : ∀ j : Nat, j ∉ ts → σ'[j]? = σ[j]?
theorem But.rfl' (ts : List Nat) (σ : L2.St) : But ts σ σ := ⟨rfl, fun _ _ => rfl⟩
theorem But.set {ts : List Nat} {σ : L2.St} {i : Nat} {v : Option V} (h : i ∈ ts) : But ts σ (σ.set i v) := ⟨List.length_set, fun j hj => by
  rw [List.getElem?_set_ne]
  intro e
  subst e
  exact hj h⟩
theorem But.trans {ts : List Nat} {σ σ' σ2 : L2.St} (h : But ts σ σ') (k : But ts σ' σ2) : But ts σ σ2 := ⟨k.len.trans h.len, fun j hj => (k.get j hj).trans (h.get j hj)⟩
theorem wipe_in {σ : L2.St} {i : Nat} (hi : i < σ.length) : ∀ {vs : List Nat}, i ∈ vs → (wipe σ vs)[i]? = some none
  | v :: vs, h => by
    unfold wipe
    by_cases c : i = v
    · subst c
      rw [List.getElem?_set_self]
      rw [wipe_length]
      exact hi
    · rw [List.getElem?_set_ne (Ne.symm c)]
      exact wipe_in hi ((List.mem_cons.mp h).resolve_left c)
theorem wipe_out {σ : L2.St} {i : Nat} : ∀ {vs : List Nat}, i ∉ vs → (wipe σ vs)[i]? = σ[i]?
  | [], _ => rfl
  | v :: vs, h => by
    unfold wipe
    rw [List.getElem?_set_ne (fun e => h (by rw [e]; exact List.mem_cons_self ..))]
    exact wipe_out fun m => h (List.mem_cons_of_mem _ m)
theorem But.wipe {vs : List Nat} {σ σ' : L2.St} (h : But vs (wipe σ vs) σ') : wipe σ' vs = wipe σ vs := by
  have hl := h.len
  rw [wipe_length] at hl
  refine List.ext_getElem? fun i => ?_
  by_cases c : i ∈ vs
  · by_cases hi : i < σ.length
    · rw [wipe_in (by omega) c, wipe_in hi c]
    · rw [List.getElem?_eq_none (by rw [wipe_length]; omega), List.getElem?_eq_none (by rw [wipe_length]; omega)]
  · rw [wipe_out c, h.get i c]
def gOf (K : PySem.W.Frag) (ts : List Nat) (w : WG) : TG := fun v σ H Q => ∃ (b : Option Addr) (B G : Hp) (ρ : Rho) (d : PyData) (R : Rho → Prop), w d ρ R ∧ Here K b B G H σ ρ ∧ Rp b G v d ∧ ∀ σ' ρ', R ρ' → Here K b B G H σ' ρ' → But ts σ σ' → Q σ' H
def gsOf (K : PySem.W.Frag) (ts : List Nat) (w : WGs) : TGs := fun vs σ H Q => ∃ (b : Option Addr) (B G : Hp) (ρ : Rho) (ds : List PyData) (R : Rho → Prop), w ds ρ R ∧ Here K b B G H σ ρ ∧ RpAll b G vs ds ∧ ∀ σ' ρ', R ρ' → Here K b B G H σ' ρ' → But ts σ σ' → Q σ' H
def gN (i : Nat) : WG := fun d ρ R => R (ρ.set i (some (.leaf d)))
def gs0 : WGs := fun ds ρ R => match ds with
  | [] => R ρ
  | _ => False
def gsC (w : WG) (u : WGs) : WGs := fun ds ρ R => match ds with
  | d :: ds => w d ρ fun ρ' => u ds ρ' R
  | _ => False
def gT (n : Nat) (w : WGs) : WG := fun d ρ R => match d with
  | .tuple ds => ds.length = n ∧ w ds ρ R
  | _ => False
section
variable {X : Cx} {pos : Pos} {ts : List Nat}
theorem PG.of {tg : Expr} {t : TG} {w : WG} (h : PG X tg t) (k : ∀ v σ H Q, gOf X.K ts w v σ H Q → t v σ H Q) : PG X tg (gOf X.K ts w) := ⟨fun pins s σ H v u Q I r q => h.run pins s σ H v u Q I r (k v σ H Q q)⟩
theorem PGs.of {tg : List Expr} {t : TGs} {w : WGs} (h : PGs X tg t) (k : ∀ v σ H Q, gsOf X.K ts w v σ H Q → t v σ H Q) : PGs X tg (gsOf X.K ts w) := ⟨fun pins s σ H v u Q I r q => h.run pins s σ H v u Q I r (k v σ H Q q)⟩
theorem Here.leaf {K : PySem.W.Frag} {b : Option Addr} {B G H : Hp} {σ : L2.St} {ρ : Rho} {v : V} {d : PyData} (h : Here K b B G H σ ρ) (i : Nat) (r : Rp b G v d) : Here K b B G H (σ.set i (some v)) (ρ.set i (some (.leaf d))) := ⟨h.good, h.env.leaf i r, h.sub⟩
theorem g_name (i : Nat) {x : Str} (hN : X.N.Nodup) (hts : i ∈ ts := by decide) (hi : X.N[i]? = some x := by rfl) (hx : Loc X.env.scope x := by first | exact Or.inl rfl | exact Or.inr rfl) (hf : X.fn x = true ∨ X.env.scope.names.lookup x = some .local := by first | exact .inl rfl | exact .inr rfl | assumption) : PG X (.Name x pos) (gOf X.K ts (gN i)) :=
  PG.of (pg_name hN hi hx hf) fun v σ H Q ⟨b, B, G, ρ, d, R, q, hr, r, k⟩ => k _ _ q (hr.leaf i r) (But.set hts)
theorem gs_nil : PGs X [] (gsOf X.K ts gs0) := PGs.of pgs_nil fun v σ H Q ⟨b, B, G, ρ, ds, R, q, hr, r, k⟩ => by
  unfold gs0 at q
  split at q
  · cases r
    exact ⟨rfl, k _ _ q hr (But.rfl' _ _)⟩
  · exact q.elim
theorem gs_cons {e : Expr} {es : List Expr} {w : WG} {u : WGs} (h1 : PG X e (gOf X.K ts w)) (h2 : PGs X es (gsOf X.K ts u)) (hs : (assignEach (e :: es) X.env).map (·.2) = assign e X.env :: (assignEach es X.env).map (·.2) := by rfl) : PGs X (e :: es) (gsOf X.K ts (gsC w u)) := PGs.of (pgs_cons h1 h2 hs) fun v σ H Q ⟨b, B, G, ρ, ds, R, q, hr, r, k⟩ => by
  unfold gsC at q
  split at q
  · cases r with
    | cons r1 r2 => exact ⟨_, _, rfl, b, B, G, ρ, _, _, q, hr, r1, fun σ' ρ' hR hr' bu => ⟨b, B, G, ρ', _, R, hR, hr', r2, fun σ2 ρ2 p2 h2 b2 => k σ2 ρ2 p2 h2 (bu.trans b2)⟩⟩
  · exact q.elim
theorem g_tup {es : List Expr} {kk : Nat} {w : WGs} {n : Nat} (hc : X.calm = true) (h : PGs X es (gsOf X.K ts w)) (hn : (assignEach es X.env).length = n := by rfl) (hst : (assignEach es X.env).findIdx? (·.1) = none := by rfl) : PG X (.Tuple es kk pos) (gOf X.K ts (gT n w)) := PG.of (pg_tup hc h hn hst) fun v σ H Q ⟨b, B, G, ρ, d, R, q, hr, r, k⟩ => by
  unfold gT at q
  split at q
  · cases r with
    | tup h1 r1 => exact ⟨_, _, rfl, .inl (.inl (hr.good.ex _ _ h1)), by rw [r1.len]; exact q.1, b, B, G, ρ, _, R, q.2, hr, r1, k⟩
  · exact q.elim
end
/-! ### comprehensions -/
def wipeR (ρ : Rho) : List Nat → Rho
  | [] => ρ
  | v :: vs => (wipeR ρ vs).set v none
theorem env_wipe {b : Option Addr} {B G H : Hp} {σ : L2.St} {ρ : Rho} (E : Env b B G H σ ρ) : ∀ vs : List Nat, Env b B G H (wipe σ vs) (wipeR ρ vs)
  | [] => E
  | v :: vs => by
    obtain ⟨hl, fps, h1, h2, h3⟩ := env_wipe E vs
    refine ⟨by unfold wipe wipeR; rw [List.length_set, List.length_set]; exact hl, fps, fun i t e => ?_, h2, h3⟩
    unfold wipeR at e
    by_cases c : i = v
    · subst c
      by_cases hi : i < (wipeR ρ vs).length
      · rw [List.getElem?_set_self hi] at e
        cases e
      · rw [List.getElem?_eq_none (by rw [List.length_set]; omega)] at e
        cases e
    · rw [List.getElem?_set_ne (Ne.symm c)] at e
      obtain ⟨w, e1, tr⟩ := h1 i t e
      exact ⟨w, by unfold wipe; rw [List.getElem?_set_ne (Ne.symm c)]; exact e1, tr⟩
abbrev noX : XP := fun _ _ => False
abbrev noE : SX := fun _ _ _ _ => False
/-- [e for g in i if t]: Inv tells what is made behind each turn -/
def dLc (wi : WI) (g : WG) (wt : WT) (we : WE) (vs : List Nat) : WE := fun x ρ P => wi x ρ fun ds => ds.length < lim ∧ ∃ Inv : Nat → List T → Prop, Inv 0 [] ∧
  (∀ i d acc, ds[i]? = some d → Inv i acc → g d (wipeR ρ vs) fun ρ2 => wt noX ρ2 fun k => (k = true → we noX ρ2 fun t => Inv (i + 1) (acc ++ [t])) ∧ (k = false → Inv (i + 1) acc)) ∧ ∀ acc, Inv ds.length acc → P (.node acc)
def dYes : WT := fun _ _ P => P true
theorem noXC {K : PySem.W.Frag} {mg : Str → Option Value} {E : XK} {b : Option Addr} {G H : Hp} : XC K mg E b G H noX := fun _ _ _ _ _ _ h => h.elim
theorem dlc_core {K : PySem.W.Frag} {mg : Str → Option Value} {E : SX} {wi : WI} {g : WG} {wt : WT} {we : WE} {vs : List Nat} {σ : L2.St} {H : Hp} {Q : VK} (q : tOf K mg E (dLc wi g wt we vs) σ H Q) : tLc (iOf K mg E wi) (gOf K vs g) (ttOf K mg noE wt) (tOf K mg noE we) vs σ H Q := by
  obtain ⟨b, B, G, ρ, xp, P, p, hr, k⟩ := q
  refine ⟨b, B, G, ρ, xp, _, p, hr, fun G1 H1 ds J hp s1 wk => ?_⟩
  obtain ⟨hlim, Inv, i0, it, ie⟩ := hp
  have hr1 : Here K b B G1 H1 σ ρ := hr.toHere.stp s1
  intro D hD
  have gD := s1.good
  have nb : b ≠ some D := fun c => by
    obtain ⟨_, _, _, _, _, _, q, _⟩ := gD.box D c
    rw [hD] at q
    cases q
  have gDn : G1 D = none := by
    cases q : G1 D with
    | none => rfl
    | some u =>
      rw [gD.ex D u q] at hD
      cases hD
  -- the word: behind i turns
  refine ⟨fun i m H2 => m = ds.length - i ∧ i ≤ ds.length ∧ ∃ G2 acc vsl fp, Stp K b G1 H1 G2 H2 ∧ G2 D = none ∧ H2 D = some (.lst vsl) ∧ TrAll b G2 H2 fp vsl acc ∧ (∀ a, a ∈ fp → H1 a = none) ∧ D ∉ fp ∧ acc.length ≤ i ∧ Inv i acc,
    ⟨ds.length, by simp, Nat.zero_le _, G1, [], [], [], gD.own _ hD, gDn, upd_same, .nil, fun _ z => (nomatch z), fun z => (nomatch z), Nat.le_refl _, i0⟩, ?_⟩
  rintro i m H2 ⟨rfl, hi, G2, acc, vsl, fp, s2, g2D, h2D, tr, fr, nD, hla, inv⟩
  by_cases hlt : i < ds.length
  · refine .inr ⟨wk.goes i G2 H2 hlt s2.ex s2.good, fun H' => i + 1 ≤ ds.length ∧ ∃ G2 acc vsl fp, Stp K b G1 H1 G2 H' ∧ G2 D = none ∧ H' D = some (.lst vsl) ∧ TrAll b G2 H' fp vsl acc ∧ (∀ a, a ∈ fp → H1 a = none) ∧ D ∉ fp ∧ acc.length ≤ i + 1 ∧ Inv (i + 1) acc,
      fun H' h => ⟨ds.length - (i + 1), by omega, rfl, h⟩, fun v H3 y => ?_⟩
    obtain ⟨G3, d, ed, s3, rd⟩ := wk.yields i G2 H2 v H3 hlt s2.ex s2.good y
    have s13 := s2.trans gD s3
    have h3 : Here K b B G3 H3 (wipe σ vs) (wipeR ρ vs) := ⟨s3.good, env_wipe ((hr1.stp s13).env) vs, fun a e => hr1.sub a (s13.free gD e)⟩
    refine ⟨b, B, G3, wipeR ρ vs, d, _, it i d acc ed inv, h3, rd, fun σ' ρ' hR hr' bu => ⟨bu.wipe, ?_⟩⟩
    refine ⟨b, B, G3, ρ', noX, _, hR, ⟨hr', noXC⟩, fun G4 H4 c hc s4 => ?_⟩
    -- what is made so far, as it lies behind a step
    have carry : ∀ {G5 H5 : Hp}, Stp K b G3 H3 G5 H5 → G5 D = none ∧ H5 D = some (.lst vsl) ∧ TrAll b G5 H5 fp vsl acc ∧ Stp K b G1 H1 G5 H5 := fun {G5 H5} s5 => by
      have s25 := s3.trans s2.good s5
      refine ⟨s25.out D _ g2D h2D, s25.keep D _ nb h2D, tr.move s25.ex fun a z => ?_, s2.trans gD s25⟩
      obtain ⟨q1, q2, o, q3⟩ := tr.mem a z
      exact ⟨s25.out a o q1 q3, by rw [q3]; exact s25.keep a o q2 q3⟩
    cases c with
    | false =>
      obtain ⟨c1, c2, c3, c4⟩ := carry s4
      show i + 1 ≤ ds.length ∧ _
      exact ⟨hlt, G4, acc, vsl, fp, c4, c1, c2, c3, fr, nD, Nat.le_succ_of_le hla, hc.2 rfl⟩
    | true =>
      show tOf K mg noE we σ' H4 _
      refine ⟨b, B, G4, ρ', noX, _, hc.1 rfl, ⟨hr'.stp s4, noXC⟩, fun G5 H5 y t fq ht s5 tr5 fr5 => ?_⟩
      have s35 := s4.trans s3.good s5
      obtain ⟨c1, c2, c3, c4⟩ := carry s35
      have lv : vsl.length = acc.length := tr.len
      refine ⟨vsl, c2, by rw [lv]; exact lim_lt (by omega), hlt, ?_⟩
      have fqH1 : ∀ a, a ∈ fq → H1 a = none := fun a z => (s13.trans gD s4).free gD (fr5 a z)
      have nDq : D ∉ fq := fun z => by
        have e4 := (carry s4).2.1
        rw [fr5 D z] at e4
        cases e4
      have dj : ∀ a, a ∈ fp → a ∉ fq := fun a z y => by
        obtain ⟨_, _, o, q⟩ := ((carry s4).2.2.1).mem a z
        rw [fr5 a y] at q
        cases q
      obtain ⟨fr', tr', sub'⟩ := TrAll.snoc c3 tr5 dj
      have nDr : D ∉ fr' := fun z => (sub' D z).elim nD nDq
      refine ⟨G5, acc ++ [t], vsl ++ [y], fr', ⟨c4.ex, ⟨fun a u e => ?_, fun a c => ?_⟩, fun a u n e => ?_, c4.out, fun a c => (boxc_eq (upd_ne fun q => nb (by rw [← q]; exact c))).trans (c4.cel a c)⟩, c1, upd_same, tr'.move (Ex.rfl' _) fun a z => ⟨(tr'.mem a z).1, upd_ne fun q => nDr (by rw [← q]; exact z)⟩, fun a z => (sub' a z).elim (fr a) (fqH1 a), nDr, by simp; omega, ht⟩
      · have na : a ≠ D := fun q => by
          rw [q, c1] at e
          cases e
        rw [upd_ne na]
        exact s5.good.ex a u e
      · obtain ⟨n, cc, cells, pos, rest, seed, q1, q2, q3⟩ := s5.good.box a c
        have na : a ≠ D := fun q => nb (by rw [← q]; exact c)
        exact ⟨n, cc, cells, pos, rest, seed, by rw [upd_ne na]; exact q1, q2, q3⟩
      · have na : a ≠ D := fun q => by
          rw [q, hD] at e
          cases e
        rw [upd_ne na]
        exact c4.keep a u n e
  · have e : i = ds.length := by omega
    subst e
    refine .inl ⟨wk.stops G2 H2 s2.ex s2.good, ?_⟩
    refine k G2 H2 (.ref D) (.node acc) (D :: fp) (ie acc inv) (s1.trans hr.good s2) (.node h2D g2D nb tr nD) fun a z => ?_
    rcases List.mem_cons.mp z with z | z
    · rw [z]
      exact s1.free hr.good hD
    · exact s1.free hr.good (fr a z)
section
variable {X : Cx} {E : SX}
theorem ts_nil : PTs X [] (ttOf X.K X.mg noE dYes) := ⟨fun pins s σ H Q I q => pts_nil.run pins s σ H Q I (by
  obtain ⟨b, B, G, ρ, xp, P, p, hr, k⟩ := q
  exact k G H true p hr.good.stp)⟩
theorem ts_one {c : Expr} {w : WT} (h : PT X c (ttOf X.K X.mg noE w)) : PTs X [c] (ttOf X.K X.mg noE w) := pts_one h
theorem d_lc {elt tg iter : Expr} {ifs : List Expr} {scope : Scope} {own : List (Str × Nat)} {pos : Pos} {wi : WI} {g : WG} {wt : WT} {we : WE} (hc : X.calm = true) (hN : X.N.Nodup) (hi : PI X tg iter (iOf X.K X.mg E wi)) (ok : BlkOk X.N X.env.scope scope own)
    (hg : ∀ (s : Shared) (H : Hp) (C : Addr) (cl : List (Str × Addr)) (fp : List Addr), PG (X.blk s H scope (compEnvC scope cl C X.env) fp) tg (gOf X.K (own.map (·.2)) g)) (ht : ∀ (s : Shared) (H : Hp) (C : Addr) (cl : List (Str × Addr)) (fp : List Addr), PTs (X.blk s H scope (compEnvC scope cl C X.env) fp) ifs (ttOf X.K X.mg noE wt))
    (he : ∀ (s : Shared) (H : Hp) (C : Addr) (cl : List (Str × Addr)) (fp : List Addr), PE (X.blk s H scope (compEnvC scope cl C X.env) fp) elt (tOf X.K X.mg noE we)) (hs : ∀ x, foldedSetIterable iter X.env x = pure x := by intro _; rfl) :
    PE X (.ListComp elt [⟨tg, iter, ifs, 0⟩] scope pos) (tOf X.K X.mg E (dLc wi g wt we (own.map (·.2)))) := PE.of (pe_lc hc hN hi ok hg ht he hs) fun σ H Q q => dlc_core q
end
end Dd
namespace Dd
open PySem L2
/-! ### a slot's tree taken out and put back -/
structure EnvX (b : Option Addr) (B Hb G H : Hp) (σ : L2.St) (ρ : Rho) (i : Nat) (fp : List Addr) : Prop where
  len : σ.length = ρ.length
  ex : ∃ fps : Nat → List Addr, (∀ (j : Nat) t, j ≠ i → ρ[j]? = some (some t) → ∃ v, σ[j]? = some (some v) ∧ Tr b G H (fps j) v t) ∧
    (∀ j a, j ≠ i → a ∈ fps j → B a = none ∧ G a = none ∧ b ≠ some a ∧ (∃ o, Hb a = some o ∧ H a = some o) ∧ a ∉ fp) ∧ ∀ j j' a, j ≠ i → j' ≠ i → j ≠ j' → a ∈ fps j → a ∉ fps j'
section
variable {K : PySem.W.Frag} {b : Option Addr} {B Hb G H G' H' : Hp} {σ : L2.St} {ρ : Rho} {i : Nat} {fp : List Addr}
theorem Env.take {t : T} (E : Env b B G H σ ρ) (e : ρ[i]? = some (some t)) : ∃ fp v, σ[i]? = some (some v) ∧ Tr b G H fp v t ∧ (∀ a, a ∈ fp → B a = none) ∧ EnvX b B H G H σ ρ i fp := by
  obtain ⟨hl, fps, h1, h2, h3⟩ := E
  obtain ⟨v, e1, tr⟩ := h1 i t e
  refine ⟨fps i, v, e1, tr, fun a m => (h2 i a m).1, hl, fps, fun j u _ q => h1 j u q, fun j a n m => ?_, fun j j' a _ _ n m => h3 j j' a n m⟩
  obtain ⟨q1, q2, q3, o, q4⟩ := h2 j a m
  exact ⟨q1, q2, q3, ⟨o, q4, q4⟩, h3 j i a n m⟩
/-- a slot that will be written -/
theorem Env.drop (E : Env b B G H σ ρ) (i : Nat) : EnvX b B H G H σ ρ i [] := by
  obtain ⟨hl, fps, h1, h2, h3⟩ := E
  refine ⟨hl, fps, fun j u _ q => h1 j u q, fun j a n m => ?_, fun j j' a _ _ n m => h3 j j' a n m⟩
  obtain ⟨q1, q2, q3, o, q4⟩ := h2 j a m
  exact ⟨q1, q2, q3, ⟨o, q4, q4⟩, fun z => nomatch z⟩
theorem EnvX.stp (E : EnvX b B Hb G H σ ρ i fp) (s : Stp K b G H G' H') : EnvX b B Hb G' H' σ ρ i fp := by
  obtain ⟨hl, fps, h1, h2, h3⟩ := E
  have kk : ∀ j a, j ≠ i → a ∈ fps j → G' a = none ∧ H' a = H a := fun j a n m => by
    obtain ⟨_, g, c, ⟨o, _, e⟩, _⟩ := h2 j a n m
    exact ⟨s.out a o g e, by rw [e]; exact s.keep a o c e⟩
  refine ⟨hl, fps, fun j u n q => ?_, fun j a n m => ?_, h3⟩
  · obtain ⟨v, e1, tr⟩ := h1 j u n q
    exact ⟨v, e1, tr.move s.ex fun a m => kk j a n m⟩
  · obtain ⟨q1, g, c, ⟨o, e⟩, q5⟩ := h2 j a n m
    exact ⟨q1, (kk j a n m).1, c, ⟨o, by rw [(kk j a n m).2]; exact e⟩, q5⟩
theorem EnvX.back {H2 : Hp} {fp' : List Addr} {v : V} {t : T} (E : EnvX b B Hb G H σ ρ i fp) (k : ∀ a o, a ∉ fp → b ≠ some a → H a = some o → H2 a = some o) (tr : Tr b G H2 fp' v t) (sub : ∀ a, a ∈ fp' → B a = none ∧ (a ∈ fp ∨ Hb a = none)) :
    Env b B G H2 (σ.set i (some v)) (ρ.set i (some t)) := by
  obtain ⟨hl, fps, h1, h2, h3⟩ := E
  have off : ∀ j a, j ≠ i → a ∈ fps j → a ∉ fp' := fun j a n m z => by
    obtain ⟨_, _, _, ⟨o, e, _⟩, q5⟩ := h2 j a n m
    rcases (sub a z).2 with y | y
    · exact q5 y
    · rw [y] at e
      cases e
  refine ⟨by rw [List.length_set, List.length_set]; exact hl, fun j => if j = i then fp' else fps j, fun j u e => ?_, fun j a m => ?_, fun j j' a n m => ?_⟩
  · by_cases c : j = i
    · subst c
      have hi : j < ρ.length := by
        have := (List.getElem?_eq_some_iff.mp e).1
        rw [List.length_set] at this
        exact this
      rw [List.getElem?_set_self hi] at e
      cases e
      exact ⟨v, by rw [List.getElem?_set_self (by rw [hl]; exact hi)], by simp only [if_pos]; exact tr⟩
    · rw [List.getElem?_set_ne (Ne.symm c)] at e ⊢
      obtain ⟨w, e1, q⟩ := h1 j u c e
      refine ⟨w, e1, ?_⟩
      simp only [if_neg c]
      exact q.move (Ex.rfl' _) fun a m => by
        obtain ⟨_, g, cc, ⟨o, _, e⟩, q5⟩ := h2 j a c m
        exact ⟨g, by rw [e]; exact k a o q5 cc e⟩
  · by_cases c : j = i
    · simp only [if_pos c] at m
      obtain ⟨g, cc, o⟩ := tr.mem a m
      exact ⟨(sub a m).1, g, cc, o⟩
    · simp only [if_neg c] at m
      obtain ⟨z, g, cc, ⟨o, _, e⟩, q5⟩ := h2 j a c m
      exact ⟨z, g, cc, o, k a o q5 cc e⟩
  · by_cases c : j = i
    · simp only [if_pos c] at m
      have c' : j' ≠ i := fun q => n (c.trans q.symm)
      simp only [if_neg c']
      exact fun q => off j' a c' q m
    · simp only [if_neg c] at m
      by_cases c' : j' = i
      · simp only [if_pos c']
        exact off j a c m
      · simp only [if_neg c']
        exact h3 j j' a c c' n m
end
theorem set_same {σ : L2.St} {i : Nat} {v : V} (e : σ[i]? = some (some v)) : σ.set i (some v) = σ := by
  refine List.ext_getElem? fun j => ?_
  by_cases c : j = i
  · subst c
    have hi := (List.getElem?_eq_some_iff.mp e).1
    rw [List.getElem?_set_self hi, e]
  · rw [List.getElem?_set_ne (Ne.symm c)]
/-! ### statements -/
structure At (K : PySem.W.Frag) (b : Option Addr) (F G0 H0 : Hp) (ρ : Rho) (σ : L2.St) (H : Hp) : Prop where
  ex : ∃ G, Ex F G ∧ Stp K b G0 H0 G H ∧ Env b H0 G H σ ρ
structure EndsOk (K : PySem.W.Frag) (mg : Str → Option Value) (E : SX) (b : Option Addr) (F G0 H0 : Hp) (C : Ctl) (D : Ends) : Prop where
  nx : ∀ ρ σ H, C.nx ρ → At K b F G0 H0 ρ σ H → D.nx σ H
  bk : ∀ ρ σ H, C.bk ρ → At K b F G0 H0 ρ σ H → D.bk σ H
  ct : ∀ ρ σ H, C.ct ρ → At K b F G0 H0 ρ σ H → D.ct σ H
  rt : ∀ (t : T) (v : V) (fp : List Addr) (G H : Hp), C.rt t → Stp K b G0 H0 G H → Tr b G H fp v t → (∀ a, a ∈ fp → H0 a = none) → D.rt v H
  xc : ∀ (ρ : Rho) (σ : L2.St) (n : Str) (pl : PyData) (c d : Addr) (G H : Hp), C.xc ρ n pl → Ex F G → Stp K b G0 H0 G H → Env b H0 G H σ ρ → mg n = some (.ref c) → G d = some (.xd (exF n pl)) → E σ (.ref c) (some d) H
def sOf (K : PySem.W.Frag) (mg : Str → Option Value) (E : SX) (w : WS) : TS := fun D σ H => ∃ (b : Option Addr) (F G0 H0 : Hp) (ρ : Rho) (C : Ctl), w C ρ ∧ Good K b G0 H0 ∧ At K b F G0 H0 ρ σ H ∧ EndsOk K mg E b F G0 H0 C D
section
variable {K : PySem.W.Frag} {mg : Str → Option Value} {E : SX} {b : Option Addr} {F G0 H0 G H G' H' : Hp} {σ : L2.St} {ρ : Rho} {C : Ctl} {D : Ends}
theorem At.site (g0 : Good K b G0 H0) (h : At K b F G0 H0 ρ σ H) (eo : EndsOk K mg E b F G0 H0 C D) : ∃ G, Ex F G ∧ Stp K b G0 H0 G H ∧ Site K mg (E σ) b H0 G H σ ρ (C.xc ρ) := by
  obtain ⟨G, e1, s, E1⟩ := h
  refine ⟨G, e1, s, ⟨⟨s.good, E1, fun a e => s.free g0 e⟩, fun n pl c d G' H' x m e s2 => ?_⟩⟩
  exact eo.xc ρ σ n pl c d G' H' x (e1.trans s2.ex) (s.trans g0 s2) (E1.stp s2) m e
/-- the slot i takes a new tree -/
theorem At.put {fp : List Addr} {v : V} {t : T} (i : Nat) (g0 : Good K b G0 H0) (e1 : Ex F G) (s : Stp K b G0 H0 G H) (E1 : Env b H0 G H σ ρ) (s2 : Stp K b G H G' H') (tr : Tr b G' H' fp v t) (fr : ∀ a, a ∈ fp → H a = none) : At K b F G0 H0 (ρ.set i (some t)) (σ.set i (some v)) H' := by
  have EX := (E1.drop i)
  obtain ⟨hl, fps, h1, h2, h3⟩ := EX
  have EX' : EnvX b H0 H G' H σ ρ i [] := by
    refine ⟨hl, fps, fun j u n q => ?_, fun j a n m => ?_, h3⟩
    · obtain ⟨v, e1, tr⟩ := h1 j u n q
      exact ⟨v, e1, tr.move s2.ex fun a m => by
        obtain ⟨_, g, c, ⟨o, _, e⟩, _⟩ := h2 j a n m
        exact ⟨s2.out a o g e, rfl⟩⟩
    · obtain ⟨q1, g, c, ⟨o, eb, e⟩, q5⟩ := h2 j a n m
      exact ⟨q1, s2.out a o g e, c, ⟨o, eb, e⟩, q5⟩
  exact ⟨G', e1.trans s2.ex, s.trans g0 s2, EX'.back (fun a o _ c e => s2.keep a o c e) tr fun a m => ⟨s.free g0 (fr a m), .inr (fr a m)⟩⟩
/-- an own list is written in place -/
theorem At.mut {Hb : Hp} {fp fp' : List Addr} {p : Addr} {xs : List V} {t : T} {i : Nat} (g0 : Good K b G0 H0) (e1 : Ex F G) (s : Stp K b G0 H0 G H) (EX : EnvX b H0 Hb G H σ ρ i fp) (ei : σ[i]? = some (some (.ref p))) (hp : p ∈ fp) (hB : ∀ a, a ∈ fp → H0 a = none) (gp : G p = none) (bp : b ≠ some p)
    (tr : Tr b G (upd H p (.lst xs)) fp' (.ref p) t) (sub : ∀ a, a ∈ fp' → H0 a = none ∧ (a ∈ fp ∨ Hb a = none)) : At K b F G0 H0 (ρ.set i (some t)) σ (upd H p (.lst xs)) := by
  have st : Stp K b G0 H0 G (upd H p (.lst xs)) := by
    refine ⟨s.ex, ⟨fun a u e => ?_, fun a c => ?_⟩, fun a u n e => ?_, s.out, fun a c => (boxc_eq (upd_ne fun q => bp (by rw [← q]; exact c))).trans (s.cel a c)⟩
    · have na : a ≠ p := fun q => by
        rw [q, gp] at e
        cases e
      rw [upd_ne na]
      exact s.good.ex a u e
    · obtain ⟨n, cc, cells, pos, rest, seed, q1, q2, q3⟩ := s.good.box a c
      have na : a ≠ p := fun q => bp (by rw [← q]; exact c)
      exact ⟨n, cc, cells, pos, rest, seed, by rw [upd_ne na]; exact q1, q2, q3⟩
    · have na : a ≠ p := fun q => by
        rw [q, hB p hp] at e
        cases e
      rw [upd_ne na]
      exact s.keep a u n e
  have E2 := EX.back (H2 := upd H p (.lst xs)) (fun a o n _ e => by
    rw [upd_ne fun q => n (by rw [q]; exact hp)]
    exact e) tr sub
  rw [set_same ei] at E2
  exact ⟨G, e1, st, E2⟩
end
section
variable {X : Cx} {E : SX} {st : Stmt} {rest : List Stmt} {e e2 : Expr} {we wa wb : WE} {wt : WT} {w u : WS} {pos p : Pos}
theorem PS.of {t : TS} (h : PS X st t) (k : ∀ D σ H, sOf X.K X.mg E w D σ H → t D σ H) : PS X st (sOf X.K X.mg E w) := ⟨fun pins s σ H D I q => h.run pins s σ H D I (k D σ H q)⟩
theorem PSs.of {t : TS} (h : PSs X rest t) (k : ∀ D σ H, sOf X.K X.mg E w D σ H → t D σ H) : PSs X rest (sOf X.K X.mg E w) := ⟨fun pins s σ H D I q => h.run pins s σ H D I (k D σ H q)⟩
def dNext : WS := fun C ρ => C.nx ρ
def dSeq (w u : WS) : WS := fun C ρ => w { C with nx := u C } ρ
theorem s_nil : PSs X [] (sOf X.K X.mg E dNext) := PSs.of pss_nil fun D σ H ⟨b, F, G0, H0, ρ, C, q, g0, a, eo⟩ => eo.nx ρ σ H q a
theorem s_one (h : PS X st (sOf X.K X.mg E w)) : PSs X [st] (sOf X.K X.mg E w) := pss_one h
theorem s_cons (h1 : PS X st (sOf X.K X.mg E w)) (h2 : PSs X rest (sOf X.K X.mg E u)) : PSs X (st :: rest) (sOf X.K X.mg E (dSeq w u)) := PSs.of (pss_cons h1 h2) fun D σ H ⟨b, F, G0, H0, ρ, C, q, g0, a, eo⟩ =>
  ⟨b, F, G0, H0, ρ, _, q, g0, a, ⟨fun ρ σ H q a => ⟨b, F, G0, H0, ρ, C, q, g0, a, eo⟩, eo.bk, eo.ct, eo.rt, eo.xc⟩⟩
/-- a row, then the rest, with a word between them -/
def dCut (w u : WS) : WS := fun C ρ => ∃ Mid : Rho → Prop, w { C with nx := Mid } ρ ∧ ∀ ρ', Mid ρ' → u C ρ'
theorem s_cut (h1 : PS X st (sOf X.K X.mg E w)) (h2 : PSs X rest (sOf X.K X.mg E u)) : PSs X (st :: rest) (sOf X.K X.mg E (dCut w u)) := PSs.of (pss_cons h1 h2) fun D σ H ⟨b, F, G0, H0, ρ, C, ⟨Mid, q, m⟩, g0, a, eo⟩ =>
  ⟨b, F, G0, H0, ρ, _, q, g0, a, ⟨fun ρ σ H q a => ⟨b, F, G0, H0, ρ, C, m ρ q, g0, a, eo⟩, eo.bk, eo.ct, eo.rt, eo.xc⟩⟩
/-- name = e -/
def dAsg (i : Nat) (we : WE) : WS := fun C ρ => we (C.xc ρ) ρ fun t => C.nx (ρ.set i (some t))
theorem s_asg (i : Nat) {x : Str} {pos' : Pos} (hN : X.N.Nodup) (he : PE X e (tOf X.K X.mg E we)) (hi : X.N[i]? = some x := by rfl) (hx : Loc X.env.scope x := by first | exact Or.inl rfl | exact Or.inr rfl) (hs : swapsWith e (some (.Name x pos')) pos.line X.env = pure false := by rfl) (hf : X.fn x = true ∨ X.env.scope.names.lookup x = some .local := by first | exact .inl rfl | exact .inr rfl | assumption) :
    PS X (.Assign [.Name x pos'] e pos) (sOf X.K X.mg E (dAsg i we)) := PS.of (ps_set hN hi hx he hs hf) fun D σ H ⟨b, F, G0, H0, ρ, C, q, g0, a, eo⟩ => by
  obtain ⟨G, e1, s, hr⟩ := a.site g0 eo
  exact ⟨b, H0, G, ρ, C.xc ρ, _, q, hr, fun G' H' v t fp hp s2 tr fr => eo.nx _ _ _ hp (At.put i g0 e1 s hr.env s2 tr fr)⟩
/-- .. a comprehension to a local name -/
theorem s_setLc {i : Nat} {y : Str} {py : Pos} {elt tg iter : Expr} {ifs : List Expr} {scope : Scope} {own : List (Str × Nat)} {pos spos : Pos} {wi : WI} {g : WG} {wt : WT} {we : WE} (hc : X.calm = true) (hN : X.N.Nodup) (hy : X.N[i]? = some y) (hyl : X.env.scope.names.lookup y = some .local)
    (hsw : swapsWith (.ListComp elt [⟨tg, iter, ifs, 0⟩] scope pos) (some (.Name y py)) spos.line X.env = pure true) (hi : PI X tg iter (iOf X.K X.mg E wi)) (ok : BlkOk X.N X.env.scope scope own)
    (hg : ∀ (s : Shared) (H : Hp) (C : Addr) (cl : List (Str × Addr)) (fp : List Addr), PG (X.blk s H scope (compEnvC scope cl C X.env) fp) tg (gOf X.K (own.map (·.2)) g)) (ht : ∀ (s : Shared) (H : Hp) (C : Addr) (cl : List (Str × Addr)) (fp : List Addr), PTs (X.blk s H scope (compEnvC scope cl C X.env) fp) ifs (ttOf X.K X.mg noE wt))
    (he : ∀ (s : Shared) (H : Hp) (C : Addr) (cl : List (Str × Addr)) (fp : List Addr), PE (X.blk s H scope (compEnvC scope cl C X.env) fp) elt (tOf X.K X.mg noE we)) (hs : ∀ x, foldedSetIterable iter X.env x = pure x := by intro _; rfl) :
    PS X (.Assign [.Name y py] (.ListComp elt [⟨tg, iter, ifs, 0⟩] scope pos) spos) (sOf X.K X.mg E (dAsg i (dLc wi g wt we (own.map (·.2))))) := PS.of (ps_setLc hc hN hy hyl hsw hi ok hg ht he hs) fun D σ H ⟨b, F, G0, H0, ρ, C, q, g0, a, eo⟩ => by
  obtain ⟨G, e1, s, hr⟩ := a.site g0 eo
  exact dlc_core ⟨b, H0, G, ρ, C.xc ρ, _, q, hr, fun G' H' v t fp hp s2 tr fr => eo.nx _ _ _ hp (At.put i g0 e1 s hr.env s2 tr fr)⟩
/-- return e -/
def dRet (we : WE) : WS := fun C ρ => we (C.xc ρ) ρ C.rt
theorem s_ret (he : PE X e (tOf X.K X.mg E we)) : PS X (.Return (some e) pos) (sOf X.K X.mg E (dRet we)) := PS.of (ps_ret he) fun D σ H ⟨b, F, G0, H0, ρ, C, q, g0, a, eo⟩ => by
  obtain ⟨G, e1, s, hr⟩ := a.site g0 eo
  exact ⟨b, H0, G, ρ, C.xc ρ, _, q, hr, fun G' H' v t fp hp s2 tr fr => eo.rt t v fp G' H' hp (s.trans g0 s2) tr fun a m => s.free g0 (fr a m)⟩
def dRetV (i : Nat) : WS := fun C ρ => ∃ t, ρ[i]? = some (some t) ∧ C.rt t
theorem s_retV (i : Nat) {x : Str} {p : Pos} (hN : X.N[i]? = some x := by rfl) (hv : Vis X.env.scope x := by first | exact Or.inl rfl | exact Or.inr (Or.inl rfl) | exact Or.inr (Or.inr rfl)) (hd : (x == ("__debug__" : Str)) = false := by decide) (hcd : (x == ("__classdict__" : Str)) = false := by decide) :
    PS X (.Return (some (.Name x p)) pos) (sOf X.K X.mg E (dRetV i)) := PS.of (ps_ret (pe_var hN hv hd hcd)) fun D σ H ⟨b, F, G0, H0, ρ, C, ⟨t, et, q⟩, g0, a, eo⟩ => by
  obtain ⟨G, e1, s, hr⟩ := a.site g0 eo
  obtain ⟨fp, v, ev, tr, hB, _⟩ := hr.env.take et
  exact ⟨v, ev, eo.rt t v fp G H q s tr hB⟩
/-- an expression for its own sake -/
def dDrop (we : WE) : WS := fun C ρ => we (C.xc ρ) ρ fun _ => C.nx ρ
theorem s_drop (he : PE X e (tOf X.K X.mg E we)) (hs : swapsWith e none pos.line X.env = pure false := by rfl) : PS X (.Expr e pos) (sOf X.K X.mg E (dDrop we)) := PS.of (ps_expr he hs) fun D σ H ⟨b, F, G0, H0, ρ, C, q, g0, a, eo⟩ => by
  obtain ⟨G, e1, s, hr⟩ := a.site g0 eo
  exact ⟨b, H0, G, ρ, C.xc ρ, _, q, hr, fun G' H' v t fp hp s2 tr fr => eo.nx _ _ _ hp ⟨G', e1.trans s2.ex, s.trans g0 s2, hr.env.stp s2⟩⟩
/-- if -/
def dIf (wt : WT) (w u : WS) : WS := fun C ρ => wt (C.xc ρ) ρ fun k => (k = true → w C ρ) ∧ (k = false → u C ρ)
theorem s_if {c : Expr} {a b : List Stmt} (hc : PT X c (ttOf X.K X.mg E wt)) (ha : PSs X a (sOf X.K X.mg E w)) (hb : PSs X b (sOf X.K X.mg E u)) : PS X (.If c a b pos) (sOf X.K X.mg E (dIf wt w u)) := PS.of (ps_if hc ha hb) fun D σ H ⟨b, F, G0, H0, ρ, C, q, g0, a, eo⟩ => by
  obtain ⟨G, e1, s, hr⟩ := a.site g0 eo
  refine ⟨b, H0, G, ρ, C.xc ρ, _, q, hr, fun G' H' k hp s2 => ?_⟩
  have at2 : At X.K b F G0 H0 ρ σ H' := ⟨G', e1.trans s2.ex, s.trans g0 s2, hr.env.stp s2⟩
  cases k with
  | true =>
    show sOf X.K X.mg E w D σ H'
    exact ⟨b, F, G0, H0, ρ, C, hp.1 rfl, g0, at2, eo⟩
  | false =>
    show sOf X.K X.mg E u D σ H'
    exact ⟨b, F, G0, H0, ρ, C, hp.2 rfl, g0, at2, eo⟩
/-- settle a slot -/
def dFrz (i : Nat) (w : WS) : WS := fun C ρ => ∃ t, ρ[i]? = some (some t) ∧ w C (ρ.set i (some (.leaf t.dat)))
theorem s_frz (i : Nat) (h : PSs X rest (sOf X.K X.mg E w)) : PSs X rest (sOf X.K X.mg E (dFrz i w)) := PSs.of h fun D σ H ⟨b, F, G0, H0, ρ, C, ⟨t, et, q⟩, g0, a, eo⟩ => by
  obtain ⟨G, e1, s, hr⟩ := a.site g0 eo
  obtain ⟨fp, v, ev, tr, hB, rp, g2, ex, E2⟩ := hr.env.settle hr.good et
  refine ⟨b, F, G0, H0, _, C, q, g0, ⟨addF G H fp, e1.trans ex, ⟨s.ex.trans ex, g2, s.keep, fun a o n e => ?_, s.cel⟩, E2⟩, eo⟩
  have na : a ∉ fp := fun z => by
    rw [hB a z] at e
    cases e
  rw [addF_out na]
  exact s.out a o n e
/-- xs.append(e) -/
def dApp (i : Nat) (we : WE) : WS := fun C ρ => ∃ ts, ρ[i]? = some (some (.node ts)) ∧ ts.length < lim ∧ we (C.xc ρ) ρ fun t => C.nx (ρ.set i (some (.node (ts ++ [t]))))
theorem s_app (i : Nat) {x : Str} {p apos cpos : Pos} (he : PE X e (tOf X.K X.mg E we)) (hN : X.N[i]? = some x := by rfl) (hv : Vis X.env.scope x := by first | exact Or.inl rfl | exact Or.inr (Or.inl rfl) | exact Or.inr (Or.inr rfl)) (hd : (x == ("__debug__" : Str)) = false := by decide) (hcd : (x == ("__classdict__" : Str)) = false := by decide)
    (hsw : swapsWith (.Call (.Attribute (.Name x p) "append" apos) [e] [] cpos) none pos.line X.env = pure false := by rfl)
    (hbase : attributeBase (.Name x p) "append" X.env (eval (.Name x p) X.env) = eval (.Name x p) X.env := by rfl)
    (hfew : ((backTo cpos (starEach [e] X.env)).all (fun x => !x.1) && (backToKw cpos (keywordEach [] X.env)).all (fun x => x.1.isSome)
      && decide (([e] : List Expr).length + ([] : List Keyword).length + (if ([] : List Keyword).isEmpty then 0 else 1) < 30)) = true := by rfl)
    (hline : (apos.endLine == cpos.line) = true := by rfl) (hs : starEach [e] X.env = (false, eval e X.env) :: starEach [] X.env := by rfl) (hplain : (backTo cpos (starEach [] X.env)).any (·.1) = false := by rfl) :
    PS X (.Expr (.Call (.Attribute (.Name x p) "append" apos) [e] [] cpos) pos) (sOf X.K X.mg E (dApp i we)) :=
  PS.of (ps_expr (pe_bm PySem.F.plainAttrs_list PySem.F.slot_list_append PySem.F.type_list_append mt_append (pe_var hN hv hd hcd) (pa_cons he pa_nil hs) hbase hfew hline hs hplain) hsw) fun D σ H ⟨b, F, G0, H0, ρ, C, ⟨ts, et, hl, q⟩, g0, a, eo⟩ => by
  obtain ⟨G, e1, s, hr⟩ := a.site g0 eo
  obtain ⟨fp, v, ev, tr, hB, EX⟩ := hr.env.take et
  cases tr with
  | node hp gp bp rr np =>
    rename_i pp fq vs
    refine ⟨_, ev, .inl ⟨rfl, _, .inl (.inl hp)⟩, b, H0, G, ρ, C.xc ρ, _, q, hr, fun G' H' v t fv ht s2 tr2 fr => ?_⟩
    have hp' : H' pp = some (.lst vs) := s2.keep _ _ bp hp
    have gp' : G' pp = none := s2.out _ _ gp hp
    have rr' := rr.move (G' := G') (H' := H') s2.ex fun a m => by
      obtain ⟨q1, q2, o, q3⟩ := rr.mem a m
      exact ⟨s2.out a o q1 q3, by rw [q3]; exact s2.keep a o q2 q3⟩
    have dj : ∀ a, a ∈ fq → a ∉ fv := fun a m z => by
      obtain ⟨q1, q2, o, q3⟩ := rr.mem a m
      rw [fr a z] at q3
      cases q3
    have npv : pp ∉ fv := fun z => by
      rw [fr _ z] at hp
      cases hp
    obtain ⟨fn, tr3, sub⟩ := TrAll.snoc rr' tr2 dj
    have npn : pp ∉ fn := fun z => (sub _ z).elim np npv
    refine ⟨pp, vs, v, rfl, rfl, hp', by rw [rr.len]; exact lim_lt hl, eo.nx _ _ _ ht ?_⟩
    refine At.mut (fp' := pp :: fn) g0 (e1.trans s2.ex) (s.trans g0 s2) (EX.stp s2) ev (List.mem_cons_self ..) hB gp' bp (.node upd_same gp' bp (tr3.move (Ex.rfl' _) fun a m => ⟨(tr3.mem a m).1, upd_ne fun z => npn (by rw [← z]; exact m)⟩) npn) fun a m => ?_
    rcases List.mem_cons.mp m with m | m
    · rw [m]
      exact ⟨hB _ (List.mem_cons_self ..), .inl (List.mem_cons_self ..)⟩
    · rcases sub a m with z | z
      · exact ⟨hB _ (List.mem_cons_of_mem _ z), .inl (List.mem_cons_of_mem _ z)⟩
      · exact ⟨s.free g0 (fr a z), .inr (fr a z)⟩
end
end Dd
namespace Dd
open PySem L2
theorem ixN_of {n : Nat} {k : Int} (h0 : 0 ≤ k) (h1 : k < n) : ixN n k = some k.toNat := by
  unfold ixN
  rw [if_pos h0, if_pos h1]
theorem TrAll.at {b : Option Addr} {G H : Hp} : ∀ {fp : List Addr} {vs : List V} {ts : List T} {j : Nat} {d : PyData}, TrAll b G H fp vs ts → ts[j]? = some (.leaf d) → ∃ v, vs[j]? = some v ∧ Rp b G v d
  | _, _, _, _, _, .nil, e => by simp at e
  | _, _, _, 0, d, .cons q r k, e => by
    simp at e
    subst e
    cases q with
    | leaf h => exact ⟨_, rfl, h⟩
  | _, _, _, j + 1, d, .cons q r k, e => by
    obtain ⟨v, h1, h2⟩ := TrAll.at (j := j) (d := d) r (by simpa using e)
    exact ⟨v, by simpa using h1, h2⟩
section
variable {X : Cx} {E : SX} {st : Stmt} {rest : List Stmt} {e e2 : Expr} {we wa wj wb : WE} {wt : WT} {w u : WS} {pos p tpos : Pos}
/-- x[j] = e, x a list of one's own -/
def dSetI (i : Nat) (wj we : WE) : WS := fun C ρ => we (C.xc ρ) ρ fun t => ∃ ts, ρ[i]? = some (some (.node ts)) ∧ wj (C.xc ρ) ρ fun v => match v with
  | .leaf (.int k) => ∃ n, ixN ts.length k = some n ∧ C.nx (ρ.set i (some (.node (ts.set n (.leaf t.dat)))))
  | _ => False
/-- an own flat place written -/
theorem own_set {K : PySem.W.Frag} {b : Option Addr} {F G0 H0 G H : Hp} {σ : L2.St} {ρ : Rho} {i : Nat} {ts : List T} {n : Nat} {v : V} {d : PyData} (g0 : Good K b G0 H0) (e1 : Ex F G) (s : Stp K b G0 H0 G H) (E1 : Env b H0 G H σ ρ) (et : ρ[i]? = some (some (.node ts))) (r : Rp b G v d) :
    ∃ q vs, σ[i]? = some (some (.ref q)) ∧ H q = some (.lst vs) ∧ vs.length = ts.length ∧ (∀ (j : Nat) d', ts[j]? = some (.leaf d') → ∃ u, vs[j]? = some u ∧ Rp b G u d') ∧ At K b F G0 H0 (ρ.set i (some (.node (ts.set n (.leaf d))))) σ (upd H q (.lst (vs.set n v))) := by
  obtain ⟨fp, v, ev, tr, hB, EX⟩ := E1.take et
  cases tr with
  | node hp gp bp rr np =>
    rename_i pp fq vs
    refine ⟨pp, vs, ev, hp, rr.len, fun j d' h => rr.at h, ?_⟩
    obtain ⟨fn, tr3, sub⟩ := TrAll.setLeaf r n rr
    have npn : pp ∉ fn := fun z => np (sub _ z)
    refine At.mut (fp' := pp :: fn) g0 e1 s EX ev (List.mem_cons_self ..) hB gp bp (.node upd_same gp bp (tr3.move (Ex.rfl' _) fun a m => ⟨(tr3.mem a m).1, upd_ne fun z => npn (by rw [← z]; exact m)⟩) npn) fun a m => ?_
    rcases List.mem_cons.mp m with m | m
    · rw [m]
      exact ⟨hB _ (List.mem_cons_self ..), .inl (List.mem_cons_self ..)⟩
    · exact ⟨hB _ (List.mem_cons_of_mem _ (sub a m)), .inl (List.mem_cons_of_mem _ (sub a m))⟩
theorem env_node {K : PySem.W.Frag} {b : Option Addr} {B G H : Hp} {σ : L2.St} {ρ : Rho} {i : Nat} {ts : List T} (E1 : Env b B G H σ ρ) (et : ρ[i]? = some (some (.node ts))) :
    ∃ q vs, σ[i]? = some (some (.ref q)) ∧ H q = some (.lst vs) ∧ vs.length = ts.length ∧ b ≠ some q ∧ ∀ (j : Nat) d', ts[j]? = some (.leaf d') → ∃ u, vs[j]? = some u ∧ Rp b G u d' := by
  obtain ⟨fp, v, ev, tr, hB, EX⟩ := E1.take et
  cases tr with
  | node hp gp bp rr np => exact ⟨_, _, ev, hp, rr.len, bp, fun j d' h => rr.at h⟩
theorem s_setI (i : Nat) {x : Str} {kp : Pos} (hN : X.N[i]? = some x := by rfl) (hv : Vis X.env.scope x := by first | exact Or.inl rfl | exact Or.inr (Or.inl rfl) | exact Or.inr (Or.inr rfl)) (hd : (x == ("__debug__" : Str)) = false := by decide) (hcd : (x == ("__classdict__" : Str)) = false := by decide)
    (hj : PE X e2 (tOf X.K X.mg E wj)) (he : PE X e (tOf X.K X.mg E we))
    (ha : ∀ v, assign (.Subscript (.Name x kp) e2 tpos) X.env v = (do
      let ov ← holding [v] (eval (.Name x kp) X.env)
      let iv ← holding [v, ov] (eval e2 X.env)
      standAt tpos
      holding [v, ov, iv] (setItem ov iv v)
      release [v, ov, iv] []) := by intro _; rfl)
    (hs : swapsWithSole [.Subscript (.Name x kp) e2 tpos] e pos.line X.env = pure false := by rfl) (hw : swappedStores [.Subscript (.Name x kp) e2 tpos] e X.env = pure none := by rfl) (h1 : (assignEach [.Subscript (.Name x kp) e2 tpos] X.env).map (·.2) = [assign (.Subscript (.Name x kp) e2 tpos) X.env] := by rfl) :
    PS X (.Assign [.Subscript (.Name x kp) e2 tpos] e pos) (sOf X.K X.mg E (dSetI i wj we)) := PS.of (ps_asg he (pg_sub (pe_var hN hv hd hcd) hj set_list ha) hs hw h1) fun D σ H ⟨b, F, G0, H0, ρ, C, q, g0, a, eo⟩ => by
  obtain ⟨G, e1, s, hr⟩ := a.site g0 eo
  refine tOfD_of ⟨b, H0, G, ρ, C.xc ρ, fun d => ∃ ts, ρ[i]? = some (some (.node ts)) ∧ wj (C.xc ρ) ρ fun v => match v with
    | .leaf (.int k) => ∃ n, ixN ts.length k = some n ∧ C.nx (ρ.set i (some (.node (ts.set n (.leaf d)))))
    | _ => False, q, hr, fun G1 H1 v d hp s1 hr1 rd => ?_⟩
  obtain ⟨ts, et, hp⟩ := hp
  obtain ⟨q0, vs0, ev, hq0, _, bq, _⟩ := env_node (K := X.K) hr1.env et
  refine ⟨_, ev, b, H0, G1, ρ, C.xc ρ, _, hp, hr1, fun G2 H2 u t fp ht s2 tr fr => ?_⟩
  try dsimp only at ht
  split at ht
  · obtain ⟨n, hn, q⟩ := ht
    cases tr with
    | leaf r =>
      cases r
      have s12 := s1.trans hr.good s2
      obtain ⟨q1, vs, ev1, hq1, hl, _, at2⟩ := own_set (n := n) g0 (e1.trans s12.ex) (s.trans g0 s12) (hr1.env.stp s2) et (rd.mono s2.ex)
      rw [ev] at ev1
      cases ev1
      exact ⟨_, vs, _, n, rfl, rfl, hq1, by rw [hl]; exact hn, eo.nx _ _ _ q at2⟩
  · exact ht.elim
/-- x[j] += e -/
def rGetI : V → V → Hp → VK → Prop := fun o i H Q => ∃ p xs k v, o = .ref p ∧ i = .int k ∧ H p = some (.lst xs) ∧ 0 ≤ k ∧ xs[k.toNat]? = some v ∧ Q v H
theorem get_list : PGet X rGetI := by
  intro pins s σ H o i ov iv Q I ro ri h
  obtain ⟨p, xs, k, v, rfl, rfl, hp, h0, hv, q⟩ := h
  cases ro
  obtain ⟨t, rfl⟩ := ri
  obtain ⟨its, r, pl, hz⟩ := I.list (.inl (.inl hp))
  obtain ⟨w, ew, rw'⟩ := r.get hv
  have hl := r.length
  have hi := (List.getElem?_eq_some_iff.mp hv).1
  have hn := line63
  exact PySem.wpAny_getItem_list pl.isList h0 (by omega) (by simpa using ew) ⟨v, H, I, rw', q⟩
/-! ### loops -/
def dFor (wi : WI) (wg : WG) (wb : WS) : WS := fun C ρ => wi (C.xc ρ) ρ fun ds => ∃ Inv : Nat → Rho → Prop, Inv 0 ρ ∧
  (∀ i d ρ', ds[i]? = some d → Inv i ρ' → wg d ρ' fun ρ2 => wb { C with nx := Inv (i + 1), ct := Inv (i + 1), bk := C.nx } ρ2) ∧ ∀ ρ', Inv ds.length ρ' → C.nx ρ'
theorem s_for {iter tg : Expr} {body : List Stmt} {ts : List Nat} {wi : WI} {wg : WG} {wb : WS} (hp : PassesOwn (model X.prog X.w) X.A X.env X.xe) (hc : X.calm = true) (hi : PI X tg iter (iOf X.K X.mg E wi)) (hg : PG X tg (gOf X.K ts wg)) (hb : PSs X body (sOf X.K X.mg E wb))
    (hs : ∀ x, foldedSetIterable iter X.env x = pure x := by intro _; rfl) : PS X (.For tg iter body [] pos) (sOf X.K X.mg E (dFor wi wg wb)) := PS.of (ps_for hp hc hi hg hb hs) fun D σ H ⟨b, F, G0, H0, ρ, C, q, g0, a, eo⟩ => by
  obtain ⟨G, e1, s, hr⟩ := a.site g0 eo
  refine ⟨b, H0, G, ρ, C.xc ρ, _, q, hr, fun G1 H1 ds J hp s1 wk => ?_⟩
  obtain ⟨Inv, i0, it, ie⟩ := hp
  refine ⟨fun i m σ' H' => m = ds.length - i ∧ i ≤ ds.length ∧ ∃ ρ', Inv i ρ' ∧ At X.K b G1 G0 H0 ρ' σ' H', ⟨ds.length, by simp, Nat.zero_le _, ρ, i0, G1, Ex.rfl' _, s.trans g0 s1, hr.env.stp s1⟩, ?_⟩
  rintro i m σ' H' ⟨rfl, hi, ρ', inv, at1⟩
  obtain ⟨G2, e2, s2, E2⟩ := id at1
  by_cases hlt : i < ds.length
  · refine .inr ⟨wk.goes i G2 H' hlt e2 s2.good, fun σ2 H2 => i + 1 ≤ ds.length ∧ ∃ ρ2, Inv (i + 1) ρ2 ∧ At X.K b G1 G0 H0 ρ2 σ2 H2, fun σ2 H2 h => ⟨ds.length - (i + 1), by omega, rfl, h⟩, fun x H3 y => ?_⟩
    obtain ⟨G3, d, ed, s3, rd⟩ := wk.yields i G2 H' x H3 hlt e2 s2.good y
    have s23 := s2.trans g0 s3
    refine ⟨b, H0, G3, ρ', d, _, it i d ρ' ed inv, ⟨s3.good, E2.stp s3, fun a e => s23.free g0 e⟩, rd, fun σ4 ρ4 h4 hr4 _ => ?_⟩
    refine ⟨b, G1, G0, H0, ρ4, _, h4, g0, ⟨G3, e2.trans s3.ex, s23, hr4.env⟩, ⟨fun ρ5 σ5 H5 q5 a5 => ⟨hlt, ρ5, q5, a5⟩, fun ρ5 σ5 H5 q5 a5 => ?_, fun ρ5 σ5 H5 q5 a5 => ⟨hlt, ρ5, q5, a5⟩, eo.rt, fun ρ5 σ5 n pl c d G5 H5 q5 f5 s5 E5 => eo.xc _ _ _ _ _ _ _ _ q5 (e1.trans (s1.ex.trans f5)) s5 E5⟩⟩
    · obtain ⟨G5, f5, s5, E5⟩ := a5
      exact eo.nx _ _ _ q5 ⟨G5, e1.trans (s1.ex.trans f5), s5, E5⟩
  · have e : i = ds.length := by omega
    subst e
    exact .inl ⟨wk.stops G2 H' e2 s2.good, eo.nx _ _ _ (ie ρ' inv) ⟨G2, e1.trans (s1.ex.trans e2), s2, E2⟩⟩
end
/-! ### a def -/
def startR (N : List Str) (ds : List PyData) : Rho := ds.map (fun d => some (.leaf d)) ++ List.replicate (N.length - ds.length) none
theorem env_start {b : Option Addr} {B G H : Hp} {N : List Str} {vs : List V} {ds : List PyData} (r : RpAll b G vs ds) : Env b B G H (L2.start N vs) (startR N ds) := by
  have hl := r.len
  refine ⟨by unfold L2.start startR; simp [hl], fun _ => [], fun i t e => ?_, (fun i a m => by cases m), fun i j a n m => by cases m⟩
  unfold startR at e
  by_cases c : i < ds.length
  · rw [List.getElem?_append_left (by simpa using c), List.getElem?_map, List.getElem?_eq_getElem c] at e
    cases e
    obtain ⟨v, ev, rv⟩ := r.get (List.getElem?_eq_getElem c)
    refine ⟨v, ?_, .leaf rv⟩
    unfold L2.start
    rw [List.getElem?_append_left (by simp; omega), List.getElem?_map, ev] <;> rfl
  · rw [List.getElem?_append_right (by simp; omega)] at e
    rw [List.getElem?_replicate] at e
    split at e <;> cases e
section
variable {P : Program} {w : World} {K : PySem.W.Frag} {mg : Str → Option Value} {base : Heap}
theorem sp_len {S : Spec} {n : Nat} (h : ∀ ds P xp, S ds P xp → ds.length = n) : ∀ vs H Q E, spOf K mg S vs H Q E → vs.length = n := fun vs H Q E ⟨b, G, ds, P, xp, q, g, r, _⟩ => by rw [r.len, h _ _ _ q]
/-- a body's reading gives the promise -/
theorem body_core {ws : WS} {N : List Str} {E : SX} {b : Option Addr} {G : Hp} {ds : List PyData} {P : T → Prop} {xp : XP} (q : ws { nx := fun _ => P non, rt := P, xc := fun _ => xp } (startR N ds)) {vs : List V} {H : Hp} {Q : VK} {E0 : XK} (hE : ∀ σ, E σ = E0)
    (g : Good K b G H) (r : RpAll b G vs ds) (k : Ktn K b G H P Q) (x : XC K mg E0 b G H xp) : sOf K mg E ws { nx := fun _ H' => Q .non H', rt := Q } (L2.start N vs) H := by
  refine ⟨b, G, G, H, _, _, q, g, ⟨G, Ex.rfl' _, g.stp, env_start r⟩, ⟨fun ρ σ H' hp a => ?_, fun _ _ _ z => z.elim, fun _ _ _ z => z.elim, fun t v fp G' H' hp s tr fr => k G' H' v t fp hp s tr fr, fun ρ σ n pl c d G' H' hx _ s _ m e => by rw [hE]; exact x n pl c d G' H' hx m e s⟩⟩
  · obtain ⟨G', _, s, _⟩ := a
    exact k G' H' .non non [] hp s (.leaf .non) fun _ z => nomatch z
/-- a def that raises nothing -/
theorem fn_ok {x qual : Str} {st : Stmt} {f : Addr} {fd : FuncData} {N ps : List Str} {k : Nat} {S : Spec} {ws : WS} (F : Fun K x qual st f fd) (sc : FnScope N ps (defScope st)) (len : ∀ ds P xp, S ds P xp → ds.length = ps.length)
    (body : ∀ (cdv : Value) (A : Around) (outer : List PySem.Env) (s : Shared) (H : Hp) (E : XK), Room k (A.deeper (PyProof.Rows.envOfC qual (defScope st) s.heap.objs.size f cdv)) → PSs (cxOf CX0 P w K mg base N qual (defScope st) f cdv A outer s H E).nox (defBody st) (sOf K mg noE ws))
    (spec : ∀ ds P, S ds P noX → ws { nx := fun _ => P non, rt := P } (startR N ds)) (nx : ∀ ds P xp, S ds P xp → S ds P noX) : FnOk P w K mg base CX0 (k + 1) f fd ps (spOf K mg S) := by
  refine F.ok sc (sp_len len) fun cdv A outer s H vs Q E hr h => ⟨_, body cdv A outer s H E hr, ?_⟩
  obtain ⟨b, G, ds, P, xp, q, g, r, k, x⟩ := h
  exact body_core (spec ds P (nx _ _ _ q)) (E0 := fun _ _ _ => False) (fun _ => rfl) g r k noXC
end
end Dd
namespace Dd
open PySem L2
/-- a def that may be called by its name -/
structure Cal (P : Program) (w : World) (K : PySem.W.Frag) (mg : Str → Option Value) (base : Heap) (x : Str) (ps : List Str) (k : Nat) (S : Spec) : Prop where
  ex : ∃ f fd, FnOk P w K mg base CX0 k f fd ps (spOf K mg S) ∧ mg x = some (.ref f) ∧ PySem.W.keepIn K (.ref f) = true ∧ Binds K fd ps []
theorem Cal.mk' {P : Program} {w : World} {K : PySem.W.Frag} {mg : Str → Option Value} {base : Heap} {x qual : Str} {ps : List Str} {k : Nat} {S : Spec} {st : Stmt} {f : Addr} {fd : FuncData} (F : Fun K x qual st f fd) (h : FnOk P w K mg base CX0 k f fd ps (spOf K mg S)) (m : mg x = some (.ref f)) (b : Binds K fd ps []) : Cal P w K mg base x ps k S := ⟨f, fd, h, m, F.kp, b⟩
section
variable {X : Cx} {E : SX} {e e2 : Expr} {es : List Expr} {w wa wb : WE} {ws : WA} {pos p p2 apos : Pos} {x : Str}
theorem d_callC {j k : Nat} {ps : List Str} {S : Spec} (C : Cal X.prog X.w X.K X.mg X.base x ps k S) (hr : Room j X.A) (ha : PA X (e :: es) (aOf X.K X.mg E ws)) (hg : Gl X x := by rfl) (hj : k ≤ j := by decide) (hdb : (x == ("__debug__" : Str)) = false := by decide) (he : starEach (e :: es) X.env = (false, eval e X.env) :: starEach es X.env := by rfl) (hpl : (backTo pos (starEach es X.env)).any (·.1) = false := by rfl) :
    PE X (.Call (.Name x p) (e :: es) [] pos) (tOf X.K X.mg E (dCall S ws)) := by
  obtain ⟨f, fd, h, m, kp, b⟩ := C.ex
  exact d_call h hr hg m kp b ha hj hdb he hpl
/-! ### tests of comparisons -/
theorem t_lt (ha : PE X e (tOf X.K X.mg E wa)) (hb : PE X e2 (tOf X.K X.mg E wb)) : PT X (.Compare e [.Lt] [e2] pos) (ttOf X.K X.mg E (dTst (dOp rdLt wa wb))) := t_cmp op_lt (ok_I0 fun _ _ => rfl) ha hb (nomark _)
theorem t_gt (ha : PE X e (tOf X.K X.mg E wa)) (hb : PE X e2 (tOf X.K X.mg E wb)) : PT X (.Compare e [.Gt] [e2] pos) (ttOf X.K X.mg E (dTst (dOp rdGt wa wb))) := t_cmp op_gt (ok_I0 fun _ _ => rfl) ha hb (nomark _)
theorem t_ge (ha : PE X e (tOf X.K X.mg E wa)) (hb : PE X e2 (tOf X.K X.mg E wb)) : PT X (.Compare e [.GtE] [e2] pos) (ttOf X.K X.mg E (dTst (dOp rdGe wa wb))) := t_cmp op_ge (ok_I0 fun _ _ => rfl) ha hb (nomark _)
theorem t_eq (hu : X.A.units + 64 < cLine) (ha : PE X e (tOf X.K X.mg E wa)) (hb : PE X e2 (tOf X.K X.mg E wb)) : PT X (.Compare e [.Eq] [e2] pos) (ttOf X.K X.mg E (dTst (dOp rdEq wa wb))) := t_cmp (opr_or op_eq (op_eqD hu)) ok_eq ha hb (nomark _)
theorem t_ne (hu : X.A.units + 64 < cLine) (ha : PE X e (tOf X.K X.mg E wa)) (hb : PE X e2 (tOf X.K X.mg E wb)) : PT X (.Compare e [.NotEq] [e2] pos) (ttOf X.K X.mg E (dTst (dOp rdNe wa wb))) := t_cmp (opr_or op_ne (op_neD hu)) ok_ne ha hb (nomark _)
theorem t_isN (ha : PE X e (tOf X.K X.mg E wa)) (hb : PE X e2 (tOf X.K X.mg E wb)) : PT X (.Compare e [.Is] [e2] pos) (ttOf X.K X.mg E (dTst (dOp rdIsN wa wb))) := t_cmp op_isN ok_isN ha hb (nomark _)
theorem t_notN (ha : PE X e (tOf X.K X.mg E wa)) (hb : PE X e2 (tOf X.K X.mg E wb)) : PT X (.Compare e [.IsNot] [e2] pos) (ttOf X.K X.mg E (dTst (dOp rdNotN wa wb))) := t_cmp op_notN ok_notN ha hb (nomark _)
/-- a < b < c -/
def dChain (rd rd' : R2D) (wa wb wc : WE) : WE := fun x ρ P => wa x ρ fun t => wb x ρ fun u => rd t.dat u.dat fun z => match z with
  | .leaf (.bool k) => (k = true → wc x ρ fun v => rd' u.dat v.dat P) ∧ (k = false → P (boo false))
  | _ => False
theorem dchain_core {K : PySem.W.Frag} {mg : Str → Option Value} {r r' : R2} {rd rd' : R2D} {wc : WE} (h : RdOk K r rd) (h' : RdOk K r' rd') {σ : L2.St} {H : Hp} {Q : VK} (q : tOf K mg E (dChain rd rd' wa wb wc) σ H Q) :
    tChain r r' (tOf K mg E wa) (tOf K mg E wb) (tOf K mg E wc) σ H Q := by
  obtain ⟨b, B, G, ρ, xp, P, p, hr, k⟩ := q
  refine tOfD_of ⟨b, B, G, ρ, xp, fun d => wb xp ρ fun u => rd d u.dat fun z => match z with
    | .leaf (.bool k) => (k = true → wc xp ρ fun v => rd' u.dat v.dat P) ∧ (k = false → P (boo false))
    | _ => False, p, hr, fun G1 H1 x d p1 s1 hr1 rx => ?_⟩
  refine tOfD_of ⟨b, B, G1, ρ, xp, fun u => rd d u fun z => match z with
    | .leaf (.bool k) => (k = true → wc xp ρ fun v => rd' u v.dat P) ∧ (k = false → P (boo false))
    | _ => False, p1, hr1, fun G2 H2 y u p2 s2 hr2 ry => ?_⟩
  refine h b G2 H2 x y d u _ _ s2.good (rx.mono s2.ex) ry p2 fun G3 H3 z t fp hz s3 tr fr => ?_
  have hr3 := hr2.stp s3
  have kk := ((k.stp hr.good s1).stp hr1.good s2).stp hr2.good s3
  try dsimp only at hz
  split at hz
  · cases tr with
    | leaf rz =>
      cases rz
      rename_i c
      refine ⟨_, rfl, ?_⟩
      cases c with
      | true =>
        refine iteT ?_
        refine tOfD_of ⟨b, B, G3, ρ, xp, fun v => rd' u v P, hz.1 rfl, hr3, fun G4 H4 y4 v p4 s4 hr4 r4 => ?_⟩
        exact h' b G4 H4 y y4 u v P Q s4.good (ry.mono (s3.ex.trans s4.ex)) r4 p4 (kk.stp hr3.good s4)
      | false =>
        refine iteF ?_
        exact kk.leaf s3.good (hz.2 rfl) (.bl _)
  · exact hz.elim
theorem t_chain {e3 : Expr} {op op' : CmpOp} {r r' : R2} {rd rd' : R2D} {wc : WE} (ho : OpR X (compareOp op) r) (ho' : OpR X (compareOp op') r') (h : RdOk X.K r rd) (h' : RdOk X.K r' rd') (ha : PE X e (tOf X.K X.mg E wa)) (hb : PE X e2 (tOf X.K X.mg E wb)) (hc : PE X e3 (tOf X.K X.mg E wc))
    (hm : lastMarks [op, op'] [e2, e3] = false := by with_unfolding_all rfl) : PT X (.Compare e [op, op'] [e2, e3] pos) (ttOf X.K X.mg E (dTst (dChain rd rd' wa wb wc))) := PT.of (pt_chain ho ho' ha hb hc hm) fun σ H Q q => dchain_core h h' (dtst_core q)
/-! ### isinstance of data -/
def tyN : PyData → String
  | .none => "NoneType" | .bool _ => "bool" | .int _ => "int" | .str _ => "str" | .list _ => "list" | .tuple _ => "tuple" | .dict [] => "list" | .dict _ => ""
theorem rp_ty {K : PySem.W.Frag} {b : Option Addr} {G H : Hp} {v : V} {d : PyData} (g : Good K b G H) (r : Rp b G v d) (ne : tyN d ≠ "") : TyX K H v (.type (tyN d)) := by
  cases r with
  | non => exact .base .non
  | bl k => exact .base (.bl k)
  | int i => exact .base (.int i)
  | str x => exact .base (.str x)
  | lst h _ => exact .base (.lst (g.ex _ _ h))
  | tup h _ => exact .base (.tup (g.ex _ _ h))
  | box h =>
    obtain ⟨_, _, _, _, _, _, q, _⟩ := g.box _ h
    exact .base (.lst q)
  | exc _ => exact absurd rfl ne
  | obj _ => exact absurd rfl ne
  | ins _ _ _ _ => exact absurd rfl ne
  | dic _ _ _ => exact absurd rfl ne
  | diT _ _ _ => exact absurd rfl ne
def dIsi (T : String) (w : WE) : WE := fun x ρ P => w x ρ fun t => ∃ r, kitB (tyN t.dat) T = some r ∧ P (boo r)
theorem d_isi {T : Str} {n : String} (hm : X.mg "isinstance" = none) (hmT : X.mg T = none) (hv : bootBuiltins T = some (.type n)) (ha : PE X e (tOf X.K X.mg E w)) (hg : Gl X "isinstance" := by rfl) (hgT : Gl X T := by rfl) (hn : T ≠ "__name__" := by decide) (hdb : (T == ("__debug__" : Str)) = false := by decide) (hz : kitB "" n = none := by decide)
    (he : starEach [e, .Name T p2] X.env = (false, eval e X.env) :: starEach [.Name T p2] X.env := by rfl) (hpl : (backTo pos (starEach [.Name T p2] X.env)).any (·.1) = false := by rfl) (he2 : starEach [.Name T p2] X.env = (false, eval (.Name T p2) X.env) :: starEach [] X.env := by rfl) :
    PE X (.Call (.Name "isinstance" p) [e, .Name T p2] [] pos) (tOf X.K X.mg E (dIsi n w)) :=
  PE.of (pe_callB call_isi hg hm (by decide +kernel) (pa_cons ha (pa_cons (pe_bltn (v := .ty n) hgT hmT hv rfl hn hdb) pa_nil he2) he) (by decide) (by decide) he hpl) fun σ H Q ⟨b, B, G, ρ, xp, P, p, hr, k⟩ =>
    tOfD_of ⟨b, B, G, ρ, xp, fun d => ∃ r, kitB (tyN d) n = some r ∧ P (boo r), p, hr, fun G1 H1 v d hp s1 hr1 r => by
      obtain ⟨c, hc, hp⟩ := hp
      exact ⟨v, .ty n, _, _, c, rfl, .ty n, rp_ty s1.good r (fun z => by
        rw [z, hz] at hc
        cases hc), kit_ty hc, (k.stp hr.good s1).leaf s1.good hp (.bl _)⟩⟩
/-! ### slices of lists, tuples -/
abbrev WO := XP → Rho → (Option Int → Prop) → Prop
def oOf (K : PySem.W.Frag) (mg : Str → Option Value) (E : SX) (w : WO) : TO := fun σ H Q => ∃ (b : Option Addr) (B G : Hp) (ρ : Rho) (xp : XP) (P : Option Int → Prop), w xp ρ P ∧ Site K mg (E σ) b B G H σ ρ xp ∧ ∀ (G' H' : Hp) (o : Option Int), P o → Stp K b G H G' H' → Q o H'
theorem PO.of {o : Option Expr} {t : TO} {w : WO} (h : PO X o t) (k : ∀ σ H Q, oOf X.K X.mg E w σ H Q → t σ H Q) : PO X o (oOf X.K X.mg E w) := ⟨fun pins s σ H Q I q => h.run pins s σ H Q I (k σ H Q q)⟩
def oN : WO := fun _ _ P => P none
def oS (w : WE) : WO := fun x ρ P => w x ρ fun t => match t with
  | .leaf (.int i) => P (some i)
  | _ => False
theorem o_none : PO X none (oOf X.K X.mg E oN) := PO.of po_none fun σ H Q ⟨b, B, G, ρ, xp, P, p, hr, k⟩ => k G H none p hr.good.stp
theorem o_some (h : PE X e (tOf X.K X.mg E w)) : PO X (some e) (oOf X.K X.mg E (oS w)) := PO.of (po_some h) fun σ H Q ⟨b, B, G, ρ, xp, P, p, hr, k⟩ => ⟨b, B, G, ρ, xp, _, p, hr, fun G' H' v t fp hp s tr fr => by
  try dsimp only at hp
  split at hp
  · cases tr with
    | leaf r =>
      cases r
      exact ⟨_, rfl, k G' H' _ hp s⟩
  · exact hp.elim⟩
def cutD (xs : List PyData) (lo hi : Option Int) : List PyData := (xs.drop (HT.sIx xs.length 0 lo)).take (HT.sIx xs.length xs.length hi - HT.sIx xs.length 0 lo)
def dSl (w : WE) (wl wh : WO) : WE := fun x ρ P => w x ρ fun t => wl x ρ fun l => wh x ρ fun u => match t.dat with
  | .list xs => P (.node ((cutD xs l u).map .leaf))
  | _ => False
theorem d_sl {lo hi : Option Expr} {wl wh : WO} (he : PE X e (tOf X.K X.mg E w)) (hl : PO X lo (oOf X.K X.mg E wl)) (hu : PO X hi (oOf X.K X.mg E wh)) : PE X (.Subscript e (.Slice lo hi none p2) pos) (tOf X.K X.mg E (dSl w wl wh)) := PE.of (pe_slice sl_list he hl hu) fun σ H Q ⟨b, B, G, ρ, xp, P, p, hr, k⟩ => by
  refine tOfD_of ⟨b, B, G, ρ, xp, fun d => wl xp ρ fun l => wh xp ρ fun u => match d with
    | .list xs => P (.node ((cutD xs l u).map .leaf))
    | _ => False, p, hr, fun G1 H1 x d p1 s1 hr1 rx => ?_⟩
  refine ⟨b, B, G1, ρ, xp, _, p1, hr1, fun G2 H2 l p2 s2 => ⟨b, B, G2, ρ, xp, _, p2, hr1.stp s2, fun G3 H3 u p3 s3 => ?_⟩⟩
  try dsimp only at p3
  split at p3
  · cases rx with
    | lst h1 r1 =>
      refine ⟨_, _, rfl, .inl (.inl (s3.good.ex _ _ (s3.ex _ _ (s2.ex _ _ h1)))), fun q hq => ?_⟩
      have r3 := (r1.mono (s2.ex.trans s3.ex))
      refine new_lst s3.good ?_ p3 (((k.stp hr.good s1).stp hr1.good s2).stp s2.good s3) hq
      unfold cutV cutD
      rw [r1.len]
      exact (r3.drop _).take _
  · exact p3.elim
end
end Dd
namespace Dd
open PySem L2
/-- a module's whole number -/
structure ConI (K : PySem.W.Frag) (mg : Str → Option Value) (x : Str) (i : Int) : Prop where
  ex : ∃ t, mg x = some (.int i t)
section
variable {X : Cx} {E : SX} {e e2 : Expr} {es : List Expr} {w wa wb : WE} {ws : WA} {pos p p2 apos : Pos} {x : Str}
theorem d_con {i : Int} (C : ConI X.K X.mg x i) (hg : Gl X x := by rfl) (hd : (x == ("__debug__" : Str)) = false := by decide) : PE X (.Name x pos) (tOf X.K X.mg E (dC (.int i))) := by
  obtain ⟨t, h⟩ := C.ex
  exact PE.of (pe_glob (v := .int i) hg h ⟨t, rfl⟩ hd) fun σ H Q ⟨b, B, G, ρ, xp, P, p, hr, k⟩ => k.leaf hr.good p (.int i)
end
/-! ### the law's first row: the box -/
def spBox (K : PySem.W.Frag) : Sp := fun vs H Q _ => ∃ (a : Addr) (ns : List Int), vs = [.ref a] ∧ SqL K H a (ns.map V.int) ∧
  ∀ (p c : Addr) (H' : Hp) (cells : List Int), H' p = some (.lst [.ref c, .int 0, .int 0, .int 17]) → H' c = some (.lst (cells.map V.int)) → p ≠ c → cells.length ≤ 63 → Q (.ref p) H'
/-! ### small facts for readings -/
end Dd
namespace Dd
open PySem L2
theorem dat_leaf (d : PyData) : (T.leaf d).dat = d := rfl
theorem dat_n0 : (T.node []).dat = .list [] := rfl
theorem dat_n1 {a : PyData} : (T.node [.leaf a]).dat = .list [a] := rfl
theorem dat_n2 {a b : PyData} : (T.node [.leaf a, .leaf b]).dat = .list [a, b] := rfl
theorem dat_n3 {a b c : PyData} : (T.node [.leaf a, .leaf b, .leaf c]).dat = .list [a, b, c] := rfl
theorem dat_n4 {a b c d : PyData} : (T.node [.leaf a, .leaf b, .leaf c, .leaf d]).dat = .list [a, b, c, d] := rfl
theorem dat_n5 {a b c d e : PyData} : (T.node [.leaf a, .leaf b, .leaf c, .leaf d, .leaf e]).dat = .list [a, b, c, d, e] := rfl
theorem dat_n6 {a b c d e f : PyData} : (T.node [.leaf a, .leaf b, .leaf c, .leaf d, .leaf e, .leaf f]).dat = .list [a, b, c, d, e, f] := rfl
theorem dat_n7 {a b c d e f g : PyData} : (T.node [.leaf a, .leaf b, .leaf c, .leaf d, .leaf e, .leaf f, .leaf g]).dat = .list [a, b, c, d, e, f, g] := rfl
theorem dat_n8 {a b c d e f g h : PyData} : (T.node [.leaf a, .leaf b, .leaf c, .leaf d, .leaf e, .leaf f, .leaf g, .leaf h]).dat = .list [a, b, c, d, e, f, g, h] := rfl
theorem dat_leaves0 (ds : List PyData) : (T.node (ds.map .leaf)).dat = .list ds := by
  show PyData.list (T.dats _) = _
  rw [dats_leaf]
/-! ### one step at a time: equations for simp -/
def asB (P : Bool → Prop) (t : T) : Prop := match t with
  | .leaf (.bool k) => P k
  | _ => False
def asI (P : Int → Prop) (t : T) : Prop := match t with
  | .leaf (.int k) => P k
  | _ => False
def asL (P : List PyData → Prop) (t : T) : Prop := match t.dat with
  | .list ds => P ds
  | _ => False
def asU (P : List PyData → Prop) (t : T) : Prop := match t.dat with
  | .tuple ds => P ds
  | _ => False
section
variable {P : T → Prop} {PB : Bool → Prop} {PI : Int → Prop} {PL : List PyData → Prop} {x : XP} {ρ : Rho} {w wa wb wc we wj : WE} {wt wu : WT} {wo wl wh : WO} {ws : WA} {C : Ctl} {i j : Int} {n m : Nat} {k l : Bool} {xs ys : List PyData} {a b : Str} {C' : Int → Int → Prop} {g : Int → Int → PyData} {f : Int → Int → Int} {rd rd' : R2D} {ts : List T}
theorem asB_b : asB PB (.leaf (.bool k)) = PB k := rfl
theorem asI_i : asI PI (.leaf (.int i)) = PI i := rfl
theorem asL_l : asL PL (.leaf (.list xs)) = PL xs := rfl
theorem asL_n : asL PL (.node (xs.map .leaf)) = PL xs := by
  unfold asL
  rw [dat_leaves0]
theorem asU_u : asU PL (.leaf (.tuple xs)) = PL xs := rfl
theorem asL_c {d : PyData} : asL PL (.node (.leaf d :: xs.map .leaf)) = PL (d :: xs) := asL_n (xs := d :: xs)
theorem e_tst : dTst w x ρ PB = w x ρ (asB PB) := rfl
theorem e_andV : dAndV wa wb x ρ P = wa x ρ (asB fun k => (k = true → wb x ρ P) ∧ (k = false → P (boo false))) := rfl
theorem e_orV : dOrV wa wb x ρ P = wa x ρ (asB fun k => (k = true → P (boo true)) ∧ (k = false → wb x ρ P)) := rfl
theorem e_neg : dNeg wa x ρ P = wa x ρ (asI fun i => P (int (-i))) := rfl
theorem e_chain : dChain rd rd' wa wb wc x ρ P = wa x ρ fun t => wb x ρ fun u => rd t.dat u.dat (asB fun k => (k = true → wc x ρ fun v => rd' u.dat v.dat P) ∧ (k = false → P (boo false))) := rfl
theorem e_setI : dSetI n wj we C ρ = we (C.xc ρ) ρ fun t => ∃ ts, ρ[n]? = some (some (.node ts)) ∧ wj (C.xc ρ) ρ (asI fun k => ∃ m, ixN ts.length k = some m ∧ C.nx (ρ.set n (some (.node (ts.set m (.leaf t.dat)))))) := rfl
theorem e_oS {PO : Option Int → Prop} : oS w x ρ PO = w x ρ (asI fun i => PO (some i)) := rfl
theorem e_iL : iL w x ρ PL = w x ρ (asL PL) := rfl
theorem e_iT : iT w x ρ PL = w x ρ (asU PL) := rfl
theorem e_I : rdI C' g (.int i) (.int j) P = (C' i j ∧ P (.leaf (g i j))) := rfl
theorem e_I0 : rdI0 g (.int i) (.int j) P = P (.leaf (g i j)) := rfl
theorem e_add : rdAdd (.int i) (.int j) P = P (int (i + j)) := rfl
theorem e_mul : rdMul (.int i) (.int j) P = (CMulW i j ∧ P (int (i * j))) := rfl
theorem e_ixl : rdIx (.list xs) (.int i) P = ∃ x, atI xs i = some x ∧ P (.leaf x) := rfl
theorem e_ixt : rdIx (.tuple xs) (.int i) P = ∃ x, atI xs i = some x ∧ P (.leaf x) := rfl
theorem e_eqi : rdEq (.int i) (.int j) P = P (boo (decide (i = j))) := rfl
theorem e_eqs : rdEq (.str a) (.str b) P = P (boo (decide (a = b))) := rfl
theorem e_eqb : rdEq (.bool k) (.bool l) P = P (boo (decide (k = l))) := rfl
theorem e_eql : rdEq (.list xs) (.list ys) P = (SeqAt.shaped (.list xs) = true ∧ SeqAt.shaped (.list ys) = true ∧ P (boo (PyData.eqv (.list xs) (.list ys)))) := rfl
theorem e_eqt : rdEq (.tuple xs) (.tuple ys) P = (SeqAt.shaped (.tuple xs) = true ∧ SeqAt.shaped (.tuple ys) = true ∧ P (boo (PyData.eqv (.tuple xs) (.tuple ys)))) := rfl
theorem e_nei : rdNe (.int i) (.int j) P = P (boo (decide (i ≠ j))) := rfl
theorem e_nes : rdNe (.str a) (.str b) P = P (boo (decide (a ≠ b))) := rfl
theorem e_neb : rdNe (.bool k) (.bool l) P = P (boo (decide (k ≠ l))) := rfl
theorem e_nel : rdNe (.list xs) (.list ys) P = (SeqAt.shaped (.list xs) = true ∧ SeqAt.shaped (.list ys) = true ∧ P (boo (!PyData.eqv (.list xs) (.list ys)))) := rfl
theorem e_net : rdNe (.tuple xs) (.tuple ys) P = (SeqAt.shaped (.tuple xs) = true ∧ SeqAt.shaped (.tuple ys) = true ∧ P (boo (!PyData.eqv (.tuple xs) (.tuple ys)))) := rfl
theorem e_isNn : rdIsN .none .none P = P (boo true) := by simp [rdIsN]
theorem e_isNi : rdIsN (.int i) .none P = P (boo false) := by simp [rdIsN]
theorem e_isNl : rdIsN (.list xs) .none P = P (boo false) := by simp [rdIsN]
theorem e_isNt : rdIsN (.tuple xs) .none P = P (boo false) := by simp [rdIsN]
theorem e_isNb : rdIsN (.bool k) .none P = P (boo false) := by simp [rdIsN]
theorem e_isNs : rdIsN (.str a) .none P = P (boo false) := by simp [rdIsN]
theorem e_notNn : rdNotN .none .none P = P (boo false) := by simp [rdNotN]
theorem e_notNi : rdNotN (.int i) .none P = P (boo true) := by simp [rdNotN]
theorem e_notNl : rdNotN (.list xs) .none P = P (boo true) := by simp [rdNotN]
theorem e_notNt : rdNotN (.tuple xs) .none P = P (boo true) := by simp [rdNotN]
theorem e_lenl : cLen [.list xs] P = P (int xs.length) := rfl
theorem e_lent : cLen [.tuple xs] P = P (int xs.length) := rfl
theorem e_lens : cLen [.str a] P = (a.length ≤ lim ∧ P (int a.length)) := rfl
theorem e_listl : cList [.list xs] P = P (.node (xs.map .leaf)) := rfl
theorem e_listt : cList [.tuple xs] P = P (.node (xs.map .leaf)) := rfl
end
/-! ### the draw's promise -/
def S_l_take : Spec := fun ds P _ => ∃ n : Int, ds = [.dict [], .int n] ∧ 0 < n ∧ n < 1000000000000000000000000000000 ∧ ∀ r, 0 ≤ r → r < n → P (int r)
theorem e_take {n : Int} {P : T → Prop} {x : XP} : S_l_take [.dict [], .int n] P x = (0 < n ∧ n < 1000000000000000000000000000000 ∧ ∀ r : Int, 0 ≤ r → r < n → P (int r)) := propext ⟨fun ⟨m, e, h⟩ => by
  cases e
  exact h, fun h => ⟨n, rfl, h⟩⟩
section
variable {wi : WI} {wg : WG} {wb : WS} {wt : WT} {we : WE} {C : Ctl} {ρ : Rho} {vs : List Nat} {x : XP}
/-- a for over what is known -/
theorem for_of (ds : List PyData) (Inv : Nat → Rho → Prop) (hi : ∀ P : List PyData → Prop, P ds → wi (C.xc ρ) ρ P) (h0 : Inv 0 ρ)
    (hs : ∀ (i : Nat) d ρ', ds[i]? = some d → Inv i ρ' → wg d ρ' fun ρ2 => wb { C with nx := Inv (i + 1), ct := Inv (i + 1), bk := C.nx } ρ2) (hd : ∀ ρ', Inv ds.length ρ' → C.nx ρ') : dFor wi wg wb C ρ := hi _ ⟨Inv, h0, hs, hd⟩
theorem for_rng (lo : Int) (n : Nat) (Inv : Nat → Rho → Prop) (hi : ∀ P : List PyData → Prop, P (rngD lo n) → wi (C.xc ρ) ρ P) (h0 : Inv 0 ρ)
    (hs : ∀ (i : Nat) ρ', i < n → Inv i ρ' → wg (.int (lo + (i : Nat))) ρ' fun ρ2 => wb { C with nx := Inv (i + 1), ct := Inv (i + 1), bk := C.nx } ρ2) (hd : ∀ ρ', Inv n ρ' → C.nx ρ') : dFor wi wg wb C ρ :=
  for_of (rngD lo n) Inv hi h0 (fun i d ρ' e inv => by
    have hlt : i < n := by
      have := (List.getElem?_eq_some_iff.mp e).1
      rw [rngD_len] at this
      exact this
    rw [rngD_get hlt] at e
    cases e
    exact hs i ρ' hlt inv) fun ρ' h => hd ρ' (by rw [rngD_len] at h; exact h)
/-- [f d for d in ds if p d] -/
theorem lc_filter {P : T → Prop} (ds : List PyData) (p : PyData → Bool) (f : PyData → T) (hi : ∀ P : List PyData → Prop, P ds → wi x ρ P) (hl : ds.length < lim)
    (he : ∀ (i : Nat) d (Q : T → Prop) (R : Prop), ds[i]? = some d → (p d = true → Q (f d)) → (p d = false → R) → wg d (wipeR ρ vs) fun ρ2 => wt noX ρ2 fun k => (k = true → we noX ρ2 Q) ∧ (k = false → R)) (h : P (.node ((ds.filter p).map f))) : dLc wi wg wt we vs x ρ P :=
  hi _ ⟨hl, fun i acc => acc = ((ds.take i).filter p).map f, rfl, fun i d acc e inv => he i d (fun t => acc ++ [t] = ((ds.take (i + 1)).filter p).map f) (acc = ((ds.take (i + 1)).filter p).map f) e (fun q => by
      rw [inv, List.take_add_one, e, List.filter_append, List.map_append]
      simp [q]) (fun q => by
      rw [inv, List.take_add_one, e, List.filter_append, List.map_append]
      simp [q]), fun acc inv => by
    rw [inv, List.take_length]
    exact h⟩
/-- [f d for d in ds] -/
theorem lc_map {P : T → Prop} (ds : List PyData) (f : PyData → T) (hi : ∀ P : List PyData → Prop, P ds → wi x ρ P) (hl : ds.length < lim)
    (he : ∀ (i : Nat) d (Q : T → Prop) (R : Prop), ds[i]? = some d → Q (f d) → wg d (wipeR ρ vs) fun ρ2 => (true = true → we noX ρ2 Q) ∧ (true = false → R)) (h : P (.node (ds.map f))) : dLc wi wg dYes we vs x ρ P :=
  lc_filter ds (fun _ => true) f hi hl (fun i d Q R e q _ => he i d Q R e (q rfl)) (by
    rw [List.filter_eq_self.mpr fun _ _ => rfl]
    exact h)
/-- one by one, with draws -/
theorem lc_inv {P : T → Prop} (ds : List PyData) (Inv : Nat → List T → Prop) (hi : ∀ P : List PyData → Prop, P ds → wi x ρ P) (hl : ds.length < lim) (h0 : Inv 0 [])
    (he : ∀ (i : Nat) d acc, ds[i]? = some d → Inv i acc → wg d (wipeR ρ vs) fun ρ2 => wt noX ρ2 fun k => (k = true → we noX ρ2 fun t => Inv (i + 1) (acc ++ [t])) ∧ (k = false → Inv (i + 1) acc)) (h : ∀ acc, Inv ds.length acc → P (.node acc)) : dLc wi wg wt we vs x ρ P :=
  hi _ ⟨hl, Inv, h0, he, h⟩
end
theorem len_intsD (ns : List Int) : (intsD ns).length = ns.length := List.length_map _
theorem get_intsD {ns : List Int} {i : Nat} {d : PyData} (h : (intsD ns)[i]? = some d) : ∃ hi : i < ns.length, d = .int ns[i] := by
  unfold intsD at h
  rw [List.getElem?_map] at h
  have hi : i < ns.length := by
    cases q : ns[i]? with
    | none =>
      rw [q] at h
      cases h
    | some z => exact (List.getElem?_eq_some_iff.mp q).1
  rw [List.getElem?_eq_getElem hi] at h
  exact ⟨hi, (Option.some.inj h).symm⟩
theorem atI_ints {ns : List Int} {k : Int} (h0 : 0 ≤ k) (h : k < ns.length) : atI (intsD ns) k = some (.int (ns.getD k.toNat 0)) := by
  have hk : k.toNat < ns.length := by omega
  have e : atI (intsD ns) ((k.toNat : Nat) : Int) = some (.int (ns.getD k.toNat 0)) := atI_nat (by
    unfold intsD
    rw [List.getElem?_map, List.getElem?_eq_getElem hk, List.getD_eq_getElem?_getD, List.getElem?_eq_getElem hk] <;> rfl)
  rw [show ((k.toNat : Nat) : Int) = k by omega] at e
  exact e
theorem atI_ints_last {ns : List Int} (h : ns ≠ []) : atI (intsD ns) (-1) = some (.int (ns.getD (ns.length - 1) 0)) := by
  have hl : 0 < ns.length := List.length_pos_iff.mpr h
  unfold atI ixN
  have e : (intsD ns).length = ns.length := List.length_map _
  rw [e, if_neg (by decide), if_pos (by omega)]
  show (intsD ns)[(-1 + (ns.length : Int)).toNat]? = _
  rw [show (-1 + (ns.length : Int)).toNat = ns.length - 1 by omega]
  unfold intsD
  rw [List.getElem?_map, List.getD_eq_getElem?_getD, List.getElem?_eq_getElem (by omega)] <;> rfl
/-- an own list of whole numbers -/
def nodeI (ns : List Int) : T := .node (ns.map fun i => .leaf (.int i))
theorem nodeI_eq (ns : List Int) : nodeI ns = .node ((intsD ns).map .leaf) := by
  unfold nodeI intsD
  rw [List.map_map] <;> rfl
theorem nodeI_dat (ns : List Int) : (nodeI ns).dat = .list (intsD ns) := by
  rw [nodeI_eq]
  show PyData.list (T.dats _) = _
  rw [dats_leaf]
theorem nodeI_snoc (ns : List Int) (x : Int) : T.node ((ns.map fun i => T.leaf (.int i)) ++ [.leaf (.int x)]) = nodeI (ns ++ [x]) := by
  unfold nodeI
  rw [List.map_append] <;> rfl
theorem dat_eq (ts : List T) : (T.node ts).dat = .list (ts.map T.dat) := by
  show PyData.list (T.dats _) = _
  rw [dats_eq]
/-- data of a depth, of short lists -/
def Sm : Nat → PyData → Prop
  | n, .none => True
  | n, .bool _ => True
  | n, .int _ => True
  | n, .str x => PySem.PyData.strOk x = true
  | n + 1, .list xs => xs.length < 1000 ∧ ∀ x ∈ xs, Sm n x
  | n + 1, .tuple xs => xs.length < 1000 ∧ ∀ x ∈ xs, Sm n x
  | _, _ => False
theorem sm_int {n : Nat} {i : Int} : Sm n (.int i) := by cases n <;> trivial
theorem sm_bool {n : Nat} {i : Bool} : Sm n (.bool i) := by cases n <;> trivial
theorem sm_none {n : Nat} : Sm n .none := by cases n <;> trivial
theorem layAll_of : ∀ {xs : List PyData}, (∀ x ∈ xs, x.canLay0 = true) → PyData.canLayAll0 xs = true
  | [], _ => rfl
  | x :: xs, h => by
    rw [PyData.canLayAll0, h x (List.mem_cons_self ..), layAll_of fun y hy => h y (List.mem_cons_of_mem _ hy)]
    rfl
theorem depthAll_of {n : Nat} : ∀ {xs : List PyData}, (∀ x ∈ xs, x.depth ≤ n) → PyData.depthAll xs ≤ n
  | [], _ => Nat.zero_le _
  | x :: xs, h => by
    show max x.depth (PyData.depthAll xs) ≤ n
    exact Nat.max_le.mpr ⟨h x (List.mem_cons_self ..), depthAll_of fun y hy => h y (List.mem_cons_of_mem _ hy)⟩
theorem Sm.lay : ∀ (n : Nat) (d : PyData), Sm n d → d.canLay0 = true ∧ d.depth ≤ n
  | n, .none, _ => ⟨rfl, Nat.zero_le _⟩
  | n, .bool _, _ => ⟨rfl, Nat.zero_le _⟩
  | n, .int _, _ => ⟨rfl, Nat.zero_le _⟩
  | n, .str x, h => ⟨by simpa [PyData.canLay0, Sm] using h, Nat.zero_le _⟩
  | n + 1, .list xs, h => by
    obtain ⟨_, h⟩ := h
    refine ⟨by simp only [PyData.canLay0]; exact layAll_of fun x hx => (Sm.lay n x (h x hx)).1, ?_⟩
    simp only [PyData.depth]
    have := depthAll_of (n := n) fun x hx => (Sm.lay n x (h x hx)).2
    omega
  | n + 1, .tuple xs, h => by
    obtain ⟨_, h⟩ := h
    refine ⟨by simp only [PyData.canLay0]; exact layAll_of fun x hx => (Sm.lay n x (h x hx)).1, ?_⟩
    simp only [PyData.depth]
    have := depthAll_of (n := n) fun x hx => (Sm.lay n x (h x hx)).2
    omega
  | 0, .list _, h => h.elim
  | 0, .tuple _, h => h.elim
  | 0, .dict _, h => h.elim
  | n + 1, .dict _, h => h.elim
theorem Sm.shaped {n : Nat} {d : PyData} (h : Sm n d) (hn : n ≤ 64) : SeqAt.shaped d = true := by
  obtain ⟨h1, h2⟩ := Sm.lay n d h
  unfold SeqAt.shaped
  rw [h1, decide_eq_true (show d.depth ≤ 64 by omega)]
  rfl
theorem Sm.eqv {n : Nat} {d : PyData} (h : Sm n d) (hn : n ≤ 64) : PyData.eqv d d = true := eqv_eq (h.shaped hn)
theorem lt_lim {n : Nat} (h : n < 1000) : n < lim := Nat.lt_of_lt_of_le h (by decide)
end Dd
namespace Dd
open PySem L2
/-! ### list(range(n)) -/
/-! ### a place of an own list of own lists -/
theorem rep1 {α : Type} (x : α) : ∀ n : Nat, (List.replicate n [x]).flatten = List.replicate n x
  | 0 => rfl
  | n + 1 => by
    rw [List.replicate_succ, List.flatten_cons, rep1 x n, List.replicate_succ] <;> rfl
theorem e_mulL {x : PyData} {i : Int} {P : T → Prop} : rdMul (.list [x]) (.int i) P = (0 ≤ i ∧ i ≤ 1000 ∧ P (.node (List.replicate i.toNat (.leaf x)))) := propext ⟨fun ⟨xs, j, e1, e2, h0, h1, _, p⟩ => by
  cases e1
  cases e2
  rw [rep1, List.map_replicate] at p
  exact ⟨h0, h1, p⟩, fun ⟨h0, h1, p⟩ => ⟨[x], i, rfl, rfl, h0, h1, by show 1 ≤ 10; decide, by
  rw [rep1, List.map_replicate]
  exact p⟩⟩
theorem e_addL {xs ys : List PyData} {P : T → Prop} : rdAdd (.list xs) (.list ys) P = (xs.length + ys.length ≤ lim ∧ P (.node ((xs ++ ys).map .leaf))) := propext ⟨fun h => h.elim (fun ⟨a, b, e1, e2, hl, p⟩ => by
  cases e1
  cases e2
  exact ⟨hl, p⟩) fun ⟨a, b, e1, _⟩ => (by cases e1), fun ⟨hl, p⟩ => .inl ⟨xs, ys, rfl, rfl, hl, p⟩⟩
theorem e_addT {xs ys : List PyData} {P : T → Prop} : rdAdd (.tuple xs) (.tuple ys) P = (xs ≠ [] ∧ xs.length + ys.length ≤ lim ∧ P (.leaf (.tuple (xs ++ ys)))) := propext ⟨fun h => h.elim (fun ⟨a, b, e1, _⟩ => (by cases e1)) fun ⟨a, b, e1, e2, h0, hl, p⟩ => by
  cases e1
  cases e2
  exact ⟨h0, hl, p⟩, fun ⟨h0, hl, p⟩ => .inr ⟨xs, ys, rfl, rfl, h0, hl, p⟩⟩
theorem intsD_inj : ∀ {a b : List Int}, intsD a = intsD b → a = b := fun {a} => by
  induction a with
  | nil =>
    intro b hb
    cases b with
    | nil => rfl
    | cons y b => cases hb
  | cons x a ih =>
    intro b hb
    cases b with
    | nil => cases hb
    | cons y b =>
      have h1 : PyData.int x = .int y ∧ intsD a = intsD b := by simpa [intsD] using hb
      cases h1.1
      rw [ih h1.2]
theorem e_sumI {ns : List Int} {P : T → Prop} : cSum [.list (intsD ns)] P = P (int ns.sum) := propext ⟨fun ⟨ms, e, p⟩ => by
  have h : intsD ns = intsD ms := by
    injection e with e1 _
    injection e1
  rw [intsD_inj h]
  exact p, fun p => ⟨ns, rfl, p⟩⟩
theorem frz_nil : frzR [] = [] := rfl
theorem frz_cons {ρ : Rho} {o : Option T} : frzR (o :: ρ) = Option.map T.frz o :: frzR ρ := rfl
theorem frz_leaf {d : PyData} : (T.leaf d).frz = .leaf d := rfl
theorem frz_node {ts : List T} : (T.node ts).frz = .leaf (T.node ts).dat := rfl
theorem frz_own {p : Addr} {t : T} : (T.own p t).frz = .leaf t.dat := rfl
theorem frz_ins {C : Addr} {ks : List Str} {ts : List T} : (T.ins C ks ts).frz = .leaf (T.ins C ks ts).dat := rfl
theorem frz_dic {ks : List Key} {ts : List T} : (T.dic ks ts).frz = .leaf (T.dic ks ts).dat := rfl
theorem frz_diT {ks : List (List Key)} {ts : List T} : (T.diT ks ts).frz = .leaf (T.diT ks ts).dat := rfl
theorem frz_sto {m : Addr → Option T} : (T.sto m).frz = .fro fun p => (m p).map T.dat := rfl
theorem flat_i {i : Int} : flatD (.int i) = true := rfl
theorem flat_b {i : Bool} : flatD (.bool i) = true := rfl
theorem flat_n : flatD .none = true := rfl
theorem flat_s {i : Str} : flatD (.str i) = true := rfl
end Dd
/-! Promises and mathematics that several laws use. -/
namespace Dd
open PySem L2
def tkOk (x : Int) : Prop := 1 ≤ x ∧ x ≤ 1000
/-! ### the greatest number that divides both -/
theorem gcd_ok {a b : Int} (ha : tkOk a) (hb : tkOk b) : 0 < (Int.gcd a b : Int) ∧ (Int.gcd a b : Int) ≤ 1000 := by
  have h1 : 0 < Int.gcd a b := Int.gcd_pos_of_ne_zero_left _ (by have := ha.1; omega)
  have h2 : (Int.gcd a b : Int) ≤ a := Int.le_of_dvd (by have := ha.1; omega) (Int.gcd_dvd_left ..)
  have := ha.2
  omega
theorem small_mul {i j : Int} (hi : i.natAbs < 2 ^ 200) (hj : j.natAbs < 2 ^ 200) : CMulW i j := wide_mul hi hj (by decide) (by decide) (by decide)
theorem small_lt {i : Int} (h0 : 0 ≤ i) (h : i < 1000000000000000000000000000000) : i.natAbs < 2 ^ 200 := Nat.lt_of_lt_of_le (show i.natAbs < 1000000000000000000000000000000 by omega) (by decide)
theorem div_le {a b : Int} (ha : tkOk a) (hb : tkOk b) : 0 ≤ b / (Int.gcd a b : Int) ∧ b / (Int.gcd a b : Int) ≤ 1000 := by
  obtain ⟨g0, g1⟩ := gcd_ok ha hb
  have h1 := hb.1
  have h2 := hb.2
  exact ⟨Int.ediv_nonneg (by omega) (by omega), Int.le_trans (Int.ediv_le_self _ (by omega)) h2⟩
end Dd
/-! Tables of whole numbers. -/
namespace Dd
open PySem L2
theorem Sm.mono : ∀ {n m : Nat} {d : PyData}, Sm n d → n ≤ m → Sm m d
  | _, _, .none, _, _ => sm_none
  | _, _, .bool _, _, _ => sm_bool
  | _, _, .int _, _, _ => sm_int
  | n, m, .str x, h, _ => by
    cases n <;> cases m <;> exact h
  | n + 1, m + 1, .list xs, h, k => ⟨h.1, fun x hx => Sm.mono (h.2 x hx) (by omega)⟩
  | n + 1, m + 1, .tuple xs, h, k => ⟨h.1, fun x hx => Sm.mono (h.2 x hx) (by omega)⟩
  | 0, _, .list _, h, _ => h.elim
  | 0, _, .tuple _, h, _ => h.elim
  | 0, _, .dict _, h, _ => h.elim
  | n + 1, _, .dict _, h, _ => h.elim
  | n + 1, 0, .list _, h, k => by omega
  | n + 1, 0, .tuple _, h, k => by omega
def at2 (rows : List (List Int)) (i j : Nat) : Int := (rows.getD i []).getD j 0
def set2 (rows : List (List Int)) (i j : Nat) (v : Int) : List (List Int) := rows.set i ((rows.getD i []).set j v)
structure TabOk (n : Nat) (M : Int) (rows : List (List Int)) : Prop where
  len : rows.length = n
  row : ∀ r ∈ rows, r.length = n
  val : ∀ i j, 0 ≤ at2 rows i j ∧ at2 rows i j < M
  dia : ∀ i, at2 rows i i = 0
def Sym (rows : List (List Int)) : Prop := ∀ i j, at2 rows i j = at2 rows j i
theorem getD_len {n : Nat} {rows : List (List Int)} (h : ∀ r ∈ rows, r.length = n) {i : Nat} (hi : i < rows.length) : (rows.getD i []).length = n := by
  rw [List.getD_eq_getElem?_getD, List.getElem?_eq_getElem hi]
  exact h _ (List.getElem_mem _)
theorem at2_set2 {n : Nat} {rows : List (List Int)} (hl : rows.length = n) (hr : ∀ r ∈ rows, r.length = n) {i j : Nat} (hi : i < n) (hj : j < n) (v : Int) (a b : Nat) : at2 (set2 rows i j v) a b = if a = i ∧ b = j then v else at2 rows a b := by
  unfold at2 set2
  have hli := getD_len hr (show i < rows.length by omega)
  by_cases ha : a = i
  · subst ha
    rw [show (rows.set a ((rows.getD a []).set j v)).getD a [] = (rows.getD a []).set j v by
      rw [List.getD_eq_getElem?_getD, List.getElem?_set_self (by omega)] <;> rfl]
    by_cases hb : b = j
    · subst hb
      rw [if_pos ⟨rfl, rfl⟩, List.getD_eq_getElem?_getD, List.getElem?_set_self (by omega)] <;> rfl
    · rw [if_neg (fun z => hb z.2), List.getD_eq_getElem?_getD, List.getElem?_set_ne (Ne.symm hb), ← List.getD_eq_getElem?_getD]
  · rw [if_neg (fun z => ha z.1)]
    rw [show (rows.set i ((rows.getD i []).set j v)).getD a [] = rows.getD a [] by
      rw [List.getD_eq_getElem?_getD, List.getElem?_set_ne (Ne.symm ha), ← List.getD_eq_getElem?_getD]]
theorem set2_len (rows : List (List Int)) (i j : Nat) (v : Int) : (set2 rows i j v).length = rows.length := by unfold set2; rw [List.length_set]
theorem set2_row {n : Nat} {rows : List (List Int)} (hl : rows.length = n) (hr : ∀ r ∈ rows, r.length = n) {i j : Nat} (hi : i < n) (v : Int) : ∀ r ∈ set2 rows i j v, r.length = n := fun r h => by
  unfold set2 at h
  rcases List.mem_or_eq_of_mem_set h with h | h
  · exact hr r h
  · rw [h, List.length_set]
    exact getD_len hr (by omega)
theorem TabOk.set {n : Nat} {M : Int} {rows : List (List Int)} (h : TabOk n M rows) {i j : Nat} {v : Int} (hi : i < n) (hj : j < n) (hij : i ≠ j) (h0 : 0 ≤ v) (h1 : v < M) : TabOk n M (set2 rows i j v) := by
  refine ⟨by rw [set2_len]; exact h.len, set2_row h.len h.row hi v, fun a b => ?_, fun a => ?_⟩
  · rw [at2_set2 h.len h.row hi hj]
    split
    · exact ⟨h0, h1⟩
    · exact h.val a b
  · rw [at2_set2 h.len h.row hi hj, if_neg (fun z => hij (z.1.symm.trans z.2))]
    exact h.dia a
/-- a place and its mirror are written with the same number -/
theorem Sym.set {n : Nat} {rows : List (List Int)} (s : Sym rows) (hl : rows.length = n) (hr : ∀ r ∈ rows, r.length = n) {i j : Nat} {v : Int} (hi : i < n) (hj : j < n) (hij : i ≠ j) : Sym (set2 (set2 rows i j v) j i v) := fun a b => by
  have e1 := at2_set2 (show (set2 rows i j v).length = n by rw [set2_len]; exact hl) (set2_row hl hr hi v) hj hi v
  have e2 := at2_set2 hl hr hi hj v
  rw [e1, e1, e2, e2]
  by_cases c1 : a = j ∧ b = i
  · rw [if_pos c1]
    by_cases c2 : b = j ∧ a = i
    · rw [if_pos c2]
    · rw [if_neg c2, if_pos ⟨c1.2, c1.1⟩]
  · rw [if_neg c1]
    by_cases c2 : a = i ∧ b = j
    · rw [if_pos c2, if_pos ⟨c2.2, c2.1⟩]
    · rw [if_neg c2, if_neg (fun z => c2 ⟨z.2, z.1⟩), if_neg (fun z => c1 ⟨z.2, z.1⟩)]
      exact s a b
/-! ### == of lists and tables -/
end Dd
/-! Strokes: what a death moves. -/
namespace Dd
open PySem L2
/-- c 0 + .. + c (n - 1) -/
def sumN (c : Nat → Int) : Nat → Int
  | 0 => 0
  | n + 1 => sumN c n + c n
def cst (rows : List (List Int)) (tk : List Int) (d k : Nat) : Int := at2 rows d k * (tk.getD k 0 / (Int.gcd (tk.getD d 0) (tk.getD k 0) : Int))
structure Bts (n : Nat) (rows : List (List Int)) (tk : List Int) : Prop where
  rl : rows.length = n
  rr : ∀ r ∈ rows, r.length = n
  tl : tk.length = n
  tk : ∀ x ∈ tk, tkOk x
  bd : ∀ i j, (at2 rows i j).natAbs < 2 ^ 100
  sz : n ≤ 60
theorem getD_mem {α : Type} {xs : List α} {i : Nat} {d : α} (h : i < xs.length) : xs.getD i d ∈ xs := by
  rw [List.getD_eq_getElem?_getD, List.getElem?_eq_getElem h]
  exact List.getElem_mem _
theorem Bts.t {n : Nat} {rows : List (List Int)} {tk : List Int} (h : Bts n rows tk) {i : Nat} (hi : i < n) : tkOk (tk.getD i 0) := h.tk _ (getD_mem (by rw [h.tl]; exact hi))
theorem Bts.row {n : Nat} {rows : List (List Int)} {tk : List Int} (h : Bts n rows tk) {i : Nat} (hi : i < n) : (rows.getD i []).length = n := getD_len h.rr (by rw [h.rl]; exact hi)
def deadD : Option Nat → PyData
  | none => .none
  | some d => .int (d : Nat)
/-- how an own list of whole numbers is turned at a place -/
theorem getD_set {xs : List Int} {i j : Nat} {v : Int} (h : i < xs.length) : (xs.set i v).getD j 0 = if j = i then v else xs.getD j 0 := by
  rw [List.getD_eq_getElem?_getD]
  by_cases c : j = i
  · subst c
    rw [List.getElem?_set_self h, if_pos rfl] <;> rfl
  · rw [List.getElem?_set_ne (Ne.symm c), if_neg c, ← List.getD_eq_getElem?_getD]
theorem mapI1_set (xs : List Int) (i : Nat) (v : Int) : (xs.map fun x => T.leaf (.int x)).set i (.leaf (.int v)) = (xs.set i v).map fun x => T.leaf (.int x) := by rw [List.map_set]
theorem nabs_mul {a b : Int} {m n : Nat} (ha : a.natAbs < 2 ^ m) (hb : b.natAbs < 2 ^ n) : (a * b).natAbs < 2 ^ (m + n) := wide_lt ha hb
theorem nabs_mono {a : Int} {m n : Nat} (h : a.natAbs < 2 ^ m) (hmn : m ≤ n) : a.natAbs < 2 ^ n := Nat.lt_of_lt_of_le h (Nat.pow_le_pow_right (by decide) hmn)
theorem nabs_le {a : Int} {n : Nat} (h0 : 0 ≤ a) (h : a ≤ 1000) (hn : 10 ≤ n) : a.natAbs < 2 ^ n := nabs_mono (m := 10) (show a.natAbs < 2 ^ 10 by omega) hn
end Dd
/-! Strokes: laid coins, gains. -/
namespace Dd
open PySem L2
theorem sumN_abs {c : Nat → Int} {B : Nat} : ∀ {n : Nat}, (∀ i, i < n → (c i).natAbs ≤ B) → (sumN c n).natAbs ≤ n * B
  | 0, _ => Nat.zero_le _
  | n + 1, h => by
    have h1 := sumN_abs (n := n) fun i hi => h i (by omega)
    have h2 := h n (by omega)
    show (sumN c n + c n).natAbs ≤ (n + 1) * B
    rw [Nat.succ_mul]
    omega
theorem Bts.cst {n : Nat} {rows : List (List Int)} {tk : List Int} (h : Bts n rows tk) {d k : Nat} (hd : d < n) (hk : k < n) : (cst rows tk d k).natAbs < 2 ^ 110 := by
  obtain ⟨u0, u1⟩ := div_le (h.t hd) (h.t hk)
  exact nabs_mul (m := 100) (n := 10) (h.bd d k) (nabs_le u0 u1 (by decide))
theorem Bts.sum {n : Nat} {rows : List (List Int)} {tk : List Int} (h : Bts n rows tk) {d : Nat} (hd : d < n) : (sumN (Dd.cst rows tk d) n).natAbs < 2 ^ 117 := by
  have h1 := sumN_abs (c := Dd.cst rows tk d) (B := 2 ^ 110) (n := n) fun i hi => Nat.le_of_lt (h.cst hd hi)
  have h2 : n * 2 ^ 110 ≤ 60 * 2 ^ 110 := Nat.mul_le_mul_right _ h.sz
  exact Nat.lt_of_le_of_lt (Nat.le_trans h1 h2) (by decide)
theorem snocI (xs : List Int) (v : Int) : xs.map (fun i => T.leaf (.int i)) ++ [T.leaf (.int v)] = (xs ++ [v]).map fun i => T.leaf (.int i) := by rw [List.map_append]; rfl
theorem mem_set {α : Type} {xs : List α} {i : Nat} {v x : α} (h : x ∈ xs.set i v) : x ∈ xs ∨ x = v := by
  rcases List.mem_or_eq_of_mem_set h with z | z
  · exact .inl z
  · exact .inr z
/-- a for over things that are drawn -/
theorem for_raw {wi : WI} {wg : WG} {wb : WS} {C : Ctl} {ρ : Rho} (h : wi (C.xc ρ) ρ fun ds => ∃ Inv : Nat → Rho → Prop, Inv 0 ρ ∧
  (∀ i d ρ', ds[i]? = some d → Inv i ρ' → wg d ρ' fun ρ2 => wb { C with nx := Inv (i + 1), ct := Inv (i + 1), bk := C.nx } ρ2) ∧ ∀ ρ', Inv ds.length ρ' → C.nx ρ') : dFor wi wg wb C ρ := h
def wtOk (x : Int) : Prop := 0 ≤ x ∧ x < 10000000000000000000000
end Dd
/-! The ring of loads. -/
namespace Dd
open PySem L2
/-- a comprehension over things that are drawn -/
theorem lc_raw {wi : WI} {wg : WG} {wt : WT} {we : WE} {x : XP} {ρ : Rho} {vs : List Nat} {P : T → Prop} (h : wi x ρ fun ds => ds.length < lim ∧ ∃ Inv : Nat → List T → Prop, Inv 0 [] ∧
    (∀ (i : Nat) d acc, ds[i]? = some d → Inv i acc → wg d (wipeR ρ vs) fun ρ2 => wt noX ρ2 fun k => (k = true → we noX ρ2 fun t => Inv (i + 1) (acc ++ [t])) ∧ (k = false → Inv (i + 1) acc)) ∧ (∀ acc, Inv ds.length acc → P (.node acc))) : dLc wi wg wt we vs x ρ P := h
def wtB (x : Int) : Prop := 0 ≤ x ∧ x < 100000000000000000000000000000000000000000000000000
theorem wtOk.big {x : Int} (h : wtOk x) : wtB x := ⟨h.1, Int.lt_of_lt_of_le h.2 (by decide)⟩
theorem node_ints (xs : List Int) : T.node ((intsD xs).map .leaf) = nodeI xs := by
  unfold nodeI intsD
  rw [List.map_map]
  rfl
/-- over the whole numbers of a list -/
theorem lc_ints {wi : WI} {wg : WG} {we : WE} {x : XP} {ρ : Rho} {vs : List Nat} {P : T → Prop} (xs : List Int) (f : Int → T) (hi : ∀ P : List PyData → Prop, P (intsD xs) → wi x ρ P) (hl : xs.length < lim)
    (he : ∀ (a : Int) (Q : T → Prop) (R : Prop), a ∈ xs → Q (f a) → wg (.int a) (wipeR ρ vs) fun ρ2 => (true = true → we noX ρ2 Q) ∧ (true = false → R)) (h : P (.node (xs.map f))) : dLc wi wg dYes we vs x ρ P := by
  refine hi _ ⟨by rw [len_intsD]; exact hl, fun i acc => acc = (xs.take i).map f, rfl, fun i d acc e inv => ?_, fun acc inv => ?_⟩
  · obtain ⟨hi, rfl⟩ := get_intsD e
    refine he _ (fun t => acc ++ [t] = (xs.take (i + 1)).map f) (acc = (xs.take (i + 1)).map f) (List.getElem_mem hi) ?_
    rw [inv, List.take_add_one, List.getElem?_eq_getElem hi, List.map_append]
    rfl
  · rw [len_intsD, List.take_length] at inv
    rw [inv]
    exact h
end Dd
/-! Rings turned, stretched, joined. -/
namespace Dd
open PySem L2
/-! stretched -/
/-! two neighbours joined -/
def join (a : Nat) (xs : List Int) : List Int := xs.take a ++ [xs.getD a 0 + xs.getD (a + 1) 0] ++ xs.drop (a + 2)
def joinR (a : Nat) (rows : List (List Int)) : List (List Int) := rows.take a ++ [(List.range (rows.getD a []).length).map fun j => (rows.getD a []).getD j 0 + (rows.getD (a + 1) []).getD j 0] ++ rows.drop (a + 2)
end Dd
/-! Shares. -/
/-! More rules: a list unpacked; rows of an own table changed one by one; insert. -/
namespace Dd
open PySem L2
/-! ### rows of an own table -/
theorem Env.gone {b : Option Addr} {B G H : Hp} {σ : L2.St} {ρ : Rho} (E : Env b B G H σ ρ) (j : Nat) (x : Option V) : Env b B G H (σ.set j x) (ρ.set j none) := by
  obtain ⟨hl, fps, h1, h2, h3⟩ := E
  refine ⟨by rw [List.length_set, List.length_set]; exact hl, fps, fun i t e => ?_, h2, h3⟩
  have n : i ≠ j := fun z => by
    subst z
    by_cases c : i < ρ.length
    · rw [List.getElem?_set_self c] at e
      cases e
    · rw [List.getElem?_eq_none (by rw [List.length_set]; omega)] at e
      cases e
  rw [List.getElem?_set_ne (Ne.symm n)] at e ⊢
  exact h1 i t e
section
variable {X : Cx} {E : SX} {e : Expr} {we : WE} {pos p px py fpos apos cpos : Pos}
theorem TrAll.toRp {b : Option Addr} {G H : Hp} : ∀ {fp : List Addr} {vs : List V} {ds : List PyData}, TrAll b G H fp vs (ds.map T.leaf) → RpAll b G vs ds
  | _, _, [], h => by
    cases h
    exact .nil
  | _, _, d :: ds, h => by
    cases h with
    | cons q r k =>
      cases q with
      | leaf rd => exact .cons rd (TrAll.toRp r)
end
/-! ### own lists lent for a fresh tree of flat leaves -/
end Dd
/-! x in a list; an own list's settled item; xs[::-1]. -/
namespace Dd
open PySem L2
theorem room65 {k : Nat} {A : Around} (r : Room k A) : A.units + 65 < cLine := by have := r.un; omega
theorem asL_I {P : List PyData → Prop} {ns : List Int} : asL P (nodeI ns) = P (intsD ns) := by
  unfold asL
  rw [nodeI_dat]
end Dd
/-! Ties, faults of tables, the star. -/
namespace Dd
open PySem L2
abbrev Ties := Option (List (Nat × Nat))
def tieB : Ties → Nat → Nat → Bool
  | none, i, j => decide (i ≠ j)
  | some ts, i, j => decide ((i, j) ∈ ts) || decide ((j, i) ∈ ts)
/-! the first one found -/
/-! covers -/
/-! who is near -/
theorem any_map {α : Type} (l : List α) (g : α → Bool) : (l.map g).any id = l.any g := by
  rw [List.any_map]
  rfl
/-! the star -/
end Dd
/-! Tables laid within weights, covers above them. -/
namespace Dd
open PySem L2
def rs (rows : List (List Int)) (k : Nat) : Int := (rows.getD k []).sum
/-- what is being laid -/
structure LT (n : Nat) (xs : List Int) (o : Ties) (rows : List (List Int)) (left : List Int) (i j : Nat) : Prop where
  rl : rows.length = n
  rr : ∀ r ∈ rows, r.length = n
  ll : left.length = n
  ln : ∀ k, k < n → 0 ≤ left.getD k 0
  le : ∀ k, k < n → left.getD k 0 + rs rows k = 2 * xs.getD k 0
  nn : ∀ a b, a < n → b < n → 0 ≤ at2 rows a b
  self : ∀ a, a < n → at2 rows a a = 0
  tie : ∀ a b, a < n → b < n → 0 < at2 rows a b → tieB o a b = true
  sym : ∀ a b, a < n → b < n → at2 rows a b = at2 rows b a
  zer : ∀ a b, a < n → b < a → ¬ (a < i ∨ (a = i ∧ b < j)) → at2 rows a b = 0
theorem LT.next {n : Nat} {xs : List Int} {o : Ties} {rows : List (List Int)} {left : List Int} {i j : Nat} (h : LT n xs o rows left i j) : LT n xs o rows left i (j + 1) :=
  { h with zer := fun a b ha hb hv => h.zer a b ha hb fun z => hv (by omega) }
theorem LT.row {n : Nat} {xs : List Int} {o : Ties} {rows : List (List Int)} {left : List Int} {i : Nat} (h : LT n xs o rows left i i) : LT n xs o rows left (i + 1) 0 :=
  { h with zer := fun a b ha hb hv => h.zer a b ha hb fun z => hv (by omega) }
end Dd
/-! Texts. -/
namespace Dd
open PySem L2 TL
def strsD (ys : List Str) : List PyData := ys.map .str
theorem rp_strs {b : Option Addr} {G : Hp} : ∀ {ns : List Str} {vs : List V}, RpAll b G vs (strsD ns) → vs = ns.map V.str
  | [], _, .nil => rfl
  | n :: ns, _, .cons (.str _) r => by
    rw [rp_strs (ns := ns) r] <;> rfl
theorem rp_strs' {b : Option Addr} {G : Hp} : ∀ (ns : List Str), RpAll b G (ns.map V.str) (strsD ns)
  | [] => .nil
  | n :: ns => .cons (.str n) (rp_strs' ns)
/-- s[i] -/
def rdIxS : R2D := fun d e P => match d, e with
  | .str z, .int i => z.length ≤ lim ∧ ∃ c, atI z.cps.toList i = some c ∧ P (.leaf (.str ⟨#[c]⟩))
  | _, _ => False
theorem e_ixs {z : Str} {i : Int} {P : T → Prop} : rdIxS (.str z) (.int i) P = (z.length ≤ lim ∧ ∃ c, atI z.cps.toList i = some c ∧ P (.leaf (.str ⟨#[c]⟩))) := rfl
theorem ok_ixS {K : PySem.W.Frag} : RdOk K rIxS rdIxS := fun b G H x y d e P Q g rx ry h k => by
  unfold rdIxS at h
  split at h
  · obtain ⟨hl, c, hc, p⟩ := h
    cases rx
    cases ry
    exact ⟨_, _, c, rfl, rfl, lim_le hl, hc, k G H _ _ [] p g.stp (.leaf (.str _)) fun _ z => nomatch z⟩
  · exact h.elim
/-- x in a tuple of flat things -/
def inF (x : PyData) (xs : List PyData) : Bool := xs.any fun y => eqV (pyV y) (pyV x)
theorem rp_pyV {b : Option Addr} {G : Hp} {v : V} {d : PyData} (r : Rp b G v d) (h : flatD d = true) : v = pyV d := by
  cases r with
  | non => rfl
  | bl k => rfl
  | int i => rfl
  | str x => rfl
  | lst _ _ => cases h
  | tup _ _ => cases h
  | box _ => cases h
  | exc _ => cases h
  | obj _ => cases h
  | ins _ _ _ _ => cases h
  | dic _ _ _ => cases h
  | diT _ _ _ => cases h
theorem rp_pyVs {b : Option Addr} {G : Hp} : ∀ {vs : List V} {ds : List PyData}, RpAll b G vs ds → ds.all flatD = true → vs = ds.map pyV
  | _, _, .nil, _ => rfl
  | _, _, .cons r rs, h => by
    rw [List.all_cons, Bool.and_eq_true] at h
    rw [rp_pyV r h.1, rp_pyVs rs h.2]
    rfl
theorem flatV_pyV {d : PyData} (h : flatD d = true) : flatV (pyV d) = true := by
  cases d <;> first | rfl | cases h
theorem flatV_all : ∀ {ds : List PyData}, ds.all flatD = true → (ds.map pyV).all flatV = true
  | [], _ => rfl
  | d :: ds, h => by
    rw [List.all_cons, Bool.and_eq_true] at h
    rw [List.map_cons, List.all_cons, flatV_pyV h.1, flatV_all h.2]
    rfl
theorem inV_eq (d : PyData) (ds : List PyData) : inV (pyV d) (ds.map pyV) = inF d ds := by
  unfold inV inF
  rw [List.any_map]
  rfl
/-- a sign in a text -/
def rdInS : R2D := fun d e P => match d, e with
  | .str x, .str z => ∃ c, x = ⟨#[c]⟩ ∧ P (boo (decide (c ∈ z.cps.toList)))
  | _, _ => False
theorem e_inS {c : Nat} {z : Str} {P : T → Prop} : rdInS (.str ⟨#[c]⟩) (.str z) P = P (boo (decide (c ∈ z.cps.toList))) := propext ⟨fun ⟨c', e, p⟩ => by cases e; exact p, fun p => ⟨c, rfl, p⟩⟩
theorem ok_inS {K : PySem.W.Frag} : RdOk K (fun x y H Q => ∃ (c : Nat) (z : Str), x = .str ⟨#[c]⟩ ∧ y = .str z ∧ Q (.bl (decide (c ∈ z.cps.toList))) H) rdInS := fun b G H x y d e P Q g rx ry h k => by
  unfold rdInS at h
  split at h
  · obtain ⟨c, rfl, p⟩ := h
    cases rx
    cases ry
    exact ⟨_, _, rfl, rfl, k G H _ _ [] p g.stp (.leaf (.bl _)) fun _ z => nomatch z⟩
  · exact h.elim
section
variable {X : Cx} {E : SX} {e e2 : Expr} {w wa wb we wk : WE} {ws : WA} {pos p apos : Pos}
theorem d_ats (ha : PE X e (tOf X.K X.mg E wa)) (hb : PE X e2 (tOf X.K X.mg E wb)) (hs : PlainIx e2 := by exact fun _ _ => rfl) : PE X (.Subscript e e2 pos) (tOf X.K X.mg E (dOp rdIxS wa wb)) := d_ix ix_str ok_ixS ha hb hs
theorem t_inS (ha : PE X e (tOf X.K X.mg E wa)) (hb : PE X e2 (tOf X.K X.mg E wb)) (hm : behindInMarks .In e2 = false := by rfl) : PT X (.Compare e [.In] [e2] pos) (ttOf X.K X.mg E (dTst (dOp rdInS wa wb))) := t_cmp op_in_sign ok_inS ha hb hm
/-- tuple(xs) -/
def cTuple : CD := fun ds P => match ds with
  | [.list xs] => P (.leaf (.tuple xs))
  | [.tuple xs] => P (.leaf (.tuple xs))
  | _ => False
theorem e_tupl {xs : List PyData} {P : T → Prop} : cTuple [.list xs] P = P (.leaf (.tuple xs)) := rfl
theorem e_tupt {xs : List PyData} {P : T → Prop} : cTuple [.tuple xs] P = P (.leaf (.tuple xs)) := rfl
theorem ok_tuple {K : PySem.W.Frag} : CdOk K (fun xs H Q => ∃ p ys, xs = [.ref p] ∧ ((SqL K H p ys ∧ ∀ l, H l = none → Q (.ref l) (upd H l (.tup ys))) ∨ (SqT K H p ys ∧ Q (.ref p) H))) cTuple := fun b G H vs ds P Q g r h k => by
  unfold cTuple at h
  split at h
  · cases r with
    | cons r1 r2 =>
      cases r2
      cases r1 with
      | lst h1 h2 => exact ⟨_, _, rfl, .inl ⟨.inl (.inl (g.ex _ _ h1)), fun a ha => new_tup g h2 h k ha⟩⟩
  · cases r with
    | cons r1 r2 =>
      cases r2
      cases r1 with
      | tup h1 h2 => exact ⟨_, _, rfl, .inr ⟨.inl (.inl (g.ex _ _ h1)), k G H _ _ [] h g.stp (.leaf (.tup h1 h2)) fun _ z => nomatch z⟩⟩
  · exact h.elim
theorem d_tuple (hm : X.mg "tuple" = none) (ha : PA X [e] (aOf X.K X.mg E ws)) (hg : Gl X "tuple" := by rfl) (he : starEach [e] X.env = (false, eval e X.env) :: starEach [] X.env := by rfl) (hpl : (backTo pos (starEach [] X.env)).any (·.1) = false := by rfl) : PE X (.Call (.Name "tuple" p) [e] [] pos) (tOf X.K X.mg E (dBlt cTuple ws)) :=
  d_ty call_tuple_of ok_tuple hg hm (by decide +kernel) ha (by decide) (by decide) he hpl
/-- sep.join(xs) -/
def asS (P : Str → Prop) (t : T) : Prop := match t with
  | .leaf (.str z) => P z
  | _ => False
theorem asS_s {P : Str → Prop} {z : Str} : asS P (.leaf (.str z)) = P z := rfl
def asX (P : List Str → Prop) (t : T) : Prop := ∃ ys : List Str, t.dat = .list (strsD ys) ∧ P ys
def dJoin (wa wb : WE) : WE := fun x ρ P => wa x ρ (asS fun a => wb x ρ (asX fun ys => (ys.map (·.length)).sum + ys.length * a.length ≤ 1000000 ∧ P (.leaf (.str (Txt.join a ys)))))
theorem d_join (ha : PE X e (tOf X.K X.mg E wa)) (hb : PE X e2 (tOf X.K X.mg E wb)) (hs : starEach [e2] X.env = [(false, eval e2 X.env)] := by rfl) (hbase : attributeBase e "join" X.env (eval e X.env) = eval e X.env := by rfl) (hline : (apos.endLine == pos.line) = true := by rfl) :
    PE X (.Call (.Attribute e "join" apos) [e2] [] pos) (tOf X.K X.mg E (dJoin wa wb)) := PE.of (pe_join ha hb hs hbase hline) fun σ H Q ⟨b, B, G, ρ, xp, P, p, hr, k⟩ => by
  refine ⟨b, B, G, ρ, xp, _, p, hr, fun G1 H1 v t fp ht s1 tr fr => ?_⟩
  unfold asS at ht
  split at ht
  · rename_i a
    cases tr with
    | leaf r =>
      cases r
      have hr1 := hr.stp s1
      refine ⟨⟨_, rfl⟩, tOfD_of ⟨b, B, G1, ρ, xp, fun d => ∃ ys : List Str, d = .list (strsD ys) ∧ (ys.map (·.length)).sum + ys.length * a.length ≤ 1000000 ∧ P (.leaf (.str (Txt.join a ys))), ht, hr1, fun G2 H2 v d hd s2 hr2 rd => ?_⟩⟩
      obtain ⟨ys, rfl, hb, hp⟩ := hd
      cases rd with
      | lst h1 r1 =>
        have e := rp_strs r1
        subst e
        exact ⟨a, _, ys, rfl, rfl, .inl (.inl (.inl (s2.good.ex _ _ h1))), Nat.le_trans hb (by decide), ((k.stp hr.good s1).stp hr1.good s2).leaf s2.good hp (.str _)⟩
  · exact ht.elim
end
theorem strs_len (ys : List Str) : (strsD ys).length = ys.length := List.length_map _
theorem asX_n {P : List Str → Prop} {ys : List Str} : asX P (.node ((strsD ys).map .leaf)) ↔ P ys := by
  unfold asX
  rw [dat_leaves0]
  refine ⟨fun ⟨zs, e, p⟩ => ?_, fun p => ⟨ys, rfl, p⟩⟩
  have e : strsD ys = strsD zs := by injection e
  have inj : ∀ {a b : List Str}, strsD a = strsD b → a = b := fun {a} => by
    induction a with
    | nil => intro b h; cases b with
      | nil => rfl
      | cons _ _ => cases h
    | cons x a ih => intro b h; cases b with
      | nil => cases h
      | cons y b =>
        injection h with h1 h2
        injection h1 with h1
        rw [h1, ih h2]
  rw [inj e]
  exact p
/-! ### names -/
def IsName (z : Str) : Prop := 1 ≤ z.length ∧ z.length ≤ 8 ∧ ∀ c ∈ z.cps.toList, 97 ≤ c ∧ c ≤ 122
def sgn (c : Nat) : Str := ⟨#[c]⟩
theorem join_sgn : ∀ cs : List Nat, tl (Txt.join ⟨#[]⟩ (cs.map sgn)) = cs := fun cs => by
  rw [join_eq, tl_join]
  have e : ∀ cs : List Nat, joinL [] (cs.map fun c => [c]) = cs := fun cs => by
    induction cs with
    | nil => rfl
    | cons c cs ih =>
      cases cs with
      | nil => rfl
      | cons d ds =>
        show [c] ++ ([] ++ joinL [] ((d :: ds).map fun c => [c])) = _
        rw [ih]
        rfl
  rw [show tl ⟨#[]⟩ = [] from rfl, List.map_map]
  exact e cs
theorem sum_sgn : ∀ cs : List Nat, ((cs.map sgn).map (·.length)).sum = cs.length
  | [] => rfl
  | c :: cs => by
    rw [List.map_cons, List.map_cons, List.sum_cons, sum_sgn cs, List.length_cons]
    show 1 + _ = _
    omega
theorem sm_str {n : Nat} {z : Str} (h : ∀ c ∈ z.cps.toList, c < 1114112) : Sm n (.str z) := by
  have e : PySem.PyData.strOk z = true := by
    unfold PySem.PyData.strOk
    rw [← Array.all_toList]
    exact List.all_eq_true.mpr fun c hc => decide_eq_true (h c hc)
  cases n <;> exact e
theorem sm_name {n : Nat} {z : Str} (h : IsName z) : Sm n (.str z) := sm_str fun c hc => by have := h.2.2 c hc; omega
end Dd
/-! Shares added; leaves of trees. -/
namespace Dd
open PySem L2
abbrev Sh := Int × Int
/-- a share: above from nought on, below from one on -/
def ShOk (s : Sh) : Prop := 0 ≤ s.1 ∧ 0 < s.2
/-- bounds of a fold -/
def ShB (C B : Int) (s : Sh) : Prop := 0 ≤ s.1 ∧ 0 < s.2 ∧ s.1 ≤ C * s.2 ∧ s.2 ≤ B
theorem ShB.ok {C B : Int} {s : Sh} (h : ShB C B s) : ShOk s := ⟨h.1, h.2.1⟩
/-! leaves -/
/-! comprehensions over what is told of things -/
section
variable {wi : WI} {wg : WG} {wt : WT} {we : WE} {x : XP} {ρ : Rho} {vs : List Nat} {P : T → Prop} {α : Type}
theorem lc_overF (enc : α → PyData) (xs : List α) (p : α → Bool) (f : α → T) (hi : ∀ P : List PyData → Prop, P (xs.map enc) → wi x ρ P) (hl : xs.length < lim)
    (he : ∀ (a : α) (Q : T → Prop) (R : Prop), a ∈ xs → (p a = true → Q (f a)) → (p a = false → R) → wg (enc a) (wipeR ρ vs) fun ρ2 => wt noX ρ2 fun k => (k = true → we noX ρ2 Q) ∧ (k = false → R)) (h : P (.node ((xs.filter p).map f))) : dLc wi wg wt we vs x ρ P := by
  refine hi _ ⟨by rw [List.length_map]; exact hl, fun i acc => acc = ((xs.take i).filter p).map f, rfl, fun i d acc e inv => ?_, fun acc inv => ?_⟩
  · rw [List.getElem?_map] at e
    cases q : xs[i]? with
    | none => rw [q] at e; cases e
    | some a =>
      rw [q] at e
      cases e
      refine he a (fun t => acc ++ [t] = ((xs.take (i + 1)).filter p).map f) (acc = ((xs.take (i + 1)).filter p).map f) (List.mem_of_getElem? q) (fun z => ?_) (fun z => ?_)
      · rw [inv, List.take_add_one, q, List.filter_append, List.map_append]
        congr 1
        show _ = List.map f (List.filter p [a])
        rw [List.filter_cons, if_pos z]
        rfl
      · rw [inv, List.take_add_one, q, List.filter_append, List.map_append]
        have e : (some a).toList.filter p = [] := by
          show [a].filter p = []
          rw [List.filter_cons, if_neg (by rw [z]; decide)]
          rfl
        rw [e, List.map_nil, List.append_nil]
  · rw [List.length_map, List.take_length] at inv
    rw [inv]
    exact h
end
end Dd
/-! for x in (a, b, c): if test: return e — a, b, c names, perhaps of own lists. -/
/-! Own exceptions: classes whose __init__ takes nothing and keeps its word; raise, try, isinstance. -/
namespace Dd
open PySem L2
/-! ### the way out of a call, with the slots as they stand -/
abbrev wxOf (E : SX) : WX := fun cls d σ H => E σ cls d H
section
variable {X : Cx} {E : SX} {k : Nat} {f C : Addr} {fd : FuncData} {ps : List Str} {sp : Sp} {dvs : List V} {ds : List Value} {x m : Str} {p pos apos : Pos} {e o : Expr} {es : List Expr} {t : TA} {ws : WA} {S : Spec}
theorem run_fnX {pins : List (Addr × Obj)} {σ : L2.St} {H : Hp} {s : Shared} {Q : VK} {us : List Value} {vs : List V} (F : FnOk X.prog X.w X.K X.mg X.base (L2.CX X.prog X.w) k f fd ps sp) (hr : Room k X.A) (hb : Binds X.K fd ps []) (tk : Takes X (wxOf E))
    (I : Inv X pins σ H s) (r : Vals vs us) (h : sp vs H Q (E σ)) : wpAny (model X.prog X.w) X.A (call (.ref f) us) (EP X pins σ Q) X.xe s := by
  have hl : us.length = ps.length := by rw [← r.length]; exact F.len _ _ _ _ h
  have hb2 := hb s us I.kIn (by rw [List.append_nil]; exact hl)
  rw [List.append_nil] at hb2
  refine wpAny_call (codeAny_mono (F.run X.A X.stack s H ⟨us, []⟩ us vs Q (E σ) hr I.env0 hb2 r h) fun r s' hq => ?_)
  cases r with
  | error e => exact tk e s' (XE.of_call I (fun _ _ _ z => z) hq)
  | ok fl =>
    cases fl with
    | ret u => exact I.after hq
    | next => exact False.elim hq
    | brk => exact False.elim hq
    | cont => exact False.elim hq
theorem pe_callX (F : FnOk X.prog X.w X.K X.mg X.base (L2.CX X.prog X.w) k f fd ps sp) (hr : Room k X.A) (hg : Gl X x) (hm : X.mg x = some (.ref f)) (hk : PySem.W.keepIn X.K (.ref f) = true) (hb : Binds X.K fd ps []) (tk : Takes X (wxOf E))
    (ha : PA X (e :: es) t) (hdb : (x == ("__debug__" : Str)) = false := by decide) (he : starEach (e :: es) X.env = (false, eval e X.env) :: starEach es X.env := by rfl) (hpl : (backTo pos (starEach es X.env)).any (·.1) = false := by rfl) :
    PE X (.Call (.Name x p) (e :: es) [] pos) (fun σ H Q => t σ H fun vs H1 => sp vs H1 Q (E σ)) := by
  refine ⟨fun pins s σ H Q I h => ?_⟩
  refine wpAny_Call_Name_kw (ld_glob I hg hm ?_ hdb)
  refine PySem.W.callWith_K (h₀ := X.base) I.ok.mod.kin hk (thn (ha.run pos pins s σ H _ I h) fun us s1 ⟨vs, H1, I1, r, q⟩ => ⟨I1.kIn, ?_⟩) he hpl
  exact run_fnX F hr hb tk I1 r q
/-- a def that may raise, called by its name -/
structure CalX (P : Program) (w : World) (K : PySem.W.Frag) (mg : Str → Option Value) (base : Heap) (x : Str) (ps : List Str) (k : Nat) (S : Spec) : Prop where
  ex : ∃ f fd, FnOk P w K mg base (L2.CX P w) k f fd ps (spOf K mg S) ∧ mg x = some (.ref f) ∧ PySem.W.keepIn K (.ref f) = true ∧ Binds K fd ps []
theorem CalX.mk' {P : Program} {w : World} {K : PySem.W.Frag} {mg : Str → Option Value} {base : Heap} {x qual : Str} {ps : List Str} {k : Nat} {S : Spec} {st : Stmt} {f : Addr} {fd : FuncData} (F : Fun K x qual st f fd) (h : FnOk P w K mg base (L2.CX P w) k f fd ps (spOf K mg S)) (m : mg x = some (.ref f)) (b : Binds K fd ps []) : CalX P w K mg base x ps k S := ⟨f, fd, h, m, F.kp, b⟩
theorem d_callX {j k : Nat} (C : CalX X.prog X.w X.K X.mg X.base x ps k S) (hr : Room j X.A) (tk : Takes X (wxOf E)) (ha : PA X (e :: es) (aOf X.K X.mg E ws)) (hg : Gl X x := by rfl) (hj : k ≤ j := by decide) (hdb : (x == ("__debug__" : Str)) = false := by decide) (he : starEach (e :: es) X.env = (false, eval e X.env) :: starEach es X.env := by rfl) (hpl : (backTo pos (starEach es X.env)).any (·.1) = false := by rfl) :
    PE X (.Call (.Name x p) (e :: es) [] pos) (tOf X.K X.mg E (dCall S ws)) := by
  obtain ⟨f, fd, h, m, kp, b⟩ := C.ex
  refine PE.of (pe_callX h (hr.mono hj) hg m kp b tk ha hdb he hpl) fun σ H Q q => ?_
  have q2 := dcall_core q
  obtain ⟨b, B, G, ρ, xp, P, p, hr, kk⟩ := q2
  refine ⟨b, B, G, ρ, xp, P, p, hr, fun G' H' vs ds hp s r => ?_⟩
  have h2 : spOf X.K X.mg S (vs ++ []) H' Q (E σ) := kk G' H' vs ds hp s r
  rw [List.append_nil] at h2
  exact h2
end
section
variable {P : Program} {w : World} {K : PySem.W.Frag} {mg : Str → Option Value} {base : Heap}
theorem fn_okX {x qual : Str} {st : Stmt} {f : Addr} {fd : FuncData} {N ps : List Str} {k : Nat} {S : Spec} {ws : WS} (F : Fun K x qual st f fd) (sc : FnScope N ps (defScope st)) (len : ∀ ds P xp, S ds P xp → ds.length = ps.length)
    (body : ∀ (cdv : Value) (A : Around) (outer : List PySem.Env) (s : Shared) (H : Hp) (E : XK), Room k (A.deeper (PyProof.Rows.envOfC qual (defScope st) s.heap.objs.size f cdv)) → PSs (cxOf (L2.CX P w) P w K mg base N qual (defScope st) f cdv A outer s H E) (defBody st) (sOf K mg (fun _ => E) ws))
    (spec : ∀ ds P xp, S ds P xp → ws { nx := fun _ => P non, rt := P, xc := fun _ => xp } (startR N ds)) : FnOk P w K mg base (L2.CX P w) (k + 1) f fd ps (spOf K mg S) := by
  refine F.okX sc (sp_len len) fun cdv A outer s H vs Q E hr h => ⟨_, body cdv A outer s H E hr, ?_⟩
  obtain ⟨b, G, ds, P, xp, q, g, r, k, x⟩ := h
  exact body_core (spec ds P _ q) (E0 := E) (fun _ => rfl) g r k x
end
/-! ### the making -/
/-- what the text and the written part say of the class of that name -/
structure ExcF (P : Program) (w : World) (K : PySem.W.Frag) (mg : Str → Option Value) (base : Heap) (n : Str) : Prop where
  ex : ∃ (C fI : Addr) (fd : FuncData), mg n = some (.ref C) ∧ OexC K C ∧ PySem.W.findIn K (.ref C) "word" = some none ∧ PySem.W.findIn K (.ref C) "__init__" = some (some (.ref fI)) ∧ PySem.W.typeIn K (.ref fI) = some (.type "function") ∧
    FnOk P w K mg base CX0 1 fI fd ["self"] (fun vs H Q _ => ∃ a C : Addr, vs = [.ref a] ∧ H a = some (exo a C none) ∧ OexC K C ∧ PySem.W.findIn K (.ref C) "word" = some none ∧ ∀ dx, H dx = none → dx ≠ a → Q .non (upd (upd H dx (exd dx [("word", .str n)])) a (exo a C (some dx)))) ∧ Binds K fd ["self"] []
section
variable {P : Program} {w : World} {K : PySem.W.Frag} {mg : Str → Option Value} {base : Heap}
theorem exc_init {n qual : Str} {st : Stmt} {f : Addr} {fd : FuncData} {q1 q2 q3 q4 : Pos} {i : Nat} (F : Fun K "__init__" qual st f fd) (sc : FnScope ["self"] ["self"] (defScope st)) (hb : defBody st = [.Assign [.Attribute (.Name "self" q1) "word" q2] (.Constant (.str n) i q3) q4]) (hl : List.lookup ("self" : Str) (defScope st).names = some NameKind.local) :
    FnOk P w K mg base CX0 1 f fd ["self"] (fun vs H Q _ => ∃ a C : Addr, vs = [.ref a] ∧ H a = some (exo a C none) ∧ OexC K C ∧ PySem.W.findIn K (.ref C) "word" = some none ∧ ∀ dx, H dx = none → dx ≠ a → Q .non (upd (upd H dx (exd dx [("word", .str n)])) a (exo a C (some dx)))) := by
  refine F.ok sc (fun vs H Q E h => ?_) (fun cdv A outer s H vs Q E hr h => ?_)
  · obtain ⟨a, C, rfl, _⟩ := h
    rfl
  · obtain ⟨a, C, rfl, e, T, nw, q⟩ := h
    rw [hb]
    exact ⟨_, pss_one (ps_ost (pe_var (i := 0) rfl (.inl hl)) pe_str), .ref a, rfl, a, C, rfl, T, nw, .inl ⟨e, q⟩⟩
end
section
variable {X : Cx} {E : SX} {n : Str} {p pos pos2 : Pos}
/-- C(), C with an own __init__ -/
theorem pmk_oex0 {CX : CXT} {x : Str} {C fI : Addr} {k : Nat} {fd : FuncData} {ps : List Str} {sp : Sp} (T : OexC X.K C) (iC : PySem.W.findIn X.K (.ref C) "__init__" = some (some (.ref fI))) (tI : PySem.W.typeIn X.K (.ref fI) = some (.type "function"))
    (F1 : FnOk X.prog X.w X.K X.mg X.base CX k fI fd ps sp) (hr : Room (k + 1) X.A) (hb : Binds X.K fd ps []) (hx : Passes CX X (fun _ _ _ => False)) (hg : Gl X x) (hm : X.mg x = some (.ref C)) (hdb : (x == ("__debug__" : Str)) = false := by decide) :
    PMk X (.Call (.Name x p) [] [] pos) (tMkO C sp [] tNil) := by
  intro pins s σ H1 Q I1 h
  obtain ⟨nm, q, N, bs, bm, sn, sub, ab, col, dd, k0, k1, k2, k3, k5, hC, hbm⟩ := T.cls
  refine wpAny_Call_Name_kw (ld_glob I1 hg hm ?_ hdb)
  refine PySem.W.callWith_K0 I1.kIn T.kC ?_
  show wpAny _ _ (call (.ref C) []) _ _ _
  obtain ⟨hp, g, dr, tk, os⟩ := s
  have hsz : hp.objs.size ≤ hp.objs.size + 1 := Nat.le_succ _
  have hn : H1 (hp.objs.size + 1) = none := I1.hok.fresh hsz
  have hq : sp [V.ref (hp.objs.size + 1)] _ _ _ := h.2 (hp.objs.size + 1) hn
  have kk : ∀ b o, hp.get? b = some o → ((hp.push (PySem.W.kdv_tup [])).push (PySem.HandSPX.excO C hp.objs.size)).get? b = some o := fun b o e => Heap.get?_push_of_some _ (Heap.get?_push_of_some _ e)
  have hget : ((hp.push (PySem.W.kdv_tup [])).push (PySem.HandSPX.excO C hp.objs.size)).get? (hp.objs.size + 1) = some (PySem.HandSPX.excO C hp.objs.size) := by heap_get
  have I2 : Inv X pins σ (upd H1 (hp.objs.size + 1) (exo (hp.objs.size + 1) C none)) ⟨(hp.push (PySem.W.kdv_tup [])).push (PySem.HandSPX.excO C hp.objs.size), g, dr, tk, os⟩ :=
    I1.laid (t' := tk) (a := hp.objs.size + 1) (o := exo (hp.objs.size + 1) C none) (h' := (hp.push (PySem.W.kdv_tup [])).push (PySem.HandSPX.excO C hp.objs.size)) kk hsz (exo_ok hget)
  have r2 : Vals [V.ref (hp.objs.size + 1)] [Value.ref (hp.objs.size + 1)] := .cons rfl .nil
  have hl : [Value.ref (hp.objs.size + 1)].length = ps.length := by
    have e := r2.length
    rw [F1.len _ _ _ _ hq] at e
    exact e.symm
  have hb2 := hb ⟨(hp.push (PySem.W.kdv_tup [])).push (PySem.HandSPX.excO C hp.objs.size), g, dr, tk, os⟩ [Value.ref (hp.objs.size + 1)] I2.kIn (by rw [List.append_nil]; exact hl)
  rw [List.append_nil] at hb2
  refine PySem.wpAny_call (PySem.HandSPX.call_own F.excBase_ValueError (fun Y => PySem.HandSPX.refsVE_contains Y bm hbm) (I1.kIn _ _ hC) (PySem.W.looks_findIn I1.kIn iC) (fun self => PySem.W.bind_fn I1.kIn self tI) (Nat.zero_le _)
    (codeAny_mono (F1.run _ X.stack _ _ ⟨[Value.ref (hp.objs.size + 1)], []⟩ [Value.ref (hp.objs.size + 1)] _ _ (fun _ _ _ => False) (hr.make C [] []) (I2.env0.make C [] []) hb2 r2 hq) fun r s' hq' => ?_))
  cases r with
  | error er => exact hx pins σ _ _ er s' I2 hq'
  | ok fl =>
    cases fl with
    | ret u =>
      obtain ⟨v, H2, os2, bare2, un2, hok2, rv, ev, d, fs, ea, ed, hd1, q2⟩ := hq'
      subst ev
      obtain ⟨h2, g2, d2, t2, os'⟩ := s'
      exact ⟨rv, mk_end (raises_own T.exC T.tyC) I1 hsz kk un2 hok2 os2 bare2 ea ed hd1 q2⟩
    | next => exact False.elim hq'
    | brk => exact False.elim hq'
    | cont => exact False.elim hq'
def dRaise (n : Str) (pl : PyData) : WS := fun C ρ => C.xc ρ n pl
theorem s_raise {j : Nat} (R : ExcF X.prog X.w X.K X.mg X.base n) (hr : Room j X.A) (hc : X.calm = true) (tk : Takes X (wxOf E)) (hg : Gl X n := by rfl) (hj : 2 ≤ j := by decide) (hdb : (n == ("__debug__" : Str)) = false := by decide) :
    PS X (.Raise (some (.Call (.Name n p) [] [] pos)) none pos2) (sOf X.K X.mg E (dRaise n .none)) := by
  obtain ⟨C, fI, fd, hm, T, nw, iC, tI, F1, hb⟩ := R.ex
  refine PS.of (ps_raise hc tk (pmk_oex0 T iC tI F1 (hr.mono hj) hb pass0 hg hm hdb)) fun D σ H ⟨b, F, G0, H0, ρ, C', q, g0, a, eo⟩ => ?_
  refine ⟨Nat.zero_le _, fun a' ha => ⟨a', C, rfl, upd_same, T, nw, fun dx hdx ne => ?_⟩⟩
  have hd0 : H dx = none := by
    rw [upd_ne ne] at hdx
    exact hdx
  refine ⟨rfl, dx, _, upd_same, by rw [upd_ne ne]; exact upd_same, hd0, ?_⟩
  obtain ⟨G, e1, s, E1⟩ := a
  have st := (s.good.new (.xd (exF n .none)) hd0).1
  have eH : upd (del (upd (upd (upd H a' (exo a' C none)) dx (exd dx [("word", .str n)])) a' (exo a' C (some dx))) a') dx (.xd [("word", .str n)]) = upd H dx (.xd [("word", .str n)]) := by
    funext z
    by_cases c : z = dx
    · rw [c, upd_same, upd_same]
    · rw [upd_ne c, upd_ne c]
      by_cases c2 : z = a'
      · rw [c2, del_same, ha]
      · rw [del_ne c2, upd_ne c2, upd_ne c, upd_ne c2]
  rw [eH]
  exact eo.xc ρ σ n .none C dx _ _ q (e1.trans st.ex) (s.trans g0 st) (E1.stp st) hm upd_same
/-! ### try -/
/-- every own error of the list is caught -/
def dTry (ns : Str → Prop) (i : Nat) (wb : WS) (ws : Addr → Addr → Str → PyData → WS) : WS := fun C ρ => wb { C with xc := fun ρ' n pl => ns n ∧ ∀ a d, ws a d n pl { nx := fun ρ2 => C.nx (ρ2.set i none), rt := C.rt, bk := fun ρ2 => C.bk (ρ2.set i none), ct := fun ρ2 => C.ct (ρ2.set i none) } (ρ'.set i (some (.leaf (excD a d n pl)))) } ρ
theorem s_try {x nm : Str} {c : Value} {i : Nat} {body suite : List Stmt} {b₀ : Stmt} {np pos' : Pos} {wb : WS} {ws : Addr → Addr → Str → PyData → WS} (ns : Str → Prop) (hN : X.N.Nodup) (tk : Takes X (wxOf E)) (hc : Names X x c) (hK : ∀ n C, ns n → X.mg n = some (.ref C) → PySem.W.exmOne X.K (.ref C) c = some true)
    (hb : ∀ (E' : SX) (pn : List (Addr × Obj)) (xe : Value → Shared → Prop), Takes (X.tr pn xe) (wxOf E') → PassesOwn (model X.prog X.w) X.A X.env xe → PSs (X.tr pn xe) body (sOf X.K X.mg E' wb))
    (hsu : ∀ (a d C : Addr) (n : Str) (pl : PyData) (oe : Obj) (pn : List (Addr × Obj)), ns n → X.mg n = some (.ref C) → Zc (.ref C) (some d) oe → (∃ vs, oe.data = .fields vs) → PSs (X.suite a ((a, oe) :: pn)) (b₀ :: suite) (sOf X.K X.mg noE (ws a d n pl)))
    (hi : X.N[i]? = some nm := by rfl) (hs : X.stack = X.env :: X.outer := by rfl) (hf : X.env.frame = some X.env.locals := by rfl) (hln : X.env.kindOf nm = some .local := by rfl) :
    PS X (.Try body [.ExceptHandler (some (.Name x np)) (some nm) (b₀ :: suite) pos'] [] [] pos) (sOf X.K X.mg E (dTry ns i wb ws)) := by
  refine PS.of (ps_try_as (tb := fun W => sOf X.K X.mg (fun σ cls d H => W cls d σ H) wb) (ts := fun a cls d D σ H => ∃ (n : Str) (pl : PyData) (C d' : Addr), cls = .ref C ∧ d = some d' ∧ ns n ∧ X.mg n = some (.ref C) ∧ sOf X.K X.mg noE (ws a d' n pl) D σ H) (Wout := wxOf E) hs hf hN hi hln hc tk
    (fun W pn xe tk' ps' => hb _ pn xe tk' ps') (fun a oe cls d pn hz hv => ⟨fun pins s σ H D I h => ?_⟩)) fun D σ H ⟨b, F, G0, H0, ρ, C, q, g0, a, eo⟩ => ?_
  · obtain ⟨n, pl, C, d', rfl, rfl, hx, hm, q⟩ := h
    exact (hsu a d' C n pl oe pn hx hm hz hv).run pins s σ H D I q
  · refine ⟨b, F, G0, H0, ρ, _, q, g0, a, ⟨eo.nx, eo.bk, eo.ct, eo.rt, fun ρ' σ' n pl c0 d G H' hx e1 s E1 hm hd => ?_⟩⟩
    obtain ⟨hx, hw⟩ := hx
    refine ⟨true, hK n c0 hx hm, fun _ a' ha => ⟨n, pl, c0, d, rfl, rfl, hx, hm, b, F, G0, H0, _, _, hw a' d, g0, ⟨G, e1, s, E1.leaf i (.exc hd)⟩, ⟨?_, ?_, ?_, eo.rt, fun _ _ _ _ _ _ _ _ z => z.elim⟩⟩, fun z => nomatch z⟩
    · intro ρ2 σ2 H2 h2 ⟨G2, f2, s2, E2⟩
      exact eo.nx _ _ _ h2 ⟨G2, f2, s2, E2.gone i none⟩
    · intro ρ2 σ2 H2 h2 ⟨G2, f2, s2, E2⟩
      exact eo.bk _ _ _ h2 ⟨G2, f2, s2, E2.gone i none⟩
    · intro ρ2 σ2 H2 h2 ⟨G2, f2, s2, E2⟩
      exact eo.ct _ _ _ h2 ⟨G2, f2, s2, E2.gone i none⟩
/-! ### isinstance of the held exception -/
/-- what the class D must say of its instances -/
structure ExcT (K : PySem.W.Frag) (D : Addr) : Prop where
  hc : (PySem.W.clsIn K D).isSome = true
  hg : PySem.W.findIn K (.ref D) "__getattribute__" = some (some (.builtin "BaseException.__getattribute__"))
  hk : PySem.W.findIn K (.ref D) "__getattr__" = some none
  hs : PySem.W.subIn K (.ref D) (.type "BaseException") = some true
  ha : PySem.W.findIn K (.ref D) "__class__" = some (some (.builtin "object.__class__"))
  hn : PySem.W.specialIn K (.builtin "object.__class__") "__get__" = some (some (.builtin "getset_descriptor.__get__"))
  ht : PySem.W.takesIn K (.builtin "object.__class__") = some true
  hm : PySem.W.mroIn K D (.type "object") = some true
end
end Dd
namespace Dd
open PySem L2
def ExTab (K : PySem.W.Frag) (mg : Str → Option Value) (L : List Str) (cv : Value) : Prop := ∀ n D, n ∈ L → mg n = some (.ref D) → PySem.W.exmOne K (.ref D) cv = some true
section
variable {X : Cx} {E : SX} {p pos : Pos} {L : List Str}
theorem s_tryO {cn nm : Str} {i : Nat} {body suite : List Stmt} {b₀ : Stmt} {np pos' : Pos} {wb : WS} {ws : Addr → Addr → Str → PyData → WS} (L : List Str) (I : ∃ C, X.mg cn = some (.ref C) ∧ ExTab X.K X.mg L (.ref C)) (hN : X.N.Nodup) (tk : Takes X (wxOf E))
    (hb : ∀ (E' : SX) (pn : List (Addr × Obj)) (xe : Value → Shared → Prop), Takes (X.tr pn xe) (wxOf E') → PassesOwn (model X.prog X.w) X.A X.env xe → PSs (X.tr pn xe) body (sOf X.K X.mg E' wb))
    (hsu : ∀ (a d C : Addr) (n : Str) (pl : PyData) (oe : Obj) (pn : List (Addr × Obj)), n ∈ L → X.mg n = some (.ref C) → Zc (.ref C) (some d) oe → (∃ vs, oe.data = .fields vs) → PSs (X.suite a ((a, oe) :: pn)) (b₀ :: suite) (sOf X.K X.mg noE (ws a d n pl)))
    (hg : Gl X cn := by rfl) (hdb : (cn == ("__debug__" : Str)) = false := by decide) (hi : X.N[i]? = some nm := by rfl) (hs : X.stack = X.env :: X.outer := by rfl) (hf : X.env.frame = some X.env.locals := by rfl) (hln : X.env.kindOf nm = some .local := by rfl) :
    PS X (.Try body [.ExceptHandler (some (.Name cn np)) (some nm) (b₀ :: suite) pos'] [] [] pos) (sOf X.K X.mg E (dTry (fun n => n ∈ L) i wb ws)) := by
  obtain ⟨C, hm, hK⟩ := I
  exact s_try (fun n => n ∈ L) hN tk ⟨hg, hdb, .inl hm⟩ hK hb hsu hi hs hf hln
end
end Dd
/-! Functions that change a list handed in: its last argument is an own tree of the caller's. -/
namespace Dd
open PySem L2
def less (H : Hp) (fp : List Addr) : Hp := fun a => if a ∈ fp then none else H a
theorem less_in {H : Hp} {fp : List Addr} {a : Addr} (h : a ∈ fp) : less H fp a = none := if_pos h
theorem less_out {H : Hp} {fp : List Addr} {a : Addr} (h : a ∉ fp) : less H fp a = H a := if_neg h
section
variable {K : PySem.W.Frag} {b : Option Addr} {G H : Hp} {fp : List Addr}
theorem less_good (g : Good K b G H) (m : ∀ a, a ∈ fp → G a = none ∧ b ≠ some a) : Good K b G (less H fp) := by
  refine ⟨fun a o e => ?_, fun a c => ?_⟩
  · have na : a ∉ fp := fun z => by
      rw [(m a z).1] at e
      cases e
    rw [less_out na]
    exact g.ex a o e
  · obtain ⟨n, cc, cells, pos, rest, seed, q1, q2⟩ := g.box a c
    have na : a ∉ fp := fun z => (m a z).2 c
    exact ⟨n, cc, cells, pos, rest, seed, by rw [less_out na]; exact q1, q2⟩
theorem less_stp (g : Good K b G H) (m : ∀ a, a ∈ fp → G a = none ∧ b ≠ some a) : Stp K b G (less H fp) G H := by
  refine ⟨Ex.rfl' _, g, fun a o c e => ?_, fun a o n e => n, fun a c => ?_⟩
  · by_cases z : a ∈ fp
    · rw [less_in z] at e
      cases e
    · rw [less_out z] at e
      exact e
  · exact boxc_eq (less_out fun z => (m a z).2 c).symm
end
/-! ### the call, as a statement of its own -/
section
variable {X : Cx} {E : SX} {e : Expr} {es : List Expr} {w : WE} {ws : WA} {pos p q : Pos} {x : Str}
theorem PA.imp {t u : TA} (h : PA X es t) (k : ∀ σ H Q, u σ H Q → t σ H Q) : PA X es u := ⟨fun ps pins s σ H Q I q => h.run ps pins s σ H Q I (k σ H Q q)⟩
/-! ### a named tree of the own slot, changed in place -/
end
theorem own_dat {p : Addr} {t : T} : (T.own p t).dat = t.dat := rfl
end Dd
/-! zip of a text (of plain signs) and a list; more texts: str(x), int(text), split, written tables. -/
namespace Dd
open PySem PySem.Spec PyProof.Rows L2
/-- the text's signs with the list's items -/
def ItzS (K : PySem.W.Frag) (x : Str) (b : Addr) : It :=
  ⟨fun i H => ∃ (ys : List V) (c : Nat) (y : V), SqL K H b ys ∧ x.cps[i]? = some c ∧ ys[i]? = some y,
    fun i H v H' => ∃ T c y, v = .ref T ∧ H T = none ∧ H' = upd H T (.tup [.str ⟨#[c]⟩, y]) ∧ x.cps[i]? = some c ∧ ∀ ys, SqL K H b ys → ys[i]? = some y,
    fun i H => ∃ ys : List V, SqL K H b ys ∧ i ≤ x.cps.size ∧ i ≤ ys.length ∧ (i = x.cps.size ∨ i = ys.length)⟩
theorem sep_S {n b : Nat} (hb : b < n) : ZipSep2 (n + 4) (n + 2) (n + 3) n (n + 1) [n] [n + 1, b] := by
  have m1 : ∀ {a c : Nat}, a ≠ c → a ∉ [c] := fun h z => h (List.mem_singleton.mp z)
  have m2 : ∀ {a c d : Nat}, a ≠ c → a ≠ d → a ∉ [c, d] := fun h k z => by
    rcases List.mem_cons.mp z with z | z
    · exact h z
    · exact k (List.mem_singleton.mp z)
  exact { TIz := Nat.ne_of_lt (by omega), TOz := Nat.ne_of_lt (by omega), TITO := Nat.ne_of_lt (by omega), TIi1 := Nat.ne_of_gt (by omega), mem1 := List.mem_singleton.mpr rfl, zf1 := m1 (Nat.ne_of_gt (by omega)), Tf1 := m1 (Nat.ne_of_gt (by omega)), TIi2 := Nat.ne_of_gt (by omega), mem2 := List.mem_cons_self .., zf2 := m2 (Nat.ne_of_gt (by omega)) (Nat.ne_of_gt (by omega)), Tf2 := m2 (Nat.ne_of_gt (by omega)) (Nat.ne_of_gt (by omega)), sep1_2 := m2 (Nat.ne_of_lt (by omega)) (Nat.ne_of_gt (by omega)), sep2_1 := m1 (Nat.ne_of_gt (by omega)) }
theorem turn_zipS {P : Program} {w : World} {K : PySem.W.Frag} {elts : List Expr} {kk : Nat} {tpos : Pos} {x : Str} {t : Tok} {b n : Nat} (hb : b < n) :
    Turn P w K (.Tuple elts kk tpos) (ItzS K x b) [n + 4, n + 2, n + 3, n, n + 1] (n + 4) (fun i h => IsZip h (n + 4) (n + 2) (n + 3) .none ∧ IsTupOf2 h (n + 2) (.ref n) (.ref (n + 1)) ∧ (∃ x y, IsTupOf2 h (n + 3) x y) ∧ h.IsStrIter n "str_ascii_iterator" x t i ∧ h.IsListIter (n + 1) b i) where
  mem := by simp
  obj := fun i h st c hc => by
    obtain ⟨hz, hTI, ⟨x, y, hTO⟩, ⟨o1, e1, _, d1⟩, ⟨o2, e2, _, d2⟩⟩ := st
    have e' : c = n + 4 ∨ c = n + 2 ∨ c = n + 3 ∨ c = n ∨ c = n + 1 := by simpa using hc
    rcases e' with q | q | q | q | q
    · rw [q]; exact ⟨_, hz, fun v q => nomatch q⟩
    · rw [q]; exact ⟨_, hTI, fun v q => nomatch q⟩
    · rw [q]; exact ⟨_, hTO, fun v q => nomatch q⟩
    · rw [q]; exact ⟨o1, e1, fun v q => by rw [d1] at q; cases q⟩
    · rw [q]; exact ⟨o2, e2, fun v q => by rw [d2] at q; cases q⟩
  keep := fun i h h' st k => by
    obtain ⟨hz, hTI, ⟨x, y, hTO⟩, ⟨o1, e1, r1⟩, h2⟩ := st
    exact ⟨k _ (by simp) _ hz, k _ (by simp) _ hTI, ⟨x, y, k _ (by simp) _ hTO⟩, ⟨o1, k _ (by simp) _ e1, r1⟩, h2.at fun o q => k _ (by simp) o q⟩
  item := by
    intro X hP hw hK hc i pins s σ H E I hf st hg
    subst hP hw hK
    obtain ⟨hz, hTI, ⟨x0, y0, hTO⟩, h1, h2⟩ := st
    obtain ⟨ys, c, y, hqy, hx, hy⟩ := hg
    obtain ⟨its2, rv2, p2, _⟩ := I.list hqy
    obtain ⟨u2, hu2, ru2⟩ := rv2.get hy
    have hh := I.ok.hd hc
    have hzl : (n : Nat) + 4 < s.heap.objs.size := Heap.lt_size hz
    have i1 : i < x.cps.size := (Array.getElem?_eq_some_iff.mp hx).1
    have i2 : i < its2.toArray.size := by
      have := (List.getElem?_eq_some_iff.mp hu2).1
      simpa using this
    refine wpAny_pyNext_zipD2_item (sep_S hb) (Draws.strAscii (A := X.A.in1) hh n x t) (Draws.list (A := X.A.in1) hh (n + 1) b (Nat.ne_of_lt (Nat.lt_succ_of_lt hb)) its2.toArray) hz hTI hTO h1 ⟨h2, p2.isList⟩ i1 i2 fun x1 x2 h' tk q1 q2 z' TO' h1' h2' hT hsz hk => ?_
    obtain ⟨c', t', hc', rfl⟩ := q1
    rw [hx] at hc'
    cases hc'
    have e2 : x2 = u2 := by
      have q2' : its2[i]? = some x2 := by simpa using q2
      rw [hu2] at q2'
      cases q2'
      rfl
    subst e2
    refine ⟨_, rfl, wpAny_letOwnedTupleGo_zip (s := { s with heap := h', toks := tk }) z' fun h'' z'' sb => ?_⟩
    have hT2 : h''.get? s.heap.objs.size = some { cls := .type "tuple", data := .seq #[.str ⟨#[c]⟩ t', x2] } := (sb.2 _ (Nat.ne_of_gt hzl)).trans hT
    have new : ObjOk X.prog X.w (upd H s.heap.objs.size (.tup [.str ⟨#[c]⟩, y])) h'' s.heap.objs.size (.tup [.str ⟨#[c]⟩, y]) :=
      ⟨by show 2 ≤ sizeLine; decide, [.str ⟨#[c]⟩ t', x2], .cons ⟨t', rfl⟩ (.cons ru2 .nil), ⟨_, hT2, rfl, _, rfl⟩⟩
    have I1 : Inv X pins σ (upd H s.heap.objs.size (.tup [.str ⟨#[c]⟩, y])) { s with heap := h'', toks := tk } :=
      I.turnedNew (t' := tk) (ch := [n + 4, n + 2, n + 3, n, n + 1]) (fun c o hb q => (sb.2 c (fun q' => hb (by simp [q']))).trans (hk c o (fun q' => hb (by simp [q'])) (fun q' => hb (by simp [q'])) (fun q' => hb (by simp [q'])) (fun q' => hb (by simp [q'])) q)) hf (Nat.le_refl _) new
    refine ⟨.ref s.heap.objs.size, _, I1, rfl, ⟨_, c, y, rfl, I.hok.fresh (Nat.le_refl _), rfl, hx, fun l hl => by rw [I.list_inj hl hqy]; exact hy⟩, ⟨z'', ?_, ⟨.str ⟨#[c]⟩ t', x2, ?_⟩, ?_, ?_⟩, fun c hcm => ?_⟩
    · exact (sb.2 _ (Nat.ne_of_lt (by omega))).trans (hk _ _ (Nat.ne_of_lt (by omega)) (Nat.ne_of_lt (by omega)) (Nat.ne_of_gt (by omega)) (Nat.ne_of_gt (by omega)) hTI)
    · exact (sb.2 _ (Nat.ne_of_lt (by omega))).trans TO'
    · obtain ⟨o1, e1, r1⟩ := h1'
      exact ⟨o1, (sb.2 _ (Nat.ne_of_lt (by omega))).trans e1, r1⟩
    · exact h2'.1.at fun o q => (sb.2 _ (Nat.ne_of_lt (by omega))).trans q
    · have hlt : c < s.heap.objs.size := by
        have e' : c = n + 4 ∨ c = n + 2 ∨ c = n + 3 ∨ c = n ∨ c = n + 1 := by simpa using hcm
        show (c : Nat) < s.heap.objs.size
        rcases e' with q | q | q | q | q
        · rw [q]; exact hzl
        · rw [q]; exact Nat.lt_of_le_of_lt (Nat.add_le_add_left (by decide : 2 ≤ 4) n) hzl
        · rw [q]; exact Nat.lt_of_le_of_lt (Nat.add_le_add_left (by decide : 3 ≤ 4) n) hzl
        · rw [q]; exact Nat.lt_of_le_of_lt (Nat.le_add_right n 4) hzl
        · rw [q]; exact Nat.lt_of_le_of_lt (Nat.add_le_add_left (by decide : 1 ≤ 4) n) hzl
      rw [upd_ne (Nat.ne_of_lt hlt)]
      exact (hf c hcm).1
  done := by
    intro X hP hw hK hc i pins s σ H E I hf st hg
    subst hP hw hK
    obtain ⟨hz, hTI, ⟨x0, y0, hTO⟩, h1, h2⟩ := st
    obtain ⟨ys, hqy, l1, l2, hend⟩ := hg
    obtain ⟨its2, rv2, p2, _⟩ := I.list hqy
    have e2 := rv2.length
    have hh := I.ok.hd hc
    exact wpAny_pyNext_zipD2_end (sep_S hb) (Draws.strAscii (A := X.A.in1) hh n x t) (Draws.list (A := X.A.in1) hh (n + 1) b (Nat.ne_of_lt (Nat.lt_succ_of_lt hb)) its2.toArray) hz hTI hTO h1 ⟨h2, p2.isList⟩ l1 (by simp; omega) (by simp; omega) fun h' tk hk => ⟨rfl, I.turnedL (t' := tk) (ch := [n + 4, n + 2, n + 3, n, n + 1]) (fun c o hb q =>
      hk c o (fun q' => hb (by simp [q'])) (fun q' => hb (by simp [q'])) (fun q' => hb (by simp [q'])) (fun q' => hb (by simp [q'])) q) hf⟩
  self := fun A i s Q E st h => wpAny_pyIter_zip st.1 h
def iZipS (K : PySem.W.Frag) (ta : TA) : TI := fun σ H R => ta σ H fun vs H1 => ∃ (x : Str) (b : Addr) (ys : List V), vs = [.str x, .ref b] ∧ x.cps.all (· < 128) = true ∧ SqL K H1 b ys ∧ R (ItzS K x b) H1
theorem pi_zipS {X : Cx} {e e2 : Expr} {ta : TA} {p pos tpos : Pos} {elts : List Expr} {kk : Nat} (hg : Gl X "zip") (hm : X.mg "zip" = none) (ha : PA X [e, e2] ta)
    (hs : starEach [e, e2] X.env = (false, eval e X.env) :: starEach [e2] X.env := by rfl) (hpl : (backTo pos (starEach [e2] X.env)).any (·.1) = false := by rfl) :
    PI X (.Tuple elts kk tpos) (.Call (.Name "zip" p) [e, e2] [] pos) (iZipS X.K ta) := by
  refine ⟨fun pins s σ H R I h => ?_⟩
  refine Call_ (ld_blt I hg hm PyProof.Rows.boot_zip (PyProof.Rows.callWith_type1 (thn (ha.run pos pins s σ H _ I h) fun us s1 ⟨vs, H1, I1, r1, q1⟩ => ?_) hs hpl))
  obtain ⟨x, b, ys, ex, ha, hqy, q⟩ := q1
  subst ex
  cases r1 with
  | cons r rr =>
    cases rr with
    | cons r' rr =>
      cases rr
      obtain ⟨t, rfl⟩ := r
      cases r'
      obtain ⟨its2, rv2, p2, _⟩ := I1.list hqy
      have lb : b < s1.heap.objs.size := p2.lt
      have ety : strIterType x = "str_ascii_iterator" := if_pos ha
      refine zip_begins2 (begins_text x t) (begins_list b its2.toArray) trivial p2.isList fun h' hz hTI hTO h1 h2 hsz hk => wpAny_pyIter_zip hz ?_
      have I2 : Inv X pins σ H1 { s1 with heap := h' } := I1.kept (t' := s1.toks) hk
      refine ⟨s1.heap.objs.size + 4, [s1.heap.objs.size + 4, s1.heap.objs.size + 2, s1.heap.objs.size + 3, s1.heap.objs.size, s1.heap.objs.size + 1], _, _, H1, rfl, I2, turn_zipS (x := x) (t := t) lb, ⟨hz, hTI, ⟨_, _, hTO⟩, ⟨_, h1, by rw [ety], rfl⟩, ⟨_, h2, rfl, rfl⟩⟩, fun c hcm => ?_, q⟩
      have e' : (c : Nat) = s1.heap.objs.size + 4 ∨ (c : Nat) = s1.heap.objs.size + 2 ∨ (c : Nat) = s1.heap.objs.size + 3 ∨ (c : Nat) = s1.heap.objs.size ∨ (c : Nat) = s1.heap.objs.size + 1 := by simpa using hcm
      have hle : s1.heap.objs.size ≤ c := by rcases e' with q | q | q | q | q <;> rw [q] <;> omega
      exact I1.fpOk hle (I1.hok.fresh hle)
/-! ### read as data -/
def zipSD : List Nat → List PyData → List PyData
  | c :: cs, y :: ys => .tuple [.str ⟨#[c]⟩, y] :: zipSD cs ys
  | _, _ => []
theorem zipSD_len : ∀ xs ys, (zipSD xs ys).length = min xs.length ys.length
  | [], _ => by simp [zipSD]
  | _ :: _, [] => by simp [zipSD]
  | x :: xs, y :: ys => by
    have := zipSD_len xs ys
    simp [zipSD, this]
    all_goals omega
theorem zipSD_get : ∀ (xs : List Nat) (ys : List PyData) (i : Nat) (x : Nat) (y : PyData), xs[i]? = some x → ys[i]? = some y → (zipSD xs ys)[i]? = some (.tuple [.str ⟨#[x]⟩, y])
  | [], _, _, _, _, h, _ => by simp at h
  | _ :: _, [], _, _, _, _, h => by simp at h
  | x :: xs, y :: ys, 0, _, _, h, k => by
    simp at h k
    subst h k
    rfl
  | x :: xs, y :: ys, i + 1, u, v, h, k => by
    show (zipSD xs ys)[i]? = _
    exact zipSD_get xs ys i u v (by simpa using h) (by simpa using k)
theorem walkD_zipS {K : PySem.W.Frag} {b : Option Addr} {F : Hp} {x : Str} {c : Addr} {ys : List V} {es : List PyData} (h' : F c = some (.lst ys)) (r' : RpAll b F ys es) : WalkD K b F (ItzS K x c) (zipSD x.cps.toList es) := by
  have l2 := r'.len
  have le := zipSD_len x.cps.toList es
  have ls : x.cps.toList.length = x.cps.size := Array.length_toList
  have at1 : ∀ {G H : Hp}, Ex F G → Good K b G H → SqL K H c ys := fun e g => .inl (.inl (g.ex _ _ (e _ _ h')))
  refine ⟨fun i G H hi e g => ?_, fun G H e g => ?_, fun i G H v H' hi e g y => ?_⟩
  · have k1 : i < x.cps.size := by omega
    have k2 : i < ys.length := by omega
    exact ⟨ys, x.cps[i], ys[i], at1 e g, Array.getElem?_eq_getElem k1, List.getElem?_eq_getElem k2⟩
  · exact ⟨ys, at1 e g, by omega, by omega, by omega⟩
  · obtain ⟨T, u, w, rfl, hT, rfl, f1, f2⟩ := y
    obtain ⟨d', q2, r2⟩ := r'.get' (f2 _ (at1 e g))
    obtain ⟨G', s, rr⟩ := pair_new g hT (.str ⟨#[u]⟩) (r2.mono e)
    exact ⟨G', _, zipSD_get _ _ i _ _ (by rw [Array.getElem?_toList]; exact f1) q2, s, rr⟩
section
variable {X : Cx} {E : SX} {e e2 : Expr} {ws : WA} {p pos tpos : Pos} {elts : List Expr} {kk : Nat}
def iZs (ws : WA) : WI := fun x ρ P => ws x ρ fun ds => ∃ (z : Str) (es : List PyData), ds = [.str z, .list es] ∧ z.cps.all (· < 128) = true ∧ P (zipSD z.cps.toList es)
theorem i_zipS (hm : X.mg "zip" = none) (ha : PA X [e, e2] (aOf X.K X.mg E ws)) (hg : Gl X "zip" := by rfl) (hs : starEach [e, e2] X.env = (false, eval e X.env) :: starEach [e2] X.env := by rfl) (hpl : (backTo pos (starEach [e2] X.env)).any (·.1) = false := by rfl) :
    PI X (.Tuple elts kk tpos) (.Call (.Name "zip" p) [e, e2] [] pos) (iOf X.K X.mg E (iZs ws)) := PI.of (pi_zipS hg hm ha hs hpl) fun σ H R ⟨b, B, G, ρ, xp, P, q, hr, k⟩ => by
  refine ⟨b, B, G, ρ, xp, _, q, hr, fun G1 H1 vs ds hp s1 r1 => ?_⟩
  obtain ⟨z, es, rfl, ha, hp⟩ := hp
  cases r1 with
  | cons ra rb =>
    cases ra
    cases rb with
    | cons rb rc =>
      cases rc
      cases rb with
      | lst h1 r2 => exact ⟨z, _, _, rfl, ha, .inl (.inl (s1.good.ex _ _ h1)), k G1 H1 _ _ hp s1 (walkD_zipS h1 r2)⟩
end
end Dd
/-! str(x), int(text), split, a module's texts and written tables. -/
namespace Dd
open PySem L2 TL
/-- str(x), x a number or a text -/
def cStr : CD := fun ds P => match ds with
  | [.int i] => i.natAbs < 2 ^ 1000 ∧ P (.leaf (.str (Str.ofString (toString i))))
  | [.str z] => P (.leaf (.str z))
  | _ => False
theorem e_stri {i : Int} {P : T → Prop} : cStr [.int i] P = (i.natAbs < 2 ^ 1000 ∧ P (.leaf (.str (Str.ofString (toString i))))) := rfl
theorem e_strs {z : Str} {P : T → Prop} : cStr [.str z] P = P (.leaf (.str z)) := rfl
theorem ok_strC {K : PySem.W.Frag} : CdOk K (fun xs H Q => (∃ i, xs = [.int i] ∧ i.natAbs.log2 < 1920 ∧ Q (.str (toString i)) H) ∨ ∃ a, xs = [.str a] ∧ Q (.str a) H) cStr := fun b G H vs ds P Q g r h k => by
  unfold cStr at h
  split at h
  · obtain ⟨hi, p⟩ := h
    cases r with
    | cons r1 r2 =>
      cases r2
      cases r1
      rename_i i
      refine .inl ⟨i, rfl, ?_, k.leaf g p (.str _)⟩
      by_cases c : i.natAbs = 0
      · rw [c]
        decide
      · exact Nat.lt_of_lt_of_le ((Nat.log2_lt c).mpr hi) (by decide)
  · cases r with
    | cons r1 r2 =>
      cases r2
      cases r1
      exact .inr ⟨_, rfl, k.leaf g h (.str _)⟩
  · exact h.elim
/-- int(text) -/
def cIntS : CD := fun ds P => ∃ a n, ds = [.str a] ∧ PySem.intText? a = some n ∧ a.length ≤ 640 ∧ P (int n)
theorem ok_intS {K : PySem.W.Frag} : CdOk K (fun xs H Q => ∃ a n, xs = [.str a] ∧ PySem.intText? a = some n ∧ a.length ≤ 640 ∧ Q (.int n) H) cIntS := fun b G H vs ds P Q g r h k => by
  obtain ⟨a, n, rfl, hn, hl, p⟩ := h
  cases r with
  | cons r1 r2 =>
    cases r2
    cases r1
    exact ⟨a, n, rfl, hn, hl, k.leaf g p (.int _)⟩
/-- a module's text -/
structure ConS (mg : Str → Option Value) (x z : Str) : Prop where
  ex : ∃ t, mg x = some (.str z t)
/-- a module's written table of texts -/
structure ConD (K : PySem.W.Frag) (w : World) (mg : Str → Option Value) (x : Str) (tab : List (Str × Str)) : Prop where
  ex : ∃ d es n, mg x = some (.ref d) ∧ KDict K w d es n ∧ ∀ z, (∀ v, tab.lookup z = some v → ∃ t, PySem.W.nsIn K d z = some (some (.str v t))) ∧ (tab.lookup z = none → PySem.W.nsIn K d z = some none)
section
variable {X : Cx} {E : SX} {e e2 : Expr} {w wa wb : WE} {ws : WA} {pos p p2 apos : Pos} {x : Str}
theorem d_strC (hm : X.mg "str" = none) (ha : PA X [e] (aOf X.K X.mg E ws)) (hg : Gl X "str" := by rfl) (he : starEach [e] X.env = (false, eval e X.env) :: starEach [] X.env := by rfl) (hpl : (backTo pos (starEach [] X.env)).any (·.1) = false := by rfl) : PE X (.Call (.Name "str" p) [e] [] pos) (tOf X.K X.mg E (dBlt cStr ws)) :=
  d_ty (call_str_int.or SkE.call_str_str) ok_strC hg hm (by decide +kernel) ha (by decide) (by decide) he hpl
theorem d_intS (hm : X.mg "int" = none) (ha : PA X [e] (aOf X.K X.mg E ws)) (hg : Gl X "int" := by rfl) (he : starEach [e] X.env = (false, eval e X.env) :: starEach [] X.env := by rfl) (hpl : (backTo pos (starEach [] X.env)).any (·.1) = false := by rfl) : PE X (.Call (.Name "int" p) [e] [] pos) (tOf X.K X.mg E (dBlt cIntS ws)) :=
  d_ty call_int_str ok_intS hg hm (by decide +kernel) ha (by decide) (by decide) he hpl
theorem d_conS {z : Str} (C : ConS X.mg x z) (hg : Gl X x := by rfl) (hd : (x == ("__debug__" : Str)) = false := by decide) : PE X (.Name x pos) (tOf X.K X.mg E (dC (.str z))) := by
  obtain ⟨t, h⟩ := C.ex
  exact PE.of (pe_glob (v := .str z) hg h ⟨t, rfl⟩ hd) fun σ H Q ⟨b, B, G, ρ, xp, P, p, hr, k⟩ => k.leaf hr.good p (.str z)
def dSplit (wa wb : WE) : WE := fun x ρ P => wa x ρ (asS fun a => wb x ρ (asS fun b => (b.length == 0) = false ∧ a.length ≤ lim ∧ P (.node ((strsD (Txt.split a b)).map .leaf))))
theorem d_split (ha : PE X e (tOf X.K X.mg E wa)) (hb : PE X e2 (tOf X.K X.mg E wb)) (hs : starEach [e2] X.env = [(false, eval e2 X.env)] := by rfl) (hbase : attributeBase e "split" X.env (eval e X.env) = eval e X.env := by rfl) (hline : (apos.endLine == pos.line) = true := by rfl) :
    PE X (.Call (.Attribute e "split" apos) [e2] [] pos) (tOf X.K X.mg E (dSplit wa wb)) := PE.of (pe_split ha hb hs hbase hline) fun σ H Q ⟨b, B, G, ρ, xp, P, p, hr, k⟩ => by
  refine ⟨b, B, G, ρ, xp, _, p, hr, fun G1 H1 v t fp ht s1 tr fr => ?_⟩
  unfold asS at ht
  split at ht
  · rename_i a
    cases tr with
    | leaf r =>
      cases r
      have hr1 := hr.stp s1
      refine ⟨⟨_, rfl⟩, b, B, G1, ρ, xp, _, ht, hr1, fun G2 H2 v t fp ht s2 tr fr => ?_⟩
      try dsimp only at ht
      split at ht
      · cases tr with
        | leaf r =>
          cases r
          obtain ⟨h0, hl, hp⟩ := ht
          refine ⟨a, _, rfl, rfl, h0, Nat.le_trans (Nat.add_le_add_right hl 2) (by decide), fun q hq => ?_⟩
          exact new_lst s2.good (rp_strs' _) hp ((k.stp hr.good s1).stp hr1.good s2) hq
      · exact ht.elim
  · exact ht.elim
/-- e in T, T a written table -/
def dInTab (neg : Bool) (tab : List (Str × Str)) (wa : WE) : WE := fun x ρ P => wa x ρ (asS fun z => P (boo (neg != (tab.lookup z).isSome)))
def dAtTab (tab : List (Str × Str)) (wa : WE) : WE := fun x ρ P => wa x ρ (asS fun z => ∃ v, tab.lookup z = some v ∧ P (.leaf (.str v)))
theorem tab_core {K : PySem.W.Frag} {mg : Str → Option Value} {neg : Bool} {d : Addr} {tab : List (Str × Str)} (hT : ∀ z, (∀ v, tab.lookup z = some v → ∃ t, PySem.W.nsIn K d z = some (some (.str v t))) ∧ (tab.lookup z = none → PySem.W.nsIn K d z = some none)) {σ : L2.St} {H : Hp} {Q : VK} (q : tOf K mg E (dInTab neg tab wa) σ H Q) :
    tOp (fun x y H Q => ∃ (z : Str) (r : Option Value), x = .str z ∧ y = .ref d ∧ PySem.W.nsIn K d z = some r ∧ Q (.bl (neg != r.isSome)) H) (tOf K mg E wa) (tC (.ref d)) σ H Q := by
  obtain ⟨b, B, G, ρ, xp, P, p, hr, k⟩ := q
  refine ⟨b, B, G, ρ, xp, _, p, hr, fun G1 H1 v t fp ht s1 tr fr => ?_⟩
  unfold asS at ht
  split at ht
  · rename_i z
    cases tr with
    | leaf r =>
      cases r
      have fin : ∀ k0 : Bool, k0 = (neg != (tab.lookup z).isSome) → Q (.bl k0) H1 := fun k0 e => by
        subst e
        exact (k.stp hr.good s1).leaf s1.good ht (.bl _)
      cases q : tab.lookup z with
      | none =>
        exact ⟨z, _, rfl, rfl, (hT z).2 q, fin _ (by rw [q] <;> rfl)⟩
      | some v =>
        obtain ⟨t, hv⟩ := (hT z).1 v q
        exact ⟨z, _, rfl, rfl, hv, fin _ (by rw [q] <;> rfl)⟩
  · exact ht.elim
theorem opr_notIn {d : Addr} {es : Array DictEntry} {n : Nat} (D : KDict X.K X.w d es n) : OpR X (compareOp .NotIn) (fun x y H Q => ∃ (z : Str) (r : Option Value), x = .str z ∧ y = .ref d ∧ PySem.W.nsIn X.K d z = some r ∧ Q (.bl (true != r.isSome)) H) := fun pins s σ H x y v u Q I rx ry ⟨z, r, h1, h2, h3, h4⟩ => op_notIn_kd D pins s σ H x y v u Q I rx ry ⟨z, r, h1, h2, h3, by simpa using h4⟩
theorem t_notInTab {tab : List (Str × Str)} (C : ConD X.K X.w X.mg x tab) (ha : PE X e (tOf X.K X.mg E wa)) (hg : Gl X x := by rfl) (hdb : (x == ("__debug__" : Str)) = false := by decide) (hmk : behindInMarks .NotIn (.Name x p2) = false := by rfl) : PT X (.Compare e [.NotIn] [.Name x p2] pos) (ttOf X.K X.mg E (dTst (dInTab true tab wa))) := by
  obtain ⟨d, es, n, hm, D, hT⟩ := C.ex
  exact PT.of (pt_cmpR (opr_notIn D) ha (pe_glob (v := .ref d) hg hm rfl hdb) hmk) fun σ H Q q => tab_core hT (dtst_core q)
theorem d_atTab {tab : List (Str × Str)} (C : ConD X.K X.w X.mg x tab) (ha : PE X e (tOf X.K X.mg E wa)) (hg : Gl X x := by rfl) (hdb : (x == ("__debug__" : Str)) = false := by decide) (hs : PlainIx e := by exact fun _ _ => rfl) : PE X (.Subscript (.Name x p2) e pos) (tOf X.K X.mg E (dAtTab tab wa)) := by
  obtain ⟨d, es, n, hm, D, hT⟩ := C.ex
  refine PE.of (pe_ix ix_kdict (pe_glob (v := .ref d) hg hm rfl hdb) ha hs) fun σ H Q ⟨b, B, G, ρ, xp, P, p, hr, k⟩ => ?_
  refine ⟨b, B, G, ρ, xp, _, p, hr, fun G1 H1 v t fp ht s1 tr fr => ?_⟩
  unfold asS at ht
  split at ht
  · rename_i z
    cases tr with
    | leaf r =>
      cases r
      obtain ⟨v, hv, hp⟩ := ht
      obtain ⟨t, hn⟩ := (hT z).1 v hv
      exact ⟨d, z, .str v, rfl, rfl, ⟨es, n, _, D.at_, D.lit, hn, ⟨t, rfl⟩⟩, (k.stp hr.good s1).leaf s1.good hp (.str _)⟩
  · exact ht.elim
end
end Dd
namespace Dd
open PySem L2 TL
def rdNotInS : R2D := fun d e P => match d, e with
  | .str x, .str z => ∃ c, x = ⟨#[c]⟩ ∧ P (boo (!decide (c ∈ z.cps.toList)))
  | _, _ => False
theorem e_notInS {c : Nat} {z : Str} {P : T → Prop} : rdNotInS (.str ⟨#[c]⟩) (.str z) P = P (boo (!decide (c ∈ z.cps.toList))) := propext ⟨fun ⟨c', e, p⟩ => by cases e; exact p, fun p => ⟨c, rfl, p⟩⟩
theorem ok_notInS {K : PySem.W.Frag} : RdOk K (fun x y H Q => ∃ (c : Nat) (z : Str), x = .str ⟨#[c]⟩ ∧ y = .str z ∧ Q (.bl (!decide (c ∈ z.cps.toList))) H) rdNotInS := fun b G H x y d e P Q g rx ry h k => by
  unfold rdNotInS at h
  split at h
  · obtain ⟨c, rfl, p⟩ := h
    cases rx
    cases ry
    exact ⟨_, _, rfl, rfl, k G H _ _ [] p g.stp (.leaf (.bl _)) fun _ z => nomatch z⟩
  · exact h.elim
section
variable {X : Cx} {E : SX} {e e2 : Expr} {wa wb : WE} {pos : Pos}
theorem t_notInS (ha : PE X e (tOf X.K X.mg E wa)) (hb : PE X e2 (tOf X.K X.mg E wb)) (hm : behindInMarks .NotIn e2 = false := by rfl) : PT X (.Compare e [.NotIn] [e2] pos) (ttOf X.K X.mg E (dTst (dOp rdNotInS wa wb))) := t_cmp op_notIn_sign ok_notInS ha hb hm
/-- over a text -/
theorem i_strD {tg : Expr} (h : PE X e (tOf X.K X.mg E wa)) : PI X tg e (iOf X.K X.mg E (iStrD wa)) := PI.of (pi_str h) fun σ H Q ⟨b, B, G, ρ, xp, P, p, hr, k⟩ => tOfD_of ⟨b, B, G, ρ, xp, fun d => match d with
  | .str z => P (z.cps.toList.map fun c => .str ⟨#[c]⟩)
  | _ => False, p, hr, fun G1 H1 v d hp s hr1 r => by
    try dsimp only at hp
    split at hp
    · cases r
      exact ⟨_, rfl, k G1 H1 _ _ hp s strD_walk⟩
    · exact hp.elim⟩
end
end Dd
namespace Dd
open PySem L2 TL
theorem ent_find {z : Str} : ∀ (l : List DictEntry) (tab : List (Str × Str)), l.map entS = tab.map some → (∀ v, tab.lookup z = some v → ∃ e t, l.find? (·.key.isStr z) = some e ∧ e.val = .str v t) ∧ (tab.lookup z = none → l.find? (·.key.isStr z) = none) ∧ l.any (·.refKey) = false
  | [], [], _ => ⟨fun _ h => (by cases h), fun _ => rfl, rfl⟩
  | [], _ :: _, h => by cases h
  | _ :: _, [], h => by cases h
  | e :: l, (k, v) :: tab, h => by
    injection h with h1 h2
    obtain ⟨i1, i2, i3⟩ := ent_find (z := z) l tab h2
    obtain ⟨hash, key, val⟩ := e
    unfold entS at h1
    obtain ⟨t, t', rfl, rfl⟩ : ∃ t t', key = .str k t ∧ val = .str v t' := by
      cases key <;> first
        | (cases val <;> first
            | (injection h1 with h1
               injection h1 with h3 h4
               subst h3 h4
               exact ⟨_, _, rfl, rfl⟩)
            | (cases h1))
        | (cases h1)
    by_cases c : k = z
    · subst c
      have b : (k == k) = true := by simp
      refine ⟨fun w hw => ⟨⟨hash, .str k t, .str v t'⟩, t', ?_, ?_⟩, fun hw => ?_, ?_⟩
      · rw [List.find?_cons_of_pos]
        exact b
      · rw [List.lookup_cons, b] at hw
        cases hw
        rfl
      · rw [List.lookup_cons, b] at hw
        cases hw
      · rw [List.any_cons, i3]
        rfl
    · have b : (z == k) = false := by simpa using fun h => c h.symm
      have b2 : (k == z) = false := by simpa using c
      refine ⟨fun w hw => ?_, fun hw => ?_, ?_⟩
      · rw [List.lookup_cons, b] at hw
        obtain ⟨e, t, h1, h2⟩ := i1 w hw
        refine ⟨e, t, ?_, h2⟩
        rw [List.find?_cons_of_neg]
        · exact h1
        · show ¬ ((k == z) = true)
          rw [b2]
          exact Bool.false_ne_true
      · rw [List.lookup_cons, b] at hw
        rw [List.find?_cons_of_neg]
        · exact i2 hw
        · show ¬ ((k == z) = true)
          rw [b2]
          exact Bool.false_ne_true
      · rw [List.any_cons, i3]
        rfl
theorem conD_of {K : PySem.W.Frag} {w : World} {mg : Str → Option Value} {x : Str} {tab : List (Str × Str)} {d : Addr} {es : Array DictEntry} {n : Nat} (hm : mg x = some (.ref d)) (D : KDict K w d es n) (h : es.toList.map entS = tab.map some) : ConD K w mg x tab := by
  refine ⟨d, es, n, hm, D, fun z => ?_⟩
  obtain ⟨i1, i2, i3⟩ := ent_find (z := z) _ _ h
  have e : PySem.W.nsIn K d z = (match es.toList.find? (·.key.isStr z) with
      | some e => some (some e.val)
      | none => if es.toList.any (·.refKey) then none else some none) := by
    unfold PySem.W.nsIn
    rw [D.at_] <;> rfl
  refine ⟨fun v hv => ?_, fun hv => ?_⟩
  · obtain ⟨en, t, h1, h2⟩ := i1 v hv
    exact ⟨t, by rw [e, h1]; show some (some en.val) = _; rw [h2]⟩
  · rw [e, i2 hv, i3]
    rfl
end Dd
/-! The store: objects by their addresses, each a tree; places within a tree. -/
namespace Dd
open PySem L2
abbrev Sto := Addr → Option T
def stput (m : Sto) (p : Addr) (t : T) : Sto := fun q => if q = p then some t else m q
def stdel (m : Sto) (p : Addr) : Sto := fun q => if q = p then none else m q
def SLe (m m' : Sto) : Prop := ∀ p t, m p = some t → m' p = some t
theorem SLe.rfl' (m : Sto) : SLe m m := fun _ _ e => e
theorem SLe.trans {a b c : Sto} (h : SLe a b) (k : SLe b c) : SLe a c := fun p t e => k p t (h p t e)
theorem stput_same {m : Sto} {p : Addr} {t : T} : stput m p t p = some t := if_pos rfl
theorem stput_ne {m : Sto} {p q : Addr} {t : T} (h : q ≠ p) : stput m p t q = m q := if_neg h
theorem stdel_same {m : Sto} {p : Addr} : stdel m p p = none := if_pos rfl
theorem stdel_ne {m : Sto} {p q : Addr} (h : q ≠ p) : stdel m p q = m q := if_neg h
theorem stput_put {m : Sto} {p : Addr} {t u : T} : stput (stput m p t) p u = stput m p u := by
  funext q
  unfold stput
  split <;> rfl
theorem stput_get {m : Sto} {p : Addr} {t : T} (h : m p = some t) : stput m p t = m := by
  funext q
  unfold stput
  split
  · rename_i e
    rw [e, h]
  · rfl
theorem stput_comm {m : Sto} {p q : Addr} {t u : T} (h : p ≠ q) : stput (stput m p t) q u = stput (stput m q u) p t := by
  funext a
  unfold stput
  by_cases c : a = q
  · rw [if_pos c, if_neg (fun z => h (z.symm.trans c)), if_pos c]
  · rw [if_neg c]
    by_cases c2 : a = p
    · rw [if_pos c2, if_pos c2]
    · rw [if_neg c2, if_neg c2, if_neg c]
theorem stdel_put {m : Sto} {p : Addr} {t : T} (h : m p = none) : stdel (stput m p t) p = m := by
  funext a
  unfold stdel stput
  by_cases c : a = p
  · rw [if_pos c, c, h]
  · rw [if_neg c, if_neg c]
/-! ### slots, and a tree that stands beside them -/
structure EnvT (b : Option Addr) (B G H : Hp) (σ : L2.St) (ρ : Rho) (fv : List Addr) : Prop where
  len : σ.length = ρ.length
  ex : ∃ fps : Nat → List Addr, (∀ (i : Nat) t, ρ[i]? = some (some t) → ∃ v, σ[i]? = some (some v) ∧ Tr b G H (fps i) v t) ∧
    (∀ i a, a ∈ fps i → B a = none ∧ G a = none ∧ b ≠ some a ∧ (∃ o, H a = some o) ∧ a ∉ fv) ∧ ∀ i j a, i ≠ j → a ∈ fps i → a ∉ fps j
section
variable {K : PySem.W.Frag} {b : Option Addr} {B G H G' H' : Hp} {σ : L2.St} {ρ : Rho} {fv : List Addr}
theorem EnvT.env (E : EnvT b B G H σ ρ fv) : Env b B G H σ ρ := by
  obtain ⟨hl, fps, h1, h2, h3⟩ := E
  exact ⟨hl, fps, h1, fun i a m => let ⟨q1, q2, q3, q4, _⟩ := h2 i a m; ⟨q1, q2, q3, q4⟩, h3⟩
theorem Env.envT0 (E : Env b B G H σ ρ) : EnvT b B G H σ ρ [] := by
  obtain ⟨hl, fps, h1, h2, h3⟩ := E
  exact ⟨hl, fps, h1, fun i a m => let ⟨q1, q2, q3, q4⟩ := h2 i a m; ⟨q1, q2, q3, q4, fun z => nomatch z⟩, h3⟩
theorem Env.envT (E : Env b B G H σ ρ) (s : Stp K b G H G' H') (fr : ∀ a, a ∈ fv → H a = none) : EnvT b B G' H' σ ρ fv := by
  obtain ⟨hl, fps, h1, h2, h3⟩ := E
  have kk : ∀ i a, a ∈ fps i → G' a = none ∧ H' a = H a := fun i a m => by
    obtain ⟨_, g, c, o, e⟩ := h2 i a m
    exact ⟨s.out a o g e, by rw [e]; exact s.keep a o c e⟩
  refine ⟨hl, fps, fun i t e => ?_, fun i a m => ?_, h3⟩
  · obtain ⟨v, e1, tr⟩ := h1 i t e
    exact ⟨v, e1, tr.move s.ex fun a m => kk i a m⟩
  · obtain ⟨z, g, c, o, e⟩ := h2 i a m
    refine ⟨z, (kk i a m).1, c, ⟨o, by rw [(kk i a m).2]; exact e⟩, fun q => ?_⟩
    rw [fr a q] at e
    cases e
theorem EnvT.stp (E : EnvT b B G H σ ρ fv) (s : Stp K b G H G' H') : EnvT b B G' H' σ ρ fv := by
  obtain ⟨hl, fps, h1, h2, h3⟩ := E
  have kk : ∀ i a, a ∈ fps i → G' a = none ∧ H' a = H a := fun i a m => by
    obtain ⟨_, g, c, ⟨o, e⟩, _⟩ := h2 i a m
    exact ⟨s.out a o g e, by rw [e]; exact s.keep a o c e⟩
  refine ⟨hl, fps, fun i t e => ?_, fun i a m => ?_, h3⟩
  · obtain ⟨v, e1, tr⟩ := h1 i t e
    exact ⟨v, e1, tr.move s.ex fun a m => kk i a m⟩
  · obtain ⟨z, g, c, ⟨o, e⟩, n⟩ := h2 i a m
    exact ⟨z, (kk i a m).1, c, ⟨o, by rw [(kk i a m).2]; exact e⟩, n⟩
/-- the tree beside settles -/
theorem EnvT.settle (E : EnvT b B G H σ ρ fv) (g : Good K b G H) {v : V} {t : T} (tr : Tr b G H fv v t) : Good K b (addF G H fv) H ∧ Ex G (addF G H fv) ∧ Rp b (addF G H fv) v t.dat ∧ Env b B (addF G H fv) H σ ρ := by
  obtain ⟨hl, fps, h1, h2, h3⟩ := E
  have m := tr.mem
  have ex : Ex G (addF G H fv) := addF_ex fun a z => (m a z).1
  refine ⟨addF_good g fun a z => ⟨(m a z).1, (m a z).2.1⟩, ex, tr.settle ex fun a z => addF_in z, hl, fps, fun i u e => ?_, fun i a z => ?_, h3⟩
  · obtain ⟨w, e1, q⟩ := h1 i u e
    exact ⟨w, e1, q.move ex fun a z => ⟨by rw [addF_out (h2 i a z).2.2.2.2]; exact (h2 i a z).2.1, rfl⟩⟩
  · obtain ⟨q1, q2, q3, q4, q5⟩ := h2 i a z
    exact ⟨q1, by rw [addF_out q5]; exact q2, q3, q4⟩
theorem stp_addF {G0 H0 : Hp} (s : Stp K b G0 H0 G H) (g : Good K b (addF G H fv) H) (ex : Ex G (addF G H fv)) (hB : ∀ a, a ∈ fv → H0 a = none) : Stp K b G0 H0 (addF G H fv) H := by
  refine ⟨s.ex.trans ex, g, s.keep, fun a o n e => ?_, s.cel⟩
  have na : a ∉ fv := fun z => by
    rw [hB a z] at e
    cases e
  rw [addF_out na]
  exact s.out a o n e
/-- the tree beside goes to a slot -/
theorem EnvT.put (E : EnvT b B G H σ ρ fv) {v : V} {t : T} (tr : Tr b G H fv v t) (hB : ∀ a, a ∈ fv → B a = none) (i : Nat) : Env b B G H (σ.set i (some v)) (ρ.set i (some t)) := by
  obtain ⟨hl, fps, h1, h2, h3⟩ := E
  have mm := tr.mem
  refine ⟨by rw [List.length_set, List.length_set]; exact hl, fun j => if j = i then fv else fps j, fun j u e => ?_, fun j a m => ?_, fun j j' a n m => ?_⟩
  · by_cases c : j = i
    · subst c
      have hi : j < ρ.length := by
        have := (List.getElem?_eq_some_iff.mp e).1
        rw [List.length_set] at this
        exact this
      rw [List.getElem?_set_self hi] at e
      cases e
      exact ⟨v, by rw [List.getElem?_set_self (by rw [hl]; exact hi)], by simp only [if_pos]; exact tr⟩
    · rw [List.getElem?_set_ne (Ne.symm c)] at e ⊢
      obtain ⟨w, e1, q⟩ := h1 j u e
      exact ⟨w, e1, by simp only [if_neg c]; exact q⟩
  · by_cases c : j = i
    · simp only [if_pos c] at m
      exact ⟨hB a m, mm a m⟩
    · simp only [if_neg c] at m
      obtain ⟨q1, q2, q3, q4, _⟩ := h2 j a m
      exact ⟨q1, q2, q3, q4⟩
  · by_cases c : j = i
    · simp only [if_pos c] at m
      have c' : j' ≠ i := fun q => n (c.trans q.symm)
      simp only [if_neg c']
      exact fun q => (h2 j' a q).2.2.2.2 m
    · simp only [if_neg c] at m
      by_cases c' : j' = i
      · simp only [if_pos c']
        exact (h2 j a m).2.2.2.2
      · simp only [if_neg c']
        exact h3 j j' a n m
theorem tr_sto_v {fp : List Addr} {v : V} {m : Sto} (h : Tr b G H fp v (.sto m)) : v = .non := by
  cases h
  rfl
open Classical in
/-- an object of the store, to be changed -/
theorem EnvT.focus (E : EnvT b B G H σ ρ fv) {k : Nat} {m : Sto} {p : Addr} {t : T} (ek : ρ[k]? = some (some (.sto m))) (ep : m p = some t) : ∃ fp, Tr b G H fp (.ref p) t ∧ p ∈ fp ∧ (∀ a, a ∈ fp → B a = none ∧ G a = none ∧ b ≠ some a ∧ (∃ o, H a = some o) ∧ a ∉ fv) ∧
    ∀ (H' : Hp) (t' : T) (fp' : List Addr), (∀ a, a ∉ fp → a ∉ fv → H' a = H a) → p ∈ fp' → Tr b G H' fp' (.ref p) t' → (∀ a, a ∈ fp' → B a = none ∧ (a ∈ fp ∨ a ∈ fv)) → EnvT b B G H' σ (ρ.set k (some (.sto (stput m p t')))) (fv.filter fun a => decide (a ∉ fp')) := by
  obtain ⟨hl, fps, h1, h2, h3⟩ := id E
  obtain ⟨v, ev, tr⟩ := h1 k _ ek
  have hv := tr_sto_v tr
  subst hv
  generalize hf : fps k = fk at tr
  cases tr with
  | @sto _ _ fpm s0 s1 s2 s3 s4 =>
    refine ⟨fpm p, s1 p t ep, s0 p t ep, fun a ha => h2 k a (by rw [hf]; exact s2 p t a ep ha), fun H' t' fp' hH hp tr' sub => ?_⟩
    refine ⟨by rw [List.length_set]; exact hl, fun j => if j = k then fp' ++ fk.filter (fun a => decide (a ∉ fpm p)) else fps j, fun j u e => ?_, fun j a ma => ?_, fun j j' a n ma => ?_⟩
    · by_cases c : j = k
      · subst c
        have hi : j < ρ.length := (List.getElem?_eq_some_iff.mp ek).1
        rw [List.getElem?_set_self hi] at e
        cases e
        refine ⟨.non, ev, ?_⟩
        simp only [if_pos]
        refine .sto (fps := fun q => if q = p then fp' else fpm q) (fun q u eq => ?_) (fun q u eq => ?_) (fun q u a eq ha => ?_) (fun q q' u u' a n eq eq' ha => ?_) fun a ha => ?_
        · by_cases c : q = p
          · rw [if_pos c, c]
            exact hp
          · rw [stput_ne c] at eq
            rw [if_neg c]
            exact s0 q u eq
        · by_cases c : q = p
          · subst c
            rw [stput_same] at eq
            cases eq
            rw [if_pos rfl]
            exact tr'
          · rw [stput_ne c] at eq
            rw [if_neg c]
            refine (s1 q u eq).move (Ex.rfl' _) fun a ha => ⟨(h2 j a (by rw [hf]; exact s2 q u a eq ha)).2.1, hH a (fun z => s3 q p u t a c eq ep ha z) (h2 j a (by rw [hf]; exact s2 q u a eq ha)).2.2.2.2⟩
        · by_cases c : q = p
          · rw [if_pos c] at ha
            exact List.mem_append_left _ ha
          · rw [stput_ne c] at eq
            rw [if_neg c] at ha
            exact List.mem_append_right _ (List.mem_filter.mpr ⟨s2 q u a eq ha, decide_eq_true fun z => s3 q p u t a c eq ep ha z⟩)
        · have key : ∀ q u a, q ≠ p → m q = some u → a ∈ fpm q → a ∉ fp' := fun q u a c eq ha hz => by
            rcases (sub a hz).2 with z | z
            · exact s3 q p u t a c eq ep ha z
            · exact (h2 j a (by rw [hf]; exact s2 q u a eq ha)).2.2.2.2 z
          by_cases c : q = p
          · have c' : q' ≠ p := fun z => n (c.trans z.symm)
            rw [stput_ne c'] at eq'
            rw [if_pos c] at ha
            rw [if_neg c']
            exact fun z => key q' u' a c' eq' z ha
          · rw [stput_ne c] at eq
            rw [if_neg c] at ha
            by_cases c' : q' = p
            · rw [if_pos c']
              exact key q u a c eq ha
            · rw [stput_ne c'] at eq'
              rw [if_neg c']
              exact s3 q q' u u' a n eq eq' ha
        · rcases List.mem_append.mp ha with z | z
          · exact ⟨p, t', stput_same, by rw [if_pos rfl]; exact z⟩
          · obtain ⟨z1, z2⟩ := List.mem_filter.mp z
            obtain ⟨q, u, eq, hq⟩ := s4 a z1
            have c : q ≠ p := fun c => by
              subst c
              exact of_decide_eq_true z2 hq
            exact ⟨q, u, by rw [stput_ne c]; exact eq, by rw [if_neg c]; exact hq⟩
      · rw [List.getElem?_set_ne (Ne.symm c)] at e
        obtain ⟨w, e1, q⟩ := h1 j u e
        refine ⟨w, e1, ?_⟩
        simp only [if_neg c]
        exact q.move (Ex.rfl' _) fun a ma => ⟨(h2 j a ma).2.1, hH a (fun z => h3 j k a c ma (by rw [hf]; exact s2 p t a ep z)) (h2 j a ma).2.2.2.2⟩
    · by_cases c : j = k
      · simp only [if_pos c] at ma
        rcases List.mem_append.mp ma with z | z
        · obtain ⟨g1, g2, g3⟩ := tr'.mem a z
          refine ⟨(sub a z).1, g1, g2, g3, fun y => ?_⟩
          exact of_decide_eq_true (List.mem_filter.mp y).2 z
        · obtain ⟨z1, z2⟩ := List.mem_filter.mp z
          obtain ⟨g1, g2, g3, g4, g5⟩ := h2 k a (by rw [hf]; exact z1)
          exact ⟨g1, g2, g3, by rw [hH a (of_decide_eq_true z2) g5]; exact g4, fun y => g5 (List.mem_filter.mp y).1⟩
      · simp only [if_neg c] at ma
        obtain ⟨g1, g2, g3, g4, g5⟩ := h2 j a ma
        exact ⟨g1, g2, g3, by rw [hH a (fun z => h3 j k a c ma (by rw [hf]; exact s2 p t a ep z)) g5]; exact g4, fun y => g5 (List.mem_filter.mp y).1⟩
    · have key : ∀ j a, j ≠ k → a ∈ fps j → a ∉ fp' ++ fk.filter (fun a => decide (a ∉ fpm p)) := fun j a c ma mz => by
        rcases List.mem_append.mp mz with z | z
        · rcases (sub a z).2 with y | y
          · exact h3 j k a c ma (by rw [hf]; exact s2 p t a ep y)
          · exact (h2 j a ma).2.2.2.2 y
        · exact h3 j k a c ma (by rw [hf]; exact (List.mem_filter.mp z).1)
      by_cases c : j = k
      · simp only [if_pos c] at ma
        have c' : j' ≠ k := fun q => n (c.trans q.symm)
        simp only [if_neg c']
        exact fun q => key j' a c' q ma
      · simp only [if_neg c] at ma
        by_cases c' : j' = k
        · simp only [if_pos c']
          exact key j a c ma
        · simp only [if_neg c']
          exact h3 j j' a n ma
open Classical in
/-- an object goes out of the store -/
theorem Env.take_sto (E : Env b B G H σ ρ) {k : Nat} {m : Sto} {p : Addr} {t : T} (ek : ρ[k]? = some (some (.sto m))) (ep : m p = some t) : ∃ fp, Tr b G H fp (.ref p) t ∧ p ∈ fp ∧ (∀ a, a ∈ fp → B a = none) ∧ EnvT b B G H σ (ρ.set k (some (.sto (stdel m p)))) fp := by
  obtain ⟨hl, fps, h1, h2, h3⟩ := id E
  obtain ⟨v, ev, tr⟩ := h1 k _ ek
  have hv := tr_sto_v tr
  subst hv
  generalize hf : fps k = fk at tr
  cases tr with
  | @sto _ _ fpm s0 s1 s2 s3 s4 =>
    refine ⟨fpm p, s1 p t ep, s0 p t ep, fun a ha => (h2 k a (by rw [hf]; exact s2 p t a ep ha)).1, by rw [List.length_set]; exact hl, fun j => if j = k then fk.filter (fun a => decide (a ∉ fpm p)) else fps j, fun j u e => ?_, fun j a ma => ?_, fun j j' a n ma => ?_⟩
    · by_cases c : j = k
      · subst c
        have hi : j < ρ.length := (List.getElem?_eq_some_iff.mp ek).1
        rw [List.getElem?_set_self hi] at e
        cases e
        refine ⟨.non, ev, ?_⟩
        simp only [if_pos]
        refine .sto (fps := fpm) (fun q u eq => ?_) (fun q u eq => ?_) (fun q u a eq ha => ?_) (fun q q' u u' a n eq eq' ha => ?_) fun a ha => ?_
        · by_cases c : q = p
          · rw [c, stdel_same] at eq
            cases eq
          · rw [stdel_ne c] at eq
            exact s0 q u eq
        · by_cases c : q = p
          · rw [c, stdel_same] at eq
            cases eq
          · rw [stdel_ne c] at eq
            exact s1 q u eq
        · by_cases c : q = p
          · rw [c, stdel_same] at eq
            cases eq
          · rw [stdel_ne c] at eq
            exact List.mem_filter.mpr ⟨s2 q u a eq ha, decide_eq_true fun z => s3 q p u t a c eq ep ha z⟩
        · by_cases c : q = p
          · rw [c, stdel_same] at eq
            cases eq
          · by_cases c' : q' = p
            · rw [c', stdel_same] at eq'
              cases eq'
            · rw [stdel_ne c] at eq
              rw [stdel_ne c'] at eq'
              exact s3 q q' u u' a n eq eq' ha
        · obtain ⟨z1, z2⟩ := List.mem_filter.mp ha
          obtain ⟨q, u, eq, hq⟩ := s4 a z1
          have c : q ≠ p := fun c => by
            subst c
            exact of_decide_eq_true z2 hq
          exact ⟨q, u, by rw [stdel_ne c]; exact eq, hq⟩
      · rw [List.getElem?_set_ne (Ne.symm c)] at e
        obtain ⟨w, e1, q⟩ := h1 j u e
        exact ⟨w, e1, by simp only [if_neg c]; exact q⟩
    · by_cases c : j = k
      · simp only [if_pos c] at ma
        obtain ⟨z1, z2⟩ := List.mem_filter.mp ma
        obtain ⟨g1, g2, g3, g4⟩ := h2 k a (by rw [hf]; exact z1)
        exact ⟨g1, g2, g3, g4, of_decide_eq_true z2⟩
      · simp only [if_neg c] at ma
        obtain ⟨g1, g2, g3, g4⟩ := h2 j a ma
        exact ⟨g1, g2, g3, g4, fun z => h3 j k a c ma (by rw [hf]; exact s2 p t a ep z)⟩
    · have key : ∀ j a, j ≠ k → a ∈ fps j → a ∉ fk.filter (fun a => decide (a ∉ fpm p)) := fun j a c ma mz => h3 j k a c ma (by rw [hf]; exact (List.mem_filter.mp mz).1)
      by_cases c : j = k
      · simp only [if_pos c] at ma
        have c' : j' ≠ k := fun q => n (c.trans q.symm)
        simp only [if_neg c']
        exact fun q => key j' a c' q ma
      · simp only [if_neg c] at ma
        by_cases c' : j' = k
        · simp only [if_pos c']
          exact key j a c ma
        · simp only [if_neg c']
          exact h3 j j' a n ma
/-- an object goes into the store -/
theorem EnvT.give_sto (E : EnvT b B G H σ ρ fv) {k : Nat} {m : Sto} {p : Addr} {t : T} (ek : ρ[k]? = some (some (.sto m))) (tr' : Tr b G H fv (.ref p) t) (hp : p ∈ fv) (hB : ∀ a, a ∈ fv → B a = none) : m p = none ∧ Env b B G H σ (ρ.set k (some (.sto (stput m p t)))) := by
  obtain ⟨hl, fps, h1, h2, h3⟩ := id E
  obtain ⟨v, ev, tr⟩ := h1 k _ ek
  have hv := tr_sto_v tr
  subst hv
  generalize hf : fps k = fk at tr
  cases tr with
  | @sto _ _ fpm s0 s1 s2 s3 s4 =>
    have off : ∀ q u a, m q = some u → a ∈ fpm q → a ∉ fv := fun q u a eq ha => (h2 k a (by rw [hf]; exact s2 q u a eq ha)).2.2.2.2
    have np : m p = none := by
      cases eq : m p with
      | none => rfl
      | some u => exact absurd hp (off p u p eq (s0 p u eq))
    refine ⟨np, by rw [List.length_set]; exact hl, fun j => if j = k then fv ++ fk else fps j, fun j u e => ?_, fun j a ma => ?_, fun j j' a n ma => ?_⟩
    · by_cases c : j = k
      · subst c
        have hi : j < ρ.length := (List.getElem?_eq_some_iff.mp ek).1
        rw [List.getElem?_set_self hi] at e
        cases e
        refine ⟨.non, ev, ?_⟩
        simp only [if_pos]
        refine .sto (fps := fun q => if q = p then fv else fpm q) (fun q u eq => ?_) (fun q u eq => ?_) (fun q u a eq ha => ?_) (fun q q' u u' a n eq eq' ha => ?_) fun a ha => ?_
        · by_cases c : q = p
          · rw [if_pos c, c]
            exact hp
          · rw [stput_ne c] at eq
            rw [if_neg c]
            exact s0 q u eq
        · by_cases c : q = p
          · subst c
            rw [stput_same] at eq
            cases eq
            rw [if_pos rfl]
            exact tr'
          · rw [stput_ne c] at eq
            rw [if_neg c]
            exact s1 q u eq
        · by_cases c : q = p
          · rw [if_pos c] at ha
            exact List.mem_append_left _ ha
          · rw [stput_ne c] at eq
            rw [if_neg c] at ha
            exact List.mem_append_right _ (s2 q u a eq ha)
        · by_cases c : q = p
          · have c' : q' ≠ p := fun z => n (c.trans z.symm)
            rw [stput_ne c'] at eq'
            rw [if_pos c] at ha
            rw [if_neg c']
            exact fun z => off q' u' a eq' z ha
          · rw [stput_ne c] at eq
            rw [if_neg c] at ha
            by_cases c' : q' = p
            · rw [if_pos c']
              exact off q u a eq ha
            · rw [stput_ne c'] at eq'
              rw [if_neg c']
              exact s3 q q' u u' a n eq eq' ha
        · rcases List.mem_append.mp ha with z | z
          · exact ⟨p, t, stput_same, by rw [if_pos rfl]; exact z⟩
          · obtain ⟨q, u, eq, hq⟩ := s4 a z
            have c : q ≠ p := fun c => by
              rw [c, np] at eq
              cases eq
            exact ⟨q, u, by rw [stput_ne c]; exact eq, by rw [if_neg c]; exact hq⟩
      · rw [List.getElem?_set_ne (Ne.symm c)] at e
        obtain ⟨w, e1, q⟩ := h1 j u e
        exact ⟨w, e1, by simp only [if_neg c]; exact q⟩
    · by_cases c : j = k
      · simp only [if_pos c] at ma
        rcases List.mem_append.mp ma with z | z
        · exact ⟨hB a z, tr'.mem a z⟩
        · obtain ⟨g1, g2, g3, g4, _⟩ := h2 k a (by rw [hf]; exact z)
          exact ⟨g1, g2, g3, g4⟩
      · simp only [if_neg c] at ma
        obtain ⟨g1, g2, g3, g4, _⟩ := h2 j a ma
        exact ⟨g1, g2, g3, g4⟩
    · have key : ∀ j a, j ≠ k → a ∈ fps j → a ∉ fv ++ fk := fun j a c ma mz => by
        rcases List.mem_append.mp mz with z | z
        · exact (h2 j a ma).2.2.2.2 z
        · exact h3 j k a c ma (by rw [hf]; exact z)
      by_cases c : j = k
      · simp only [if_pos c] at ma
        have c' : j' ≠ k := fun q => n (c.trans q.symm)
        simp only [if_neg c']
        exact fun q => key j' a c' q ma
      · simp only [if_neg c] at ma
        by_cases c' : j' = k
        · simp only [if_pos c']
          exact key j a c ma
        · simp only [if_neg c']
          exact h3 j j' a n ma
end
/-! ### places within a tree -/
def T.kids : T → List T
  | .node ts => ts
  | .ins _ _ ts => ts
  | .dic _ ts => ts
  | .diT _ ts => ts
  | _ => []
def T.wk : T → List T → T
  | .node _, ts => .node ts
  | .ins C ks _, ts => .ins C ks ts
  | .dic ks _, ts => .dic ks ts
  | .diT ks _, ts => .diT ks ts
  | t, _ => t
def T.sub : T → List Nat → Option T
  | t, [] => some t
  | t, n :: r => match t.kids[n]? with
    | some u => u.sub r
    | none => none
def T.put : T → List Nat → T → T
  | _, [], u => u
  | t, n :: r, u => match t.kids[n]? with
    | some x => t.wk (t.kids.set n (x.put r u))
    | none => t
/-- the place n of what stands there -/
def child (o : Option HO) (n : Nat) : Option V := match o with
  | some (.lst vs) => vs[n]?
  | some (.ins _ _ us) => (us.map (·.2))[n]?
  | some (.dK us) => (us.map (·.2))[n]?
  | some (.dT us) => (us.map (·.2))[n]?
  | _ => none
def PathV (b : Option Addr) (H : Hp) : V → List Nat → V → Prop
  | v0, [], v => v = v0
  | v0, n :: r, v => ∃ a v1, v0 = .ref a ∧ b ≠ some a ∧ child (H a) n = some v1 ∧ PathV b H v1 r v
theorem PathV.det {b : Option Addr} {H : Hp} : ∀ {path : List Nat} {v0 v v' : V}, PathV b H v0 path v → PathV b H v0 path v' → v = v'
  | [], _, _, _, h, h' => h.trans h'.symm
  | n :: r, _, _, _, ⟨a, v1, e, _, c, h⟩, ⟨a', v1', e', _, c', h'⟩ => by
    subst e
    cases e'
    rw [c] at c'
    cases c'
    exact PathV.det h h'
theorem PathV.snoc {b : Option Addr} {H : Hp} {n : Nat} {a : Addr} {v : V} (nb : b ≠ some a) : ∀ {path : List Nat} {v0 : V}, PathV b H v0 path (.ref a) → child (H a) n = some v → PathV b H v0 (path ++ [n]) v
  | [], _, h, c => by
    have h : V.ref a = _ := h
    subst h
    exact ⟨a, v, rfl, nb, c, rfl⟩
  | m :: r, _, ⟨a', v1, e, n', c', h⟩, c => ⟨a', v1, e, n', c', PathV.snoc nb h c⟩
theorem PathV.keep {b : Option Addr} {H H' : Hp} (k : ∀ a o, b ≠ some a → H a = some o → H' a = some o) : ∀ {path : List Nat} {v0 v : V}, PathV b H v0 path v → PathV b H' v0 path v
  | [], _, _, h => h
  | n :: r, _, _, ⟨a, v1, e, nb, c, h⟩ => ⟨a, v1, e, nb, by
    cases q : H a with
    | none =>
      rw [q] at c
      cases c
    | some o =>
      rw [k a o nb q, ← q]
      exact c, PathV.keep k h⟩
theorem TrAll.focus {b : Option Addr} {G H : Hp} : ∀ {fp : List Addr} {vs : List V} {ts : List T} {n : Nat} {t1 : T}, TrAll b G H fp vs ts → ts[n]? = some t1 → ∃ v1 f1, vs[n]? = some v1 ∧ Tr b G H f1 v1 t1 ∧ (∀ a, a ∈ f1 → a ∈ fp) ∧
    ∀ (H' : Hp) (t1' : T) (f1' : List Addr), (∀ a, a ∈ fp → a ∉ f1 → H' a = H a) → Tr b G H' f1' v1 t1' → (∀ a, a ∈ f1' → a ∈ f1 ∨ a ∉ fp) → ∃ fp', TrAll b G H' fp' vs (ts.set n t1') ∧ (∀ a, a ∈ fp' → (a ∈ fp ∧ a ∉ f1) ∨ a ∈ f1') ∧ ∀ a, a ∈ f1' → a ∈ fp'
  | _, _, _, _, _, .nil, e => by simp at e
  | _, _, _, 0, t1, .cons (fp := f1) (fq := f2) tr r dj, e => by
    simp at e
    subst e
    refine ⟨_, f1, rfl, tr, fun a m => List.mem_append_left _ m, fun H' t1' f1' hH tr' sub => ?_⟩
    have d2 : ∀ a, a ∈ f2 → a ∉ f1 := fun a m z => dj a z m
    refine ⟨f1' ++ f2, .cons tr' (r.move (Ex.rfl' _) fun a m => ⟨(r.mem a m).1, hH a (List.mem_append_right _ m) (d2 a m)⟩) (fun a m z => ?_), fun a m => ?_, fun a m => List.mem_append_left _ m⟩
    · rcases sub a m with y | y
      · exact dj a y z
      · exact y (List.mem_append_right _ z)
    · rcases List.mem_append.mp m with z | z
      · exact .inr z
      · exact .inl ⟨List.mem_append_right _ z, d2 a z⟩
  | _, _, _, n + 1, t1, .cons (fp := f1) (fq := f2) tr r dj, e => by
    obtain ⟨v1, fu, h1, h2, h3, h4⟩ := TrAll.focus (n := n) r (by simpa using e)
    refine ⟨v1, fu, by simpa using h1, h2, fun a m => List.mem_append_right _ (h3 a m), fun H' t1' f1' hH tr' sub => ?_⟩
    obtain ⟨fp', g1, g2, g3⟩ := h4 H' t1' f1' (fun a m n => hH a (List.mem_append_right _ m) n) tr' fun a m => (sub a m).elim .inl fun z => .inr fun y => z (List.mem_append_right _ y)
    have nf : ∀ a, a ∈ f1 → a ∉ fu := fun a m z => dj a m (h3 a z)
    refine ⟨f1 ++ fp', .cons (tr.move (Ex.rfl' _) fun a m => ⟨(tr.mem a m).1, hH a (List.mem_append_left _ m) (nf a m)⟩) g1 (fun a m z => ?_), fun a m => ?_, fun a m => List.mem_append_right _ (g3 a m)⟩
    · rcases g2 a z with y | y
      · exact dj a m y.1
      · rcases sub a y with x | x
        · exact nf a m x
        · exact x (List.mem_append_left _ m)
    · rcases List.mem_append.mp m with z | z
      · exact .inl ⟨List.mem_append_left _ z, nf a z⟩
      · exact (g2 a z).elim (fun y => .inl ⟨List.mem_append_right _ y.1, y.2⟩) .inr
/-- a place, looked at and changed -/
theorem Tr.lens {b : Option Addr} {G H : Hp} : ∀ (path : List Nat) {fp : List Addr} {v0 : V} {t u : T}, Tr b G H fp v0 t → t.sub path = some u → ∃ v fu, PathV b H v0 path v ∧ Tr b G H fu v u ∧ (∀ a, a ∈ fu → a ∈ fp) ∧
    ∀ (H' : Hp) (u' : T) (fu' : List Addr), (∀ a, a ∈ fp → a ∉ fu → H' a = H a) → Tr b G H' fu' v u' → (∀ a, a ∈ fu' → a ∈ fu ∨ a ∉ fp) → ∃ fp', Tr b G H' fp' v0 (t.put path u') ∧ (∀ a, a ∈ fp' → (a ∈ fp ∧ a ∉ fu) ∨ a ∈ fu') ∧ (∀ a, a ∈ fu' → a ∈ fp') ∧ ∀ p, v0 = .ref p → (path = [] → p ∈ fu') → p ∈ fp'
  | [], fp, v0, t, u, tr, e => by
    have e : t = u := by simpa [T.sub] using e
    subst e
    exact ⟨v0, fp, rfl, tr, fun _ m => m, fun H' u' fu' hH tr' sub => ⟨fu', tr', fun a m => .inr m, fun a m => m, fun p _ h => h rfl⟩⟩
  | n :: r, fp, v0, t, u, tr, e => by
    cases tr with
    | leaf _ => simp [T.sub, T.kids] at e
    | own _ => simp [T.sub, T.kids] at e
    | sto _ _ _ _ _ => simp [T.sub, T.kids] at e
    | fro _ => simp [T.sub, T.kids] at e
    | eff _ _ _ => simp [T.sub, T.kids] at e
    | @node p f0 vs ts hp gp bp rr np =>
      unfold T.sub T.kids at e
      cases e1 : ts[n]? with
      | none => rw [e1] at e; cases e
      | some t1 =>
        rw [e1] at e
        obtain ⟨v1, f1, h1, h2, h3, h4⟩ := rr.focus e1
        obtain ⟨v, fu, k1, k2, k3, k4⟩ := Tr.lens r h2 e
        refine ⟨v, fu, ⟨p, v1, rfl, bp, by rw [hp]; exact h1, k1⟩, k2, fun a m => List.mem_cons_of_mem _ (h3 a (k3 a m)), fun H' u' fu' hH tr' sub => ?_⟩
        have hpu : p ∉ fu := fun z => np (h3 _ (k3 _ z))
        obtain ⟨f1', g1, g2, g3, _⟩ := k4 H' u' fu' (fun a m n => hH a (List.mem_cons_of_mem _ (h3 a m)) n) tr' fun a m => (sub a m).elim .inl fun z => .inr fun y => z (List.mem_cons_of_mem _ (h3 a y))
        obtain ⟨f0', j1, j2, j3⟩ := h4 H' _ f1' (fun a m n => hH a (List.mem_cons_of_mem _ m) fun z => n (k3 a z)) g1 fun a m => (g2 a m).elim (fun z => .inl z.1) fun z => (sub a z).elim (fun y => .inl (k3 a y)) fun y => .inr fun x => y (List.mem_cons_of_mem _ x)
        have npf : p ∉ f0' := fun z => (j2 _ z).elim (fun y => np y.1) fun y => (g2 _ y).elim (fun x => np (h3 _ x.1)) fun x => (sub _ x).elim hpu fun w => w (List.mem_cons_self ..)
        refine ⟨p :: f0', ?_, fun a m => ?_, fun a m => List.mem_cons_of_mem _ (j3 a (g3 a m)), fun q eq _ => by cases eq; exact List.mem_cons_self ..⟩
        · show Tr b G H' (p :: f0') (.ref p) (T.put (.node ts) (n :: r) u')
          unfold T.put
          simp only [T.kids, e1]
          exact .node (by rw [hH p (List.mem_cons_self ..) hpu]; exact hp) gp bp j1 npf
        · rcases List.mem_cons.mp m with z | z
          · subst z
            exact .inl ⟨List.mem_cons_self .., hpu⟩
          · rcases j2 a z with y | y
            · exact .inl ⟨List.mem_cons_of_mem _ y.1, fun x => y.2 (k3 a x)⟩
            · rcases g2 a y with x | x
              · exact .inl ⟨List.mem_cons_of_mem _ (h3 a x.1), x.2⟩
              · exact .inr x
    | @ins p dx C f0 us ks ts hp hx gp gx bp bx hk rr np nx ne =>
      unfold T.sub T.kids at e
      cases e1 : ts[n]? with
      | none => rw [e1] at e; cases e
      | some t1 =>
        rw [e1] at e
        obtain ⟨v1, f1, h1, h2, h3, h4⟩ := rr.focus e1
        obtain ⟨v, fu, k1, k2, k3, k4⟩ := Tr.lens r h2 e
        refine ⟨v, fu, ⟨p, v1, rfl, bp, by rw [hp]; exact h1, k1⟩, k2, fun a m => List.mem_cons_of_mem _ (List.mem_cons_of_mem _ (h3 a (k3 a m))), fun H' u' fu' hH tr' sub => ?_⟩
        have hpu : p ∉ fu := fun z => np (h3 _ (k3 _ z))
        have hxu : dx ∉ fu := fun z => nx (h3 _ (k3 _ z))
        have in2 : ∀ a, a ∈ f0 → a ∈ p :: dx :: f0 := fun a m => List.mem_cons_of_mem _ (List.mem_cons_of_mem _ m)
        have dxin : dx ∈ p :: dx :: f0 := List.mem_cons_of_mem _ (List.mem_cons_self ..)
        obtain ⟨f1', g1, g2, g3, _⟩ := k4 H' u' fu' (fun a m n => hH a (in2 a (h3 a m)) n) tr' fun a m => (sub a m).elim .inl fun z => .inr fun y => z (in2 a (h3 a y))
        obtain ⟨f0', j1, j2, j3⟩ := h4 H' _ f1' (fun a m n => hH a (in2 a m) fun z => n (k3 a z)) g1 fun a m => (g2 a m).elim (fun z => .inl z.1) fun z => (sub a z).elim (fun y => .inl (k3 a y)) fun y => .inr fun x => y (in2 a x)
        have npf : p ∉ f0' := fun z => (j2 _ z).elim (fun y => np y.1) fun y => (g2 _ y).elim (fun x => np (h3 _ x.1)) fun x => (sub _ x).elim hpu fun w => w (List.mem_cons_self ..)
        have nxf : dx ∉ f0' := fun z => (j2 _ z).elim (fun y => nx y.1) fun y => (g2 _ y).elim (fun x => nx (h3 _ x.1)) fun x => (sub _ x).elim hxu fun w => w dxin
        refine ⟨p :: dx :: f0', ?_, fun a m => ?_, fun a m => List.mem_cons_of_mem _ (List.mem_cons_of_mem _ (j3 a (g3 a m))), fun q eq _ => by cases eq; exact List.mem_cons_self ..⟩
        · show Tr b G H' (p :: dx :: f0') (.ref p) (T.put (.ins C ks ts) (n :: r) u')
          unfold T.put
          simp only [T.kids, e1]
          exact .ins (by rw [hH p (List.mem_cons_self ..) hpu]; exact hp) (by rw [hH dx dxin hxu]; exact hx) gp gx bp bx hk j1 npf nxf ne
        · rcases List.mem_cons.mp m with z | z
          · subst z
            exact .inl ⟨List.mem_cons_self .., hpu⟩
          · rcases List.mem_cons.mp z with z | z
            · subst z
              exact .inl ⟨dxin, hxu⟩
            · rcases j2 a z with y | y
              · exact .inl ⟨in2 a y.1, fun x => y.2 (k3 a x)⟩
              · rcases g2 a y with x | x
                · exact .inl ⟨in2 a (h3 a x.1), x.2⟩
                · exact .inr x
    | @dic p f0 us ks ts hp gp bp hk rr np =>
      unfold T.sub T.kids at e
      cases e1 : ts[n]? with
      | none => rw [e1] at e; cases e
      | some t1 =>
        rw [e1] at e
        obtain ⟨v1, f1, h1, h2, h3, h4⟩ := rr.focus e1
        obtain ⟨v, fu, k1, k2, k3, k4⟩ := Tr.lens r h2 e
        refine ⟨v, fu, ⟨p, v1, rfl, bp, by rw [hp]; exact h1, k1⟩, k2, fun a m => List.mem_cons_of_mem _ (h3 a (k3 a m)), fun H' u' fu' hH tr' sub => ?_⟩
        have hpu : p ∉ fu := fun z => np (h3 _ (k3 _ z))
        obtain ⟨f1', g1, g2, g3, _⟩ := k4 H' u' fu' (fun a m n => hH a (List.mem_cons_of_mem _ (h3 a m)) n) tr' fun a m => (sub a m).elim .inl fun z => .inr fun y => z (List.mem_cons_of_mem _ (h3 a y))
        obtain ⟨f0', j1, j2, j3⟩ := h4 H' _ f1' (fun a m n => hH a (List.mem_cons_of_mem _ m) fun z => n (k3 a z)) g1 fun a m => (g2 a m).elim (fun z => .inl z.1) fun z => (sub a z).elim (fun y => .inl (k3 a y)) fun y => .inr fun x => y (List.mem_cons_of_mem _ x)
        have npf : p ∉ f0' := fun z => (j2 _ z).elim (fun y => np y.1) fun y => (g2 _ y).elim (fun x => np (h3 _ x.1)) fun x => (sub _ x).elim hpu fun w => w (List.mem_cons_self ..)
        refine ⟨p :: f0', ?_, fun a m => ?_, fun a m => List.mem_cons_of_mem _ (j3 a (g3 a m)), fun q eq _ => by cases eq; exact List.mem_cons_self ..⟩
        · show Tr b G H' (p :: f0') (.ref p) (T.put (.dic ks ts) (n :: r) u')
          unfold T.put
          simp only [T.kids, e1]
          exact .dic (by rw [hH p (List.mem_cons_self ..) hpu]; exact hp) gp bp hk j1 npf
        · rcases List.mem_cons.mp m with z | z
          · subst z
            exact .inl ⟨List.mem_cons_self .., hpu⟩
          · rcases j2 a z with y | y
            · exact .inl ⟨List.mem_cons_of_mem _ y.1, fun x => y.2 (k3 a x)⟩
            · rcases g2 a y with x | x
              · exact .inl ⟨List.mem_cons_of_mem _ (h3 a x.1), x.2⟩
              · exact .inr x
    | @diT p f0 us ks ts hp gp bp hk rr np =>
      unfold T.sub T.kids at e
      cases e1 : ts[n]? with
      | none => rw [e1] at e; cases e
      | some t1 =>
        rw [e1] at e
        obtain ⟨v1, f1, h1, h2, h3, h4⟩ := rr.focus e1
        obtain ⟨v, fu, k1, k2, k3, k4⟩ := Tr.lens r h2 e
        refine ⟨v, fu, ⟨p, v1, rfl, bp, by rw [hp]; exact h1, k1⟩, k2, fun a m => List.mem_cons_of_mem _ (h3 a (k3 a m)), fun H' u' fu' hH tr' sub => ?_⟩
        have hpu : p ∉ fu := fun z => np (h3 _ (k3 _ z))
        obtain ⟨f1', g1, g2, g3, _⟩ := k4 H' u' fu' (fun a m n => hH a (List.mem_cons_of_mem _ (h3 a m)) n) tr' fun a m => (sub a m).elim .inl fun z => .inr fun y => z (List.mem_cons_of_mem _ (h3 a y))
        obtain ⟨f0', j1, j2, j3⟩ := h4 H' _ f1' (fun a m n => hH a (List.mem_cons_of_mem _ m) fun z => n (k3 a z)) g1 fun a m => (g2 a m).elim (fun z => .inl z.1) fun z => (sub a z).elim (fun y => .inl (k3 a y)) fun y => .inr fun x => y (List.mem_cons_of_mem _ x)
        have npf : p ∉ f0' := fun z => (j2 _ z).elim (fun y => np y.1) fun y => (g2 _ y).elim (fun x => np (h3 _ x.1)) fun x => (sub _ x).elim hpu fun w => w (List.mem_cons_self ..)
        refine ⟨p :: f0', ?_, fun a m => ?_, fun a m => List.mem_cons_of_mem _ (j3 a (g3 a m)), fun q eq _ => by cases eq; exact List.mem_cons_self ..⟩
        · show Tr b G H' (p :: f0') (.ref p) (T.put (.diT ks ts) (n :: r) u')
          unfold T.put
          simp only [T.kids, e1]
          exact .diT (by rw [hH p (List.mem_cons_self ..) hpu]; exact hp) gp bp hk j1 npf
        · rcases List.mem_cons.mp m with z | z
          · subst z
            exact .inl ⟨List.mem_cons_self .., hpu⟩
          · rcases j2 a z with y | y
            · exact .inl ⟨List.mem_cons_of_mem _ y.1, fun x => y.2 (k3 a x)⟩
            · rcases g2 a y with x | x
              · exact .inl ⟨List.mem_cons_of_mem _ (h3 a x.1), x.2⟩
              · exact .inr x
end Dd
/-! Expressions that change the store: readings, calls, methods, new objects. -/
namespace Dd
open PySem L2
/-- an expression that may change the slots' store -/
abbrev XE := (Rho → XP) → Rho → (T → Rho → Prop) → Prop
abbrev XA := (Rho → XP) → Rho → (List PyData → Rho → Prop) → Prop
abbrev XT := (Rho → XP) → Rho → (Bool → Rho → Prop) → Prop
structure SiteX (K : PySem.W.Frag) (mg : Str → Option Value) (E : XK) (b : Option Addr) (F G0 H0 G H : Hp) (σ : L2.St) (ρ : Rho) (xq : Rho → XP) : Prop where
  g0 : Good K b G0 H0
  ex : Ex F G
  st : Stp K b G0 H0 G H
  env : Env b H0 G H σ ρ
  xc : ∀ (ρ' : Rho) (n : Str) (pl : PyData) (C d : Addr) (G' H' : Hp), xq ρ' n pl → mg n = some (.ref C) → G' d = some (.xd (exF n pl)) → Ex F G' → Stp K b G0 H0 G' H' → Env b H0 G' H' σ ρ' → E (.ref C) (some d) H'
section
variable {K : PySem.W.Frag} {mg : Str → Option Value} {E : XK} {b : Option Addr} {F G0 H0 G H G' H' : Hp} {σ : L2.St} {ρ ρ' : Rho} {xq : Rho → XP}
theorem SiteX.good (h : SiteX K mg E b F G0 H0 G H σ ρ xq) : Good K b G H := h.st.good
theorem SiteX.site (h : SiteX K mg E b F G0 H0 G H σ ρ xq) : Site K mg E b H0 G H σ ρ (xq ρ) :=
  ⟨⟨h.st.good, h.env, fun a e => h.st.free h.g0 e⟩, fun n pl C d G' H' x m e s => h.xc ρ n pl C d G' H' x m e (h.ex.trans s.ex) (h.st.trans h.g0 s) (h.env.stp s)⟩
/-- what is settled here may be taken as what must stay -/
theorem SiteX.reF (h : SiteX K mg E b F G0 H0 G H σ ρ xq) : SiteX K mg E b G G0 H0 G H σ ρ xq := ⟨h.g0, Ex.rfl' _, h.st, h.env, fun ρ' n pl C d G' H' x m e f s E' => h.xc ρ' n pl C d G' H' x m e (h.ex.trans f) s E'⟩
theorem SiteX.unF {F' : Hp} (h : SiteX K mg E b F' G0 H0 G H σ ρ xq) (f : Ex F F') {xr : Rho → XP} {E2 : XK} (xc : ∀ (ρ' : Rho) (n : Str) (pl : PyData) (C d : Addr) (G' H' : Hp), xr ρ' n pl → mg n = some (.ref C) → G' d = some (.xd (exF n pl)) → Ex F G' → Stp K b G0 H0 G' H' → Env b H0 G' H' σ ρ' → E2 (.ref C) (some d) H') : SiteX K mg E2 b F G0 H0 G H σ ρ xr := ⟨h.g0, f.trans h.ex, h.st, h.env, xc⟩
theorem SiteX.stp (h : SiteX K mg E b F G0 H0 G H σ ρ xq) (s : Stp K b G H G' H') : SiteX K mg E b F G0 H0 G' H' σ ρ xq := ⟨h.g0, h.ex.trans s.ex, h.st.trans h.g0 s, h.env.stp s, h.xc⟩
theorem SiteX.to (h : SiteX K mg E b F G0 H0 G H σ ρ xq) (e : Ex F G') (s : Stp K b G0 H0 G' H') (E' : Env b H0 G' H' σ ρ') : SiteX K mg E b F G0 H0 G' H' σ ρ' xq := ⟨h.g0, e, s, E', h.xc⟩
end
/-- what is wanted of the value -/
def Ktx (K : PySem.W.Frag) (b : Option Addr) (F G0 H0 : Hp) (σ : L2.St) (P : T → Rho → Prop) (Q : VK) : Prop := ∀ (ρ' : Rho) (G' H' : Hp) (v : V) (t : T) (fv : List Addr), P t ρ' → Ex F G' → Stp K b G0 H0 G' H' → EnvT b H0 G' H' σ ρ' fv → Tr b G' H' fv v t → (∀ a, a ∈ fv → H0 a = none) → Q v H'
def xOf (K : PySem.W.Frag) (mg : Str → Option Value) (E : SX) (w : XE) : TE := fun σ H Q => ∃ (b : Option Addr) (F G0 H0 G : Hp) (ρ : Rho) (xq : Rho → XP) (P : T → Rho → Prop), w xq ρ P ∧ SiteX K mg (E σ) b F G0 H0 G H σ ρ xq ∧ Ktx K b F G0 H0 σ P Q
def xaOf (K : PySem.W.Frag) (mg : Str → Option Value) (E : SX) (w : XA) : TA := fun σ H Q => ∃ (b : Option Addr) (F G0 H0 G : Hp) (ρ : Rho) (xq : Rho → XP) (P : List PyData → Rho → Prop), w xq ρ P ∧ SiteX K mg (E σ) b F G0 H0 G H σ ρ xq ∧
  ∀ (ρ' : Rho) (G' H' : Hp) (vs : List V) (ds : List PyData), P ds ρ' → SiteX K mg (E σ) b F G0 H0 G' H' σ ρ' xq → Ex G G' → RpAll b G' vs ds → Q vs H'
def xtOf (K : PySem.W.Frag) (mg : Str → Option Value) (E : SX) (w : XT) : TT := fun σ H Q => ∃ (b : Option Addr) (F G0 H0 G : Hp) (ρ : Rho) (xq : Rho → XP) (P : Bool → Rho → Prop), w xq ρ P ∧ SiteX K mg (E σ) b F G0 H0 G H σ ρ xq ∧
  ∀ (ρ' : Rho) (G' H' : Hp) (k : Bool), P k ρ' → SiteX K mg (E σ) b F G0 H0 G' H' σ ρ' xq → Q k H'
/-- the value settles -/
theorem xOf_D {K : PySem.W.Frag} {mg : Str → Option Value} {E : SX} {w : XE} {σ : L2.St} {H : Hp} {Q : VK} {b : Option Addr} {F G0 H0 G : Hp} {ρ : Rho} {xq : Rho → XP} (P : PyData → Rho → Prop) (p : w xq ρ fun t ρ' => P t.dat ρ') (h : SiteX K mg (E σ) b F G0 H0 G H σ ρ xq)
    (k : ∀ (ρ' : Rho) (G' H' : Hp) (v : V) (d : PyData), P d ρ' → SiteX K mg (E σ) b F G0 H0 G' H' σ ρ' xq → Rp b G' v d → Q v H') : xOf K mg E w σ H Q :=
  ⟨b, F, G0, H0, G, ρ, xq, _, p, h, fun ρ' G' H' v t fv hp e s E' tr hB => by
    obtain ⟨g, ex, r, E2⟩ := E'.settle s.good tr
    exact k ρ' _ _ v _ hp (h.to (e.trans ex) (stp_addF s g ex hB) E2) r⟩
theorem Ktx.leaf {K : PySem.W.Frag} {mg : Str → Option Value} {E : XK} {b : Option Addr} {F G0 H0 G H : Hp} {σ : L2.St} {ρ : Rho} {xq : Rho → XP} {P : T → Rho → Prop} {Q : VK} (k : Ktx K b F G0 H0 σ P Q) (h : SiteX K mg E b F G0 H0 G H σ ρ xq) {v : V} {d : PyData} (p : P (.leaf d) ρ) (r : Rp b G v d) : Q v H :=
  k ρ G H v _ [] p h.ex h.st h.env.envT0 (.leaf r) fun _ z => nomatch z
section
variable {X : Cx} {E : SX} {e e2 o : Expr} {es : List Expr} {we wa wb : XE} {w : WE} {ws : WA} {xa : XA} {wt wu : XT} {pos p apos : Pos} {x : Str} {k : Nat}
theorem PE.imp {t u : TE} (h : PE X e t) (k : ∀ σ H Q, u σ H Q → t σ H Q) : PE X e u := ⟨fun pins s σ H Q I q => h.run pins s σ H Q I (k σ H Q q)⟩
theorem PT.imp {t u : TT} (h : PT X e t) (k : ∀ σ H Q, u σ H Q → t σ H Q) : PT X e u := ⟨fun pins s σ H Q I q => h.run pins s σ H Q I (k σ H Q q)⟩
/-- what changes nothing -/
def xPu (w : WE) : XE := fun x ρ P => w (x ρ) ρ fun t => P t ρ
theorem x_pu (h : PE X e (tOf X.K X.mg E w)) : PE X e (xOf X.K X.mg E (xPu w)) := PE.imp h fun σ H Q ⟨b, F, G0, H0, G, ρ, xq, P, p, hr, k⟩ =>
  ⟨b, H0, G, ρ, xq ρ, _, p, hr.site, fun G' H' v t fp hp s tr fr => k ρ G' H' v t fp hp (hr.ex.trans s.ex) (hr.st.trans hr.g0 s) (hr.env.envT s fr) tr fun a m => hr.st.free hr.g0 (fr a m)⟩
def xPuA (ws : WA) : XA := fun x ρ P => ws (x ρ) ρ fun t => P t ρ
theorem xa_pu (h : PA X es (aOf X.K X.mg E ws)) : PA X es (xaOf X.K X.mg E (xPuA ws)) := PA.imp h fun σ H Q ⟨b, F, G0, H0, G, ρ, xq, P, p, hr, k⟩ =>
  ⟨b, H0, G, ρ, xq ρ, _, p, hr.site, fun G' H' vs ds hp s r => k ρ G' H' vs ds hp (hr.stp s) s.ex r⟩
end
/-- a promise of a function that changes the store -/
abbrev SpecX := List PyData → Sto → (T → Sto → Prop) → (Str → PyData → Sto → Prop) → Prop
def spOfX (K : PySem.W.Frag) (mg : Str → Option Value) (S : SpecX) : Sp := fun vs H Q E => ∃ (b : Option Addr) (G : Hp) (ds : List PyData) (m : Sto) (fs : List Addr) (P : T → Sto → Prop) (xp : Str → PyData → Sto → Prop), S ds m P xp ∧ Good K b G H ∧ RpAll b G vs ds ∧ Tr b G H fs .non (.sto m) ∧
  (∀ (G' H' : Hp) (v : V) (t : T) (m' : Sto) (fs' fv : List Addr), P t m' → Stp K b G (less H fs) G' H' → Tr b G' H' fs' .non (.sto m') → Tr b G' H' fv v t → (∀ a, a ∈ fs' → a ∉ fv) → (∀ a, a ∈ fs' ∨ a ∈ fv → a ∈ fs ∨ H a = none) → Q v H') ∧
  (∀ (n : Str) (pl : PyData) (C d : Addr) (G' H' : Hp) (m' : Sto) (fs' : List Addr), xp n pl m' → mg n = some (.ref C) → G' d = some (.xd (exF n pl)) → Stp K b G (less H fs) G' H' → Tr b G' H' fs' .non (.sto m') → (∀ a, a ∈ fs' → a ∈ fs ∨ H a = none) → E (.ref C) (some d) H')
section
variable {K : PySem.W.Frag} {mg : Str → Option Value} {E : XK} {b : Option Addr} {F G0 H0 G H G' H' : Hp} {σ : L2.St} {ρ : Rho} {xq : Rho → XP} {k : Nat} {m m' : Sto}
/-- back from a callee that had the store -/
theorem SiteX.back (h : SiteX K mg E b F G0 H0 G H σ ρ xq) (ek : ρ[k]? = some (some (.sto m))) : ∃ fs, Tr b G H fs .non (.sto m) ∧ ∀ (G' H' : Hp) (m' : Sto) (fs' fv : List Addr), Stp K b G (less H fs) G' H' → Tr b G' H' fs' .non (.sto m') → (∀ a, a ∈ fs' → a ∉ fv) → (∀ a, a ∈ fs' ∨ a ∈ fv → a ∈ fs ∨ H a = none) →
    Ex F G' ∧ Stp K b G0 H0 G' H' ∧ EnvT b H0 G' H' σ (ρ.set k (some (.sto m'))) fv ∧ ∀ a, a ∈ fv → H0 a = none := by
  obtain ⟨hl, fps, h1, h2, h3⟩ := id h.env
  obtain ⟨v, ev, tr⟩ := h1 k _ ek
  have hv := tr_sto_v tr
  subst hv
  have mm := h2 k
  generalize hf : fps k = fs at tr mm
  refine ⟨fs, tr, fun G' H' m' fs' fv s2 tr' dj fr => ?_⟩
  have out2 : ∀ a o, a ∉ fs → G a = none → H a = some o → G' a = none := fun a o na n e => s2.out a o n (by rw [less_out na]; exact e)
  have keep2 : ∀ a o, a ∉ fs → b ≠ some a → H a = some o → H' a = some o := fun a o na c e => s2.keep a o c (by rw [less_out na]; exact e)
  have fr0 : ∀ a, a ∈ fs → H0 a = none := fun a z => (mm a z).1
  have frv : ∀ a, a ∈ fs' ∨ a ∈ fv → H0 a = none := fun a z => (fr a z).elim (fr0 a) fun y => h.st.free h.g0 y
  have off : ∀ i a, i ≠ k → a ∈ fps i → a ∉ fs' ∧ a ∉ fv := fun i a c z => by
    obtain ⟨_, _, _, o, eo⟩ := h2 i a z
    have na : a ∉ fs := fun y => h3 i k a c z (by rw [hf]; exact y)
    have nn : ¬ H a = none := fun w => by
      rw [eo] at w
      cases w
    exact ⟨fun y => (fr a (.inl y)).elim na nn, fun y => (fr a (.inr y)).elim na nn⟩
  refine ⟨h.ex.trans s2.ex, ⟨h.st.ex.trans s2.ex, s2.good, fun a o c e => ?_, fun a o n e => ?_, fun a c => ?_⟩, ⟨by rw [List.length_set]; exact hl, fun i => if i = k then fs' else fps i, fun i u e => ?_, fun i a z => ?_, fun i i' a n z => ?_⟩, fun a z => frv a (.inr z)⟩
  · refine keep2 a o (fun z => ?_) c (h.st.keep a o c e)
    rw [fr0 a z] at e
    cases e
  · obtain ⟨o', e'⟩ := h.st.there h.g0 e
    refine out2 a o' (fun z => ?_) (h.st.out a o n e) e'
    rw [fr0 a z] at e
    cases e
  · rw [s2.cel a c, ← h.st.cel a c]
    exact boxc_eq (less_out fun z => (mm a z).2.2.1 c)
  · by_cases c : i = k
    · subst c
      have hi : i < ρ.length := (List.getElem?_eq_some_iff.mp ek).1
      rw [List.getElem?_set_self hi] at e
      cases e
      exact ⟨_, ev, by simp only [if_pos]; exact tr'⟩
    · rw [List.getElem?_set_ne (Ne.symm c)] at e
      obtain ⟨w, ew, q⟩ := h1 i u e
      refine ⟨w, ew, ?_⟩
      simp only [if_neg c]
      refine q.move s2.ex fun a z => ?_
      obtain ⟨_, gn, bn, o, eo⟩ := h2 i a z
      have na : a ∉ fs := fun y => h3 i k a c z (by rw [hf]; exact y)
      exact ⟨out2 a o na gn eo, by rw [eo]; exact keep2 a o na bn eo⟩
  · by_cases c : i = k
    · simp only [if_pos c] at z
      obtain ⟨g1, g2, g3⟩ := tr'.mem a z
      exact ⟨frv a (.inl z), g1, g2, g3, dj a z⟩
    · simp only [if_neg c] at z
      obtain ⟨z0, gn, bn, o, eo⟩ := h2 i a z
      have na : a ∉ fs := fun y => h3 i k a c z (by rw [hf]; exact y)
      exact ⟨z0, out2 a o na gn eo, bn, ⟨o, keep2 a o na bn eo⟩, (off i a c z).2⟩
  · by_cases c : i = k
    · simp only [if_pos c] at z
      have c' : ¬ i' = k := fun q => n (c.trans q.symm)
      simp only [if_neg c']
      exact fun q => (off i' a c' q).1 z
    · simp only [if_neg c] at z
      by_cases c' : i' = k
      · simp only [if_pos c']
        exact (off i a c z).1
      · simp only [if_neg c']
        exact h3 i i' a n z
/-- the promise, from a site -/
theorem SiteX.sp {S : SpecX} {P : T → Rho → Prop} {Q : VK} (h : SiteX K mg E b F G0 H0 G H σ ρ xq) (ek : ρ[k]? = some (some (.sto m))) {vs : List V} {ds : List PyData} (r : RpAll b G vs ds) (q : S ds m (fun t m' => P t (ρ.set k (some (.sto m')))) (fun n pl m' => xq (ρ.set k (some (.sto m'))) n pl)) (kk : Ktx K b F G0 H0 σ P Q) : spOfX K mg S vs H Q E := by
  obtain ⟨fs, tr, back⟩ := h.back ek
  refine ⟨b, G, ds, m, fs, _, _, q, h.good, r, tr, fun G' H' v t m' fs' fv hP s2 tr' tv dj fr => ?_, fun n pl C d G' H' m' fs' hx hm hd s2 tr' fr => ?_⟩
  · obtain ⟨e2, s3, E2, hB⟩ := back G' H' m' fs' fv s2 tr' dj fr
    exact kk _ G' H' v t fv hP e2 s3 E2 tv hB
  · obtain ⟨e2, s3, E2, hB⟩ := back G' H' m' fs' [] s2 tr' (fun _ _ z => nomatch z) fun a z => z.elim (fr a) fun y => nomatch y
    exact h.xc _ n pl C d G' H' hx hm hd e2 s3 E2.env
end
/-- a def that may be called by its name, changing the store -/
structure CalS (CX : CXT) (P : Program) (w : World) (K : PySem.W.Frag) (mg : Str → Option Value) (base : Heap) (x : Str) (ps : List Str) (k : Nat) (S : SpecX) : Prop where
  ex : ∃ f fd, FnOk P w K mg base CX k f fd ps (spOfX K mg S) ∧ mg x = some (.ref f) ∧ PySem.W.keepIn K (.ref f) = true ∧ Binds K fd ps []
/-- a method of the class at C: f stands there, its promise is sp -/
structure Mth (CX : CXT) (P : Program) (w : World) (K : PySem.W.Frag) (mg : Str → Option Value) (base : Heap) (C : Addr) (x : Str) (ps : List Str) (k : Nat) (sp : Sp) : Prop where
  ex : ∃ f fd, FnOk P w K mg base CX k f fd ps sp ∧ Meth K C x f ∧ Binds K fd ps []
  cls : Cls K C
abbrev MthS (CX : CXT) (P : Program) (w : World) (K : PySem.W.Frag) (mg : Str → Option Value) (base : Heap) (C : Addr) (x : Str) (ps : List Str) (k : Nat) (S : SpecX) : Prop := Mth CX P w K mg base C x ps k (spOfX K mg S)
abbrev MthP (CX : CXT) (P : Program) (w : World) (K : PySem.W.Frag) (mg : Str → Option Value) (base : Heap) (C : Addr) (x : Str) (ps : List Str) (k : Nat) (S : Spec) : Prop := Mth CX P w K mg base C x ps k (spOf K mg S)
/-- a class whose objects are made -/
structure MkS (CX : CXT) (P : Program) (w : World) (K : PySem.W.Frag) (mg : Str → Option Value) (base : Heap) (x : Str) (C : Addr) (ps : List Str) (k : Nat) (S : SpecX) : Prop where
  ex : ∃ f fd, FnOk P w K mg base CX k f fd ps (spOfX K mg S) ∧ Mk K C f ∧ Binds K fd ps []
  mg' : mg x = some (.ref C)
/-! ### calls -/
/-- the store at the slot k -/
def atSto (k : Nat) (ρ : Rho) (P : Sto → Prop) : Prop := ∃ m, ρ[k]? = some (some (.sto m)) ∧ P m
def xCall (k : Nat) (S : SpecX) (wa : XA) : XE := fun x ρ P => wa x ρ fun ds ρ1 => atSto k ρ1 fun m => S ds m (fun t m' => P t (ρ1.set k (some (.sto m')))) fun n pl m' => x (ρ1.set k (some (.sto m'))) n pl
/-- a function that changes nothing, its arguments may -/
def xCallP (S : Spec) (wa : XA) : XE := fun x ρ P => wa x ρ fun ds ρ1 => S ds (fun t => P t ρ1) (x ρ1)
section
variable {X : Cx} {E : SX} {e e2 o : Expr} {es : List Expr} {we wa wb wr : XE} {w : WE} {ws : WA} {xa : XA} {wt wu : XT} {pos p apos : Pos} {x : Str} {k j l : Nat} {ps : List Str} {S : SpecX} {SP : Spec} {C : Addr}
theorem xcall_core {E0 : XK} {σ : L2.St} {H : Hp} {Q : VK} (hE : E0 = E σ) (q : xOf X.K X.mg E (xCall k S xa) σ H Q) : xaOf X.K X.mg E xa σ H fun vs H1 => spOfX X.K X.mg S vs H1 Q E0 := by
  obtain ⟨b, F, G0, H0, G, ρ, xq, P, p, hr, kk⟩ := q
  refine ⟨b, F, G0, H0, G, ρ, xq, _, p, hr, fun ρ' G' H' vs ds hp hr1 _ r => ?_⟩
  obtain ⟨m, em, hS⟩ := hp
  rw [hE]
  exact hr1.sp em r hS kk
theorem x_callX (Cc : CalS (L2.CX X.prog X.w) X.prog X.w X.K X.mg X.base x ps l S) (hr : Room j X.A) (tk : Takes X (wxOf E)) (ha : PA X (e :: es) (xaOf X.K X.mg E xa)) (hg : Gl X x := by rfl) (hj : l ≤ j := by decide) (hdb : (x == ("__debug__" : Str)) = false := by decide) (he : starEach (e :: es) X.env = (false, eval e X.env) :: starEach es X.env := by rfl) (hpl : (backTo pos (starEach es X.env)).any (·.1) = false := by rfl) :
    PE X (.Call (.Name x p) (e :: es) [] pos) (xOf X.K X.mg E (xCall k S xa)) := by
  obtain ⟨f, fd, h, m, kp, b⟩ := Cc.ex
  exact PE.imp (pe_callX h (hr.mono hj) hg m kp b tk ha hdb he hpl) fun σ H Q q => xcall_core rfl q
theorem xcallp_core {E0 : XK} {σ : L2.St} {H : Hp} {Q : VK} (hE : E0 = E σ) (q : xOf X.K X.mg E (xCallP SP xa) σ H Q) : xaOf X.K X.mg E xa σ H fun vs H1 => spOf X.K X.mg SP vs H1 Q E0 := by
  obtain ⟨b, F, G0, H0, G, ρ, xq, P, p, hr, kk⟩ := q
  refine ⟨b, F, G0, H0, G, ρ, xq, _, p, hr, fun ρ' G' H' vs ds hp hr1 _ r => ?_⟩
  rw [hE]
  exact ⟨b, G', ds, _, _, hp, hr1.good, r, fun G2 H2 v t fp hp2 s2 tr fr => kk ρ' G2 H2 v t fp hp2 (hr1.ex.trans s2.ex) (hr1.st.trans hr1.g0 s2) (hr1.env.envT s2 fr) tr fun a z => hr1.st.free hr1.g0 (fr a z), hr1.site.xc⟩
theorem x_callP (Cc : Cal X.prog X.w X.K X.mg X.base x ps l SP) (hr : Room j X.A) (ha : PA X (e :: es) (xaOf X.K X.mg E xa)) (hg : Gl X x := by rfl) (hj : l ≤ j := by decide) (hdb : (x == ("__debug__" : Str)) = false := by decide) (he : starEach (e :: es) X.env = (false, eval e X.env) :: starEach es X.env := by rfl) (hpl : (backTo pos (starEach es X.env)).any (·.1) = false := by rfl) :
    PE X (.Call (.Name x p) (e :: es) [] pos) (xOf X.K X.mg E (xCallP SP xa)) := by
  obtain ⟨f, fd, h, m, kp, b⟩ := Cc.ex
  exact ⟨fun pins s σ H Q I q => (pe_call (E := E σ) h (hr.mono hj) hg m kp b .nil pass0 ha hdb he hpl).run pins s σ H Q I (by
    have := xcallp_core (E0 := E σ) rfl q
    obtain ⟨b, F, G0, H0, G, ρ, xq, P, p, hr, kk⟩ := this
    exact ⟨b, F, G0, H0, G, ρ, xq, P, p, hr, fun ρ' G' H' vs ds hp hr1 e r => by
      show spOf X.K X.mg SP (vs ++ []) H' Q (E σ)
      rw [List.append_nil]
      exact kk ρ' G' H' vs ds hp hr1 e r⟩)⟩
/-- arguments, from the left -/
def xaCons (we : XE) (xa : XA) : XA := fun x ρ P => we x ρ fun t ρ1 => xa x ρ1 fun ds ρ2 => P (t.dat :: ds) ρ2
def xaNil : XA := fun _ ρ P => P [] ρ
theorem xa_nil : PA X [] (xaOf X.K X.mg E xaNil) := PA.imp pa_nil fun σ H Q ⟨b, F, G0, H0, G, ρ, xq, P, p, hr, kk⟩ => kk ρ G H [] [] p hr (Ex.rfl' _) .nil
theorem xa_cons (ha : PE X e (xOf X.K X.mg E we)) (hb : PA X es (xaOf X.K X.mg E xa)) (hs : starEach (e :: es) X.env = (false, eval e X.env) :: starEach es X.env := by rfl) : PA X (e :: es) (xaOf X.K X.mg E (xaCons we xa)) := PA.imp (pa_cons ha hb hs) fun σ H Q ⟨b, F, G0, H0, G, ρ, xq, P, p, hr, kk⟩ => by
  refine ⟨b, G, G0, H0, G, ρ, xq, _, p, hr.reF, fun ρ1 G1 H1 v t fv hp e1 s1 E1 tr hB => ?_⟩
  obtain ⟨g, ex, r, E2⟩ := E1.settle s1.good tr
  have hr1 := hr.reF.to (e1.trans ex) (stp_addF s1 g ex hB) E2
  exact ⟨b, addF G1 H1 fv, G0, H0, addF G1 H1 fv, ρ1, xq, fun ds ρ2 => P (t.dat :: ds) ρ2, hp, hr1.reF, fun ρ2 G2 H2 vs ds hp2 hr2 e2 r2 =>
    kk ρ2 G2 H2 _ _ hp2 (hr2.unF ((hr.ex.trans e1).trans ex) hr.xc) ((e1.trans ex).trans e2) (.cons (r.mono e2) r2)⟩
end
end Dd
/-! Methods, new objects, tests; the statements that change the store. -/
namespace Dd
open PySem L2
/-! ### methods that let exceptions out, with the slots as they stand -/
section
variable {X : Cx} {E : SX} {k : Nat} {f C : Addr} {fd : FuncData} {ps : List Str} {sp : Sp} {m : Str} {p pos apos : Pos} {e o : Expr} {es : List Expr} {ta : TE} {t : TA} {x : Str}
def tMethX (C : Addr) (m : Str) (sp : Sp) (E : SX) (ta : TE) (t : TA) : TE := fun σ H Q => ta σ H fun x H1 => ∃ a dx fs, x = .ref a ∧ H1 a = some (.ins C dx fs) ∧ fs.lookup m = none ∧ t σ H1 fun vs H2 => sp (x :: vs) H2 Q (E σ)
theorem pe_methX {pl : Sem Bool} (he : PE X o ta) (c : Cls X.K C) (hm : Meth X.K C m f) (F : FnOk X.prog X.w X.K X.mg X.base (L2.CX X.prog X.w) k f fd ps sp) (hr : Room k X.A) (hb : Binds X.K fd ps []) (tk : Takes X (wxOf E)) (ha : PA X (e :: es) t)
    (hst : starEach (e :: es) X.env = (false, eval e X.env) :: starEach es X.env := by rfl) (hpl : (backTo pos (starEach es X.env)).any (·.1) = false := by rfl)
    (ht : eval (.Call (.Attribute o m apos) (e :: es) [] pos) X.env = (do
      let ov ← eval o X.env
      standAt apos.atName
      let (f, first) ← holding [ov] (getMethod ov m pl)
      callWith pos f first (backTo pos (starEach (e :: es) X.env)) (backToKw pos (keywordEach [] X.env))) := by rfl) :
    PE X (.Call (.Attribute o m apos) (e :: es) [] pos) (tMethX C m sp E ta t) := by
  refine ⟨fun pins s σ H Q I h => ?_⟩
  refine PySem.W.methodCall_KW (pl := pl) (thn (he.run pins s σ H _ I h) fun u s1 ⟨x, H1, I1, rx, a, dx, fs, ex, ea, l, q⟩ => ?_) ht
  subst ex
  obtain rfl : u = Value.ref a := rx
  refine getmeth_ok I1 ea c hm l ?_
  refine PySem.W.callWith_K (first := [.ref a]) (h₀ := X.base) I.ok.mod.kin hm.kp (thn (ha.run pos pins s1 σ H1 _ I1 q) fun us s2 ⟨vs, H2, I2, r, q2⟩ => ⟨I2.kIn, ?_⟩) hst hpl
  exact run_fnX (us := .ref a :: us) (vs := .ref a :: vs) F hr hb tk I2 (.cons rfl r) q2
theorem pe_meth0X {pl : Sem Bool} (he : PE X o ta) (c : Cls X.K C) (hm : Meth X.K C m f) (F : FnOk X.prog X.w X.K X.mg X.base (L2.CX X.prog X.w) k f fd ps sp) (hr : Room k X.A) (hb : Binds X.K fd ps []) (tk : Takes X (wxOf E))
    (ht : eval (.Call (.Attribute o m apos) [] [] pos) X.env = (do
      let ov ← eval o X.env
      standAt apos.atName
      let (f, first) ← holding [ov] (getMethod ov m pl)
      callWith pos f first (backTo pos (starEach [] X.env)) (backToKw pos (keywordEach [] X.env))) := by rfl) :
    PE X (.Call (.Attribute o m apos) [] [] pos) (tMethX C m sp E ta tNil) := by
  refine ⟨fun pins s σ H Q I h => ?_⟩
  refine PySem.W.methodCall_KW (pl := pl) (thn (he.run pins s σ H _ I h) fun u s1 ⟨x, H1, I1, rx, a, dx, fs, ex, ea, l, q⟩ => ?_) ht
  subst ex
  obtain rfl : u = Value.ref a := rx
  refine getmeth_ok I1 ea c hm l ?_
  exact PySem.W.callWith_K0 (first := [.ref a]) I1.kIn hm.kp (run_fnX (us := [.ref a]) (vs := [.ref a]) F hr hb tk I1 (.cons rfl .nil) q)
/-- one word for both kinds of def -/
inductive Way (X : Cx) (E : SX) : CXT → Prop
  | calm : Way X E CX0
  | out (tk : Takes X (wxOf E)) : Way X E (L2.CX X.prog X.w)
theorem pe_methW {CX : CXT} {pl : Sem Bool} (W : Way X E CX) (he : PE X o ta) (c : Cls X.K C) (hm : Meth X.K C m f) (F : FnOk X.prog X.w X.K X.mg X.base CX k f fd ps sp) (hr : Room k X.A) (hb : Binds X.K fd ps []) (ha : PA X (e :: es) t)
    (hst : starEach (e :: es) X.env = (false, eval e X.env) :: starEach es X.env := by rfl) (hpl : (backTo pos (starEach es X.env)).any (·.1) = false := by rfl)
    (ht : eval (.Call (.Attribute o m apos) (e :: es) [] pos) X.env = (do
      let ov ← eval o X.env
      standAt apos.atName
      let (f, first) ← holding [ov] (getMethod ov m pl)
      callWith pos f first (backTo pos (starEach (e :: es) X.env)) (backToKw pos (keywordEach [] X.env))) := by rfl) :
    PE X (.Call (.Attribute o m apos) (e :: es) [] pos) (tMethX C m sp E ta t) := by
  cases W with
  | calm =>
    refine ⟨fun pins s σ H Q I q => (pe_meth (E := E σ) (pl := pl) he c hm F hr hb .nil pass0 ha hst hpl ht).run pins s σ H Q I ?_⟩
    have e : tMethX C m sp E ta t σ H Q = tMeth C m sp [] (E σ) ta t σ H Q := by
      unfold tMethX tMeth
      simp only [List.append_nil]
    rw [← e]
    exact q
  | out tk => exact pe_methX (pl := pl) he c hm F hr hb tk ha hst hpl ht
theorem pe_meth0W {CX : CXT} {pl : Sem Bool} (W : Way X E CX) (he : PE X o ta) (c : Cls X.K C) (hm : Meth X.K C m f) (F : FnOk X.prog X.w X.K X.mg X.base CX k f fd ps sp) (hr : Room k X.A) (hb : Binds X.K fd ps [])
    (ht : eval (.Call (.Attribute o m apos) [] [] pos) X.env = (do
      let ov ← eval o X.env
      standAt apos.atName
      let (f, first) ← holding [ov] (getMethod ov m pl)
      callWith pos f first (backTo pos (starEach [] X.env)) (backToKw pos (keywordEach [] X.env))) := by rfl) :
    PE X (.Call (.Attribute o m apos) [] [] pos) (tMethX C m sp E ta tNil) := by
  cases W with
  | calm =>
    refine ⟨fun pins s σ H Q I q => (pe_meth0 (E := E σ) (pl := pl) he c hm F hr hb .nil pass0 ht).run pins s σ H Q I ?_⟩
    have e : tMethX C m sp E ta tNil σ H Q = tMeth C m sp [] (E σ) ta tNil σ H Q := by
      unfold tMethX tMeth
      simp only [List.append_nil]
    rw [← e]
    exact q
  | out tk => exact pe_meth0X (pl := pl) he c hm F hr hb tk ht
theorem run_makeX {pins : List (Addr × Obj)} {σ : L2.St} {H : Hp} {s : Shared} {Q : VK} {us : List Value} {vs : List V} (M : Mk X.K C f) (F : FnOk X.prog X.w X.K X.mg X.base (L2.CX X.prog X.w) k f fd ps sp) (hr : Room (k + 1) X.A) (hb : Binds X.K fd ps []) (tk : Takes X (wxOf E))
    (I : Inv X pins σ H s) (r : Vals vs us)
    (h : ∀ x dx, H x = none → H dx = none → dx ≠ x → sp (.ref x :: vs) (upd (upd H dx (.own x)) x (.ins C dx [])) (fun v H2 => v = .non ∧ Q (.ref x) H2) (E σ)) :
    wpAny (model X.prog X.w) X.A (call (.ref C) us) (EP X pins σ Q) X.xe s := by
  have hq := h (s.heap.objs.size + 1) s.heap.objs.size (I.hok.fresh (Nat.le_succ _)) (I.hok.fresh (Nat.le_refl _)) (Nat.ne_of_lt (Nat.lt_succ_self _))
  have I2 := Inv.made (C := C) I
  have r2 : Vals (V.ref (s.heap.objs.size + 1) :: vs) (Value.ref (s.heap.objs.size + 1) :: us) := .cons rfl r
  have hl : (Value.ref (s.heap.objs.size + 1) :: us).length = ps.length := by
    have e := r2.length
    rw [F.len _ _ _ _ hq] at e
    exact e.symm
  have hb2 := hb _ (Value.ref (s.heap.objs.size + 1) :: us) I2.kIn (by rw [List.append_nil]; exact hl)
  rw [List.append_nil] at hb2
  refine wpAny_call (make_map (f := f) I.kIn M.makes M.init (beq_iff_eq.mp M.fn) (codeAny_mono (F.run _ X.stack _ _ ⟨Value.ref (s.heap.objs.size + 1) :: us, []⟩ (Value.ref (s.heap.objs.size + 1) :: us) _ _ (E σ) (hr.make C us [])
    (I2.env0.make C us []) hb2 r2 hq) fun r s' hq' => ?_))
  cases r with
  | error e => exact tk e s' (XE.of_call I2 (fun _ _ _ z => z) hq')
  | ok fl =>
    cases fl with
    | ret u =>
      obtain ⟨v, H', I3, rv, ev, q3⟩ := I2.after hq'
      subst ev
      exact ⟨rv, ⟨V.ref (s.heap.objs.size + 1), H', I3, rfl, q3⟩⟩
    | next => exact False.elim hq'
    | brk => exact False.elim hq'
    | cont => exact False.elim hq'
def tMakeX (C : Addr) (sp : Sp) (E : SX) (t : TA) : TE := fun σ H Q => t σ H fun vs H1 => ∀ x dx, H1 x = none → H1 dx = none → dx ≠ x → sp (.ref x :: vs) (upd (upd H1 dx (.own x)) x (.ins C dx [])) (fun v H2 => v = .non ∧ Q (.ref x) H2) (E σ)
theorem pe_makeW {CX : CXT} (W : Way X E CX) (M : Mk X.K C f) (F : FnOk X.prog X.w X.K X.mg X.base CX k f fd ps sp) (hr : Room (k + 1) X.A) (hg : Gl X x) (hm : X.mg x = some (.ref C)) (hb : Binds X.K fd ps [])
    (ha : PA X (e :: es) t) (hdb : (x == ("__debug__" : Str)) = false := by decide) (he : starEach (e :: es) X.env = (false, eval e X.env) :: starEach es X.env := by rfl) (hpl : (backTo pos (starEach es X.env)).any (·.1) = false := by rfl) :
    PE X (.Call (.Name x p) (e :: es) [] pos) (tMakeX C sp E t) := by
  cases W with
  | calm =>
    refine ⟨fun pins s σ H Q I q => (pe_make (E := E σ) M F hr hg hm hb .nil pass0 ha hdb he hpl).run pins s σ H Q I ?_⟩
    have e : tMakeX C sp E t σ H Q = tMake C sp [] (E σ) t σ H Q := by
      unfold tMakeX tMake
      simp only [List.append_nil]
    rw [← e]
    exact q
  | out tk =>
    refine ⟨fun pins s σ H Q I h => ?_⟩
    refine wpAny_Call_Name_kw (ld_glob I hg hm ?_ hdb)
    refine PySem.W.callWith_K (h₀ := X.base) I.ok.mod.kin M.kp (thn (ha.run pos pins s σ H _ I h) fun us s1 ⟨vs, H1, I1, r, q⟩ => ⟨I1.kIn, ?_⟩) he hpl
    exact run_makeX M F hr hb tk I1 r q
theorem pe_make0W {CX : CXT} (W : Way X E CX) (M : Mk X.K C f) (F : FnOk X.prog X.w X.K X.mg X.base CX k f fd ps sp) (hr : Room (k + 1) X.A) (hg : Gl X x) (hm : X.mg x = some (.ref C)) (hb : Binds X.K fd ps [])
    (hdb : (x == ("__debug__" : Str)) = false := by decide) : PE X (.Call (.Name x p) [] [] pos) (tMakeX C sp E tNil) := by
  cases W with
  | calm =>
    refine ⟨fun pins s σ H Q I q => (pe_make0 (E := E σ) M F hr hg hm hb .nil pass0 hdb).run pins s σ H Q I ?_⟩
    have e : tMakeX C sp E tNil σ H Q = tMake C sp [] (E σ) tNil σ H Q := by
      unfold tMakeX tMake
      simp only [List.append_nil]
    rw [← e]
    exact q
  | out tk =>
    refine ⟨fun pins s σ H Q I h => ?_⟩
    refine wpAny_Call_Name_kw (ld_glob I hg hm ?_ hdb)
    exact PySem.W.callWith_K0 I.kIn M.kp (run_makeX (us := []) M F hr hb tk I .nil h)
end
/-! ### data of instances -/
theorem insD_inj {C C' : Addr} {fs fs' : List (Str × PyData)} (h : insD C fs = insD C' fs') : C = C' ∧ fs = fs' := by
  simp only [PyData.dict.injEq, List.cons.injEq, Prod.mk.injEq, PyData.int.injEq, true_and] at h
  refine ⟨Int.ofNat.inj h.1, ?_⟩
  have h2 := h.2
  clear h
  induction fs generalizing fs' with
  | nil =>
    cases fs' with
    | nil => rfl
    | cons _ _ => cases h2
  | cons a r ih =>
    cases fs' with
    | nil => cases h2
    | cons a' r' =>
      simp only [List.map_cons, List.cons.injEq, Prod.mk.injEq, PyData.str.injEq] at h2
      obtain ⟨⟨e1, e2⟩, e3⟩ := h2
      rw [ih e3, show a = a' from Prod.ext e1 e2]
theorem rp_ins {b : Option Addr} {G : Hp} {v : V} {C : Addr} {fs : List (Str × PyData)} (h : Rp b G v (insD C fs)) : ∃ a dx us, v = .ref a ∧ G a = some (.ins C dx us) ∧ G dx = some (.own a) ∧ us.map (·.1) = fs.map (·.1) ∧ RpAll b G (us.map (·.2)) (fs.map (·.2)) := by
  generalize eD : insD C fs = D at h
  cases h with
  | ins h1 h2 h3 h4 =>
    obtain ⟨rfl, rfl⟩ := insD_inj eD
    exact ⟨_, _, _, rfl, h1, h2, h3, h4⟩
  | _ => cases eD
theorem rp_obj {b : Option Addr} {G : Hp} {v : V} {p : Addr} (h : Rp b G v (objD p)) : v = .ref p := by
  generalize eD : objD p = D at h
  cases h with
  | obj a =>
    simp only [PyData.dict.injEq, List.cons.injEq, Prod.mk.injEq, PyData.int.injEq, true_and, and_true] at eD
    rw [Int.ofNat.inj eD]
  | _ => cases eD
/-- the place of a name -/
def fix (f : Str) : List Str → Option Nat
  | [] => none
  | g :: r => if f = g then some 0 else (fix f r).map (· + 1)
theorem fix_lookup {α : Type} {f : Str} : ∀ {us : List (Str × α)}, us.lookup f = (fix f (us.map (·.1))).bind fun n => (us.map (·.2))[n]?
  | [] => rfl
  | (g, v) :: r => by
    show (match f == g with | true => some v | false => r.lookup f) = _
    by_cases c : f = g
    · subst c
      simp [fix]
    · have : (f == g) = false := by simpa using c
      rw [this]
      show r.lookup f = (if f = g then some 0 else (fix f (r.map (·.1))).map (· + 1)).bind _
      rw [if_neg c, fix_lookup (us := r)]
      cases fix f (r.map (·.1)) <;> simp
theorem fix_none {α : Type} {f : Str} {us : List (Str × α)} (h : fix f (us.map (·.1)) = none) : us.lookup f = none := by
  rw [fix_lookup, h] <;> rfl
theorem putF_old {f : Str} {v : V} {n : Nat} : ∀ {us : List (Str × V)}, fix f (us.map (·.1)) = some n → (putF f v us).map (·.1) = us.map (·.1) ∧ (putF f v us).map (·.2) = (us.map (·.2)).set n v
  | [], h => by cases h
  | (g, x) :: r, h => by
    have h : (if f = g then some 0 else (fix f (r.map (·.1))).map (· + 1)) = some n := h
    unfold putF
    by_cases c : f = g
    · rw [if_pos c] at h
      cases h
      rw [if_pos c.symm]
      exact ⟨rfl, rfl⟩
    · simp only [if_neg c] at h
      rw [if_neg (Ne.symm c)]
      cases e : fix f (r.map (·.1)) with
      | none =>
        rw [e] at h
        cases h
      | some k =>
        rw [e] at h
        cases h
        obtain ⟨h1, h2⟩ := putF_old (v := v) e
        exact ⟨by simp [h1], by simp [h2]⟩
theorem putF_new {f : Str} {v : V} : ∀ {us : List (Str × V)}, fix f (us.map (·.1)) = none → (putF f v us).map (·.1) = us.map (·.1) ++ [f] ∧ (putF f v us).map (·.2) = us.map (·.2) ++ [v]
  | [], _ => ⟨rfl, rfl⟩
  | (g, x) :: r, h => by
    have h : (if f = g then some 0 else (fix f (r.map (·.1))).map (· + 1)) = none := h
    unfold putF
    by_cases c : f = g
    · rw [if_pos c] at h
      cases h
    · simp only [if_neg c] at h
      rw [if_neg (Ne.symm c)]
      have h' : fix f (r.map (·.1)) = none := by
        cases e : fix f (r.map (·.1)) with
        | none => rfl
        | some k => rw [e] at h; cases h
      obtain ⟨h1, h2⟩ := putF_new (v := v) h'
      exact ⟨by simp [h1], by simp [h2]⟩
section
variable {X : Cx} {E : SX} {e e2 o : Expr} {es : List Expr} {we wa wb wr : XE} {w : WE} {ws : WA} {xa : XA} {wt wu : XT} {pos p apos : Pos} {x : Str} {k j l : Nat} {ps ks : List Str} {S : SpecX} {SP : Spec} {C : Addr} {CX : CXT}
/-- o.m(..), o an object of the store -/
def xMeth (k : Nat) (C : Addr) (ks : List Str) (S : SpecX) (wr : XE) (wa : XA) : XE := fun x ρ P => wr x ρ fun t ρ1 => ∃ p, t.dat = objD p ∧ atSto k ρ1 fun m => ∃ ts, m p = some (.ins C ks ts) ∧ wa x ρ1 fun ds ρ2 => atSto k ρ2 fun m2 => S (objD p :: ds) m2 (fun t m' => P t (ρ2.set k (some (.sto m')))) fun n pl m' => x (ρ2.set k (some (.sto m'))) n pl
theorem SiteX.ins {K : PySem.W.Frag} {mg : Str → Option Value} {E : XK} {b : Option Addr} {F G0 H0 G H : Hp} {σ : L2.St} {ρ : Rho} {xq : Rho → XP} {m : Sto} {p : Addr} {ts : List T} (h : SiteX K mg E b F G0 H0 G H σ ρ xq) (ek : ρ[k]? = some (some (.sto m))) (ep : m p = some (.ins C ks ts)) : ∃ dx us, H p = some (.ins C dx us) ∧ us.map (·.1) = ks := by
  obtain ⟨fp, tr, _, _, _⟩ := h.env.envT0.focus ek ep
  cases tr with
  | ins hp hx gp gx bp bx hk rr np nx ne => exact ⟨_, _, hp, hk⟩
theorem xa_nilT {σ : L2.St} {H : Hp} {Q : List V → Hp → Prop} (h : xaOf X.K X.mg E xaNil σ H Q) : tNil σ H Q := by
  obtain ⟨b, F, G0, H0, G, ρ, xq, P, p, hr, kk⟩ := h
  exact kk ρ G H [] [] p hr (Ex.rfl' _) .nil
theorem xmeth_core {mn : Str} {ta : TA} (hta : ∀ {σ : L2.St} {H : Hp} {Q : List V → Hp → Prop}, xaOf X.K X.mg E xa σ H Q → ta σ H Q) {σ : L2.St} {H : Hp} {Q : VK} (hn : fix mn ks = none) (q : xOf X.K X.mg E (xMeth k C ks S wr xa) σ H Q) : tMethX C mn (spOfX X.K X.mg S) E (xOf X.K X.mg E wr) ta σ H Q := by
  obtain ⟨b, F, G0, H0, G, ρ, xq, P, p, hr, kk⟩ := q
  refine xOf_D (fun d ρ1 => ∃ p, d = objD p ∧ atSto k ρ1 fun m => ∃ ts, m p = some (.ins C ks ts) ∧ xa xq ρ1 fun ds ρ2 => atSto k ρ2 fun m2 => S (objD p :: ds) m2 (fun t m' => P t (ρ2.set k (some (.sto m')))) fun n pl m' => xq (ρ2.set k (some (.sto m'))) n pl) p hr fun ρ1 G1 H1 v d hp hr1 r => ?_
  obtain ⟨q0, rfl, m, em, ts, ep, hp⟩ := hp
  have ev := rp_obj r
  subst ev
  obtain ⟨dx, us, h1, h2⟩ := hr1.ins em ep
  refine ⟨q0, dx, us, rfl, h1, fix_none (by rw [h2]; exact hn), hta ⟨b, F, G0, H0, G1, ρ1, xq, _, hp, hr1, fun ρ2 G2 H2 vs ds hp2 hr2 _ r2 => ?_⟩⟩
  obtain ⟨m2, em2, hS⟩ := hp2
  exact hr2.sp em2 (.cons (.obj q0) r2) hS kk
theorem x_meth {mn : Str} {pl : Sem Bool} (W : Way X E CX) (M : MthS CX X.prog X.w X.K X.mg X.base C mn ps l S) (hr : Room j X.A) (ho : PE X o (xOf X.K X.mg E wr)) (ha : PA X (e :: es) (xaOf X.K X.mg E xa)) (hn : fix mn ks = none := by decide) (hj : l ≤ j := by decide)
    (hst : starEach (e :: es) X.env = (false, eval e X.env) :: starEach es X.env := by rfl) (hpl : (backTo pos (starEach es X.env)).any (·.1) = false := by rfl)
    (ht : eval (.Call (.Attribute o mn apos) (e :: es) [] pos) X.env = (do
      let ov ← eval o X.env
      standAt apos.atName
      let (f, first) ← holding [ov] (getMethod ov mn pl)
      callWith pos f first (backTo pos (starEach (e :: es) X.env)) (backToKw pos (keywordEach [] X.env))) := by rfl) :
    PE X (.Call (.Attribute o mn apos) (e :: es) [] pos) (xOf X.K X.mg E (xMeth k C ks S wr xa)) := by
  obtain ⟨⟨f, fd, h, hm, b⟩, c⟩ := M
  exact PE.imp (pe_methW (pl := pl) W ho c hm h (hr.mono hj) b ha hst hpl ht) fun σ H Q q => xmeth_core id hn q
theorem x_meth0 {mn : Str} {pl : Sem Bool} (W : Way X E CX) (M : MthS CX X.prog X.w X.K X.mg X.base C mn ps l S) (hr : Room j X.A) (ho : PE X o (xOf X.K X.mg E wr)) (hn : fix mn ks = none := by decide) (hj : l ≤ j := by decide)
    (ht : eval (.Call (.Attribute o mn apos) [] [] pos) X.env = (do
      let ov ← eval o X.env
      standAt apos.atName
      let (f, first) ← holding [ov] (getMethod ov mn pl)
      callWith pos f first (backTo pos (starEach [] X.env)) (backToKw pos (keywordEach [] X.env))) := by rfl) :
    PE X (.Call (.Attribute o mn apos) [] [] pos) (xOf X.K X.mg E (xMeth k C ks S wr xaNil)) := by
  obtain ⟨⟨f, fd, h, hm, b⟩, c⟩ := M
  refine PE.imp (pe_meth0W (pl := pl) W ho c hm h (hr.mono hj) b ht) fun σ H Q q => xmeth_core xa_nilT hn q
/-- o.m(..), all settled, nothing changes -/
def dMeth (C : Addr) (ks : List Str) (S : Spec) (wr : WE) (ws : WA) : WE := fun x ρ P => wr x ρ fun t => ∃ ds0, t.dat = insD C (ks.zip ds0) ∧ ks.length = ds0.length ∧ ws x ρ fun ds => S (t.dat :: ds) P x
theorem a_nilT {σ : L2.St} {H : Hp} {Q : List V → Hp → Prop} (h : aOf X.K X.mg E aNil σ H Q) : tNil σ H Q := by
  obtain ⟨b, B, G, ρ, xp, P, p, hr, k⟩ := h
  exact k G H [] [] p hr.good.stp .nil
theorem dmeth_core {mn : Str} {wr : WE} {ta : TA} (hta : ∀ {σ : L2.St} {H : Hp} {Q : List V → Hp → Prop}, aOf X.K X.mg E ws σ H Q → ta σ H Q) {σ : L2.St} {H : Hp} {Q : VK} (hn : fix mn ks = none) (q : tOf X.K X.mg E (dMeth C ks SP wr ws) σ H Q) : tMethX C mn (spOf X.K X.mg SP) E (tOf X.K X.mg E wr) ta σ H Q := by
  obtain ⟨b, B, G, ρ, xp, P, p, hr, kk⟩ := q
  refine tOfD_of ⟨b, B, G, ρ, xp, fun d => ∃ ds0, d = insD C (ks.zip ds0) ∧ ks.length = ds0.length ∧ ws xp ρ fun ds => SP (d :: ds) P xp, p, hr, fun G1 H1 v d hp s1 hr1 r => ?_⟩
  obtain ⟨ds0, ed, hl, hp⟩ := hp
  have r' := r
  rw [ed] at r'
  obtain ⟨a, dx, us, rfl, h1, _, h2, _⟩ := rp_ins r'
  rw [zip_fst hl] at h2
  refine ⟨a, dx, us, rfl, hr1.good.ex _ _ h1, fix_none (by rw [h2]; exact hn), hta ⟨b, B, G1, ρ, xp, _, hp, hr1, fun G2 H2 vs ds hp2 s2 r2 => ?_⟩⟩
  exact ⟨b, G2, d :: ds, P, xp, hp2, s2.good, .cons (r.mono s2.ex) r2, (kk.stp hr.good s1).stp hr1.good s2, (hr1.xc.stp hr1.good s2)⟩
theorem d_meth {mn : Str} {pl : Sem Bool} {wr : WE} (W : Way X E CX) (M : MthP CX X.prog X.w X.K X.mg X.base C mn ps l SP) (hr : Room j X.A) (ho : PE X o (tOf X.K X.mg E wr)) (ha : PA X (e :: es) (aOf X.K X.mg E ws)) (hn : fix mn ks = none := by decide) (hj : l ≤ j := by decide)
    (hst : starEach (e :: es) X.env = (false, eval e X.env) :: starEach es X.env := by rfl) (hpl : (backTo pos (starEach es X.env)).any (·.1) = false := by rfl)
    (ht : eval (.Call (.Attribute o mn apos) (e :: es) [] pos) X.env = (do
      let ov ← eval o X.env
      standAt apos.atName
      let (f, first) ← holding [ov] (getMethod ov mn pl)
      callWith pos f first (backTo pos (starEach (e :: es) X.env)) (backToKw pos (keywordEach [] X.env))) := by rfl) :
    PE X (.Call (.Attribute o mn apos) (e :: es) [] pos) (tOf X.K X.mg E (dMeth C ks SP wr ws)) := by
  obtain ⟨⟨f, fd, h, hm, b⟩, c⟩ := M
  exact PE.imp (pe_methW (pl := pl) W ho c hm h (hr.mono hj) b ha hst hpl ht) fun σ H Q q => dmeth_core id hn q
theorem d_meth0 {mn : Str} {pl : Sem Bool} {wr : WE} (W : Way X E CX) (M : MthP CX X.prog X.w X.K X.mg X.base C mn ps l SP) (hr : Room j X.A) (ho : PE X o (tOf X.K X.mg E wr)) (hn : fix mn ks = none := by decide) (hj : l ≤ j := by decide)
    (ht : eval (.Call (.Attribute o mn apos) [] [] pos) X.env = (do
      let ov ← eval o X.env
      standAt apos.atName
      let (f, first) ← holding [ov] (getMethod ov mn pl)
      callWith pos f first (backTo pos (starEach [] X.env)) (backToKw pos (keywordEach [] X.env))) := by rfl) :
    PE X (.Call (.Attribute o mn apos) [] [] pos) (tOf X.K X.mg E (dMeth C ks SP wr aNil)) := by
  obtain ⟨⟨f, fd, h, hm, b⟩, c⟩ := M
  exact PE.imp (pe_meth0W (pl := pl) W ho c hm h (hr.mono hj) b ht) fun σ H Q q => dmeth_core a_nilT hn q
/-- C(..) -/
def xMake (k : Nat) (C : Addr) (S : SpecX) (wa : XA) : XE := fun x ρ P => wa x ρ fun ds ρ1 => atSto k ρ1 fun m => ∀ p, m p = none → S (objD p :: ds) (stput m p (.ins C [] [])) (fun t m' => t.dat = .none ∧ P (.leaf (objD p)) (ρ1.set k (some (.sto m')))) fun n pl m' => x (ρ1.set k (some (.sto m'))) n pl
theorem xmake_core {ta : TA} (hta : ∀ {σ : L2.St} {H : Hp} {Q : List V → Hp → Prop}, xaOf X.K X.mg E xa σ H Q → ta σ H Q) {σ : L2.St} {H : Hp} {Q : VK} (q : xOf X.K X.mg E (xMake k C S xa) σ H Q) : tMakeX C (spOfX X.K X.mg S) E ta σ H Q := by
  obtain ⟨b, F, G0, H0, G, ρ, xq, P, p, hr, kk⟩ := q
  refine hta ⟨b, F, G0, H0, G, ρ, xq, _, p, hr, fun ρ1 G1 H1 vs ds hp hr1 _ r => ?_⟩
  obtain ⟨m, em, hp⟩ := hp
  intro q dx hq hdx ne
  have ne' : q ≠ dx := Ne.symm ne
  have s1 := hr1.good.own (.own q) hdx
  have hq1 : upd H1 dx (.own q) q = none := by rw [upd_ne ne']; exact hq
  have s2 := s1.good.own (.ins C dx []) hq1
  have s12 := s1.trans hr1.good s2
  have gq : G1 q = none := (hr1.good.new (.own q) hq).2
  have gx : G1 dx = none := (hr1.good.new (.own q) hdx).2
  have nb : ∀ a, H1 a = none → b ≠ some a := fun a ha c => by
    obtain ⟨_, _, _, _, _, _, q, _⟩ := hr1.good.box a c
    rw [ha] at q
    cases q
  have tr : Tr b G1 (upd (upd H1 dx (.own q)) q (.ins C dx [])) [q, dx] (.ref q) (.ins C [] []) :=
    .ins upd_same (by rw [upd_ne ne, upd_same]) gq gx (nb q hq) (nb dx hdx) rfl .nil (fun z => nomatch z) (fun z => nomatch z) ne
  have fr : ∀ a, a ∈ [q, dx] → H1 a = none := fun a z => by
    rcases List.mem_cons.mp z with z | z
    · rw [z]
      exact hq
    · rw [List.mem_singleton.mp z]
      exact hdx
  have hB : ∀ a, a ∈ [q, dx] → H0 a = none := fun a z => hr1.st.free hr1.g0 (fr a z)
  obtain ⟨mn, E2⟩ := (hr1.env.envT s12 fr).give_sto em tr (List.mem_cons_self ..) hB
  have hr2 := (hr1.stp s12).to (ρ' := ρ1.set k (some (.sto (stput m q (.ins C [] []))))) (hr1.ex.trans s12.ex) (hr1.st.trans hr1.g0 s12) E2
  have hk : k < ρ1.length := (List.getElem?_eq_some_iff.mp em).1
  refine hr2.sp (P := fun t ρ' => t.dat = .none ∧ P (.leaf (objD q)) ρ') (k := k) (List.getElem?_set_self hk) (.cons (.obj q) (r.mono s12.ex)) ?_ ?_
  · simp only [List.set_set]
    exact hp q mn
  · intro ρ' G' H' v t fv hP e s E' tr' hB'
    obtain ⟨g, ex, rv, _⟩ := E'.settle s.good tr'
    rw [hP.1] at rv
    cases rv
    exact ⟨rfl, kk ρ' G' H' (.ref q) _ [] hP.2 e s E'.env.envT0 (.leaf (.obj q)) fun _ z => nomatch z⟩
theorem x_make (W : Way X E CX) (M : MkS CX X.prog X.w X.K X.mg X.base x C ps l S) (hr : Room j X.A) (ha : PA X (e :: es) (xaOf X.K X.mg E xa)) (hg : Gl X x := by rfl) (hj : l + 1 ≤ j := by decide) (hdb : (x == ("__debug__" : Str)) = false := by decide)
    (he : starEach (e :: es) X.env = (false, eval e X.env) :: starEach es X.env := by rfl) (hpl : (backTo pos (starEach es X.env)).any (·.1) = false := by rfl) :
    PE X (.Call (.Name x p) (e :: es) [] pos) (xOf X.K X.mg E (xMake k C S xa)) := by
  obtain ⟨⟨f, fd, h, M, b⟩, hm⟩ := M
  exact PE.imp (pe_makeW W M h (hr.mono hj) hg hm b ha hdb he hpl) fun σ H Q q => xmake_core id q
theorem x_make0 (W : Way X E CX) (M : MkS CX X.prog X.w X.K X.mg X.base x C ps l S) (hr : Room j X.A) (hg : Gl X x := by rfl) (hj : l + 1 ≤ j := by decide) (hdb : (x == ("__debug__" : Str)) = false := by decide) :
    PE X (.Call (.Name x p) [] [] pos) (xOf X.K X.mg E (xMake k C S xaNil)) := by
  obtain ⟨⟨f, fd, h, M, b⟩, hm⟩ := M
  exact PE.imp (pe_make0W W M h (hr.mono hj) hg hm b hdb) fun σ H Q q => xmake_core xa_nilT q
/-! ### tests -/
def xTst (we : XE) : XT := fun x ρ P => we x ρ fun t ρ' => asB (fun c => P c ρ') t
theorem xt_val (h : PE X e (xOf X.K X.mg E we)) (he : ∀ whole, isTrue e X.env whole = (do let v ← whole; standAt e.pos; holding [v] (truthy v)) := by intro _; rfl) : PT X e (xtOf X.K X.mg E (xTst we)) := PT.imp (pt_val h he) fun σ H Q ⟨b, F, G0, H0, G, ρ, xq, P, p, hr, kk⟩ =>
  ⟨b, F, G0, H0, G, ρ, xq, _, p, hr, fun ρ' G' H' v t fv hp e s E' tr hB => by
    unfold asB at hp
    dsimp only at hp
    split at hp
    · cases tr with
      | leaf r =>
        cases r
        exact ⟨_, rfl, kk ρ' G' H' _ hp (hr.to e s E'.env)⟩
    · exact hp.elim⟩
def xNot (wt : XT) : XT := fun x ρ P => wt x ρ fun c ρ' => P (!c) ρ'
theorem xt_not (ha : PT X e (xtOf X.K X.mg E wt)) : PT X (.UnaryOp .Not e pos) (xtOf X.K X.mg E (xNot wt)) := PT.imp (pt_not ha) fun σ H Q ⟨b, F, G0, H0, G, ρ, xq, P, p, hr, kk⟩ => ⟨b, F, G0, H0, G, ρ, xq, fun c ρ' => P (!c) ρ', p, hr, fun ρ' G' H' c hp hr' => kk ρ' G' H' _ hp hr'⟩
end
end Dd
/-! Statements that change the store; attributes. -/
namespace Dd
open PySem L2
section
variable {X : Cx} {E : SX} {st : Stmt} {rest : List Stmt} {e e2 e3 o : Expr} {we wa wb : XE} {w : WE} {wt : XT} {w1 u1 : WS} {pos p tpos ipos apos : Pos} {k : Nat}
/-! ### plain statements over expressions that change the store -/
theorem At.siteX {K : PySem.W.Frag} {mg : Str → Option Value} {E : SX} {b : Option Addr} {F G0 H0 H : Hp} {σ : L2.St} {ρ : Rho} {C : Ctl} {D : Ends} (g0 : Good K b G0 H0) (a : At K b F G0 H0 ρ σ H) (eo : EndsOk K mg E b F G0 H0 C D) : ∃ G, SiteX K mg (E σ) b F G0 H0 G H σ ρ C.xc := by
  obtain ⟨G, e1, s, E1⟩ := a
  exact ⟨G, g0, e1, s, E1, fun ρ' n pl c d G' H' x m hd e s' E' => eo.xc ρ' σ n pl c d G' H' x e s' E' m hd⟩
def dAsgX (i : Nat) (we : XE) : WS := fun C ρ => we C.xc ρ fun t ρ' => C.nx (ρ'.set i (some t))
theorem s_asgX (i : Nat) {x : Str} {pos' : Pos} (hN : X.N.Nodup) (he : PE X e (xOf X.K X.mg E we)) (hi : X.N[i]? = some x := by rfl) (hx : Loc X.env.scope x := by first | exact Or.inl rfl | exact Or.inr rfl) (hs : swapsWith e (some (.Name x pos')) pos.line X.env = pure false := by rfl) (hf : X.fn x = true ∨ X.env.scope.names.lookup x = some .local := by first | exact .inl rfl | exact .inr rfl | assumption) :
    PS X (.Assign [.Name x pos'] e pos) (sOf X.K X.mg E (dAsgX i we)) := PS.of (ps_set hN hi hx he hs hf) fun D σ H ⟨b, F, G0, H0, ρ, C, q, g0, a, eo⟩ => by
  obtain ⟨G, hr⟩ := a.siteX g0 eo
  exact ⟨b, F, G0, H0, G, ρ, C.xc, _, q, hr, fun ρ' G' H' v t fv hp e1 s1 E1 tr hB => eo.nx _ _ _ hp ⟨G', e1, s1, E1.put tr hB i⟩⟩
def dDropX (we : XE) : WS := fun C ρ => we C.xc ρ fun _ ρ' => C.nx ρ'
theorem s_dropX (he : PE X e (xOf X.K X.mg E we)) (hs : swapsWith e none pos.line X.env = pure false := by rfl) : PS X (.Expr e pos) (sOf X.K X.mg E (dDropX we)) := PS.of (ps_expr he hs) fun D σ H ⟨b, F, G0, H0, ρ, C, q, g0, a, eo⟩ => by
  obtain ⟨G, hr⟩ := a.siteX g0 eo
  exact ⟨b, F, G0, H0, G, ρ, C.xc, _, q, hr, fun ρ' G' H' v t fv hp e1 s1 E1 tr hB => eo.nx _ _ _ hp ⟨G', e1, s1, E1.env⟩⟩
/-- return e, of a function that has the store -/
def dRetX (k : Nat) (we : XE) : WS := fun C ρ => we C.xc ρ fun t ρ' => atSto k ρ' fun m => C.rt (.eff m t)
theorem s_retX (k : Nat) (he : PE X e (xOf X.K X.mg E we)) : PS X (.Return (some e) pos) (sOf X.K X.mg E (dRetX k we)) := PS.of (ps_ret he) fun D σ H ⟨b, F, G0, H0, ρ, C, q, g0, a, eo⟩ => by
  obtain ⟨G, hr⟩ := a.siteX g0 eo
  refine ⟨b, F, G0, H0, G, ρ, C.xc, _, q, hr, fun ρ' G' H' v t fv hp e1 s1 E1 tr hB => ?_⟩
  obtain ⟨m, em, hp⟩ := hp
  obtain ⟨hl, fps, h1, h2, h3⟩ := E1
  obtain ⟨v0, ev0, tr0⟩ := h1 k _ em
  have := tr_sto_v tr0
  subst this
  refine eo.rt _ v _ G' H' hp s1 (.eff tr0 tr fun a ma => (h2 k a ma).2.2.2.2) fun a ma => ?_
  rcases List.mem_append.mp ma with z | z
  · exact (h2 k a z).1
  · exact hB a z
/-- return e, the store is forgotten -/
def dRetN (we : XE) : WS := fun C ρ => we C.xc ρ fun t _ => C.rt t
theorem s_retN (he : PE X e (xOf X.K X.mg E we)) : PS X (.Return (some e) pos) (sOf X.K X.mg E (dRetN we)) := PS.of (ps_ret he) fun D σ H ⟨b, F, G0, H0, ρ, C, q, g0, a, eo⟩ => by
  obtain ⟨G, hr⟩ := a.siteX g0 eo
  exact ⟨b, F, G0, H0, G, ρ, C.xc, _, q, hr, fun ρ' G' H' v t fv hp e1 s1 E1 tr hB => eo.rt _ v _ G' H' hp s1 tr hB⟩
def dIfX (wt : XT) (w u : WS) : WS := fun C ρ => wt C.xc ρ fun c ρ' => (c = true → w C ρ') ∧ (c = false → u C ρ')
theorem s_ifX {c : Expr} {a b : List Stmt} (hc : PT X c (xtOf X.K X.mg E wt)) (ha : PSs X a (sOf X.K X.mg E w1)) (hb : PSs X b (sOf X.K X.mg E u1)) : PS X (.If c a b pos) (sOf X.K X.mg E (dIfX wt w1 u1)) := PS.of (ps_if hc ha hb) fun D σ H ⟨b, F, G0, H0, ρ, C, q, g0, a, eo⟩ => by
  obtain ⟨G, hr⟩ := a.siteX g0 eo
  refine ⟨b, F, G0, H0, G, ρ, C.xc, _, q, hr, fun ρ' G' H' c hp hr' => ?_⟩
  have at2 : At X.K b F G0 H0 ρ' σ H' := ⟨G', hr'.ex, hr'.st, hr'.env⟩
  cases c with
  | true =>
    show sOf X.K X.mg E w1 D σ H'
    exact ⟨b, F, G0, H0, ρ', C, hp.1 rfl, g0, at2, eo⟩
  | false =>
    show sOf X.K X.mg E u1 D σ H'
    exact ⟨b, F, G0, H0, ρ', C, hp.2 rfl, g0, at2, eo⟩
/-! ### ghosts -/
/-- the slot of no name holds nothing that matters -/
theorem inv_dummy {pins : List (Addr × Obj)} {σ : L2.St} {H : Hp} {s : Shared} {x : Str} {v : V} (hN : X.N[k]? = some x) (hv : X.env.scope.names.lookup x = none) (I : Inv X pins σ H s) : Inv X pins (σ.set k (some v)) H s := by
  refine ⟨I.ok, I.os, I.bare, I.base, ?_, I.cell, I.free, I.freeC, I.pin, I.hok, by rw [List.length_set]; exact I.len⟩
  obtain ⟨m, hn, hl⟩ := I.loc
  refine ⟨m, hn, fun i y u e1 e2 e3 => ?_⟩
  by_cases c : i = k
  · subst c
    rw [hN] at e1
    cases e1
    unfold Vis at e3
    rw [hv] at e3
    rcases e3 with z | z | z <;> cases z
  · rw [List.getElem?_set_ne (Ne.symm c)] at e2
    exact hl i y u e1 e2 e3
theorem pss_dummy {x : Str} {t : TS} (v : V) (h : PSs X rest t) (hN : X.N[k]? = some x) (hv : X.env.scope.names.lookup x = none) : PSs X rest (fun D σ H => t D (σ.set k (some v)) H) := ⟨fun pins s σ H D I q => h.run pins s _ H D (inv_dummy hN hv I) q⟩
/-- an own tree of a slot becomes an object of the store -/
def isObj : T → Bool
  | .node _ | .ins _ _ _ | .dic _ _ | .diT _ _ => true
  | _ => false
theorem tr_root {b : Option Addr} {G H : Hp} {fp : List Addr} {v : V} {t : T} (tr : Tr b G H fp v t) (h : isObj t = true) : ∃ p, v = .ref p ∧ p ∈ fp := by
  cases tr with
  | node _ _ _ _ _ => exact ⟨_, rfl, List.mem_cons_self ..⟩
  | ins _ _ _ _ _ _ _ _ _ _ _ => exact ⟨_, rfl, List.mem_cons_self ..⟩
  | dic _ _ _ _ _ _ => exact ⟨_, rfl, List.mem_cons_self ..⟩
  | diT _ _ _ _ _ _ => exact ⟨_, rfl, List.mem_cons_self ..⟩
  | _ => cases h
theorem Env.slot_out {b : Option Addr} {B G H : Hp} {σ : L2.St} {ρ : Rho} {i : Nat} {t : T} (E : Env b B G H σ ρ) (et : ρ[i]? = some (some t)) (d : PyData) (hd : ∀ v fp, σ[i]? = some (some v) → Tr b G H fp v t → Rp b G v d) : ∃ fp v, σ[i]? = some (some v) ∧ Tr b G H fp v t ∧ (∀ a, a ∈ fp → B a = none) ∧ EnvT b B G H σ (ρ.set i (some (.leaf d))) fp := by
  obtain ⟨hl, fps, h1, h2, h3⟩ := E
  obtain ⟨v, ev, tr⟩ := h1 i _ et
  refine ⟨fps i, v, ev, tr, fun a m => (h2 i a m).1, by rw [List.length_set]; exact hl, fun j => if j = i then [] else fps j, fun j u e => ?_, fun j a m => ?_, fun j j' a n m => ?_⟩
  · by_cases c : j = i
    · subst c
      have hi : j < ρ.length := (List.getElem?_eq_some_iff.mp et).1
      rw [List.getElem?_set_self hi] at e
      cases e
      exact ⟨v, ev, by simp only [if_pos]; exact .leaf (hd v _ ev tr)⟩
    · rw [List.getElem?_set_ne (Ne.symm c)] at e
      obtain ⟨w, ew, q⟩ := h1 j u e
      exact ⟨w, ew, by simp only [if_neg c]; exact q⟩
  · by_cases c : j = i
    · simp only [if_pos c] at m
      cases m
    · simp only [if_neg c] at m
      obtain ⟨q1, q2, q3, q4⟩ := h2 j a m
      exact ⟨q1, q2, q3, q4, h3 j i a c m⟩
  · by_cases c : j = i
    · simp only [if_pos c] at m
      cases m
    · simp only [if_neg c] at m
      by_cases c' : j' = i
      · simp only [if_pos c']
        exact fun q => nomatch q
      · simp only [if_neg c']
        exact h3 j j' a n m
def dProm (k i : Nat) (w : WS) : WS := fun C ρ => ∃ t, ρ[i]? = some (some t) ∧ i ≠ k ∧ isObj t = true ∧ atSto k ρ fun m => ∀ p, m p = none → w C ((ρ.set i (some (.leaf (objD p)))).set k (some (.sto (stput m p t))))
theorem s_prom (k i : Nat) (h : PSs X rest (sOf X.K X.mg E w1)) : PSs X rest (sOf X.K X.mg E (dProm k i w1)) := PSs.of h fun D σ H ⟨b, F, G0, H0, ρ, C, ⟨t, et, hik, ho, m, em, q⟩, g0, a, eo⟩ => by
  obtain ⟨G, e1, s, E1⟩ := a
  obtain ⟨v, ev, tr⟩ : ∃ v fp, σ[i]? = some (some v) ∧ Tr b G H fp v t := by
    obtain ⟨_, fps, h1, _⟩ := id E1
    obtain ⟨v, ev, tr⟩ := h1 i _ et
    exact ⟨v, _, ev, tr⟩
  obtain ⟨ev, tr⟩ := tr
  obtain ⟨p0, rfl, _⟩ := tr_root tr ho
  obtain ⟨fp, v', ev', tr', hB, E2⟩ := E1.slot_out et (objD p0) fun v fp e _ => by
    rw [ev] at e
    cases e
    exact .obj p0
  rw [ev] at ev'
  cases ev'
  obtain ⟨p1, e1', hp⟩ := tr_root tr' ho
  cases e1'
  have em' : (ρ.set i (some (.leaf (objD p0))))[k]? = some (some (.sto m)) := by rw [List.getElem?_set_ne hik]; exact em
  obtain ⟨np, E3⟩ := E2.give_sto em' tr' hp hB
  exact ⟨b, F, G0, H0, _, C, q p0 np, g0, ⟨G, e1, s, E3⟩, eo⟩
/-- an object of the store that a slot names settles -/
def dFix (k i : Nat) (w : WS) : WS := fun C ρ => ∃ p t, ρ[i]? = some (some (.leaf (objD p))) ∧ i ≠ k ∧ atSto k ρ fun m => m p = some t ∧ w C ((ρ.set k (some (.sto (stdel m p)))).set i (some (.leaf t.dat)))
theorem s_fix (k i : Nat) (h : PSs X rest (sOf X.K X.mg E w1)) : PSs X rest (sOf X.K X.mg E (dFix k i w1)) := PSs.of h fun D σ H ⟨b, F, G0, H0, ρ, C, ⟨p, t, ei, hik, m, em, ep, q⟩, g0, a, eo⟩ => by
  obtain ⟨G, e1, s, E1⟩ := a
  obtain ⟨fp, tr, hp, hB, E2⟩ := E1.take_sto em ep
  obtain ⟨g, ex, r, E3⟩ := E2.settle s.good tr
  obtain ⟨_, fps, h1, _⟩ := id E3
  obtain ⟨v, ev, tv⟩ := h1 i _ (by rw [List.getElem?_set_ne (Ne.symm hik)]; exact ei)
  have evp : v = .ref p := by
    generalize fps i = fi at tv
    cases tv with
    | leaf r => exact rp_obj r
  subst evp
  have E4 := E3.leaf i r
  rw [set_same ev] at E4
  exact ⟨b, F, G0, H0, _, C, q, g0, ⟨_, e1.trans ex, stp_addF s g ex hB, E4⟩, eo⟩
end
/-! ### a def that has the store -/
section
variable {P : Program} {w : World} {K : PySem.W.Frag} {mg : Str → Option Value} {base : Heap}
theorem env_startS {b : Option Addr} {G H : Hp} {N : List Str} {vs : List V} {ds : List PyData} {m : Sto} {fs : List Addr} {k : Nat} (r : RpAll b G vs ds) (tr : Tr b G H fs .non (.sto m)) (hk : ds.length ≤ k) : Env b (less H fs) G H ((L2.start N vs).set k (some .non)) ((startR N ds).set k (some (.sto m))) := by
  have E0 : EnvT b (less H fs) G H (L2.start N vs) (startR N ds) fs := by
    have hl := r.len
    refine ⟨by unfold L2.start startR; simp [hl], fun _ => [], fun i t e => ?_, (fun i a m => by cases m), fun i j a n m => by cases m⟩
    unfold startR at e
    by_cases c : i < ds.length
    · rw [List.getElem?_append_left (by simpa using c), List.getElem?_map, List.getElem?_eq_getElem c] at e
      cases e
      obtain ⟨v, ev, rv⟩ := r.get (List.getElem?_eq_getElem c)
      refine ⟨v, ?_, .leaf rv⟩
      unfold L2.start
      rw [List.getElem?_append_left (by simp; omega), List.getElem?_map, ev] <;> rfl
    · rw [List.getElem?_append_right (by simp; omega)] at e
      rw [List.getElem?_replicate] at e
      split at e <;> cases e
  exact E0.put tr (fun a z => less_in z) k
def storeEnds (k : Nat) (P : T → Sto → Prop) (xp : Str → PyData → Sto → Prop) : Ctl where
  nx := fun ρ => atSto k ρ fun m => ∃ m', SLe m' m ∧ P non m'
  rt := fun t => ∃ m u, t = .eff m u ∧ ∃ m', SLe m' m ∧ P u m'
  xc := fun ρ n pl => atSto k ρ fun m => ∃ m', SLe m' m ∧ xp n pl m'
theorem sto_le {b : Option Addr} {G H : Hp} {fs : List Addr} {m m' : Sto} (tr : Tr b G H fs .non (.sto m)) (h : SLe m' m) : ∃ fs', Tr b G H fs' .non (.sto m') ∧ ∀ a, a ∈ fs' → a ∈ fs := by
  classical
  cases tr with
  | @sto _ _ fpm s0 s1 s2 s3 s4 =>
    refine ⟨fs.filter fun a => decide (∃ p t, m' p = some t ∧ a ∈ fpm p), .sto (fps := fpm) (fun p t e => s0 p t (h p t e)) (fun p t e => s1 p t (h p t e)) (fun p t a e ha => List.mem_filter.mpr ⟨s2 p t a (h p t e) ha, decide_eq_true ⟨p, t, e, ha⟩⟩) (fun p q t u a n e1 e2 => s3 p q t u a n (h p t e1) (h q u e2)) (fun a ha => of_decide_eq_true (List.mem_filter.mp ha).2), fun a ha => (List.mem_filter.mp ha).1⟩
theorem bodyS_core {ws : WS} {N : List Str} {E : SX} {E0 : XK} {b : Option Addr} {G H : Hp} {ds : List PyData} {m : Sto} {fs : List Addr} {P : T → Sto → Prop} {xp : Str → PyData → Sto → Prop} {Q : VK} {vs : List V} {k : Nat} (q : ws (storeEnds k P xp) ((startR N ds).set k (some (.sto m)))) (hE : ∀ σ, E σ = E0)
    (hk : ds.length ≤ k) (g : Good K b G H) (r : RpAll b G vs ds) (tr : Tr b G H fs .non (.sto m))
    (k1 : ∀ (G' H' : Hp) (v : V) (t : T) (m' : Sto) (fs' fv : List Addr), P t m' → Stp K b G (less H fs) G' H' → Tr b G' H' fs' .non (.sto m') → Tr b G' H' fv v t → (∀ a, a ∈ fs' → a ∉ fv) → (∀ a, a ∈ fs' ∨ a ∈ fv → a ∈ fs ∨ H a = none) → Q v H')
    (k2 : ∀ (n : Str) (pl : PyData) (C d : Addr) (G' H' : Hp) (m' : Sto) (fs' : List Addr), xp n pl m' → mg n = some (.ref C) → G' d = some (.xd (exF n pl)) → Stp K b G (less H fs) G' H' → Tr b G' H' fs' .non (.sto m') → (∀ a, a ∈ fs' → a ∈ fs ∨ H a = none) → E0 (.ref C) (some d) H') :
    sOf K mg E ws { nx := fun _ H' => Q .non H', rt := Q } ((L2.start N vs).set k (some .non)) H := by
  have mm : ∀ a, a ∈ fs → G a = none ∧ b ≠ some a := fun a z => ⟨(tr.mem a z).1, (tr.mem a z).2.1⟩
  have ls : ∀ a, less H fs a = none → a ∈ fs ∨ H a = none := fun a z => by
    by_cases c : a ∈ fs
    · exact .inl c
    · rw [less_out c] at z
      exact .inr z
  refine ⟨b, G, G, less H fs, _, _, q, less_good g mm, ⟨G, Ex.rfl' _, less_stp g mm, env_startS r tr hk⟩, ⟨fun ρ σ H' hp a => ?_, fun _ _ _ z => z.elim, fun _ _ _ z => z.elim, fun t v fp G' H' hp s tr' fr => ?_, fun ρ σ n pl c d G' H' hx _ s E' hm hd => ?_⟩⟩
  · obtain ⟨G', _, s, hl, fps, h1, h2, h3⟩ := a
    obtain ⟨m1, em, m', le, hP⟩ := hp
    obtain ⟨v0, _, tr0⟩ := h1 k _ em
    have := tr_sto_v tr0
    subst this
    obtain ⟨fs', tr1, sub⟩ := sto_le tr0 le
    exact k1 G' H' .non non m' fs' [] hP s tr1 (.leaf .non) (fun _ _ z => nomatch z) fun a z => z.elim (fun z => ls a (h2 k a (sub a z)).1) fun z => nomatch z
  · obtain ⟨m1, u, rfl, m', le, hP⟩ := hp
    cases tr' with
    | eff t1 t2 dj =>
      obtain ⟨fs', tr1, sub⟩ := sto_le t1 le
      exact k1 G' H' v u m' fs' _ hP s tr1 t2 (fun a z => dj a (sub a z)) fun a z => ls a (fr a (z.elim (fun z => List.mem_append_left _ (sub a z)) fun z => List.mem_append_right _ z))
  · obtain ⟨hl, fps, h1, h2, h3⟩ := E'
    obtain ⟨m1, em, m', le, hP⟩ := hx
    obtain ⟨v0, _, tr0⟩ := h1 k _ em
    have := tr_sto_v tr0
    subst this
    obtain ⟨fs', tr1, sub⟩ := sto_le tr0 le
    rw [hE]
    exact k2 n pl c d G' H' m' fs' hP hm hd s tr1 fun a z => ls a (h2 k a (sub a z)).1
theorem fn_okS {x qual : Str} {st : Stmt} {f : Addr} {fd : FuncData} {N ps : List Str} {l : Nat} {S : SpecX} {ws : WS} {k : Nat} {dn : Str} (F : Fun K x qual st f fd) (sc : FnScope N ps (defScope st)) (hk : N[k]? = some dn) (hd : (defScope st).names.lookup dn = none) (hle : ps.length ≤ k) (len : ∀ ds m P xp, S ds m P xp → ds.length = ps.length)
    (body : ∀ (cdv : Value) (A : Around) (outer : List PySem.Env) (s : Shared) (H : Hp) (E : XK), Room l (A.deeper (PyProof.Rows.envOfC qual (defScope st) s.heap.objs.size f cdv)) → PSs (cxOf CX0 P w K mg base N qual (defScope st) f cdv A outer s H E).nox (defBody st) (sOf K mg noE ws))
    (spec : ∀ ds m P, S ds m P (fun _ _ _ => False) → ws (storeEnds k P fun _ _ _ => False) ((startR N ds).set k (some (.sto m)))) (nx : ∀ ds m P xp, S ds m P xp → S ds m P fun _ _ _ => False) : FnOk P w K mg base CX0 (l + 1) f fd ps (spOfX K mg S) := by
  refine F.ok sc (fun vs H Q E ⟨b, G, ds, m, fs, P, xp, q, g, r, _⟩ => by rw [r.len, len _ _ _ _ q]) fun cdv A outer s H vs Q E hr h => ⟨_, pss_dummy (k := k) .non (body cdv A outer s H E hr) hk hd, ?_⟩
  obtain ⟨b, G, ds, m, fs, P, xp, q, g, r, tr, k1, k2⟩ := h
  exact bodyS_core (E0 := fun _ _ _ => False) (spec ds m P (nx _ _ _ _ q)) (fun _ => rfl) (by rw [len _ _ _ _ q]; exact hle) g r tr k1 fun _ _ _ _ _ _ _ _ z => z.elim
theorem fn_okSX {x qual : Str} {st : Stmt} {f : Addr} {fd : FuncData} {N ps : List Str} {l : Nat} {S : SpecX} {ws : WS} {k : Nat} {dn : Str} (F : Fun K x qual st f fd) (sc : FnScope N ps (defScope st)) (hk : N[k]? = some dn) (hd : (defScope st).names.lookup dn = none) (hle : ps.length ≤ k) (len : ∀ ds m P xp, S ds m P xp → ds.length = ps.length)
    (body : ∀ (cdv : Value) (A : Around) (outer : List PySem.Env) (s : Shared) (H : Hp) (E : XK), Room l (A.deeper (PyProof.Rows.envOfC qual (defScope st) s.heap.objs.size f cdv)) → PSs (cxOf (L2.CX P w) P w K mg base N qual (defScope st) f cdv A outer s H E) (defBody st) (sOf K mg (fun _ => E) ws))
    (spec : ∀ ds m P xp, S ds m P xp → ws (storeEnds k P xp) ((startR N ds).set k (some (.sto m)))) : FnOk P w K mg base (L2.CX P w) (l + 1) f fd ps (spOfX K mg S) := by
  refine F.okX sc (fun vs H Q E ⟨b, G, ds, m, fs, P, xp, q, g, r, _⟩ => by rw [r.len, len _ _ _ _ q]) fun cdv A outer s H vs Q E hr h => ⟨_, pss_dummy (k := k) .non (body cdv A outer s H E hr) hk hd, ?_⟩
  obtain ⟨b, G, ds, m, fs, P, xp, q, g, r, tr, k1, k2⟩ := h
  exact bodyS_core (E0 := E) (spec ds m P xp q) (fun _ => rfl) (by rw [len _ _ _ _ q]; exact hle) g r tr k1 k2
/-- a def that makes its own store and forgets it -/
theorem sto_none {b : Option Addr} {G H : Hp} : Tr b G H [] .non (.sto fun _ => none) := .sto (fps := fun _ => []) (fun _ _ e => by cases e) (fun _ _ e => by cases e) (fun _ _ _ e => by cases e) (fun _ _ _ _ _ _ e => by cases e) fun _ z => nomatch z
theorem fn_okO {x qual : Str} {st : Stmt} {f : Addr} {fd : FuncData} {N ps : List Str} {l : Nat} {S : Spec} {ws : WS} {k : Nat} {dn : Str} (F : Fun K x qual st f fd) (sc : FnScope N ps (defScope st)) (hk : N[k]? = some dn) (hd : (defScope st).names.lookup dn = none) (hle : ps.length ≤ k) (len : ∀ ds P xp, S ds P xp → ds.length = ps.length)
    (body : ∀ (cdv : Value) (A : Around) (outer : List PySem.Env) (s : Shared) (H : Hp) (E : XK), Room l (A.deeper (PyProof.Rows.envOfC qual (defScope st) s.heap.objs.size f cdv)) → PSs (cxOf CX0 P w K mg base N qual (defScope st) f cdv A outer s H E).nox (defBody st) (sOf K mg noE ws))
    (spec : ∀ ds P, S ds P noX → ws { nx := fun _ => P non, rt := P } ((startR N ds).set k (some (.sto fun _ => none)))) (nx : ∀ ds P xp, S ds P xp → S ds P noX) : FnOk P w K mg base CX0 (l + 1) f fd ps (spOf K mg S) := by
  refine F.ok sc (sp_len len) fun cdv A outer s H vs Q E hr h => ⟨_, pss_dummy (k := k) .non (body cdv A outer s H E hr) hk hd, ?_⟩
  obtain ⟨b, G, ds, P, xp, q, g, r, kk, x⟩ := h
  have E1 := env_startS (N := N) (k := k) r (sto_none (b := b) (G := G) (H := H)) (by rw [len _ _ _ q]; exact hle)
  have el : less H [] = H := by
    funext a
    exact less_out fun z => nomatch z
  rw [el] at E1
  refine ⟨b, G, G, H, _, _, spec ds P (nx _ _ _ q), g, ⟨G, Ex.rfl' _, g.stp, E1⟩, ⟨fun ρ σ H' hp a => ?_, fun _ _ _ z => z.elim, fun _ _ _ z => z.elim, fun t v fp G' H' hp s tr fr => kk G' H' v t fp hp s tr fr, fun _ _ _ _ _ _ _ _ z => z.elim⟩⟩
  obtain ⟨G', _, s, _⟩ := a
  exact kk G' H' .non non [] hp s (.leaf .non) (fun _ z => nomatch z)
end
end Dd
/-! Attributes read and written, places changed. -/
namespace Dd
open PySem L2
structure CF (K : PySem.W.Frag) (C : Addr) (ks : List Str) : Prop where
  cls : Cls K C
  na : ∀ f, f ∈ ks → NoAttr K C f
theorem fix_mem {f : Str} : ∀ {ks : List Str} {n : Nat}, fix f ks = some n → f ∈ ks ∧ n < ks.length
  | [], _, h => by cases h
  | g :: r, n, h => by
    have h : (if f = g then some 0 else (fix f r).map (· + 1)) = some n := h
    by_cases c : f = g
    · rw [if_pos c] at h
      cases h
      exact ⟨by rw [c]; exact List.mem_cons_self .., by simp⟩
    · rw [if_neg c] at h
      cases e : fix f r with
      | none => rw [e] at h; cases h
      | some k =>
        rw [e] at h
        cases h
        obtain ⟨h1, h2⟩ := fix_mem e
        exact ⟨List.mem_cons_of_mem _ h1, by simp; omega⟩
/-! ### settled objects -/
section
variable {X : Cx} {E : SX} {e e2 o : Expr} {w wi : WE} {we : XE} {pos p apos tpos : Pos} {k n : Nat} {C : Addr} {ks : List Str} {f : Str}
/-- what an object of the settled store is -/
def dRes (k : Nat) (w : WE) : WE := fun x ρ P => w x ρ fun t => ∃ p m d, t.dat = objD p ∧ ρ[k]? = some (some (.fro m)) ∧ m p = some d ∧ P (.leaf d)
theorem d_res (h : PE X e (tOf X.K X.mg E w)) : PE X e (tOf X.K X.mg E (dRes k w)) := PE.of h fun σ H Q ⟨b, B, G, ρ, xp, P, p, hr, kk⟩ =>
  tOfD_of ⟨b, B, G, ρ, xp, fun d0 => ∃ p m d, d0 = objD p ∧ ρ[k]? = some (some (.fro m)) ∧ m p = some d ∧ P (.leaf d), p, hr, fun G1 H1 v d0 hp s1 hr1 r => by
    obtain ⟨p, m, d, rfl, em, ep, hp⟩ := hp
    have ev := rp_obj r
    subst ev
    obtain ⟨fps, h1, _, _⟩ := hr1.env.ex
    obtain ⟨v0, _, tr⟩ := h1 k _ em
    generalize fps k = fk at tr
    cases tr with
    | fro h => exact (kk.stp hr.good s1).leaf s1.good hp (h p d ep)⟩
/-- e.f -/
def dFld (C : Addr) (ks : List Str) (n : Nat) (w : WE) : WE := fun x ρ P => w x ρ fun t => ∃ ds, t.dat = insD C (ks.zip ds) ∧ ks.length = ds.length ∧ ∃ d, ds[n]? = some d ∧ P (.leaf d)
theorem d_fld (n : Nat) (cf : CF X.K C ks) (h : PE X e (tOf X.K X.mg E w)) (hf : fix f ks = some n := by decide) (hb : attributeBase e f X.env (eval e X.env) = eval e X.env := by rfl) : PE X (.Attribute e f pos) (tOf X.K X.mg E (dFld C ks n w)) := PE.of (pe_fld h hb) fun σ H Q ⟨b, B, G, ρ, xp, P, p, hr, kk⟩ =>
  tOfD_of ⟨b, B, G, ρ, xp, fun d0 => ∃ ds, d0 = insD C (ks.zip ds) ∧ ks.length = ds.length ∧ ∃ d, ds[n]? = some d ∧ P (.leaf d), p, hr, fun G1 H1 v d0 hp s1 hr1 r => by
    obtain ⟨ds, rfl, hl, d, ed, hp⟩ := hp
    obtain ⟨a, dx, us, rfl, h1, _, h2, h3⟩ := rp_ins r
    rw [zip_fst hl] at h2
    rw [zip_snd hl] at h3
    obtain ⟨v, ev, rv⟩ := h3.get ed
    exact ⟨a, C, dx, us, v, rfl, hr1.good.ex _ _ h1, cf.cls, cf.na f (fix_mem hf).1, by rw [fix_lookup, h2, hf]; exact ev, (kk.stp hr.good s1).leaf s1.good hp rv⟩⟩
end
/-! ### places -/
abbrev WP := XP → Rho → (Addr → List Nat → Prop) → Prop
def pOf (K : PySem.W.Frag) (mg : Str → Option Value) (E : SX) (w : WP) : TE := fun σ H Q => ∃ (b : Option Addr) (B G : Hp) (ρ : Rho) (xp : XP) (P : Addr → List Nat → Prop), w xp ρ P ∧ Site K mg (E σ) b B G H σ ρ xp ∧
  ∀ (G' H' : Hp) (p : Addr) (path : List Nat) (v : V), P p path → Stp K b G H G' H' → PathV b H' (.ref p) path v → Q v H'
section
variable {K : PySem.W.Frag} {b : Option Addr} {B G H F G0 H0 : Hp} {σ : L2.St} {ρ : Rho} {fv : List Addr} {k : Nat} {m : Sto} {p : Addr} {tr u : T} {path : List Nat} {vq : V}
theorem stp_chg {H' : Hp} {L : List Addr} (s : Stp K b G0 H0 G H) (hL : ∀ a, a ∈ L → H0 a = none ∧ G a = none ∧ b ≠ some a) (hH : ∀ a, a ∉ L → H' a = H a) : Stp K b G0 H0 G H' := by
  refine ⟨s.ex, ⟨fun a o e => ?_, fun a c => ?_⟩, fun a o n e => ?_, s.out, fun a c => ?_⟩
  · rw [hH a fun z => by rw [(hL a z).2.1] at e; cases e]
    exact s.good.ex a o e
  · obtain ⟨n, cc, cells, pos, rest, seed, q1, q2⟩ := s.good.box a c
    exact ⟨n, cc, cells, pos, rest, seed, by rw [hH a fun z => (hL a z).2.2 c]; exact q1, q2⟩
  · rw [hH a fun z => by rw [(hL a z).1] at e; cases e]
    exact s.keep a o n e
  · exact (boxc_eq (hH a fun z => (hL a z).2.2 c)).trans (s.cel a c)
/-- what stands at a place -/
theorem place_look (E : Env b B G H σ ρ) (ek : ρ[k]? = some (some (.sto m))) (ep : m p = some tr) (es : tr.sub path = some u) : ∃ v fu, PathV b H (.ref p) path v ∧ Tr b G H fu v u := by
  obtain ⟨fp, t, _, _, _⟩ := E.envT0.focus ek ep
  obtain ⟨v, fu, h1, h2, _⟩ := t.lens path es
  exact ⟨v, fu, h1, h2⟩
/-- a place, to be changed -/
theorem place (E : EnvT b H0 G H σ ρ fv) (ex : Ex F G) (st : Stp K b G0 H0 G H) (hB : ∀ a, a ∈ fv → H0 a = none) (ek : ρ[k]? = some (some (.sto m))) (ep : m p = some tr) (es : tr.sub path = some u) (pv : PathV b H (.ref p) path vq) :
    ∃ fu, Tr b G H fu vq u ∧ (∀ a, a ∈ fu → H0 a = none ∧ G a = none ∧ b ≠ some a ∧ a ∉ fv) ∧ ∀ (H' : Hp) (u' : T) (fu' : List Addr), (∀ a, a ∉ fu → H' a = H a) → Tr b G H' fu' vq u' → (∀ a, a ∈ fu' → a ∈ fu ∨ a ∈ fv) → (vq = .ref p → p ∈ fu') → At K b F G0 H0 (ρ.set k (some (.sto (stput m p (tr.put path u'))))) σ H' := by
  obtain ⟨fp, t, hp, hfp, back⟩ := E.focus ek ep
  obtain ⟨v, fu, h1, h2, h3, h4⟩ := t.lens path es
  cases pv.det h1
  refine ⟨fu, h2, fun a z => ⟨(hfp a (h3 a z)).1, (hfp a (h3 a z)).2.1, (hfp a (h3 a z)).2.2.1, (hfp a (h3 a z)).2.2.2.2⟩, fun H' u' fu' hH tr' sub root => ?_⟩
  obtain ⟨fp', k1, k2, k3, k4⟩ := h4 H' u' fu' (fun a _ n => hH a n) tr' fun a z => (sub a z).elim .inl fun y => .inr fun x => (hfp a x).2.2.2.2 y
  have E2 := back H' _ fp' (fun a n _ => hH a fun z => n (h3 a z)) (k4 p rfl fun e => root (by subst e; exact pv)) k1 fun a z => by
    rcases k2 a z with y | y
    · exact ⟨(hfp a y.1).1, .inl y.1⟩
    · rcases sub a y with x | x
      · exact ⟨(hfp a (h3 a x)).1, .inl (h3 a x)⟩
      · exact ⟨hB a x, .inr x⟩
  exact ⟨G, ex, stp_chg st (L := fu) (fun a z => ⟨(hfp a (h3 a z)).1, (hfp a (h3 a z)).2.1, (hfp a (h3 a z)).2.2.1⟩) hH, E2.env⟩
/-- a list at a place -/
theorem place_lst {us : List T} (E : EnvT b H0 G H σ ρ fv) (ex : Ex F G) (st : Stp K b G0 H0 G H) (hB : ∀ a, a ∈ fv → H0 a = none) (ek : ρ[k]? = some (some (.sto m))) (ep : m p = some tr) (es : tr.sub path = some (.node us)) (pv : PathV b H (.ref p) path vq) :
    ∃ q vs fq, vq = .ref q ∧ H q = some (.lst vs) ∧ TrAll b G H fq vs us ∧ (∀ a, a ∈ fq → a ∉ fv) ∧ ∀ (vs' : List V) (us' : List T) (fq' : List Addr), TrAll b G H fq' vs' us' → (∀ a, a ∈ fq' → a ∈ fq ∨ a ∈ fv) →
      At K b F G0 H0 (ρ.set k (some (.sto (stput m p (tr.put path (.node us')))))) σ (upd H q (.lst vs')) := by
  obtain ⟨fu, t, hfu, back⟩ := place E ex st hB ek ep es pv
  cases t with
  | @node q fq vs _ hq gq bq rr nq =>
    refine ⟨q, vs, fq, rfl, hq, rr, fun a z => (hfu a (List.mem_cons_of_mem _ z)).2.2.2, fun vs' us' fq' rr' sub => ?_⟩
    have nq' : q ∉ fq' := fun z => (sub q z).elim nq (hfu q (List.mem_cons_self ..)).2.2.2
    exact back _ _ (q :: fq') (fun a n => upd_ne fun z => n (by rw [z]; exact List.mem_cons_self ..)) (.node upd_same gq bq (rr'.move (Ex.rfl' _) fun a z => ⟨(rr'.mem a z).1, upd_ne fun y => nq' (by rw [← y]; exact z)⟩) nq') (fun a z => (List.mem_cons.mp z).elim (fun y => by rw [y]; exact .inl (List.mem_cons_self ..)) fun y => (sub a y).elim (fun x => .inl (List.mem_cons_of_mem _ x)) .inr) fun y => by
      cases y
      exact List.mem_cons_self ..
/-- an instance at a place -/
theorem place_ins {C : Addr} {ks : List Str} {ts : List T} (E : EnvT b H0 G H σ ρ fv) (ex : Ex F G) (st : Stp K b G0 H0 G H) (hB : ∀ a, a ∈ fv → H0 a = none) (ek : ρ[k]? = some (some (.sto m))) (ep : m p = some tr) (es : tr.sub path = some (.ins C ks ts)) (pv : PathV b H (.ref p) path vq) :
    ∃ q dx us fq, vq = .ref q ∧ H q = some (.ins C dx us) ∧ us.map (·.1) = ks ∧ TrAll b G H fq (us.map (·.2)) ts ∧ (∀ a, a ∈ fq → a ∉ fv) ∧ ∀ (us' : List (Str × V)) (ks' : List Str) (ts' : List T) (fq' : List Addr), us'.map (·.1) = ks' → TrAll b G H fq' (us'.map (·.2)) ts' → (∀ a, a ∈ fq' → a ∈ fq ∨ a ∈ fv) →
      At K b F G0 H0 (ρ.set k (some (.sto (stput m p (tr.put path (.ins C ks' ts')))))) σ (upd H q (.ins C dx us')) := by
  obtain ⟨fu, t, hfu, back⟩ := place E ex st hB ek ep es pv
  cases t with
  | @ins q dx _ fq us _ _ hq hx gq gx bq bx hk rr nq nx ne =>
    have in2 : ∀ a, a ∈ fq → a ∈ q :: dx :: fq := fun a z => List.mem_cons_of_mem _ (List.mem_cons_of_mem _ z)
    have inx : dx ∈ q :: dx :: fq := List.mem_cons_of_mem _ (List.mem_cons_self ..)
    refine ⟨q, dx, us, fq, rfl, hq, hk, rr, fun a z => (hfu a (in2 a z)).2.2.2, fun us' ks' ts' fq' hk' rr' sub => ?_⟩
    have nq' : q ∉ fq' := fun z => (sub q z).elim nq (hfu q (List.mem_cons_self ..)).2.2.2
    have nx' : dx ∉ fq' := fun z => (sub dx z).elim nx (hfu dx inx).2.2.2
    exact back _ _ (q :: dx :: fq') (fun a n => upd_ne fun z => n (by rw [z]; exact List.mem_cons_self ..)) (.ins upd_same (by rw [upd_ne ne]; exact hx) gq gx bq bx hk' (rr'.move (Ex.rfl' _) fun a z => ⟨(rr'.mem a z).1, upd_ne fun y => nq' (by rw [← y]; exact z)⟩) nq' nx' ne)
      (fun a z => (List.mem_cons.mp z).elim (fun y => by rw [y]; exact .inl (List.mem_cons_self ..)) fun y => (List.mem_cons.mp y).elim (fun y => by rw [y]; exact .inl inx) fun y => (sub a y).elim (fun x => .inl (in2 a x)) .inr) fun y => by
      cases y
      exact List.mem_cons_self ..
end
theorem TrAll.setT {b : Option Addr} {G H : Hp} {fv : List Addr} {v : V} {t : T} (h : Tr b G H fv v t) : ∀ {fp : List Addr} {vs : List V} {ts : List T} (i : Nat), TrAll b G H fp vs ts → (∀ a, a ∈ fp → a ∉ fv) → ∃ fr, TrAll b G H fr (vs.set i v) (ts.set i t) ∧ ∀ a, a ∈ fr → a ∈ fp ∨ a ∈ fv
  | _, _, _, _, .nil, _ => ⟨[], .nil, fun _ z => nomatch z⟩
  | _, _, _, 0, .cons (fp := f1) (fq := f2) q r k, d => ⟨fv ++ f2, .cons h r (fun a z y => d a (List.mem_append_right _ y) z), fun a z => (List.mem_append.mp z).elim .inr fun y => .inl (List.mem_append_right _ y)⟩
  | _, _, _, i + 1, .cons (fp := f1) (fq := f2) q r k, d => by
    obtain ⟨fr, h1, h2⟩ := TrAll.setT h i r fun a z => d a (List.mem_append_right _ z)
    exact ⟨f1 ++ fr, .cons q h1 (fun a z y => (h2 a y).elim (fun x => k a z x) (fun x => d a (List.mem_append_left _ z) x)), fun a z => (List.mem_append.mp z).elim (fun z => .inl (List.mem_append_left _ z)) fun z => (h2 a z).elim (fun y => .inl (List.mem_append_right _ y)) .inr⟩
theorem TrAll.at_ {b : Option Addr} {G H : Hp} {fp : List Addr} {vs : List V} {ts : List T} {n : Nat} {d : PyData} (h : TrAll b G H fp vs ts) (e : ts[n]? = some (.leaf d)) : ∃ v, vs[n]? = some v ∧ Rp b G v d := by
  obtain ⟨v, f1, h1, h2, _⟩ := h.focus e
  refine ⟨v, h1, ?_⟩
  cases h2 with
  | leaf r => exact r
section
variable {X : Cx} {E : SX} {e e2 o : Expr} {w wi : WE} {we : XE} {wp : WP} {pos p apos tpos : Pos} {k n : Nat} {C : Addr} {ks : List Str} {f : Str}
def dPV (i : Nat) : WP := fun x ρ P => ∃ p, ρ[i]? = some (some (.leaf (objD p))) ∧ P p []
theorem p_var (i : Nat) {x : Str} (hN : X.N[i]? = some x := by rfl) (hv : Vis X.env.scope x := by first | exact Or.inl rfl | exact Or.inr (Or.inl rfl) | exact Or.inr (Or.inr rfl)) (hd : (x == ("__debug__" : Str)) = false := by decide) (hcd : (x == ("__classdict__" : Str)) = false := by decide) :
    PE X (.Name x pos) (pOf X.K X.mg E (dPV i)) := PE.imp (pe_var hN hv hd hcd) fun σ H Q ⟨b, B, G, ρ, xp, P, ⟨p, e, q⟩, hr, kk⟩ => by
  obtain ⟨fps, h1, h2, h3⟩ := hr.env.ex
  obtain ⟨v, ev, tr⟩ := h1 i _ e
  refine ⟨v, ev, ?_⟩
  generalize fps i = fp at tr
  cases tr with
  | leaf r =>
    have := rp_obj r
    subst this
    exact kk G H p [] _ q hr.good.stp rfl
def dPF (k : Nat) (C : Addr) (ks : List Str) (n : Nat) (wp : WP) : WP := fun x ρ P => wp x ρ fun p path => atSto k ρ fun m => ∃ tr ts, m p = some tr ∧ tr.sub path = some (.ins C ks ts) ∧ P p (path ++ [n])
theorem p_fld (n : Nat) (cf : CF X.K C ks) (h : PE X e (pOf X.K X.mg E wp)) (hf : fix f ks = some n := by decide) (hb : attributeBase e f X.env (eval e X.env) = eval e X.env := by rfl) : PE X (.Attribute e f pos) (pOf X.K X.mg E (dPF k C ks n wp)) := PE.imp (pe_fld h hb) fun σ H Q ⟨b, B, G, ρ, xp, P, p, hr, kk⟩ =>
  ⟨b, B, G, ρ, xp, _, p, hr, fun G1 H1 p path v hp s1 pv => by
    obtain ⟨m, em, tr, ts, ep, es, hp⟩ := hp
    have hr1 := hr.stp s1
    obtain ⟨v', fu, pv', t⟩ := place_look hr1.env em ep es
    cases pv.det pv'
    cases t with
    | ins hq hx gq gx bq bx hk rr nq nx ne =>
      rename_i q dx fq us
      have hl : n < (us.map (·.2)).length := by
        have := (fix_mem hf).2
        rw [← hk] at this
        simpa using this
      exact ⟨q, C, dx, us, _, rfl, hq, cf.cls, cf.na f (fix_mem hf).1, by rw [fix_lookup, hk, hf]; exact List.getElem?_eq_getElem hl, kk G1 H1 p _ _ hp s1 (pv.snoc bq (by rw [hq]; exact List.getElem?_eq_getElem hl))⟩⟩
def dPI (k : Nat) (wp : WP) (wi : WE) : WP := fun x ρ P => wp x ρ fun p path => wi x ρ (asI fun l => atSto k ρ fun m => ∃ tr ts n, m p = some tr ∧ tr.sub path = some (.node ts) ∧ ixN ts.length l = some n ∧ P p (path ++ [n]))
theorem p_ix (h : PE X e (pOf X.K X.mg E wp)) (hi : PE X e2 (tOf X.K X.mg E wi)) (hs : PlainIx e2 := by exact fun _ _ => rfl) : PE X (.Subscript e e2 pos) (pOf X.K X.mg E (dPI k wp wi)) := PE.imp (pe_ix ix_list h hi hs) fun σ H Q ⟨b, B, G, ρ, xp, P, p, hr, kk⟩ =>
  ⟨b, B, G, ρ, xp, _, p, hr, fun G1 H1 p path v hp s1 pv => ⟨b, B, G1, ρ, xp, _, hp, hr.stp s1, fun G2 H2 u t fp ht s2 tr fr => by
    unfold asI at ht
    split at ht
    · cases tr with
      | leaf r =>
        cases r
        obtain ⟨m, em, tr, ts, n, ep, es, hn, ht⟩ := ht
        have hr2 := (hr.stp s1).stp s2
        have pv2 := pv.keep s2.keep
        obtain ⟨v', fu, pv', t⟩ := place_look hr2.env em ep es
        cases pv2.det pv'
        cases t with
        | node hq gq bq rr nq =>
          rename_i q fq vs
          have hl := rr.len
          have hlt : n < vs.length := by
            rw [hl]
            unfold ixN at hn
            split at hn <;> split at hn <;> simp at hn <;> omega
          exact ⟨q, vs, _, vs[n], rfl, rfl, .inl (.inl hq), by unfold L2.atI; rw [hl, hn]; exact List.getElem?_eq_getElem hlt, kk G2 H2 p _ _ ht (s1.trans hr.good s2) (pv2.snoc bq (by rw [hq]; exact List.getElem?_eq_getElem hlt))⟩
    · exact ht.elim⟩⟩
end
end Dd
/-! Places written. -/
namespace Dd
open PySem L2
section
variable {X : Cx} {E : SX} {e e2 o : Expr} {w wi wj : WE} {we : XE} {wp : WP} {pos p apos tpos cpos : Pos} {k n : Nat} {C : Addr} {ks : List Str} {f : Str}
theorem tr_later {K : PySem.W.Frag} {b : Option Addr} {G H G' H' : Hp} {fv : List Addr} {v : V} {t : T} (s : Stp K b G H G' H') (tr : Tr b G H fv v t) : Tr b G' H' fv v t := tr.move s.ex fun a z => by
  obtain ⟨g, c, o, e⟩ := tr.mem a z
  exact ⟨s.out a o g e, by rw [e]; exact s.keep a o c e⟩
/-- PATH.append(e) -/
def dAppP (k : Nat) (wp : WP) (we : WE) : WS := fun Ct ρ => wp (Ct.xc ρ) ρ fun p path => atSto k ρ fun m => ∃ tr us, m p = some tr ∧ tr.sub path = some (.node us) ∧ us.length < lim ∧ we (Ct.xc ρ) ρ fun t => Ct.nx (ρ.set k (some (.sto (stput m p (tr.put path (.node (us ++ [t])))))))
theorem s_appP (hp : PE X o (pOf X.K X.mg E wp)) (he : PE X e (tOf X.K X.mg E w))
    (hsw : swapsWith (.Call (.Attribute o "append" apos) [e] [] cpos) none pos.line X.env = pure false := by rfl)
    (hbase : attributeBase o "append" X.env (eval o X.env) = eval o X.env := by rfl)
    (hfew : ((backTo cpos (starEach [e] X.env)).all (fun x => !x.1) && (backToKw cpos (keywordEach [] X.env)).all (fun x => x.1.isSome)
      && decide (([e] : List Expr).length + ([] : List Keyword).length + (if ([] : List Keyword).isEmpty then 0 else 1) < 30)) = true := by rfl)
    (hline : (apos.endLine == cpos.line) = true := by rfl) (hs : starEach [e] X.env = (false, eval e X.env) :: starEach [] X.env := by rfl) (hplain : (backTo cpos (starEach [] X.env)).any (·.1) = false := by rfl) :
    PS X (.Expr (.Call (.Attribute o "append" apos) [e] [] cpos) pos) (sOf X.K X.mg E (dAppP k wp w)) :=
  PS.of (ps_expr (pe_bm PySem.F.plainAttrs_list PySem.F.slot_list_append PySem.F.type_list_append mt_append hp (pa_cons he pa_nil hs) hbase hfew hline hs hplain) hsw) fun D σ H ⟨b, F, G0, H0, ρ, Ct, q, g0, a, eo⟩ => by
  obtain ⟨G, hr⟩ := a.siteX g0 eo
  refine ⟨b, H0, G, ρ, _, _, q, hr.site, fun G1 H1 p path vq hp s1 pv => ?_⟩
  have hr1 := hr.stp s1
  obtain ⟨m, em, tr0, us, ep, es, hl, hp⟩ := hp
  obtain ⟨q, vs, fq, rfl, hq, rr, _, _⟩ := place_lst hr1.env.envT0 hr1.ex hr1.st (fun _ z => nomatch z) em ep es pv
  refine ⟨.inl ⟨rfl, _, .inl (.inl hq)⟩, b, H0, G1, ρ, _, _, hp, hr1.site, fun G2 H2 v t fv ht s2 tr2 fr => ?_⟩
  have hr2 := hr1.stp s2
  have hB : ∀ a, a ∈ fv → H0 a = none := fun a z => hr1.st.free hr1.g0 (fr a z)
  obtain ⟨q', vs', fq', e', hq', rr', off', back⟩ := place_lst (hr1.env.envT s2 fr) hr2.ex hr2.st hB em ep es (pv.keep s2.keep)
  cases e'
  obtain ⟨fn, t3, sub⟩ := TrAll.snoc rr' tr2 off'
  exact ⟨q, vs', v, rfl, rfl, hq', by rw [rr'.len]; exact lim_lt hl, eo.nx _ _ _ ht (back _ _ fn t3 sub)⟩
theorem TrAll.zipT {b : Option Addr} {G H : Hp} {fv : List Addr} {v : V} {t : T} {fp : List Addr} {vs : List V} {ts : List T} (r : TrAll b G H fp vs ts) (h : Tr b G H fv v t) (d : ∀ a, a ∈ fp → a ∉ fv) : ∃ fr, TrAll b G H fr (vs ++ [v]) (ts ++ [t]) ∧ ∀ a, a ∈ fr → a ∈ fp ∨ a ∈ fv := TrAll.snoc r h d
/-- PATH.f = e, f an attribute that stands -/
def dSetF (k : Nat) (C : Addr) (ks : List Str) (n : Nat) (wp : WP) (we : XE) : WS := fun Ct ρ => we Ct.xc ρ fun t ρ1 => wp (Ct.xc ρ1) ρ1 fun p path => atSto k ρ1 fun m => ∃ tr ts, m p = some tr ∧ tr.sub path = some (.ins C ks ts) ∧ Ct.nx (ρ1.set k (some (.sto (stput m p (tr.put path (.ins C ks (ts.set n t)))))))
theorem s_setF (n : Nat) (cf : CF X.K C ks) (hp : PE X o (pOf X.K X.mg E wp)) (he : PE X e (xOf X.K X.mg E we)) (hf : fix f ks = some n := by decide) (hz : ks.length < 1000 := by decide) (hs : swapsWith e (some (.Attribute o f tpos)) pos.line X.env = pure false := by rfl) :
    PS X (.Assign [.Attribute o f tpos] e pos) (sOf X.K X.mg E (dSetF k C ks n wp we)) := PS.of (ps_fld hp he hs) fun D σ H ⟨b, F, G0, H0, ρ, Ct, q, g0, a, eo⟩ => by
  obtain ⟨G, hr⟩ := a.siteX g0 eo
  refine ⟨b, F, G0, H0, G, ρ, Ct.xc, _, q, hr, fun ρ1 G1 H1 v t fv hp e1 s1 E1 tr hB => ?_⟩
  have hr1 := hr.to e1 s1 E1.env
  refine ⟨b, H0, G1, ρ1, _, _, hp, hr1.site, fun G2 H2 p path vq hp2 s2 pv => ?_⟩
  obtain ⟨m, em, tr0, ts, ep, es, hp2⟩ := hp2
  have hr2 := hr1.stp s2
  obtain ⟨q, dx, us, fq, rfl, hq, hk, rr, off, back⟩ := place_ins (E1.stp s2) hr2.ex hr2.st hB em ep es pv
  obtain ⟨fr, t3, sub⟩ := TrAll.setT (tr_later s2 tr) n rr off
  obtain ⟨p1, p2⟩ := putF_old (us := us) (v := v) (by rw [hk]; exact hf)
  refine ⟨q, C, dx, us, rfl, hq, cf.cls, cf.na f (fix_mem hf).1, ?_, eo.nx _ _ _ hp2 (back _ ks _ fr (by rw [p1]; exact hk) (by rw [p2]; exact t3) sub)⟩
  have : us.length = ks.length := by rw [← hk, List.length_map]
  omega
/-- PATH.f = e, f an attribute that does not stand yet -/
def dSetN (k : Nat) (C : Addr) (ks ks' : List Str) (wp : WP) (we : XE) : WS := fun Ct ρ => we Ct.xc ρ fun t ρ1 => wp (Ct.xc ρ1) ρ1 fun p path => atSto k ρ1 fun m => ∃ tr ts, m p = some tr ∧ tr.sub path = some (.ins C ks ts) ∧ Ct.nx (ρ1.set k (some (.sto (stput m p (tr.put path (.ins C ks' (ts ++ [t])))))))
theorem s_setN {kf : List Str} (ks ks' : List Str) (cf : CF X.K C kf) (hp : PE X o (pOf X.K X.mg E wp)) (he : PE X e (xOf X.K X.mg E we)) (hf : fix f ks = none := by decide) (hm : fix f kf ≠ none := by decide) (hk' : ks' = ks ++ [f] := by rfl) (hz : ks.length < 1000 := by decide) (hs : swapsWith e (some (.Attribute o f tpos)) pos.line X.env = pure false := by rfl) :
    PS X (.Assign [.Attribute o f tpos] e pos) (sOf X.K X.mg E (dSetN k C ks ks' wp we)) := PS.of (ps_fld hp he hs) fun D σ H ⟨b, F, G0, H0, ρ, Ct, q, g0, a, eo⟩ => by
  obtain ⟨G, hr⟩ := a.siteX g0 eo
  refine ⟨b, F, G0, H0, G, ρ, Ct.xc, _, q, hr, fun ρ1 G1 H1 v t fv hp e1 s1 E1 tr hB => ?_⟩
  have hr1 := hr.to e1 s1 E1.env
  refine ⟨b, H0, G1, ρ1, _, _, hp, hr1.site, fun G2 H2 p path vq hp2 s2 pv => ?_⟩
  obtain ⟨m, em, tr0, ts, ep, es, hp2⟩ := hp2
  have hr2 := hr1.stp s2
  obtain ⟨q, dx, us, fq, rfl, hq, hk, rr, off, back⟩ := place_ins (E1.stp s2) hr2.ex hr2.st hB em ep es pv
  obtain ⟨fr, t3, sub⟩ := TrAll.zipT rr (tr_later s2 tr) off
  obtain ⟨p1, p2⟩ := putF_new (us := us) (v := v) (by rw [hk]; exact hf)
  have mem : f ∈ kf := by
    cases e : fix f kf with
    | none => exact absurd e hm
    | some n => exact (fix_mem e).1
  refine ⟨q, C, dx, us, rfl, hq, cf.cls, cf.na f mem, ?_, eo.nx _ _ _ hp2 (back _ ks' _ fr (by rw [p1, hk, hk']) (by rw [p2]; exact t3) sub)⟩
  have : us.length = ks.length := by rw [← hk, List.length_map]
  omega
end
end Dd
/-! Equations for simp: stores, places. -/
namespace Dd
open PySem L2
theorem objD_eq {a b : Addr} : (objD a = objD b) = (a = b) := propext ⟨fun h => by
  simp only [PyData.dict.injEq, List.cons.injEq, Prod.mk.injEq, PyData.int.injEq, true_and, and_true] at h
  exact Int.ofNat.inj h, fun h => by rw [h]⟩
/-- an object of the settled store -/
def asO (k : Nat) (ρ : Rho) (P : T → Prop) (t : T) : Prop := ∃ p m d, t.dat = objD p ∧ ρ[k]? = some (some (.fro m)) ∧ m p = some d ∧ P (.leaf d)
theorem e_res {k : Nat} {w : WE} {x : XP} {ρ : Rho} {P : T → Prop} : dRes k w x ρ P = w x ρ (asO k ρ P) := rfl
theorem asO_o {k : Nat} {ρ : Rho} {P : T → Prop} {p : Addr} : asO k ρ P (.leaf (objD p)) = ∃ m, ρ[k]? = some (some (.fro m)) ∧ ∃ d, m p = some d ∧ P (.leaf d) := propext ⟨fun ⟨q, m, d, e, h1, h2, h3⟩ => by
  have e : p = q := by rwa [dat_leaf, objD_eq] at e
  subst e
  exact ⟨m, h1, d, h2, h3⟩, fun ⟨m, h1, d, h2, h3⟩ => ⟨p, m, d, rfl, h1, h2, h3⟩⟩
def asF (C : Addr) (ks : List Str) (n : Nat) (P : T → Prop) (t : T) : Prop := ∃ ds, t.dat = insD C (ks.zip ds) ∧ ks.length = ds.length ∧ ∃ d, ds[n]? = some d ∧ P (.leaf d)
theorem e_fldV {C : Addr} {ks : List Str} {n : Nat} {w : WE} {x : XP} {ρ : Rho} {P : T → Prop} : dFld C ks n w x ρ P = w x ρ (asF C ks n P) := rfl
theorem asF_ins {C : Addr} {ks : List Str} {n : Nat} {ts : List T} {u : T} {P : T → Prop} (h : ks.length = ts.length) (e : ts[n]? = some u) : asF C ks n P (.leaf (T.ins C ks ts).dat) = P (.leaf u.dat) := propext ⟨fun ⟨ds, e1, e2, d, e3, hp⟩ => by
  have e1 : insD C (ks.zip (T.dats ts)) = insD C (ks.zip ds) := e1
  have e4 := (insD_inj e1).2
  have e5 : T.dats ts = ds := by
    have z1 := zip_snd (ks := ks) (ds := T.dats ts) (by rw [dats_len]; exact h)
    have z2 := zip_snd (ks := ks) (ds := ds) e2
    rw [← z1, e4, z2]
  rw [← e5, dats_eq, List.getElem?_map, e] at e3
  cases e3
  exact hp, fun hp => ⟨T.dats ts, rfl, by rw [dats_len]; exact h, u.dat, by rw [dats_eq, List.getElem?_map, e]; rfl, hp⟩⟩
theorem e_pV {i : Nat} {x : XP} {ρ : Rho} {P : Addr → List Nat → Prop} : dPV i x ρ P = ∃ p, ρ[i]? = some (some (.leaf (objD p))) ∧ P p [] := rfl
theorem e_pF {k : Nat} {C : Addr} {ks : List Str} {n : Nat} {wp : WP} {x : XP} {ρ : Rho} {P : Addr → List Nat → Prop} : dPF k C ks n wp x ρ P = wp x ρ fun p path => atSto k ρ fun m => ∃ tr, m p = some tr ∧ ∃ ts, tr.sub path = some (.ins C ks ts) ∧ P p (path ++ [n]) := by
  unfold dPF
  congr
  funext p path
  refine congrArg (atSto k ρ) (funext fun m => propext ⟨fun ⟨tr, ts, a, b, c⟩ => ⟨tr, a, ts, b, c⟩, fun ⟨tr, a, ts, b, c⟩ => ⟨tr, ts, a, b, c⟩⟩)
theorem e_pI {k : Nat} {wp : WP} {wi : WE} {x : XP} {ρ : Rho} {P : Addr → List Nat → Prop} : dPI k wp wi x ρ P = wp x ρ fun p path => wi x ρ (asI fun l => atSto k ρ fun m => ∃ tr, m p = some tr ∧ ∃ ts, tr.sub path = some (.node ts) ∧ ∃ n, ixN ts.length l = some n ∧ P p (path ++ [n])) := by
  unfold dPI
  congr
  funext p path
  refine congrArg (fun f => wi x ρ (asI f)) (funext fun l => congrArg (atSto k ρ) (funext fun m => propext ⟨fun ⟨tr, ts, n, a, b, c, d⟩ => ⟨tr, a, ts, b, n, c, d⟩, fun ⟨tr, a, ts, b, n, c, d⟩ => ⟨tr, ts, n, a, b, c, d⟩⟩))
theorem e_appP {k : Nat} {wp : WP} {we : WE} {Ct : Ctl} {ρ : Rho} : dAppP k wp we Ct ρ = wp (Ct.xc ρ) ρ fun p path => atSto k ρ fun m => ∃ tr, m p = some tr ∧ ∃ us, tr.sub path = some (.node us) ∧ us.length < lim ∧ we (Ct.xc ρ) ρ fun t => Ct.nx (ρ.set k (some (.sto (stput m p (tr.put path (.node (us ++ [t]))))))) := by
  unfold dAppP
  congr
  funext p path
  refine congrArg (atSto k ρ) (funext fun m => propext ⟨fun ⟨tr, us, a, b⟩ => ⟨tr, a, us, b⟩, fun ⟨tr, a, us, b⟩ => ⟨tr, us, a, b⟩⟩)
theorem e_setF {k : Nat} {C : Addr} {ks : List Str} {n : Nat} {wp : WP} {we : XE} {Ct : Ctl} {ρ : Rho} : dSetF k C ks n wp we Ct ρ = we Ct.xc ρ fun t ρ1 => wp (Ct.xc ρ1) ρ1 fun p path => atSto k ρ1 fun m => ∃ tr, m p = some tr ∧ ∃ ts, tr.sub path = some (.ins C ks ts) ∧ Ct.nx (ρ1.set k (some (.sto (stput m p (tr.put path (.ins C ks (ts.set n t))))))) := by
  unfold dSetF
  congr
  funext t ρ1
  congr
  funext p path
  refine congrArg (atSto k ρ1) (funext fun m => propext ⟨fun ⟨tr, us, a, b⟩ => ⟨tr, a, us, b⟩, fun ⟨tr, a, us, b⟩ => ⟨tr, us, a, b⟩⟩)
theorem e_setN {k : Nat} {C : Addr} {ks ks' : List Str} {wp : WP} {we : XE} {Ct : Ctl} {ρ : Rho} : dSetN k C ks ks' wp we Ct ρ = we Ct.xc ρ fun t ρ1 => wp (Ct.xc ρ1) ρ1 fun p path => atSto k ρ1 fun m => ∃ tr, m p = some tr ∧ ∃ ts, tr.sub path = some (.ins C ks ts) ∧ Ct.nx (ρ1.set k (some (.sto (stput m p (tr.put path (.ins C ks' (ts ++ [t]))))))) := by
  unfold dSetN
  congr
  funext t ρ1
  congr
  funext p path
  refine congrArg (atSto k ρ1) (funext fun m => propext ⟨fun ⟨tr, us, a, b⟩ => ⟨tr, a, us, b⟩, fun ⟨tr, a, us, b⟩ => ⟨tr, us, a, b⟩⟩)
theorem e_meth {k : Nat} {C : Addr} {ks : List Str} {S : SpecX} {wr : XE} {wa : XA} {x : Rho → XP} {ρ : Rho} {P : T → Rho → Prop} : xMeth k C ks S wr wa x ρ P = wr x ρ fun t ρ1 => ∃ p, t.dat = objD p ∧ atSto k ρ1 fun m => ∃ ts, m p = some (.ins C ks ts) ∧ wa x ρ1 fun ds ρ2 => atSto k ρ2 fun m2 => S (objD p :: ds) m2 (fun t m' => P t (ρ2.set k (some (.sto m')))) fun n pl m' => x (ρ2.set k (some (.sto m'))) n pl := rfl
theorem sub_nil {t : T} : t.sub [] = some t := by unfold T.sub; rfl
theorem put_nil {t u : T} : t.put [] u = u := by unfold T.put; rfl
theorem e_obj {p q : Addr} : ((T.leaf (objD p)).dat = objD q) = (p = q) := objD_eq
/-- a store with one more -/
theorem sle_put {m : Sto} {q : Addr} {t : T} (h : m q = none) : SLe m (stput m q t) := fun p u e => by
  rw [stput_ne fun z => by rw [z, h] at e; cases e]
  exact e
def boolsD (bs : List Bool) : List PyData := bs.map .bool
def optsD (l : List (Option Nat)) : List PyData := l.map deadD
def booT (bs : List Bool) : T := .node (bs.map fun b => boo b)
def optT (l : List (Option Nat)) : T := .node (l.map fun x => .leaf (deadD x))
theorem booT_dat (bs : List Bool) : (booT bs).dat = .list (boolsD bs) := by
  unfold booT boolsD
  rw [dat_eq, List.map_map]
  rfl
theorem optT_dat (l : List (Option Nat)) : (optT l).dat = .list (optsD l) := by
  unfold optT optsD
  rw [dat_eq, List.map_map]
  rfl
theorem deadD_isN {x : Option Nat} {P : T → Prop} : rdIsN (deadD x) .none P = P (boo (decide (x = none))) := by
  cases x with
  | none => exact e_isNn
  | some k => exact e_isNi
theorem deadD_notN {x : Option Nat} {P : T → Prop} : rdNotN (deadD x) .none P = P (boo (decide (x ≠ none))) := by
  cases x with
  | none => exact e_notNn
  | some k => exact e_notNi
theorem sub_ins {C : Addr} {ks : List Str} {ts : List T} {n : Nat} {r : List Nat} : (T.ins C ks ts).sub (n :: r) = (ts[n]?).elim none fun u => u.sub r := by
  show (match ts[n]? with | some u => u.sub r | none => none) = _
  cases ts[n]? <;> rfl
theorem put_ins {C : Addr} {ks : List Str} {ts : List T} {n : Nat} {r : List Nat} {u : T} : (T.ins C ks ts).put (n :: r) u = (ts[n]?).elim (T.ins C ks ts) fun x => .ins C ks (ts.set n (x.put r u)) := by
  show (match ts[n]? with | some x => T.ins C ks (ts.set n (x.put r u)) | none => _) = _
  cases ts[n]? <;> rfl
theorem nodeI_node {ns : List Int} {us : List T} : (nodeI ns = T.node us) = ((ns.map fun i => T.leaf (.int i)) = us) := propext ⟨fun h => T.node.inj h, fun h => by rw [← h]; rfl⟩
theorem booT_node {bs : List Bool} {us : List T} : (booT bs = T.node us) = ((bs.map fun b => T.leaf (.bool b)) = us) := propext ⟨fun h => T.node.inj h, fun h => by rw [← h]; rfl⟩
theorem optT_node {l : List (Option Nat)} {us : List T} : (optT l = T.node us) = ((l.map fun x => T.leaf (deadD x)) = us) := propext ⟨fun h => T.node.inj h, fun h => by rw [← h]; rfl⟩
theorem foldI {ns : List Int} {k : Nat} {v : Int} : T.node ((ns.map fun i => T.leaf (.int i)).set k (.leaf (.int v))) = nodeI (ns.set k v) := by
  rw [mapI1_set]
  rfl
theorem foldB {bs : List Bool} {k : Nat} {v : Bool} : T.node ((bs.map fun b => T.leaf (.bool b)).set k (.leaf (.bool v))) = booT (bs.set k v) := by
  unfold booT
  rw [List.map_set]
theorem foldO {l : List (Option Nat)} {k h : Nat} : T.node ((l.map fun x => T.leaf (deadD x)).set k (.leaf (.int (h : Nat)))) = optT (l.set k (some h)) := by
  unfold optT
  rw [List.map_set]
  rfl
theorem foldA {ns : List Int} {v : Int} : T.node ((ns.map fun i => T.leaf (.int i)) ++ [.leaf (.int v)]) = nodeI (ns ++ [v]) := nodeI_snoc ns v
theorem optT_rep (n : Nat) : T.node (List.replicate n (T.leaf .none)) = optT (List.replicate n none) := by
  unfold optT
  rw [List.map_replicate]
  rfl
theorem booT_rep (n : Nat) (b : Bool) : T.node (List.replicate n (T.leaf (.bool b))) = booT (List.replicate n b) := by
  unfold booT
  rw [List.map_replicate]
theorem e_rtS {k : Nat} {P : T → Sto → Prop} {xp : Str → PyData → Sto → Prop} {m : Sto} {u : T} : (storeEnds k P xp).rt (.eff m u) = ∃ m', SLe m' m ∧ P u m' := propext ⟨fun ⟨m1, u1, e, h⟩ => by
  cases e
  exact h, fun h => ⟨m, u, rfl, h⟩⟩
theorem e_nxS {k : Nat} {P : T → Sto → Prop} {xp : Str → PyData → Sto → Prop} {ρ : Rho} : (storeEnds k P xp).nx ρ = ∃ m, ρ[k]? = some (some (.sto m)) ∧ ∃ m', SLe m' m ∧ P non m' := rfl
theorem frz_I (ns : List Int) : (nodeI ns).frz = .leaf (.list (intsD ns)) := by
  show T.leaf (nodeI ns).dat = _
  rw [nodeI_dat]
theorem frz_B (bs : List Bool) : (booT bs).frz = .leaf (.list (boolsD bs)) := by
  show T.leaf (booT bs).dat = _
  rw [booT_dat]
theorem frz_O (l : List (Option Nat)) : (optT l).frz = .leaf (.list (optsD l)) := by
  show T.leaf (optT l).dat = _
  rw [optT_dat]
end Dd
/-! Roads: the state, the search, the way, the push. -/
namespace Dd
open PySem L2
structure RoS where
  left : List Int
  room : List Int
  sent : List (List Int)
  seen : List Bool
  byL : List (Option Nat)
  byR : List (Option Nat)
structure RoS.Dim (n : Nat) (R : RoS) : Prop where
  l : R.left.length = n
  r : R.room.length = n
  s : R.sent.length = n
  sr : ∀ r ∈ R.sent, r.length = n
  se : R.seen.length = n
  bl : R.byL.length = n
  br : R.byR.length = n
abbrev RC := RoS × List Nat
def gbS (t : Nat) (c : RC) (a : Nat) : RC :=
  if c.1.seen.getD a false = false ∧ 0 < at2 c.1.sent a t then ({ c.1 with seen := c.1.seen.set a true, byR := c.1.byR.set a (some t) }, c.2 ++ [a]) else c
def gb (t : Nat) : Nat → RC → RC
  | 0, c => c
  | k + 1, c => gbS t (gb t k c) k
def setL (h t : Nat) (c : RC) : RC := ({ c.1 with byL := c.1.byL.set t (some h) }, c.2)
def scS (n : Nat) (o : Ties) (h k : Nat) (c : RC) : Option Nat × RC :=
  if tieB o h k = true ∧ c.1.byL.getD k none = none then (if 0 < c.1.room.getD k 0 then (some k, setL h k c) else (none, gb k n (setL h k c))) else (none, c)
def scan (n : Nat) (o : Ties) (h : Nat) : Nat → RC → Option Nat × RC
  | 0, c => (none, c)
  | k + 1, c => match scan n o h k c with
    | (some t, c') => (some t, c')
    | (none, c') => scS n o h k c'
inductive Look (n : Nat) (o : Ties) : Nat → RC → Nat → Option Nat → RoS → Prop
  | done {c : RC} {p : Nat} : c.2.length ≤ p → Look n o 0 c p none c.1
  | hit {c c' : RC} {p h t : Nat} : c.2[p]? = some h → scan n o h n c = (some t, c') → Look n o 0 c p (some t) c'.1
  | next {c c' : RC} {p h k : Nat} {r : Option Nat} {R : RoS} : c.2[p]? = some h → scan n o h n c = (none, c') → Look n o k c' (p + 1) r R → Look n o (k + 1) c p r R
def beg (n : Nat) (R : RoS) : RC := ({ R with seen := R.left.map fun x => decide (0 < x), byL := List.replicate n none, byR := List.replicate n none }, (List.range n).filter fun a => decide (0 < R.left.getD a 0))
abbrev Stp3 := Nat × Nat × Option Nat
inductive Wy (R : RoS) : Nat → Nat → Nat → Nat → List Stp3 → Prop
  | stop {t h : Nat} : R.byR.getD h none = none → Wy R 0 t h h [(h, t, none)]
  | go {k t h r h' s : Nat} {l : List Stp3} : R.byR.getD h none = some r → R.byL.getD r none = some h' → Wy R k r h' s l → Wy R (k + 1) t h s ((h, t, some r) :: l)
def mnI (i j : Int) : Int := if j < i then j else i
def pmS (s : List (List Int)) (x : Int) (st : Stp3) : Int := match st.2.2 with
  | none => x
  | some r => mnI x (at2 s st.1 r)
def pst (m : Int) (s : List (List Int)) (st : Stp3) : List (List Int) := match st.2.2 with
  | none => set2 s st.1 st.2.1 (at2 s st.1 st.2.1 + m)
  | some r => set2 (set2 s st.1 st.2.1 (at2 s st.1 st.2.1 + m)) st.1 r (at2 (set2 s st.1 st.2.1 (at2 s st.1 st.2.1 + m)) st.1 r - m)
def pushM (R : RoS) (e s : Nat) (l : List Stp3) : Int := l.foldl (pmS R.sent) (mnI (R.left.getD s 0) (R.room.getD e 0))
def pushR (R : RoS) (e s : Nat) (l : List Stp3) : RoS :=
  { R with sent := l.foldl (pst (pushM R e s l)) R.sent, left := R.left.set s (R.left.getD s 0 - pushM R e s l), room := R.room.set e (R.room.getD e 0 - pushM R e s l) }
inductive Fill (n : Nat) (o : Ties) : Nat → RoS → RoS → Prop
  | done {k : Nat} {R R1 : RoS} : R.Dim n → Look n o k (beg n R) 0 none R1 → Fill n o 0 R R1
  | more {k j q e h s : Nat} {R R1 R2 : RoS} {l : List Stp3} : R.Dim n → Look n o k (beg n R) 0 (some e) R1 → e < n → R1.byL.getD e none = some h → Wy R1 j e h s l → (∀ st ∈ l, st.1 < n ∧ st.2.1 < n ∧ ∀ r, st.2.2 = some r → r < n) → l.length ≤ n → s < n → R1.Dim n → Fill n o q (pushR R1 e s l) R2 → Fill n o (q + 1) R R2
/-! ### one answer -/
theorem Look.det {n : Nat} {o : Ties} {k : Nat} {c : RC} {p : Nat} {r : Option Nat} {R : RoS} (h : Look n o k c p r R) : ∀ {k' : Nat} {r' : Option Nat} {R' : RoS}, Look n o k' c p r' R' → r = r' ∧ R = R' := by
  induction h with
  | done l =>
    intro k' r' R' g
    cases g with
    | done _ => exact ⟨rfl, rfl⟩
    | hit e _ => have := (List.getElem?_eq_some_iff.mp e).1; omega
    | next e _ _ => have := (List.getElem?_eq_some_iff.mp e).1; omega
  | hit e s =>
    intro k' r' R' g
    cases g with
    | done l => have := (List.getElem?_eq_some_iff.mp e).1; omega
    | hit e2 s2 => rw [e] at e2; cases e2; rw [s] at s2; cases s2; exact ⟨rfl, rfl⟩
    | next e2 s2 _ => rw [e] at e2; cases e2; rw [s] at s2; cases s2
  | next e s _ ih =>
    intro k' r' R' g
    cases g with
    | done l => have := (List.getElem?_eq_some_iff.mp e).1; omega
    | hit e2 s2 => rw [e] at e2; cases e2; rw [s] at s2; cases s2
    | next e2 s2 g => rw [e] at e2; cases e2; rw [s] at s2; cases s2; exact ih g
theorem Wy.det {R : RoS} {k t h s : Nat} {l : List Stp3} (w : Wy R k t h s l) : ∀ {k' s' : Nat} {l' : List Stp3}, Wy R k' t h s' l' → s = s' ∧ l = l' := by
  induction w with
  | stop e =>
    intro k' s' l' g
    cases g with
    | stop _ => exact ⟨rfl, rfl⟩
    | go e2 _ _ => rw [e] at e2; cases e2
  | go e b _ ih =>
    intro k' s' l' g
    cases g with
    | stop e2 => rw [e] at e2; cases e2
    | go e2 b2 g =>
      rw [e] at e2; cases e2
      rw [b] at b2; cases b2
      obtain ⟨rfl, rfl⟩ := ih g
      exact ⟨rfl, rfl⟩
theorem Fill.det {n : Nat} {o : Ties} {k : Nat} {R R1 : RoS} (h : Fill n o k R R1) : ∀ {k' : Nat} {R1' : RoS}, Fill n o k' R R1' → R1 = R1' := by
  induction h with
  | done _ l =>
    intro k' R1' g
    cases g with
    | done _ l2 => exact (l.det l2).2
    | more _ l2 _ _ _ _ _ _ _ _ => cases (l.det l2).1
  | more _ l en b w _ _ _ _ _ ih =>
    intro k' R1' g
    cases g with
    | done _ l2 => cases (l.det l2).1
    | more _ l2 _ b2 w2 _ _ _ _ g =>
      obtain ⟨e1, e2⟩ := l.det l2
      cases e1
      subst e2
      rw [b] at b2
      cases b2
      obtain ⟨rfl, rfl⟩ := w.det w2
      exact ih g
/-! ### the search -/
structure SI (n : Nat) (o : Ties) (c : RC) (q : Nat) : Prop where
  d : c.1.Dim n
  lt : ∀ a ∈ c.2, a < n
  nd : c.2.Nodup
  seen : ∀ a, c.1.seen.getD a false = true ↔ a ∈ c.2
  lf : ∀ a, a < n → 0 < c.1.left.getD a 0 → a ∈ c.2
  bl : ∀ j l, c.1.byL.getD j none = some l → (∃ m, m < q ∧ c.2[m]? = some l) ∧ tieB o l j = true ∧ j < n
  br : ∀ (k : Nat) i, c.2[k]? = some i → (c.1.byR.getD i none = none → 0 < c.1.left.getD i 0) ∧ ∀ r, c.1.byR.getD i none = some r → 0 < at2 c.1.sent i r ∧ ∃ m l, m < k ∧ c.2[m]? = some l ∧ c.1.byL.getD r none = some l
structure Grow (c c' : RC) : Prop where
  l : c'.1.left = c.1.left
  r : c'.1.room = c.1.room
  s : c'.1.sent = c.1.sent
  x : ∃ ext, c'.2 = c.2 ++ ext
  b : ∀ j l, c.1.byL.getD j none = some l → c'.1.byL.getD j none = some l
theorem Grow.trans {a b c : RC} (h : Grow a b) (k : Grow b c) : Grow a c := by
  obtain ⟨x, hx⟩ := h.x
  obtain ⟨y, hy⟩ := k.x
  exact ⟨k.l.trans h.l, k.r.trans h.r, k.s.trans h.s, ⟨x ++ y, by rw [hy, hx, List.append_assoc]⟩, fun j l e => k.b j l (h.b j l e)⟩
theorem Grow.get {c c' : RC} (h : Grow c c') {m a : Nat} (e : c.2[m]? = some a) : c'.2[m]? = some a := by
  obtain ⟨x, hx⟩ := h.x
  rw [hx, List.getElem?_append_left (List.getElem?_eq_some_iff.mp e).1]
  exact e
theorem Grow.mem {c c' : RC} (h : Grow c c') {a : Nat} (e : a ∈ c.2) : a ∈ c'.2 := by
  obtain ⟨x, hx⟩ := h.x
  rw [hx]
  exact List.mem_append_left _ e
theorem SI.mono {n : Nat} {o : Ties} {c : RC} {q q' : Nat} (h : SI n o c q) (hq : q ≤ q') : SI n o c q' :=
  ⟨h.d, h.lt, h.nd, h.seen, h.lf, fun j l e => let ⟨⟨m, hm, e1⟩, e2, e3⟩ := h.bl j l e; ⟨⟨m, by omega, e1⟩, e2, e3⟩, h.br⟩
theorem nodup_len : ∀ {n : Nat} {l : List Nat}, l.Nodup → (∀ a ∈ l, a < n) → l.length ≤ n
  | 0, [], _, _ => Nat.le_refl 0
  | 0, a :: l, _, h => absurd (h a (List.mem_cons_self ..)) (Nat.not_lt_zero _)
  | n + 1, l, nd, h => by
    by_cases c : n ∈ l
    · have h1 := nodup_len (n := n) (nd.erase n) fun a ha => by
        have := (nd.mem_erase_iff).mp ha
        have := h a this.2
        omega
      rw [List.length_erase_of_mem c] at h1
      omega
    · have := nodup_len (n := n) nd fun a ha => by
        have := h a ha
        have : a ≠ n := fun e => c (e ▸ ha)
        omega
      omega
theorem SI.len {n : Nat} {o : Ties} {c : RC} {q : Nat} (h : SI n o c q) : c.2.length ≤ n := nodup_len h.nd h.lt
/-! ### the push -/
structure Sq (n : Nat) (s : List (List Int)) : Prop where
  l : s.length = n
  r : ∀ x ∈ s, x.length = n
theorem Sq.set {n : Nat} {s : List (List Int)} (h : Sq n s) {i j : Nat} (hi : i < n) (v : Int) : Sq n (set2 s i j v) := ⟨by rw [set2_len]; exact h.l, set2_row h.l h.r hi v⟩
end Dd
/-! Roads: all that can be sent is sent; what tables, covers and stuck ones come of it. -/
namespace Dd
open PySem L2
/-- before anything is sent -/
def ini (ws : List Int) : RoS := ⟨ws, ws, List.replicate ws.length (List.replicate ws.length 0), List.replicate ws.length false, List.replicate ws.length none, List.replicate ws.length none⟩
open Classical in
/-- the end of the filling -/
noncomputable def fin (ws : List Int) (o : Ties) : RoS := if h : ∃ R k, Fill ws.length o k (ini ws) R then h.choose else ini ws
end Dd
/-! Roads as an object of the store. -/
/-! Greatest sums: compared over ties, stretched, turned, joined. -/
/-! sorted, len(set(..)), index. -/
/-! Texts joined, cut and repeated; dicts as data. -/
namespace Dd
open PySem L2
/-! ### text + text, text * number, text[i:j] -/
def rdAddS : R2D := fun d e P => match d, e with
  | .str a, .str b => a.length + b.length ≤ lim ∧ P (.leaf (.str (a ++ b)))
  | _, _ => False
theorem e_addS {a b : Str} {P : T → Prop} : rdAddS (.str a) (.str b) P = (a.length + b.length ≤ lim ∧ P (.leaf (.str (a ++ b)))) := rfl
theorem ok_addS {K : PySem.W.Frag} : RdOk K (fun x y H Q => ∃ i j, x = .str i ∧ y = .str j ∧ i.length + j.length ≤ sizeLine ∧ Q (.str (i ++ j)) H) rdAddS := fun b G H x y d e P Q g rx ry h k => by
  unfold rdAddS at h
  split at h
  · obtain ⟨hl, p⟩ := h
    cases rx
    cases ry
    exact ⟨_, _, rfl, rfl, lim_le hl, k G H _ _ [] p g.stp (.leaf (.str _)) fun _ z => nomatch z⟩
  · exact h.elim
section
variable {X : Cx} {E : SX} {e e2 e3 : Expr} {w wa wb we wk wd : WE} {ws : WA} {pos p p2 q apos : Pos}
theorem d_addS (ha : PE X e (tOf X.K X.mg E wa)) (hb : PE X e2 (tOf X.K X.mg E wb)) : PE X (.BinOp e .Add e2 pos) (tOf X.K X.mg E (dOp rdAddS wa wb)) := d_bin op_add_str ok_addS ha hb
end
theorem room1 {k : Nat} {A : Around} (hr : Room k A) : A.units + 1 < cLine := by
  have := room65 hr
  omega
/-! ### dicts as data -/
def valP {κ : Type} [DecidableEq κ] (fs : List (κ × PyData)) (k : κ) : Option PyData := (fs.find? fun kv => decide (kv.1 = k)).map (·.2)
theorem valP_cons {κ : Type} [DecidableEq κ] {p : κ × PyData} {fs : List (κ × PyData)} {k : κ} : valP (p :: fs) k = if p.1 = k then some p.2 else valP fs k := by
  unfold valP
  rw [List.find?_cons]
  by_cases c : p.1 = k
  · rw [if_pos c, decide_eq_true c]
    rfl
  · rw [if_neg c, decide_eq_false c]
theorem rp_val {κ : Type} [DecidableEq κ] {b : Option Addr} {G : Hp} (k : κ) : ∀ {us : List (κ × V)} {fs : List (κ × PyData)}, us.map (·.1) = fs.map (·.1) → RpAll b G (us.map (·.2)) (fs.map (·.2)) → (∀ d, valP fs k = some d → ∃ v, valV us k = some v ∧ Rp b G v d) ∧ (valP fs k = none → valV us k = none)
  | [], [], _, _ => ⟨fun _ h => (nomatch h), fun _ => rfl⟩
  | [], _ :: _, h, _ => nomatch h
  | _ :: _, [], h, _ => nomatch h
  | u :: us, f :: fs, h, r => by
    rw [List.map_cons, List.map_cons] at h
    injection h with h1 h2
    rw [List.map_cons, List.map_cons] at r
    cases r with
    | cons r1 r2 =>
      rw [valP_cons]
      by_cases c : f.1 = k
      · rw [if_pos c, valV_pos (h1.trans c)]
        exact ⟨fun d e => by cases e; exact ⟨_, rfl, r1⟩, fun e => (nomatch e)⟩
      · rw [if_neg c, valV_neg (fun z => c (h1.symm.trans z))]
        exact rp_val k h2 r2
theorem rp_key {b : Option Addr} {G : Hp} {v : V} {k : Key} (h : Rp b G v (keyD k)) : v = kV k := by
  cases k <;> cases h <;> rfl
theorem dicD_inj {fs gs : List (Key × PyData)} (h : dicD fs = dicD gs) : fs = gs := by
  simp only [PyData.dict.injEq, List.cons.injEq, true_and] at h
  induction fs generalizing gs with
  | nil =>
    cases gs with
    | nil => rfl
    | cons _ _ => cases h
  | cons a r ih =>
    cases gs with
    | nil => cases h
    | cons a' r' =>
      simp only [List.map_cons, List.cons.injEq, Prod.mk.injEq] at h
      obtain ⟨⟨e1, e2⟩, e3⟩ := h
      have e4 : a.1 = a'.1 := by
        generalize a.1 = x at e1
        generalize a'.1 = y at e1
        cases x <;> cases y <;> cases e1 <;> rfl
      rw [ih e3, show a = a' from Prod.ext e4 e2]
theorem rp_dic {b : Option Addr} {G : Hp} {v : V} {fs : List (Key × PyData)} (h : Rp b G v (dicD fs)) : ∃ a us, v = .ref a ∧ Rd G a (.dK us) ∧ us.map (·.1) = fs.map (·.1) ∧ RpAll b G (us.map (·.2)) (fs.map (·.2)) := by
  generalize eD : dicD fs = D at h
  cases h with
  | dic h1 h2 h3 =>
    cases dicD_inj eD
    exact ⟨_, _, rfl, h1, h2, h3⟩
  | _ => cases eD
/-- a dict's display: keys and values from the left, values settled -/
abbrev WD := XP → Rho → (List (Key × PyData) → Prop) → Prop
section
variable {X : Cx} {E : SX} {e e2 e3 : Expr} {w wa wb we wk wv wd : WE} {wr : WD} {ws : WA} {pos p p2 q apos : Pos} {keys : List (Option Expr)} {values : List Expr}
theorem Stp.fresh {K : PySem.W.Frag} {b : Option Addr} {G H G' H' : Hp} {a : Addr} {o : HO} (s : Stp K b G H G' H') (ha : H a = none) (ga : G' a = none) (nb : b ≠ some a) : Stp K b G H G' (upd H' a o) := by
  refine ⟨s.ex, ⟨fun c u e => ?_, fun c q => ?_⟩, fun c u nc e => ?_, s.out, fun c q => ?_⟩
  · rw [upd_ne (ne_of_none e ga)]
    exact s.good.ex c u e
  · have nc : c ≠ a := fun z => nb (z ▸ q)
    obtain ⟨n, cc, cells, pos, rest, seed, h1, h2, h3⟩ := s.good.box c q
    exact ⟨n, cc, cells, pos, rest, seed, by rw [upd_ne nc]; exact h1, h2, h3⟩
  · rw [upd_ne (ne_of_none e ha)]
    exact s.keep c u nc e
  · have nc : c ≠ a := fun z => nb (z ▸ q)
    rw [← s.cel c q]
    exact boxc_eq (upd_ne nc)
end
theorem keyD_inj {k l : Key} (h : keyD k = keyD l) : k = l := by
  cases k <;> cases l <;> cases h <;> rfl
theorem e_keyS {s : Str} {P : Key → Prop} : (∃ k, PyData.str s = keyD k ∧ P k) = P (.inr s) := propext ⟨fun ⟨k, e, p⟩ => by
  cases keyD_inj (k := .inr s) e
  exact p, fun p => ⟨_, rfl, p⟩⟩
theorem e_keyI {i : Int} {P : Key → Prop} : (∃ k, PyData.int i = keyD k ∧ P k) = P (.inl i) := propext ⟨fun ⟨k, e, p⟩ => by
  cases keyD_inj (k := .inl i) e
  exact p, fun p => ⟨_, rfl, p⟩⟩
theorem dat_dic {ks : List Key} {ts : List T} : (T.dic ks ts).dat = dicD (ks.zip (ts.map T.dat)) := by
  show dicD (ks.zip (T.dats ts)) = _
  rw [dats_eq]
theorem e_dicX {gs : List (Key × PyData)} {P : List (Key × PyData) → Prop} : (∃ fs, dicD gs = dicD fs ∧ P fs) = P gs := propext ⟨fun ⟨fs, e, p⟩ => by
  cases dicD_inj e
  exact p, fun p => ⟨_, rfl, p⟩⟩
end Dd
/-! Walks of settled dicts: the dict is locked while the walk goes on. -/
namespace Dd
open PySem L2
/-! ### a ghost step behind an expression, a statement -/
section
variable {X : Cx} {e : Expr} {st : Stmt} {t : TE} {ts : TS}
/-- the dict that was told may be locked -/
def tLk (t : TE) : TE := fun σ H Q => t σ H fun x H1 => Q x H1 ∨ ∃ d u, H1 d = some u ∧ Mut (some u) ∧ ∀ od, Q x (upd H1 d (.frz od u))
theorem pe_lk (h : PE X e t) : PE X e (tLk t) := ⟨fun pins s σ H Q I hw => thn (h.run pins s σ H _ I hw) fun v s1 ⟨x, H1, I1, r, q⟩ => by
  rcases q with q | ⟨d, u, hd, mu, q⟩
  · exact ⟨x, H1, I1, r, q⟩
  · obtain ⟨od, I2⟩ := I1.lock hd mu
    exact ⟨x, _, I2, r, q od⟩⟩
def unl (H H' : Hp) (P : Hp → Prop) : Prop := P H' ∨ ∃ d od u, (∀ o' u', H d ≠ some (.frz o' u')) ∧ H' d = some (.frz od u) ∧ P (upd H' d u)
theorem nofrz0 {pins : List (Addr × Obj)} {σ : L2.St} {H : Hp} {s : Shared} {d : Addr} (I : Inv X pins σ H s) (h : ∀ o' u', H d ≠ some (.frz o' u')) : ∀ o' u', X.H_0 d ≠ some (.frz o' u') := fun o' u' e => h o' u' (I.base.frzs d o' u' e)
/-- .. and be open again at the end -/
def tUn (t : TE) : TE := fun σ H Q => t σ H fun v H' => unl H H' (Q v)
theorem pe_un (h : PE X e t) : PE X e (tUn t) := ⟨fun pins s σ H Q I hw => thn (h.run pins s σ H _ I hw) fun v s1 ⟨x, H1, I1, r, q⟩ => by
  rcases q with q | ⟨d, od, u, hn, e, q⟩
  · exact ⟨x, H1, I1, r, q⟩
  · exact ⟨x, _, I1.unlock e (nofrz0 I hn), r, q⟩⟩
def sUn (t : TS) : TS := fun D σ H => t { D with nx := fun σ' H' => unl H H' (D.nx σ') } σ H
theorem ps_un (h : PS X st ts) : PS X st (sUn ts) := ⟨fun pins s σ H D I hw => thn (h.run pins s σ H _ I hw) fun f s1 q => by
  cases f with
  | next =>
    obtain ⟨σ', H', I2, q⟩ := q
    rcases q with q | ⟨d, od, u, hn, e, q⟩
    · exact ⟨σ', H', I2, q⟩
    · exact ⟨σ', _, I2.unlock e (nofrz0 I hn), q⟩
  | brk => exact q
  | cont => exact q
  | ret v => exact q⟩
end
/-! ### one settled dict seen otherwise -/
def isDH : HO → Bool
  | .dK _ => true
  | .dT _ => true
  | _ => false
structure Gm (g : HO → HO) : Prop where
  fix : ∀ o, (∀ w, isDH w = true → o ≠ w ∧ ∀ ob, o ≠ .frz ob w) → g o = o
  rd : ∀ o w, isDH w = true → (o = w ∨ ∃ ob, o = .frz ob w) → g o = w ∨ ∃ ob, g o = .frz ob w
def ph (d : Addr) (g : HO → HO) (X : Hp) : Hp := fun a => if a = d then (X a).map g else X a
section
variable {d : Addr} {g : HO → HO} {X Y : Hp} {K : PySem.W.Frag} {b : Option Addr} {F G H G' H' B : Hp}
theorem ph_ne {a : Addr} (h : a ≠ d) : ph d g X a = X a := if_neg h
theorem ph_at : ph d g X d = (X d).map g := if_pos rfl
theorem ph_none {a : Addr} : ph d g X a = none ↔ X a = none := by
  unfold ph
  split
  · cases X a <;> simp
  · exact Iff.rfl
theorem ph_fix (m : Gm g) {a : Addr} {o : HO} (h : X a = some o) (nd : ∀ w, isDH w = true → o ≠ w ∧ ∀ ob, o ≠ .frz ob w) : ph d g X a = some o := by
  by_cases c : a = d
  · subst c
    rw [ph_at, h]
    show some (g o) = _
    rw [m.fix o nd]
  · rw [ph_ne c]
    exact h
theorem nd_of {o : HO} (h : isDH o = false) (hf : ∀ ob u, o ≠ .frz ob u) : ∀ w, isDH w = true → o ≠ w ∧ ∀ ob, o ≠ .frz ob w := fun w hw => ⟨fun e => (by
  rw [e, hw] at h
  exact nomatch h), fun ob => hf ob w⟩
theorem ph_rd (m : Gm g) {a : Addr} {w : HO} (hw : isDH w = true) (h : Rd X a w) : Rd (ph d g X) a w := by
  by_cases c : a = d
  · subst c
    rcases h with h | ⟨ob, h⟩
    · rcases m.rd w w hw (.inl rfl) with e | ⟨ob', e⟩
      · exact .inl (by rw [ph_at, h]; show some (g w) = _; rw [e])
      · exact .inr ⟨ob', by rw [ph_at, h]; show some (g w) = _; rw [e]⟩
    · rcases m.rd (.frz ob w) w hw (.inr ⟨ob, rfl⟩) with e | ⟨ob', e⟩
      · exact .inl (by rw [ph_at, h]; show some (g _) = _; rw [e])
      · exact .inr ⟨ob', by rw [ph_at, h]; show some (g _) = _; rw [e]⟩
  · rcases h with h | ⟨ob, h⟩
    · exact .inl (by rw [ph_ne c]; exact h)
    · exact .inr ⟨ob, by rw [ph_ne c]; exact h⟩
theorem Ex.ph (e : Ex G G') : Ex (ph d g G) (ph d g G') := fun a o h => by
  by_cases c : a = d
  · subst c
    rw [ph_at] at h ⊢
    cases q : G a with
    | none => rw [q] at h; cases h
    | some o0 =>
      rw [q] at h
      rw [e a o0 q]
      exact h
  · rw [ph_ne c] at h ⊢
    exact e a o h
mutual
theorem Rp.ph (m : Gm g) : ∀ {v : V} {x : PyData}, Rp b G v x → Rp b (ph d g G) v x
  | _, _, .non => .non
  | _, _, .bl k => .bl k
  | _, _, .int i => .int i
  | _, _, .str x => .str x
  | _, _, .lst h r => .lst (ph_fix m h (nd_of rfl fun _ _ z => nomatch z)) (RpAll.ph m r)
  | _, _, .tup h r => .tup (ph_fix m h (nd_of rfl fun _ _ z => nomatch z)) (RpAll.ph m r)
  | _, _, .box h => .box h
  | _, _, .exc h => .exc (ph_fix m h (nd_of rfl fun _ _ z => nomatch z))
  | _, _, .obj a => .obj a
  | _, _, .ins h h2 k r => .ins (ph_fix m h (nd_of rfl fun _ _ z => nomatch z)) (ph_fix m h2 (nd_of rfl fun _ _ z => nomatch z)) k (RpAll.ph m r)
  | _, _, .dic h k r => .dic (ph_rd m rfl h) k (RpAll.ph m r)
  | _, _, .diT h k r => .diT (ph_rd m rfl h) k (RpAll.ph m r)
theorem RpAll.ph (m : Gm g) : ∀ {vs : List V} {ds : List PyData}, RpAll b G vs ds → RpAll b (ph d g G) vs ds
  | _, _, .nil => .nil
  | _, _, .cons h r => .cons (Rp.ph m h) (RpAll.ph m r)
end
/-- an own address is not d -/
theorem ne_d (hd : G d ≠ none) {a : Addr} (h : G a = none) : a ≠ d := fun e => hd (e ▸ h)
mutual
theorem Tr.ph (m : Gm g) (hd : G d ≠ none) : ∀ {fp : List Addr} {v : V} {t : T}, Tr b G H fp v t → Tr b (ph d g G) (ph d g H) fp v t
  | _, _, _, .leaf h => .leaf (h.ph m)
  | _, _, _, .node hp gp bp r n => .node (by rw [ph_ne (ne_d hd gp)]; exact hp) (ph_none.mpr gp) bp (TrAll.ph m hd r) n
  | _, _, _, .own h => .own (Tr.ph m hd h)
  | _, _, _, .ins hp hx gp gx bp bx ks r n n2 ne => .ins (by rw [ph_ne (ne_d hd gp)]; exact hp) (by rw [ph_ne (ne_d hd gx)]; exact hx) (ph_none.mpr gp) (ph_none.mpr gx) bp bx ks (TrAll.ph m hd r) n n2 ne
  | _, _, _, .dic hp gp bp ks r n => .dic (by rw [ph_ne (ne_d hd gp)]; exact hp) (ph_none.mpr gp) bp ks (TrAll.ph m hd r) n
  | _, _, _, .diT hp gp bp ks r n => .diT (by rw [ph_ne (ne_d hd gp)]; exact hp) (ph_none.mpr gp) bp ks (TrAll.ph m hd r) n
  | _, _, _, .sto h0 h1 h2 h3 h4 => .sto h0 (fun p t q => Tr.ph m hd (h1 p t q)) h2 h3 h4
  | _, _, _, .fro h => .fro fun p x q => (h p x q).ph m
  | _, _, _, .eff s r dj => .eff (Tr.ph m hd s) (Tr.ph m hd r) dj
theorem TrAll.ph (m : Gm g) (hd : G d ≠ none) : ∀ {fp : List Addr} {vs : List V} {ts : List T}, TrAll b G H fp vs ts → TrAll b (ph d g G) (ph d g H) fp vs ts
  | _, _, _, .nil => .nil
  | _, _, _, .cons q r dj => .cons (Tr.ph m hd q) (TrAll.ph m hd r) dj
end
theorem Good.ph (m : Gm g) (h : Good K b G H) : Good K b (ph d g G) (ph d g H) := ⟨Ex.ph h.ex, fun a c => by
  obtain ⟨n, cc, cells, pos, rest, seed, h1, h2, h3⟩ := h.box a c
  exact ⟨ph_none.mpr n, cc, cells, pos, rest, seed, ph_fix m h1 (nd_of rfl fun _ _ z => nomatch z), ph_fix m h2 (nd_of rfl fun _ _ z => nomatch z), h3⟩⟩
theorem Stp.ph (m : Gm g) (g0 : Good K b G H) (s : Stp K b G H G' H') : Stp K b (ph d g G) (ph d g H) (ph d g G') (ph d g H') := by
  refine ⟨Ex.ph s.ex, s.good.ph m, fun a o c e => ?_, fun a o n e => ?_, fun a c => ?_⟩
  · by_cases q : a = d
    · subst q
      rw [ph_at] at e ⊢
      cases w : H a with
      | none => rw [w] at e; cases e
      | some o0 =>
        rw [w] at e
        rw [s.keep a o0 c w]
        exact e
    · rw [ph_ne q] at e ⊢
      exact s.keep a o c e
  · have n' := ph_none.mp n
    cases w : H a with
    | none => rw [ph_none.mpr w] at e; cases e
    | some o0 => exact ph_none.mpr (s.out a o0 n' w)
  · have h1 := s.cel a c
    obtain ⟨_, cc, cells, pos, rest, seed, q1, _, _⟩ := s.good.box a c
    obtain ⟨_, cc2, cells2, pos2, rest2, seed2, q2, _, _⟩ := g0.box a c
    have e1 : boxc (Dd.ph d g H') a = boxc H' a := boxc_eq (by rw [q1]; exact ph_fix m q1 (nd_of rfl fun _ _ z => nomatch z))
    have e2 : boxc (Dd.ph d g H) a = boxc H a := boxc_eq (by rw [q2]; exact ph_fix m q2 (nd_of rfl fun _ _ z => nomatch z))
    rw [e1, e2]
    exact h1
theorem Env.ph {σ : L2.St} {ρ : Rho} (m : Gm g) (hd : G d ≠ none) (E : Env b B G H σ ρ) : Env b (ph d g B) (ph d g G) (ph d g H) σ ρ := by
  obtain ⟨hl, fps, h1, h2, h3⟩ := E
  refine ⟨hl, fps, fun i t e => ?_, fun i a z => ?_, h3⟩
  · obtain ⟨v, e1, tr⟩ := h1 i t e
    exact ⟨v, e1, tr.ph m hd⟩
  · obtain ⟨q1, q2, q3, o, q4⟩ := h2 i a z
    exact ⟨ph_none.mpr q1, ph_none.mpr q2, q3, o, by rw [ph_ne (ne_d hd q2)]; exact q4⟩
end
/-! ### locking and opening -/
open Classical in
noncomputable def gLk (ob : Obj) (u : HO) : HO → HO := fun o => if o = u then .frz ob u else o
open Classical in
noncomputable def gUn (ob : Obj) (u : HO) : HO → HO := fun o => if o = .frz ob u then u else o
theorem dh_nofrz {u : HO} (h : isDH u = true) (ob : Obj) (w : HO) : u ≠ .frz ob w := fun e => by
  rw [e] at h
  cases h
theorem gm_lk {ob : Obj} {u : HO} (hu : isDH u = true) : Gm (gLk ob u) := ⟨fun o h => if_neg fun e => (h u hu).1 e, fun o w hw h => by
  unfold gLk
  rcases h with rfl | ⟨ob', rfl⟩
  · split
    · rename_i e
      subst e
      exact .inr ⟨ob, rfl⟩
    · exact .inl rfl
  · rw [if_neg fun e => dh_nofrz hu ob' w e.symm]
    exact .inr ⟨ob', rfl⟩⟩
theorem gm_un {ob : Obj} {u : HO} (hu : isDH u = true) : Gm (gUn ob u) := ⟨fun o h => if_neg fun e => (h u hu).2 ob e, fun o w hw h => by
  unfold gUn
  rcases h with rfl | ⟨ob', rfl⟩
  · rw [if_neg fun e => dh_nofrz hw ob u e]
    exact .inl rfl
  · split
    · rename_i e
      cases e
      exact .inl rfl
    · exact .inr ⟨ob', rfl⟩⟩
theorem ph_upd {d : Addr} {g : HO → HO} {X : Hp} {o o' : HO} (h : X d = some o) (e : g o = o') : ph d g X = upd X d o' := by
  funext a
  by_cases c : a = d
  · rw [c, ph_at, upd_same, h, ← e]
    rfl
  · rw [ph_ne c, upd_ne c]
theorem un_lk {d : Addr} {ob : Obj} {u : HO} {X : Hp} (h : ∀ o, X d = some o → o = u) : ph d (gUn ob u) (ph d (gLk ob u) X) = X := by
  funext a
  by_cases c : a = d
  · subst c
    rw [ph_at, ph_at]
    cases q : X a with
    | none => rfl
    | some o =>
      have := h o q
      subst this
      show some (gUn ob o (gLk ob o o)) = _
      unfold gUn gLk
      rw [if_pos rfl, if_pos rfl]
  · rw [ph_ne c, ph_ne c]
end Dd
/-! Comprehensions and loops over settled dicts. -/
namespace Dd
open PySem L2
/-- what a walk of settled data hands out: kinds of walks of dicts -/
structure DWalk (K : PySem.W.Frag) (J : Addr → Obj → HO → It) (Sem : PyData → List PyData → Prop) (ok : HO → Prop) : Prop where
  rp : ∀ (b : Option Addr) (G : Hp) (v : V) (d : PyData) (ds : List PyData), Sem d ds → Rp b G v d → ∃ a u, v = .ref a ∧ isDH u = true ∧ ok u ∧ Rd G a u ∧ ∀ (F : Hp) (o : Obj), F a = some (.frz o u) → (∀ x y, Rp b G x y → Rp b F x y) → WalkD K b F (J a o u) ds
def iSem (Sem : PyData → List PyData → Prop) (w : WE) : WI := fun x ρ P => w x ρ fun t => ∃ ds, Sem t.dat ds ∧ P ds
/-! keys, items -/
def Jk : Addr → Obj → HO → It := fun d o u => match u with
  | .dK us => Itk d o us
  | .dT us => Itkt d o us
  | _ => ⟨fun _ _ => False, fun _ _ _ _ => True, fun _ _ => False⟩
def Ji : Addr → Obj → HO → It := fun d o u => match u with
  | .dK us => Iti d o us
  | _ => ⟨fun _ _ => False, fun _ _ _ _ => True, fun _ _ => False⟩
def keysS (d : PyData) (ds : List PyData) : Prop := (∃ fs : List (Key × PyData), d = dicD fs ∧ ds = fs.map fun p => keyD p.1) ∨ (d = diTD [] ∧ ds = [])
def itemsS (d : PyData) (ds : List PyData) : Prop := ∃ fs : List (Key × PyData), d = dicD fs ∧ ds = fs.map fun p => .tuple [keyD p.1, p.2]
def okK (u : HO) : Prop := match u with
  | .dK _ => True
  | .dT us => us = []
  | _ => False
def okI (u : HO) : Prop := match u with
  | .dK _ => True
  | _ => False
theorem key_get {us : List (Key × V)} {fs : List (Key × PyData)} (h : us.map (·.1) = fs.map (·.1)) {i : Nat} {k : Key} {v : V} (e : us[i]? = some (k, v)) : ∃ x, fs[i]? = some (k, x) := by
  have e1 : (us.map (·.1))[i]? = some k := by rw [List.getElem?_map, e]; rfl
  rw [h, List.getElem?_map] at e1
  cases q : fs[i]? with
  | none => rw [q] at e1; cases e1
  | some p =>
    rw [q] at e1
    obtain ⟨k', x⟩ := p
    cases e1
    exact ⟨x, rfl⟩
theorem rp_keyV {b : Option Addr} {G : Hp} (k : Key) : Rp b G (kV k) (keyD k) := by
  cases k
  · exact .int _
  · exact .str _
theorem walkD_keys {K : PySem.W.Frag} {b : Option Addr} {F : Hp} {d : Addr} {o : Obj} {us : List (Key × V)} {fs : List (Key × PyData)} (h : F d = some (.frz o (.dK us))) (hk : us.map (·.1) = fs.map (·.1)) : WalkD K b F (Itk d o us) (fs.map fun p => keyD p.1) := by
  have hl : us.length = fs.length := by have := congrArg List.length hk; rwa [List.length_map, List.length_map] at this
  refine ⟨fun i G H hi e g => ⟨g.ex _ _ (e _ _ h), by rw [List.length_map] at hi; omega⟩, fun G H e g => ⟨g.ex _ _ (e _ _ h), by rw [List.length_map]; omega⟩, fun i G H x H' hi e g y => ?_⟩
  obtain ⟨rfl, k, v, e1, rfl⟩ := y
  obtain ⟨z, e2⟩ := key_get hk e1
  exact ⟨G, keyD k, by rw [List.getElem?_map, e2]; rfl, g.stp, rp_keyV k⟩
theorem walkD_keysT {K : PySem.W.Frag} {b : Option Addr} {F : Hp} {d : Addr} {o : Obj} (h : F d = some (.frz o (.dT []))) : WalkD K b F (Itkt d o []) [] := by
  refine ⟨fun i G H hi e g => (nomatch hi), fun G H e g => ⟨g.ex _ _ (e _ _ h), Nat.le_refl _⟩, fun i G H x H' hi e g y => (nomatch hi)⟩
theorem walkD_items {K : PySem.W.Frag} {b : Option Addr} {F : Hp} {d : Addr} {o : Obj} {us : List (Key × V)} {fs : List (Key × PyData)} (h : F d = some (.frz o (.dK us))) (hk : us.map (·.1) = fs.map (·.1)) (r : RpAll b F (us.map (·.2)) (fs.map (·.2))) : WalkD K b F (Iti d o us) (fs.map fun p => .tuple [keyD p.1, p.2]) := by
  have hl : us.length = fs.length := by have := congrArg List.length hk; rwa [List.length_map, List.length_map] at this
  refine ⟨fun i G H hi e g => ⟨g.ex _ _ (e _ _ h), by rw [List.length_map] at hi; omega⟩, fun G H e g => ⟨g.ex _ _ (e _ _ h), by rw [List.length_map]; omega⟩, fun i G H x H' hi e g y => ?_⟩
  obtain ⟨T, k, v, e1, rfl, hT, rfl⟩ := y
  obtain ⟨z, e2⟩ := key_get hk e1
  obtain ⟨s, gT⟩ := g.new (.tup [kV k, v]) hT
  obtain ⟨z', e3, rz⟩ := r.get' (i := i) (v := v) (by rw [List.getElem?_map, e1]; rfl)
  rw [List.getElem?_map, e2] at e3
  cases e3
  exact ⟨_, _, by rw [List.getElem?_map, e2]; rfl, s, .tup (upd_same ..) (.cons (rp_keyV k) (.cons (rz.mono (e.trans s.ex)) .nil))⟩
theorem diTD_nil {fs : List (List Key × PyData)} (h : diTD fs = diTD []) : fs = [] := by
  cases fs with
  | nil => rfl
  | cons a r => simp [diTD] at h
theorem dwalk_keys {K : PySem.W.Frag} : DWalk K Jk keysS okK := ⟨fun b G v d ds h r => by
  rcases h with ⟨fs, rfl, rfl⟩ | ⟨rfl, rfl⟩
  · obtain ⟨a, us, rfl, ra, ks, rs⟩ := rp_dic r
    exact ⟨a, .dK us, rfl, rfl, trivial, ra, fun F o h _ => walkD_keys h ks⟩
  · generalize eD : diTD [] = D at r
    cases r with
    | diT h1 h2 h3 =>
      rename_i a us fs
      have e := diTD_nil eD.symm
      subst e
      have eu : us = [] := by
        cases us with
        | nil => rfl
        | cons _ _ => cases h2
      subst eu
      exact ⟨a, .dT [], rfl, rfl, rfl, h1, fun F o h _ => walkD_keysT h⟩
    | _ => cases eD⟩
theorem dwalk_items {K : PySem.W.Frag} : DWalk K Ji itemsS okI := ⟨fun b G v d ds h r => by
  obtain ⟨fs, rfl, rfl⟩ := h
  obtain ⟨a, us, rfl, ra, ks, rs⟩ := rp_dic r
  refine ⟨a, .dK us, rfl, rfl, trivial, ra, fun F o h t => walkD_items h ks ?_⟩
  have : ∀ {vs : List V} {ds : List PyData}, RpAll b G vs ds → RpAll b F vs ds := fun {vs ds} r => by
    induction vs generalizing ds with
    | nil => cases r; exact .nil
    | cons _ _ ih => cases r with
      | cons r1 r2 => exact .cons (t _ _ r1) (ih r2)
  exact this rs⟩
section
variable {X : Cx} {tg e : Expr} {td : TE} {apos cpos : Pos}
theorem PI.imp {tg e : Expr} {t u : TI} (h : PI X tg e t) (k : ∀ σ H R, u σ H R → t σ H R) : PI X tg e u := ⟨fun pins s σ H R I q => h.run pins s σ H R I (k σ H R q)⟩
theorem tOf_mono {K : PySem.W.Frag} {mg : Str → Option Value} {E : SX} {w : WE} {σ : L2.St} {H : Hp} {Q Q' : VK} (h : tOf K mg E w σ H Q) (k : ∀ v H', Q v H' → Q' v H') : tOf K mg E w σ H Q' := by
  obtain ⟨b, B, G, ρ, xp, P, p, hr, kk⟩ := h
  exact ⟨b, B, G, ρ, xp, P, p, hr, fun G' H' v t fp hp s tr fr => k _ _ (kk G' H' v t fp hp s tr fr)⟩
/-- the walk, locked where it is not -/
def cndL (J : Addr → Obj → HO → It) (ok : HO → Prop) (R : It → Hp → Prop) : VK := fun x H1 => ∃ d u, x = .ref d ∧ isDH u = true ∧ ok u ∧ ((∃ o, H1 d = some (.frz o u) ∧ R (J d o u) H1) ∨ (H1 d = some u ∧ ∀ o, R (J d o u) (upd H1 d (.frz o u))))
def iLd (J : Addr → Obj → HO → It) (ok : HO → Prop) (K : PySem.W.Frag) (mg : Str → Option Value) (E : SX) (w : WE) : TI := fun σ H R => tOf K mg E w σ H (cndL J ok R)
variable {E : SX} {w : WE}
theorem pi_Lk (he : PE X e (tOf X.K X.mg E w)) : PI X tg e (iLd Jk okK X.K X.mg E w) := by
  refine PI.imp (pi_keys (pe_lk he)) fun σ H R q => ?_
  refine tOf_mono q fun v H1 ⟨d, u, ev, hu, hk, q⟩ => ?_
  subst ev
  cases u with
  | dK us =>
    rcases q with ⟨o, h1, r⟩ | ⟨h1, r⟩
    · exact .inl ⟨d, o, rfl, .inl ⟨us, h1, r⟩⟩
    · exact .inr ⟨d, _, h1, trivial, fun od => ⟨d, od, rfl, .inl ⟨us, upd_same .., r od⟩⟩⟩
  | dT us =>
    rcases q with ⟨o, h1, r⟩ | ⟨h1, r⟩
    · exact .inl ⟨d, o, rfl, .inr ⟨us, h1, r⟩⟩
    · exact .inr ⟨d, _, h1, trivial, fun od => ⟨d, od, rfl, .inr ⟨us, upd_same .., r od⟩⟩⟩
  | _ => cases hu
theorem pi_Li {elts : List Expr} {kk : Nat} {tpos : Pos} (he : PE X e (tOf X.K X.mg E w)) (hbase : attributeBase e "items" X.env (eval e X.env) = eval e X.env := by rfl) (hline : (apos.endLine == cpos.line) = true := by rfl) :
    PI X (.Tuple elts kk tpos) (.Call (.Attribute e "items" apos) [] [] cpos) (iLd Ji okI X.K X.mg E w) := by
  refine PI.imp (pi_items (pe_lk he) hbase hline) fun σ H R q => ?_
  refine tOf_mono q fun v H1 ⟨d, u, ev, hu, hk, q⟩ => ?_
  subst ev
  cases u with
  | dK us =>
    rcases q with ⟨o, h1, r⟩ | ⟨h1, r⟩
    · exact .inl ⟨d, o, us, rfl, h1, r⟩
    · exact .inr ⟨d, _, h1, trivial, fun od => ⟨d, od, us, rfl, upd_same .., r od⟩⟩
  | dT us => exact hk.elim
  | _ => cases hu
end
/-! ### the body of a comprehension, where a walk stands -/
theorem dlc_body {K : PySem.W.Frag} {mg : Str → Option Value} {g : WG} {wt : WT} {we : WE} {vs : List Nat} {σ : L2.St} {ρ : Rho} {Q : VK} {b : Option Addr} {B G1 H1 : Hp} {J : It} {ds : List PyData} {Inv : Nat → List T → Prop} (hr1 : Here K b B G1 H1 σ ρ) (wk : WalkD K b G1 J ds) (hlim : ds.length < lim) (i0 : Inv 0 [])
    (it : ∀ i d acc, ds[i]? = some d → Inv i acc → g d (wipeR ρ vs) fun ρ2 => wt noX ρ2 fun k => (k = true → we noX ρ2 fun t => Inv (i + 1) (acc ++ [t])) ∧ (k = false → Inv (i + 1) acc))
    (kf : ∀ (G2 H2 : Hp) (D : Addr) (fp : List Addr) (acc : List T), Inv ds.length acc → Stp K b G1 H1 G2 H2 → Tr b G2 H2 fp (.ref D) (.node acc) → (∀ a, a ∈ fp → H1 a = none) → Q (.ref D) H2) :
    ∀ D, H1 D = none → ∃ W : Nat → Nat → Hp → Prop, (∃ m, W 0 m (upd H1 D (.lst []))) ∧ ∀ i m H, W i m H →
  (J.stop i H ∧ Q (.ref D) H) ∨ (J.go i H ∧ ∃ Nx : Hp → Prop, (∀ H', Nx H' → ∃ m', m' < m ∧ W (i + 1) m' H') ∧ ∀ x H', J.yld i H x H' → gOf K vs g x (wipe σ vs) H' fun σ2 H2 => wipe σ2 vs = wipe σ vs ∧ ttOf K mg noE wt σ2 H2 fun b H3 =>
    if b = true then tOf K mg noE we σ2 H3 fun y H4 => ∃ acc, H4 D = some (.lst acc) ∧ acc.length < sizeLine ∧ Nx (upd H4 D (.lst (acc ++ [y]))) else Nx H3) := by
  intro D hD
  have gD := hr1.good
  have nb : b ≠ some D := fun c => by
    obtain ⟨_, _, _, _, _, _, q, _⟩ := gD.box D c
    rw [hD] at q
    cases q
  have gDn : G1 D = none := by
    cases q : G1 D with
    | none => rfl
    | some u =>
      rw [gD.ex D u q] at hD
      cases hD
  refine ⟨fun i m H2 => m = ds.length - i ∧ i ≤ ds.length ∧ ∃ G2 acc vsl fp, Stp K b G1 H1 G2 H2 ∧ G2 D = none ∧ H2 D = some (.lst vsl) ∧ TrAll b G2 H2 fp vsl acc ∧ (∀ a, a ∈ fp → H1 a = none) ∧ D ∉ fp ∧ acc.length ≤ i ∧ Inv i acc,
    ⟨ds.length, by simp, Nat.zero_le _, G1, [], [], [], gD.own _ hD, gDn, upd_same, .nil, fun _ z => (nomatch z), fun z => (nomatch z), Nat.le_refl _, i0⟩, ?_⟩
  rintro i m H2 ⟨rfl, hi, G2, acc, vsl, fp, s2, g2D, h2D, tr, fr, nD, hla, inv⟩
  by_cases hlt : i < ds.length
  · refine .inr ⟨wk.goes i G2 H2 hlt s2.ex s2.good, fun H' => i + 1 ≤ ds.length ∧ ∃ G2 acc vsl fp, Stp K b G1 H1 G2 H' ∧ G2 D = none ∧ H' D = some (.lst vsl) ∧ TrAll b G2 H' fp vsl acc ∧ (∀ a, a ∈ fp → H1 a = none) ∧ D ∉ fp ∧ acc.length ≤ i + 1 ∧ Inv (i + 1) acc,
      fun H' h => ⟨ds.length - (i + 1), by omega, rfl, h⟩, fun v H3 y => ?_⟩
    obtain ⟨G3, d, ed, s3, rd⟩ := wk.yields i G2 H2 v H3 hlt s2.ex s2.good y
    have s13 := s2.trans gD s3
    have h3 : Here K b B G3 H3 (wipe σ vs) (wipeR ρ vs) := ⟨s3.good, env_wipe ((hr1.stp s13).env) vs, fun a e => hr1.sub a (s13.free gD e)⟩
    refine ⟨b, B, G3, wipeR ρ vs, d, _, it i d acc ed inv, h3, rd, fun σ' ρ' hR hr' bu => ⟨bu.wipe, ?_⟩⟩
    refine ⟨b, B, G3, ρ', noX, _, hR, ⟨hr', noXC⟩, fun G4 H4 c hc s4 => ?_⟩
    have carry : ∀ {G5 H5 : Hp}, Stp K b G3 H3 G5 H5 → G5 D = none ∧ H5 D = some (.lst vsl) ∧ TrAll b G5 H5 fp vsl acc ∧ Stp K b G1 H1 G5 H5 := fun {G5 H5} s5 => by
      have s25 := s3.trans s2.good s5
      refine ⟨s25.out D _ g2D h2D, s25.keep D _ nb h2D, tr.move s25.ex fun a z => ?_, s2.trans gD s25⟩
      obtain ⟨q1, q2, o, q3⟩ := tr.mem a z
      exact ⟨s25.out a o q1 q3, by rw [q3]; exact s25.keep a o q2 q3⟩
    cases c with
    | false =>
      obtain ⟨c1, c2, c3, c4⟩ := carry s4
      show i + 1 ≤ ds.length ∧ _
      exact ⟨hlt, G4, acc, vsl, fp, c4, c1, c2, c3, fr, nD, Nat.le_succ_of_le hla, hc.2 rfl⟩
    | true =>
      show tOf K mg noE we σ' H4 _
      refine ⟨b, B, G4, ρ', noX, _, hc.1 rfl, ⟨hr'.stp s4, noXC⟩, fun G5 H5 y t fq ht s5 tr5 fr5 => ?_⟩
      have s35 := s4.trans s3.good s5
      obtain ⟨c1, c2, c3, c4⟩ := carry s35
      have lv : vsl.length = acc.length := tr.len
      refine ⟨vsl, c2, by rw [lv]; exact lim_lt (by omega), hlt, ?_⟩
      have fqH1 : ∀ a, a ∈ fq → H1 a = none := fun a z => (s13.trans gD s4).free gD (fr5 a z)
      have nDq : D ∉ fq := fun z => by
        have e4 := (carry s4).2.1
        rw [fr5 D z] at e4
        cases e4
      have dj : ∀ a, a ∈ fp → a ∉ fq := fun a z y => by
        obtain ⟨_, _, o, q⟩ := ((carry s4).2.2.1).mem a z
        rw [fr5 a y] at q
        cases q
      obtain ⟨fr', tr', sub'⟩ := TrAll.snoc c3 tr5 dj
      have nDr : D ∉ fr' := fun z => (sub' D z).elim nD nDq
      refine ⟨G5, acc ++ [t], vsl ++ [y], fr', ⟨c4.ex, ⟨fun a u e => ?_, fun a c => ?_⟩, fun a u n e => ?_, c4.out, fun a c => (boxc_eq (upd_ne fun q => nb (by rw [← q]; exact c))).trans (c4.cel a c)⟩, c1, upd_same, tr'.move (Ex.rfl' _) fun a z => ⟨(tr'.mem a z).1, upd_ne fun q => nDr (by rw [← q]; exact z)⟩, fun a z => (sub' a z).elim (fr a) (fqH1 a), nDr, by rw [List.length_append, List.length_singleton]; omega, ht⟩
      · have na : a ≠ D := fun q => by
          rw [q, c1] at e
          cases e
        rw [upd_ne na]
        exact s5.good.ex a u e
      · obtain ⟨n, cc, cells, pos, rest, seed, q1, q2, q3⟩ := s5.good.box a c
        have na : a ≠ D := fun q => nb (by rw [← q]; exact c)
        exact ⟨n, cc, cells, pos, rest, seed, by rw [upd_ne na]; exact q1, q2, q3⟩
      · have na : a ≠ D := fun q => by
          rw [q, hD] at e
          cases e
        rw [upd_ne na]
        exact c4.keep a u n e
  · have e : i = ds.length := by omega
    subst e
    refine .inl ⟨wk.stops G2 H2 s2.ex s2.good, ?_⟩
    refine kf G2 H2 D (D :: fp) acc inv s2 (.node h2D g2D nb tr nD) fun a z => ?_
    rcases List.mem_cons.mp z with z | z
    · rw [z]
      exact hD
    · exact fr a z
/-- locked here, open again behind -/
theorem un_stp {K : PySem.W.Frag} {b : Option Addr} {G1 H1 G2 H2 : Hp} {a : Addr} {ob : Obj} {u : HO} (hu : isDH u = true) (g1 : Good K b G1 H1) (eG : G1 a = some u) (s : Stp K b (ph a (gLk ob u) G1) (ph a (gLk ob u) H1) G2 H2) : Stp K b G1 H1 (ph a (gUn ob u) G2) (ph a (gUn ob u) H2) ∧ G2 a = some (.frz ob u) ∧ H2 a = some (.frz ob u) := by
  have eH := g1.ex _ _ eG
  have e1 := un_lk (ob := ob) (u := u) (X := G1) (d := a) fun o h => by rw [eG] at h; cases h; rfl
  have e2 := un_lk (ob := ob) (u := u) (X := H1) (d := a) fun o h => by rw [eH] at h; cases h; rfl
  have s' := s.ph (gm_un (ob := ob) hu) (g1.ph (gm_lk hu)) (d := a)
  rw [e1, e2] at s'
  have eL : ph a (gLk ob u) G1 a = some (.frz ob u) := by
    rw [ph_at, eG]
    show some (gLk ob u u) = _
    unfold gLk
    rw [if_pos rfl]
  exact ⟨s', s.ex _ _ eL, s.good.ex _ _ (s.ex _ _ eL)⟩
theorem lk_upd {d : Addr} {ob : Obj} {u : HO} {X : Hp} (h : X d = some u) : ph d (gLk ob u) X = upd X d (.frz ob u) := ph_upd h (by unfold gLk; rw [if_pos rfl])
theorem un_upd {d : Addr} {ob : Obj} {u : HO} {X : Hp} (h : X d = some (.frz ob u)) : ph d (gUn ob u) X = upd X d u := ph_upd h (by unfold gUn; rw [if_pos rfl])
theorem dlcL_core {K : PySem.W.Frag} {mg : Str → Option Value} {E : SX} {J : Addr → Obj → HO → It} {Sem : PyData → List PyData → Prop} {ok : HO → Prop} (dw : DWalk K J Sem ok) {w : WE} {g : WG} {wt : WT} {we : WE} {vs : List Nat} {σ : L2.St} {H : Hp} {Q : VK} (q : tOf K mg E (dLc (iSem Sem w) g wt we vs) σ H Q) :
    tUn (tLc (iLd J ok K mg E w) (gOf K vs g) (ttOf K mg noE wt) (tOf K mg noE we) vs) σ H Q := by
  obtain ⟨b, B, G, ρ, xp, P, p, hr, k⟩ := q
  refine tOfD_of ⟨b, B, G, ρ, xp, fun d => ∃ ds, Sem d ds ∧ (ds.length < lim ∧ ∃ Inv : Nat → List T → Prop, Inv 0 [] ∧
    (∀ i d acc, ds[i]? = some d → Inv i acc → g d (wipeR ρ vs) fun ρ2 => wt noX ρ2 fun k => (k = true → we noX ρ2 fun t => Inv (i + 1) (acc ++ [t])) ∧ (k = false → Inv (i + 1) acc)) ∧ ∀ acc, Inv ds.length acc → P (.node acc)), p, hr, fun G1 H1 v d hd s1 hr1 rd => ?_⟩
  obtain ⟨ds, hsem, hlim, Inv, i0, it, ie⟩ := hd
  obtain ⟨a, u, rfl, hu, hok, ra, wk⟩ := dw.rp b G1 v d ds hsem rd
  refine ⟨a, u, rfl, hu, hok, ?_⟩
  rcases ra with eG | ⟨o, eG⟩
  · refine .inr ⟨hr1.good.ex _ _ eG, fun o => ?_⟩
    have eH := hr1.good.ex _ _ eG
    have hG : ph a (gLk o u) G1 = upd G1 a (.frz o u) := lk_upd eG
    have hH : ph a (gLk o u) H1 = upd H1 a (.frz o u) := lk_upd eH
    have m := gm_lk (ob := o) hu
    rw [← hH]
    have hr1' : Here K b (ph a (gLk o u) B) (ph a (gLk o u) G1) (ph a (gLk o u) H1) σ ρ := ⟨hr1.good.ph m, hr1.env.ph m (by rw [eG]; exact fun z => nomatch z), fun c e => ph_none.mpr (hr1.sub c (ph_none.mp e))⟩
    refine dlc_body (mg := mg) (Q := fun v H' => unl H H' (Q v)) hr1' (wk _ o (by rw [hG]; exact upd_same ..) fun x y r => r.ph m) hlim i0 it fun G2 H2 D fp acc inv s2 tr fr => ?_
    obtain ⟨s2', eG2, eH2⟩ := un_stp hu hr1.good eG s2
    refine .inr ⟨a, o, u, fun o' u' z => ?_, eH2, ?_⟩
    · have nb : b ≠ some a := fun c => by
        obtain ⟨_, _, _, _, _, _, q, _⟩ := hr1.good.box a c
        rw [eH] at q
        cases q
        cases hu
      have := s1.keep a _ nb z
      rw [eH] at this
      cases this
      cases hu
    · rw [← un_upd eH2]
      exact k _ _ (.ref D) (.node acc) fp (ie acc inv) (s1.trans hr.good s2') (tr.ph (gm_un hu) (by rw [eG2]; exact fun z => nomatch z)) fun c hc => s1.free hr.good (ph_none.mp (fr c hc))
  · refine .inl ⟨o, hr1.good.ex _ _ eG, ?_⟩
    exact dlc_body (mg := mg) (Q := fun v H' => unl H H' (Q v)) hr1.toHere (wk _ o eG fun x y r => r) hlim i0 it fun G2 H2 D fp acc inv s2 tr fr => .inl (k _ _ (.ref D) (.node acc) fp (ie acc inv) (s1.trans hr.good s2) tr fun c hc => s1.free hr.good (fr c hc))
section
variable {X : Cx} {E : SX}
theorem d_lcK {elt tg iter : Expr} {ifs : List Expr} {scope : Scope} {own : List (Str × Nat)} {pos : Pos} {w : WE} {g : WG} {wt : WT} {we : WE} (hc : X.calm = true) (hN : X.N.Nodup) (hi : PE X iter (tOf X.K X.mg E w)) (ok : BlkOk X.N X.env.scope scope own)
    (hg : ∀ (s : Shared) (H : Hp) (C : Addr) (cl : List (Str × Addr)) (fp : List Addr), PG (X.blk s H scope (compEnvC scope cl C X.env) fp) tg (gOf X.K (own.map (·.2)) g)) (ht : ∀ (s : Shared) (H : Hp) (C : Addr) (cl : List (Str × Addr)) (fp : List Addr), PTs (X.blk s H scope (compEnvC scope cl C X.env) fp) ifs (ttOf X.K X.mg noE wt))
    (he : ∀ (s : Shared) (H : Hp) (C : Addr) (cl : List (Str × Addr)) (fp : List Addr), PE (X.blk s H scope (compEnvC scope cl C X.env) fp) elt (tOf X.K X.mg noE we)) (hs : ∀ x, foldedSetIterable iter X.env x = pure x := by intro _; rfl) :
    PE X (.ListComp elt [⟨tg, iter, ifs, 0⟩] scope pos) (tOf X.K X.mg E (dLc (iSem keysS w) g wt we (own.map (·.2)))) := PE.of (pe_un (pe_lc hc hN (pi_Lk hi) ok hg ht he hs)) fun σ H Q q => dlcL_core dwalk_keys q
end
/-! ### loops over settled dicts; no return, break or raise within -/
def dForK (wi : WI) (wg : WG) (wb : WS) : WS := fun C ρ => wi (C.xc ρ) ρ fun ds => ∃ Inv : Nat → Rho → Prop, Inv 0 ρ ∧
  (∀ i d ρ', ds[i]? = some d → Inv i ρ' → wg d ρ' fun ρ2 => wb { nx := Inv (i + 1), rt := fun _ => False, ct := Inv (i + 1) } ρ2) ∧ ∀ ρ', Inv ds.length ρ' → C.nx ρ'
section
variable {X : Cx} {E : SX} {J : Addr → Obj → HO → It} {Sem : PyData → List PyData → Prop} {ok : HO → Prop}
theorem s_forL {iter tg : Expr} {body : List Stmt} {ts : List Nat} {w : WE} {wg : WG} {wb : WS} {pos : Pos} (dw : DWalk X.K J Sem ok) (hp : PassesOwn (model X.prog X.w) X.A X.env X.xe) (hc : X.calm = true) (hi : PI X tg iter (iLd J ok X.K X.mg E w)) (hg : PG X tg (gOf X.K ts wg)) (hb : PSs X body (sOf X.K X.mg E wb))
    (hs : ∀ x, foldedSetIterable iter X.env x = pure x := by intro _; rfl) : PS X (.For tg iter body [] pos) (sOf X.K X.mg E (dForK (iSem Sem w) wg wb)) := PS.of (ps_un (ps_for hp hc hi hg hb hs)) fun D σ H ⟨b, F, G0, H0, ρ, C, q, g0, a, eo⟩ => by
  obtain ⟨G, e1, s, hr⟩ := a.site g0 eo
  refine tOfD_of ⟨b, H0, G, ρ, C.xc ρ, fun d => ∃ ds, Sem d ds ∧ ∃ Inv : Nat → Rho → Prop, Inv 0 ρ ∧ (∀ i d ρ', ds[i]? = some d → Inv i ρ' → wg d ρ' fun ρ2 => wb { nx := Inv (i + 1), rt := fun _ => False, ct := Inv (i + 1) } ρ2) ∧ ∀ ρ', Inv ds.length ρ' → C.nx ρ', q, hr, fun G1 H1 v d hd s1 hr1 rd => ?_⟩
  obtain ⟨ds, hsem, Inv, i0, it, ie⟩ := hd
  obtain ⟨p, u, rfl, hu, hok, ra, wk⟩ := dw.rp b G1 v d ds hsem rd
  refine ⟨p, u, rfl, hu, hok, ?_⟩
  have s01 := s.trans g0 s1
  rcases ra with eG | ⟨o, eG⟩
  · refine .inr ⟨hr1.good.ex _ _ eG, fun o => ?_⟩
    have eH := hr1.good.ex _ _ eG
    have nb : b ≠ some p := fun c => by
      obtain ⟨_, _, _, _, _, _, q, _⟩ := hr1.good.box p c
      rw [eH] at q
      cases q
      cases hu
    have hG : ph p (gLk o u) G1 = upd G1 p (.frz o u) := lk_upd eG
    have hH : ph p (gLk o u) H1 = upd H1 p (.frz o u) := lk_upd eH
    have m := gm_lk (ob := o) hu
    have mu := gm_un (ob := o) hu
    have u0 : ph p (gUn o u) (ph p (gLk o u) G0) = G0 := un_lk fun o' h => by
      have := s01.ex _ _ h
      rw [eG] at this
      cases this
      rfl
    have uh : ph p (gUn o u) (ph p (gLk o u) H0) = H0 := un_lk fun o' h => by
      have := s01.keep _ _ nb h
      rw [eH] at this
      cases this
      rfl
    have u1 : ph p (gUn o u) (ph p (gLk o u) G1) = G1 := un_lk fun o' h => by
      rw [eG] at h
      cases h
      rfl
    have g0' := g0.ph m (d := p)
    rw [← hH]
    have wk' := wk (ph p (gLk o u) G1) o (by rw [hG]; exact upd_same ..) fun x y r => r.ph m
    refine ⟨fun i n σ' H' => n = ds.length - i ∧ i ≤ ds.length ∧ ∃ ρ', Inv i ρ' ∧ At X.K b (ph p (gLk o u) G1) (ph p (gLk o u) G0) (ph p (gLk o u) H0) ρ' σ' H', ⟨ds.length, by simp, Nat.zero_le _, ρ, i0, _, Ex.rfl' _, s01.ph m g0, hr1.env.ph m (by rw [eG]; exact fun z => nomatch z)⟩, ?_⟩
    rintro i n σ' H' ⟨rfl, hi, ρ', inv, at1⟩
    obtain ⟨G2, e2, s2, E2⟩ := id at1
    by_cases hlt : i < ds.length
    · refine .inr ⟨wk'.goes i G2 H' hlt e2 s2.good, fun σ2 H2 => i + 1 ≤ ds.length ∧ ∃ ρ2, Inv (i + 1) ρ2 ∧ At X.K b (ph p (gLk o u) G1) (ph p (gLk o u) G0) (ph p (gLk o u) H0) ρ2 σ2 H2, fun σ2 H2 h => ⟨ds.length - (i + 1), by omega, rfl, h⟩, fun x H3 y => ?_⟩
      obtain ⟨G3, d, ed, s3, rd3⟩ := wk'.yields i G2 H' x H3 hlt e2 s2.good y
      have s23 := s2.trans g0' s3
      refine ⟨b, _, G3, ρ', d, _, it i d ρ' ed inv, ⟨s3.good, E2.stp s3, fun a e => s23.free g0' e⟩, rd3, fun σ4 ρ4 h4 hr4 _ => ?_⟩
      exact ⟨b, _, _, _, ρ4, _, h4, g0', ⟨G3, e2.trans s3.ex, s23, hr4.env⟩, ⟨fun ρ5 σ5 H5 q5 a5 => ⟨hlt, ρ5, q5, a5⟩, fun ρ5 σ5 H5 q5 a5 => q5.elim, fun ρ5 σ5 H5 q5 a5 => ⟨hlt, ρ5, q5, a5⟩, fun t v fp G5 H5 q5 => q5.elim, fun ρ5 σ5 n pl c d G5 H5 q5 => q5.elim⟩⟩
    · have e : i = ds.length := by omega
      subst e
      refine .inl ⟨wk'.stops G2 H' e2 s2.good, ?_⟩
      have eL : ph p (gLk o u) G1 p = some (.frz o u) := by rw [hG]; exact upd_same ..
      have eG2 := e2 _ _ eL
      have eH2 := s2.good.ex _ _ eG2
      refine .inr ⟨p, o, u, fun o' u' z => ?_, eH2, ?_⟩
      · have := s1.keep p _ nb z
        rw [eH] at this
        cases this
        cases hu
      · rw [← un_upd eH2]
        have e2' := Ex.ph e2 (d := p) (g := gUn o u)
        rw [u1] at e2'
        have s2' := s2.ph mu g0' (d := p)
        rw [u0, uh] at s2'
        have E2' := E2.ph mu (d := p) (by rw [eG2]; exact fun z => nomatch z)
        rw [uh] at E2'
        exact eo.nx _ _ _ (ie ρ' inv) ⟨_, e1.trans (s1.ex.trans e2'), s2', E2'⟩
  · refine .inl ⟨o, hr1.good.ex _ _ eG, ?_⟩
    have wk' := wk G1 o eG fun x y r => r
    refine ⟨fun i n σ' H' => n = ds.length - i ∧ i ≤ ds.length ∧ ∃ ρ', Inv i ρ' ∧ At X.K b G1 G0 H0 ρ' σ' H', ⟨ds.length, by simp, Nat.zero_le _, ρ, i0, _, Ex.rfl' _, s01, hr1.env⟩, ?_⟩
    rintro i n σ' H' ⟨rfl, hi, ρ', inv, at1⟩
    obtain ⟨G2, e2, s2, E2⟩ := id at1
    by_cases hlt : i < ds.length
    · refine .inr ⟨wk'.goes i G2 H' hlt e2 s2.good, fun σ2 H2 => i + 1 ≤ ds.length ∧ ∃ ρ2, Inv (i + 1) ρ2 ∧ At X.K b G1 G0 H0 ρ2 σ2 H2, fun σ2 H2 h => ⟨ds.length - (i + 1), by omega, rfl, h⟩, fun x H3 y => ?_⟩
      obtain ⟨G3, d, ed, s3, rd3⟩ := wk'.yields i G2 H' x H3 hlt e2 s2.good y
      have s23 := s2.trans g0 s3
      refine ⟨b, _, G3, ρ', d, _, it i d ρ' ed inv, ⟨s3.good, E2.stp s3, fun a e => s23.free g0 e⟩, rd3, fun σ4 ρ4 h4 hr4 _ => ?_⟩
      exact ⟨b, _, _, _, ρ4, _, h4, g0, ⟨G3, e2.trans s3.ex, s23, hr4.env⟩, ⟨fun ρ5 σ5 H5 q5 a5 => ⟨hlt, ρ5, q5, a5⟩, fun ρ5 σ5 H5 q5 a5 => q5.elim, fun ρ5 σ5 H5 q5 a5 => ⟨hlt, ρ5, q5, a5⟩, fun t v fp G5 H5 q5 => q5.elim, fun ρ5 σ5 n pl c d G5 H5 q5 => q5.elim⟩⟩
    · have e : i = ds.length := by omega
      subst e
      exact .inl ⟨wk'.stops G2 H' e2 s2.good, .inl (eo.nx _ _ _ (ie ρ' inv) ⟨_, e1.trans (s1.ex.trans e2), s2, E2⟩)⟩
variable {tg e : Expr} {body : List Stmt} {ts : List Nat} {w : WE} {wg : WG} {wb : WS} {pos apos cpos : Pos}
theorem s_forI {elts : List Expr} {kk : Nat} {tpos : Pos} (hp : PassesOwn (model X.prog X.w) X.A X.env X.xe) (hc : X.calm = true) (hi : PE X e (tOf X.K X.mg E w)) (hg : PG X (.Tuple elts kk tpos) (gOf X.K ts wg)) (hb : PSs X body (sOf X.K X.mg E wb))
    (hbase : attributeBase e "items" X.env (eval e X.env) = eval e X.env := by rfl) (hline : (apos.endLine == cpos.line) = true := by rfl)
    (hs : ∀ x, foldedSetIterable (.Call (.Attribute e "items" apos) [] [] cpos) X.env x = pure x := by intro _; rfl) : PS X (.For (.Tuple elts kk tpos) (.Call (.Attribute e "items" apos) [] [] cpos) body [] pos) (sOf X.K X.mg E (dForK (iSem itemsS w) wg wb)) := s_forL dwalk_items hp hc (pi_Li hi hbase hline) hg hb hs
end
end Dd
/-! All that stands settled for a while: what is told of it outlives it where it is made of numbers, texts and tuples; exceptions come out. -/
namespace Dd
open PySem L2
/-! ### what own trees are made of: no tuples, no exceptions -/
def isTX : HO → Bool
  | .tup _ => true
  | .xd _ => true
  | _ => false
mutual
theorem Tr.noTX {b : Option Addr} {G H : Hp} : ∀ {fp : List Addr} {v : V} {t : T}, Tr b G H fp v t → ∀ a, a ∈ fp → ∀ o, H a = some o → isTX o = false
  | _, _, _, .leaf _, a, m, o, e => nomatch m
  | _, _, _, .node hp gp bp r n, a, m, o, e => by
    rcases List.mem_cons.mp m with z | z
    · rw [z, hp] at e
      cases e
      rfl
    · exact TrAll.noTX r a z o e
  | _, _, _, .own h, a, m, o, e => Tr.noTX h a m o e
  | _, _, _, .ins hp hx gp gx bp bx ks r n n2 ne, a, m, o, e => by
    rcases List.mem_cons.mp m with z | z
    · rw [z, hp] at e
      cases e
      rfl
    · rcases List.mem_cons.mp z with z | z
      · rw [z, hx] at e
        cases e
        rfl
      · exact TrAll.noTX r a z o e
  | _, _, _, .dic hp gp bp ks r n, a, m, o, e => by
    rcases List.mem_cons.mp m with z | z
    · rw [z, hp] at e
      cases e
      rfl
    · exact TrAll.noTX r a z o e
  | _, _, _, .diT hp gp bp ks r n, a, m, o, e => by
    rcases List.mem_cons.mp m with z | z
    · rw [z, hp] at e
      cases e
      rfl
    · exact TrAll.noTX r a z o e
  | _, _, _, .sto h0 h1 h2 h3 h4, a, m, o, e => by
    obtain ⟨p, t, ep, hp⟩ := h4 a m
    exact Tr.noTX (h1 p t ep) a hp o e
  | _, _, _, .fro h, a, m, o, e => nomatch m
  | _, _, _, .eff s r dj, a, m, o, e => by
    rcases List.mem_append.mp m with z | z
    · exact Tr.noTX s a z o e
    · exact Tr.noTX r a z o e
theorem TrAll.noTX {b : Option Addr} {G H : Hp} : ∀ {fp : List Addr} {vs : List V} {ts : List T}, TrAll b G H fp vs ts → ∀ a, a ∈ fp → ∀ o, H a = some o → isTX o = false
  | _, _, _, .nil, a, m, o, e => nomatch m
  | _, _, _, .cons q r dj, a, m, o, e => by
    rcases List.mem_append.mp m with z | z
    · exact Tr.noTX q a z o e
    · exact TrAll.noTX r a z o e
end
/-- footprints of slots that hold no tree are nothing -/
theorem Env.trim {b : Option Addr} {B G H : Hp} {σ : L2.St} {ρ : Rho} (E : Env b B G H σ ρ) : ∃ fps : Nat → List Addr, (∀ (i : Nat) t, ρ[i]? = some (some t) → ∃ v, σ[i]? = some (some v) ∧ Tr b G H (fps i) v t) ∧
    (∀ i a, a ∈ fps i → B a = none ∧ G a = none ∧ b ≠ some a ∧ ∃ o, H a = some o) ∧ (∀ i j a, i ≠ j → a ∈ fps i → a ∉ fps j) ∧ ∀ i a, a ∈ fps i → ∀ o, H a = some o → isTX o = false := by
  obtain ⟨hl, fps, h1, h2, h3⟩ := E
  have key : ∀ i a, a ∈ (match ρ[i]? with | some (some _) => fps i | _ => []) → a ∈ fps i ∧ ∃ t, ρ[i]? = some (some t) := fun i a m => by
    cases e : ρ[i]? with
    | none =>
      rw [e] at m
      exact nomatch m
    | some u =>
      cases u with
      | none =>
        rw [e] at m
        exact nomatch m
      | some t =>
        rw [e] at m
        exact ⟨m, t, rfl⟩
  refine ⟨fun i => match ρ[i]? with | some (some _) => fps i | _ => [], fun i t e => ?_, fun i a m => h2 i a (key i a m).1, fun i j a n m z => h3 i j a n (key i a m).1 (key j a z).1, fun i a m o eo => ?_⟩
  · obtain ⟨v, ev, tr⟩ := h1 i t e
    refine ⟨v, ev, ?_⟩
    simp only [e]
    exact tr
  · obtain ⟨mf, t, et⟩ := key i a m
    obtain ⟨v, ev, tr⟩ := h1 i t et
    exact tr.noTX a mf o eo
theorem Here.borrow2 {K : PySem.W.Frag} {b : Option Addr} {B G H : Hp} {σ : L2.St} {ρ : Rho} (h : Here K b B G H σ ρ) : ∃ G1, Ex G G1 ∧ Here K b B G1 H σ (frzR ρ) ∧ ∀ a o, G1 a = some o → isTX o = true → G a = some o := by
  obtain ⟨fps, h1, h2, h3, h4⟩ := h.env.trim
  have hl := h.env.len
  have ex : Ex G (addA G H fps) := fun a o e => by
    by_cases c : ∃ i, a ∈ fps i
    · obtain ⟨i, m⟩ := c
      rw [(h2 i a m).2.1] at e
      cases e
    · rw [addA_out c]
      exact e
  refine ⟨addA G H fps, ex, ⟨⟨fun a o e => ?_, fun a c => ?_⟩, ⟨by unfold frzR; rw [List.length_map]; exact hl, fun _ => [], fun i t e => ?_, (fun i a m => by cases m), fun i j a n m => by cases m⟩, h.sub⟩, fun a o e t => ?_⟩
  · by_cases c : ∃ i, a ∈ fps i
    · rw [addA_in c] at e
      exact e
    · rw [addA_out c] at e
      exact h.good.ex a o e
  · obtain ⟨n, cc, cells, pos, rest, seed, q1, q2, q3⟩ := h.good.box a c
    have na : ¬ ∃ i, a ∈ fps i := fun ⟨i, m⟩ => (h2 i a m).2.2.1 c
    exact ⟨by rw [addA_out na]; exact n, cc, cells, pos, rest, seed, q1, ex _ _ q2, q3⟩
  · unfold frzR at e
    rw [List.getElem?_map] at e
    cases q : ρ[i]? with
    | none =>
      rw [q] at e
      cases e
    | some u =>
      rw [q] at e
      cases u with
      | none => cases e
      | some u =>
        cases e
        obtain ⟨v, ev, tr⟩ := h1 i u q
        exact ⟨v, ev, frz_tr ex tr fun a m => addA_in ⟨i, m⟩⟩
  · by_cases c : ∃ i, a ∈ fps i
    · obtain ⟨i, m⟩ := id c
      rw [addA_in c] at e
      rw [h4 i a m o e] at t
      cases t
    · rw [addA_out c] at e
      exact e
/-! ### back, with what is new -/
/-- what is settled in G2, but for what was settled for a while -/
def offB (G G1 G2 : Hp) : Hp := fun a => match G1 a, G a with
  | some _, none => none
  | _, _ => G2 a
section
variable {K : PySem.W.Frag} {b : Option Addr} {G G1 G2 H H2 : Hp}
theorem offB_sub {a : Addr} {o : HO} (h : offB G G1 G2 a = some o) : G2 a = some o := by
  unfold offB at h
  split at h
  · cases h
  · exact h
theorem offB_ex (ex : Ex G G1) (s : Ex G1 G2) : Ex G (offB G G1 G2) := fun a o e => by
  unfold offB
  split
  · rename_i q
    rw [e] at q
    cases q
  · exact s a o (ex a o e)
theorem offB_tx (s : Ex G1 G2) (tx : ∀ a o, G1 a = some o → isTX o = true → G a = some o) {a : Addr} {o : HO} (h : G2 a = some o) (t : isTX o = true) : offB G G1 G2 a = some o := by
  unfold offB
  split
  · rename_i o1 q1 q2
    have := s a o1 q1
    rw [h] at this
    cases this
    rw [tx a o q1 t] at q2
    cases q2
  · exact h
theorem Stp.back2 (g : Good K b G H) (ex : Ex G G1) (s : Stp K b G1 H G2 H2) : Stp K b G H (offB G G1 G2) H2 := by
  have s0 := Stp.back g ex s
  refine ⟨offB_ex ex s.ex, ⟨fun a o e => s.good.ex a o (offB_sub e), fun a c => ?_⟩, s.keep, fun a o n e => ?_, s.cel⟩
  · obtain ⟨n, cc, cells, pos, rest, seed, q1, q2, q3⟩ := s0.good.box a c
    refine ⟨?_, cc, cells, pos, rest, seed, q1, offB_ex ex s.ex _ _ q2, q3⟩
    obtain ⟨n2, _⟩ := s.good.box a c
    cases q : offB G G1 G2 a with
    | none => rfl
    | some o =>
      rw [offB_sub q] at n2
      cases n2
  · unfold offB
    split
    · rfl
    · rename_i q
      refine s.out a o ?_ e
      cases c : G1 a with
      | none => rfl
      | some o1 => exact absurd n (q o1 c)
theorem offB_none {a : Addr} (h : G2 a = none) : offB G G1 G2 a = none := by
  cases q : offB G G1 G2 a with
  | none => rfl
  | some o =>
    rw [offB_sub q] at h
    cases h
mutual
def fl2 : PyData → Bool
  | .none | .bool _ | .int _ | .str _ => true
  | .tuple ds => fl2s ds
  | .dict [(.bool false, .int _)] => true
  | _ => false
def fl2s : List PyData → Bool
  | [] => true
  | d :: ds => fl2 d && fl2s ds
end
mutual
theorem Rp.off (s : Ex G1 G2) (tx : ∀ a o, G1 a = some o → isTX o = true → G a = some o) : ∀ {v : V} {d : PyData}, Rp b G2 v d → fl2 d = true → Rp b (offB G G1 G2) v d
  | _, _, .non, _ => .non
  | _, _, .bl k, _ => .bl k
  | _, _, .int i, _ => .int i
  | _, _, .str x, _ => .str x
  | _, _, .lst h r, f => nomatch f
  | _, _, .tup h r, f => .tup (offB_tx s tx h rfl) (RpAll.off s tx r f)
  | _, _, .box h, f => nomatch f
  | _, _, .exc h, f => nomatch f
  | _, _, .obj a, _ => .obj a
  | _, _, .ins (fs := fs) h h2 k r, f => by
    cases fs <;> cases f
  | _, _, .dic (fs := fs) h k r, f => by
    cases fs <;> cases f
  | _, _, .diT (fs := fs) h k r, f => by
    cases fs <;> cases f
theorem RpAll.off (s : Ex G1 G2) (tx : ∀ a o, G1 a = some o → isTX o = true → G a = some o) : ∀ {vs : List V} {ds : List PyData}, RpAll b G2 vs ds → fl2s ds = true → RpAll b (offB G G1 G2) vs ds
  | _, _, .nil, _ => .nil
  | _, _, .cons h r, f => by
    rw [fl2s, Bool.and_eq_true] at f
    exact .cons (Rp.off s tx h f.1) (RpAll.off s tx r f.2)
end
mutual
def tl2 : T → Bool
  | .leaf d => fl2 d
  | .node ts => tl2s ts
  | .dic _ ts => tl2s ts
  | .diT _ ts => tl2s ts
  | .ins _ _ ts => tl2s ts
  | .own _ _ | .sto _ | .fro _ | .eff _ _ => false
def tl2s : List T → Bool
  | [] => true
  | t :: ts => tl2 t && tl2s ts
end
mutual
theorem Tr.off (s : Ex G1 G2) (tx : ∀ a o, G1 a = some o → isTX o = true → G a = some o) : ∀ {fp : List Addr} {v : V} {t : T}, Tr b G2 H2 fp v t → tl2 t = true → Tr b (offB G G1 G2) H2 fp v t
  | _, _, _, .leaf r, f => .leaf (r.off s tx f)
  | _, _, _, .node hp gp bp r n, f => .node hp (offB_none gp) bp (TrAll.off s tx r f) n
  | _, _, _, .dic hp gp bp hk r n, f => .dic hp (offB_none gp) bp hk (TrAll.off s tx r f) n
  | _, _, _, .diT hp gp bp hk r n, f => .diT hp (offB_none gp) bp hk (TrAll.off s tx r f) n
  | _, _, _, .ins hp hx gp gx bp bx hk r n nx ne, f => .ins hp hx (offB_none gp) (offB_none gx) bp bx hk (TrAll.off s tx r f) n nx ne
  | _, _, _, .own _, f => nomatch f
  | _, _, _, .sto _ _ _ _ _, f => nomatch f
  | _, _, _, .fro _, f => nomatch f
  | _, _, _, .eff _ _ _, f => nomatch f
theorem TrAll.off (s : Ex G1 G2) (tx : ∀ a o, G1 a = some o → isTX o = true → G a = some o) : ∀ {fp : List Addr} {vs : List V} {ts : List T}, TrAll b G2 H2 fp vs ts → tl2s ts = true → TrAll b (offB G G1 G2) H2 fp vs ts
  | _, _, _, .nil, _ => .nil
  | _, _, _, .cons q r d, f => by
    rw [tl2s, Bool.and_eq_true] at f
    exact .cons (Tr.off s tx q f.1) (TrAll.off s tx r f.2) d
end
end
/-- all that stands settles for a while -/
def dBor2 (w : WE) : WE := fun x ρ P => w x (frzR ρ) fun t => tl2 t = true ∧ P t
def dBorT2 (w : WT) : WT := fun x ρ P => w x (frzR ρ) P
section
variable {X : Cx} {E : SX} {e : Expr} {w : WE} {wt : WT}
theorem XC.off {K : PySem.W.Frag} {mg : Str → Option Value} {E : XK} {b : Option Addr} {G G1 H : Hp} {xp : XP} (g : Good K b G H) (ex : Ex G G1) (tx : ∀ a o, G1 a = some o → isTX o = true → G a = some o) (h : XC K mg E b G H xp) : XC K mg E b G1 H xp := fun n pl C d G' H' hx hm hd s => h n pl C d (offB G G1 G') H' hx hm (offB_tx s.ex tx hd rfl) (Stp.back2 g ex s)
theorem d_bor2 (h : PE X e (tOf X.K X.mg E w)) : PE X e (tOf X.K X.mg E (dBor2 w)) := PE.of h fun σ H Q ⟨b, B, G, ρ, xp, P, p, hr, k⟩ => by
  obtain ⟨G1, ex, h1, tx⟩ := hr.toHere.borrow2
  exact ⟨b, B, G1, frzR ρ, xp, _, p, ⟨h1, hr.xc.off hr.good ex tx⟩, fun G' H' v t fp hp s tr fr => k _ H' v t fp hp.2 (Stp.back2 hr.good ex s) (tr.off s.ex tx hp.1) fr⟩
theorem t_bor2 (h : PT X e (ttOf X.K X.mg E wt)) : PT X e (ttOf X.K X.mg E (dBorT2 wt)) := PT.of h fun σ H Q ⟨b, B, G, ρ, xp, P, p, hr, k⟩ => by
  obtain ⟨G1, ex, h1, tx⟩ := hr.toHere.borrow2
  exact ⟨b, B, G1, frzR ρ, xp, _, p, ⟨h1, hr.xc.off hr.good ex tx⟩, fun G' H' c hp s => k _ H' c hp (Stp.back2 hr.good ex s)⟩
end
end Dd
/-! Settled dicts asked and copied; empty dicts. -/
namespace Dd
open PySem L2
/-! ### dict(d), keys tuples, one at most -/
section
open PySem.Spec PyProof.Rows PyProof.V
variable {prog : Program} {w : World} {K : Type} [DecidableEq K] {knd : HeapKind prog w K} {A : Around} {E : Value → Shared → Prop} {s : Shared}
theorem kt_call_dictH {o : Addr} {more : List (K × Addr × Value)} {Q : Value → Shared → Prop} (hu : knd.room A.in1.in1) (hoS : (o == sysModules) = false) (ho : s.heap.DictOfH knd o more) (hpush : ∀ x, (s.heap.push x).DictOfH knd o more) (h1 : more.length ≤ 1) (hty : ∀ x ∈ more, ∀ y, ({ s with heap := s.heap.push y } : Shared).TypeIs (.ref x.2.1) "tuple")
    (h : ∀ h', h'.DictOfH knd s.heap.objs.size more → Heap.SameBut s.heap.objs.size (s.heap.push { cls := .type "dict", data := .dict #[] }) h' → Q (.ref s.heap.objs.size) { s with heap := h' }) :
    wpAny (model prog w) A (call (.type "dict") [.ref o]) Q E s := by
  have hsz : more.length ≤ sizeLine := Nat.le_trans h1 (by decide)
  refine callType_codes (Q₁ := fun obj s₁ => obj = .ref s.heap.objs.size ∧ s₁ = { s with heap := s.heap.push { cls := .type "dict", data := .dict #[] } }) F.kt_called_dict (F.kt_typeCall_dict_1 _) F.entry_dict_init (kt_code_dict_new _ ⟨rfl, rfl⟩) ?_
  rintro obj s₁ ⟨rfl, rfl⟩
  have hnew : (s.heap.push { cls := .type "dict", data := .dict #[] }).DictOfH knd s.heap.objs.size [] := Heap.DictOfH.new s.heap
  have ho' := hpush { cls := .type "dict", data := .dict #[] }
  have hn : (more.map (·.1)).Nodup := ho.nodup
  have hdo : s.heap.objs.size ≠ o := by
    obtain ⟨_, _, _, hg, _⟩ := ho
    exact fun e => absurd (Heap.lt_size hg) (by rw [e]; exact Nat.lt_irrefl _)
  refine ⟨hnew.typeIs, F.args_dict_init_2 _ _, ?_⟩
  unfold Builtin.«dict.__init__»
  refine wpAny_bind ?_
  unfold Builtin.Dict.selfAndRest
  refine wpAny_bind (wpAny_notOrdered_dict hnew.typeIs ?_)
  show wpAny _ _ (pure (s.heap.objs.size, [Value.ref o])) _ _ _
  refine wpAny_pure ?_
  show wpAny _ _ (Builtin.Dict.updateFrom "dict.__init__" s.heap.objs.size (.ref o) [] .none) _ _ _
  unfold Builtin.Dict.updateFrom
  refine wpAny_bind (wpAny_typeOf ho'.typeIs ?_)
  rw [if_neg (by decide)]
  refine wpAny_bind ?_
  unfold Builtin.Dict.merge
  refine wpAny_bind ?_
  unfold Builtin.Dict.readDirectly
  refine wpAny_bind (wpAny_isInstance ho'.typeIs isSubtype_dict_dict ?_)
  simp only [Bool.not_true, Bool.false_eq_true, if_false]
  refine wpAny_bind (wpAny_specialOf ho'.typeIs F.slot_dict_iter.lookup (wpAny_pure ?_))
  simp only [beq_self_eq_true, if_true]
  refine wpAny_bind (wpAny_pure ?_)
  refine wpAny_mergeDict_heap (hsz := by simpa using hsz) hu hdo hoS hnew ho' (.inr ⟨fun x hx => hty x hx _, ?_⟩) fun h' hd' _ hs' => ?_
  · match more, h1 with
    | [], _ => exact List.nodup_nil
    | [_], _ => exact List.nodup_cons.mpr ⟨fun z => (nomatch z), List.nodup_nil⟩
  · show wpAny _ _ (Builtin.Dict.addKeywords s.heap.objs.size [] >>= _) _ _ _
    rw [storedAllH_nil_of_nodup more hn] at hd'
    exact wpAny_bind (wpAny_pure (wpAny_pure ⟨rfl, h h' hd' hs'⟩))
end
/-! ### settled dicts with tuple keys -/
theorem keyDs_inj : ∀ {k l : List Key}, k.map keyD = l.map keyD → k = l
  | [], [], _ => rfl
  | [], _ :: _, h => nomatch h
  | _ :: _, [], h => nomatch h
  | a :: k, c :: l, h => by
    rw [List.map_cons, List.map_cons] at h
    injection h with h1 h2
    rw [keyD_inj h1, keyDs_inj h2]
theorem diTD_inj {fs gs : List (List Key × PyData)} (h : diTD fs = diTD gs) : fs = gs := by
  simp only [PyData.dict.injEq, List.cons.injEq, true_and] at h
  induction fs generalizing gs with
  | nil =>
    cases gs with
    | nil => rfl
    | cons _ _ => cases h
  | cons a r ih =>
    cases gs with
    | nil => cases h
    | cons a' r' =>
      simp only [List.map_cons, List.cons.injEq, Prod.mk.injEq, PyData.tuple.injEq] at h
      obtain ⟨⟨e1, e2⟩, e3⟩ := h
      rw [ih e3, show a = a' from Prod.ext (keyDs_inj e1) e2]
theorem rp_diT {b : Option Addr} {G : Hp} {v : V} {fs : List (List Key × PyData)} (h : Rp b G v (diTD fs)) : ∃ a us, v = .ref a ∧ Rd G a (.dT us) ∧ us.map (·.1) = fs.map (·.1) ∧ RpAll b G (us.map (·.2)) (fs.map (·.2)) := by
  generalize eD : diTD fs = D at h
  cases h with
  | diT h1 h2 h3 =>
    cases diTD_inj eD
    exact ⟨_, _, rfl, h1, h2, h3⟩
  | _ => cases eD
theorem rp_keys {b : Option Addr} {G : Hp} : ∀ {ks : List Key} {vs : List V}, RpAll b G vs (ks.map keyD) → vs = ks.map kV
  | [], _, h => by
    cases h
    rfl
  | k :: ks, _, h => by
    rw [List.map_cons] at h
    cases h with
    | cons h1 h2 => rw [rp_key h1, rp_keys h2, List.map_cons]
theorem rp_tupK {b : Option Addr} {G : Hp} {v : V} {ks : List Key} (h : Rp b G v (.tuple (ks.map keyD))) : ∃ p, v = .ref p ∧ G p = some (.tup (ks.map kV)) := by
  cases h with
  | tup h1 h2 => exact ⟨_, rfl, by rw [h1, rp_keys h2]⟩
/-! ### in -/
def inDS (d u : PyData) (P : Bool → Prop) : Prop := (∃ (fs : List (Key × PyData)) (k : Key), u = dicD fs ∧ d = keyD k ∧ P (valP fs k).isSome) ∨ ∃ (fs : List (List Key × PyData)) (ks : List Key), u = diTD fs ∧ d = .tuple (ks.map keyD) ∧ P (valP fs ks).isSome
def dInDT (wa wb : WE) : WT := fun x ρ P => wa x ρ fun t => wb x ρ fun u => inDS t.dat u.dat P
def dInD (wa wb : WE) : WE := fun x ρ P => wa x ρ fun t => wb x ρ fun u => inDS t.dat u.dat fun c => P (boo c)
def dNotInDT (wa wb : WE) : WT := fun x ρ P => wa x ρ fun t => wb x ρ fun u => inDS t.dat u.dat fun c => P (!c)
theorem isSome_rp {κ : Type} [DecidableEq κ] {b : Option Addr} {G : Hp} (k : κ) {us : List (κ × V)} {fs : List (κ × PyData)} (h : us.map (·.1) = fs.map (·.1)) (r : RpAll b G (us.map (·.2)) (fs.map (·.2))) : (valV us k).isSome = (valP fs k).isSome := by
  obtain ⟨h1, h2⟩ := rp_val k h r
  cases c : valP fs k with
  | none => rw [h2 c]; rfl
  | some d =>
    obtain ⟨v, ev, _⟩ := h1 d c
    rw [ev]
    rfl
theorem din_core {K : PySem.W.Frag} {mg : Str → Option Value} {E : SX} {wa wb : WE} {σ : L2.St} {H : Hp} {Q : Bool → Hp → Prop} (q : ttOf K mg E (dInDT wa wb) σ H Q) : tOf K mg E wa σ H fun y H1 => tOf K mg E wb σ H1 fun x H2 => ∃ a o, x = .ref a ∧ DGet H2 a y o ∧ Q o.isSome H2 := by
  obtain ⟨b, B, G, ρ, xp, P, p, hr, k⟩ := q
  refine tOfD_of ⟨b, B, G, ρ, xp, fun d => wb xp ρ fun u => inDS d u.dat P, p, hr, fun G1 H1 y d hd s1 hr1 ry => ?_⟩
  refine tOfD_of ⟨b, B, G1, ρ, xp, fun u => inDS d u P, hd, hr1, fun G2 H2 x u hu s2 hr2 rx => ?_⟩
  have s12 := s1.trans hr.good s2
  rcases hu with ⟨fs, ky, rfl, rfl, hp⟩ | ⟨fs, ks, rfl, rfl, hp⟩
  · obtain ⟨a, us, rfl, ra, e, r⟩ := rp_dic rx
    have := rp_key ry
    subst this
    refine ⟨a, valV us ky, rfl, .inl ⟨us, ky, rd_mono hr2.good.ex ra, rfl, rfl⟩, k G2 H2 _ ?_ s12⟩
    rw [isSome_rp ky e r]
    exact hp
  · obtain ⟨a, us, rfl, ra, e, r⟩ := rp_diT rx
    obtain ⟨t, rfl, ht⟩ := rp_tupK ry
    refine ⟨a, valV us ks, rfl, .inr ⟨us, ks, t, rd_mono hr2.good.ex ra, rfl, hr2.good.ex _ _ (s2.ex _ _ ht), rfl⟩, k G2 H2 _ ?_ s12⟩
    rw [isSome_rp ks e r]
    exact hp
section
variable {X : Cx} {E : SX} {e e2 e3 : Expr} {w wa wb we wk : WE} {ws : WA} {pos p p2 q apos : Pos}
theorem tt_of_t {K : PySem.W.Frag} {mg : Str → Option Value} {E : SX} {w : WE} {wt : WT} (f : Bool → Bool) (hw : ∀ x ρ (P : T → Prop), w x ρ P → wt x ρ fun c => P (boo (f c))) {σ : L2.St} {H : Hp} {Q : VK} (q : tOf K mg E w σ H Q) : ttOf K mg E wt σ H fun c H1 => Q (.bl (f c)) H1 := by
  obtain ⟨b, B, G, ρ, xp, P, p, hr, k⟩ := q
  exact ⟨b, B, G, ρ, xp, _, hw _ _ _ p, hr, fun G' H' c hp s => (k.stp hr.good s).leaf s.good hp (.bl _)⟩
theorem d_inD (hu : X.A.units + 1 < cLine) (ha : PE X e (tOf X.K X.mg E wa)) (hb : PE X e2 (tOf X.K X.mg E wb)) (hm : behindInMarks .In e2 = false := by rfl) : PE X (.Compare e [.In] [e2] pos) (tOf X.K X.mg E (dInD wa wb)) := PE.of (pe_cmp (pc_din hu ha hb) hm) fun σ H Q q => din_core (tt_of_t (wt := dInDT wa wb) id (fun _ _ _ h => h) q)
theorem t_inD (hu : X.A.units + 1 < cLine) (ha : PE X e (tOf X.K X.mg E wa)) (hb : PE X e2 (tOf X.K X.mg E wb)) (hm : behindInMarks .In e2 = false := by rfl) : PT X (.Compare e [.In] [e2] pos) (ttOf X.K X.mg E (dInDT wa wb)) := PT.of (pt_cmp (pc_din hu ha hb) hm) fun σ H Q q => by
  obtain ⟨b, B, G, ρ, xp, P, p, hr, k⟩ := q
  exact din_core (Q := fun c H2 => ∃ c', V.bl c = .bl c' ∧ Q c' H2) ⟨b, B, G, ρ, xp, P, p, hr, fun G' H' c hp s => ⟨c, rfl, k G' H' c hp s⟩⟩
theorem t_notInD (hu : X.A.units + 1 < cLine) (ha : PE X e (tOf X.K X.mg E wa)) (hb : PE X e2 (tOf X.K X.mg E wb)) (hm : behindInMarks .NotIn e2 = false := by rfl) : PT X (.Compare e [.NotIn] [e2] pos) (ttOf X.K X.mg E (dNotInDT wa wb)) := PT.of (pt_cmp (pc_dnotin hu ha hb) hm) fun σ H Q q => by
  obtain ⟨b, B, G, ρ, xp, P, p, hr, k⟩ := q
  exact din_core (Q := fun c H2 => ∃ c', V.bl (!c) = .bl c' ∧ Q c' H2) ⟨b, B, G, ρ, xp, fun c => P (!c), p, hr, fun G' H' c hp s => ⟨_, rfl, k G' H' _ hp s⟩⟩
/-! ### d[k] -/
def dDGet (w wk : WE) : WE := fun x ρ P => w x ρ fun t => ∃ fs : List (Key × PyData), t.dat = dicD fs ∧ wk x ρ fun tk => ∃ k, tk.dat = keyD k ∧ ∃ d, valP fs k = some d ∧ P (.leaf d)
theorem d_dget (hu : X.A.units + 1 < cLine) (ho : PE X e (tOf X.K X.mg E w)) (hi : PE X e2 (tOf X.K X.mg E wk)) (hs : NoSl e2 := by exact fun _ _ => rfl) : PE X (.Subscript e e2 pos) (tOf X.K X.mg E (dDGet w wk)) :=
  PE.of (pe_dget hu ho hi hs) fun σ H Q ⟨b, B, G, ρ, xp, P, p, hr, k⟩ =>
  tOfD_of ⟨b, B, G, ρ, xp, fun d => ∃ fs : List (Key × PyData), d = dicD fs ∧ wk xp ρ fun tk => ∃ k, tk.dat = keyD k ∧ ∃ d, valP fs k = some d ∧ P (.leaf d), p, hr, fun G1 H1 v d hd s1 hr1 rd => by
    obtain ⟨fs, rfl, pk⟩ := hd
    obtain ⟨a, us, rfl, ra, ks, rs⟩ := rp_dic rd
    refine tOfD_of ⟨b, B, G1, ρ, xp, fun dk => ∃ k, dk = keyD k ∧ ∃ d, valP fs k = some d ∧ P (.leaf d), pk, hr1, fun G2 H2 y dk hk s2 hr2 ry => ?_⟩
    obtain ⟨ky, rfl, d, ed, pd⟩ := hk
    have ey := rp_key ry
    subst ey
    obtain ⟨v, ev, rv⟩ := (rp_val ky ks (rs.mono s2.ex)).1 d ed
    exact ⟨a, v, rfl, .inl ⟨us, ky, rd_mono hr2.good.ex (rd_mono s2.ex ra), rfl, ev.symm⟩, ((k.stp hr.good s1).stp hr1.good s2).leaf hr2.good pd rv⟩⟩
/-! ### list(d) -/
def cListD : CD := fun ds P => ∃ fs : List (Key × PyData), ds = [dicD fs] ∧ P (.node ((fs.map fun p => keyD p.1).map .leaf))
theorem rp_kVs {b : Option Addr} {G : Hp} : ∀ {ks : List Key}, RpAll b G (ks.map kV) (ks.map keyD)
  | [] => .nil
  | k :: ks => .cons (rp_keyV k) rp_kVs
theorem ok_listD {K : PySem.W.Frag} : CdOk K (fun xs H Q => ∃ (a : Addr) (kvs : List (Key × V)), xs = [.ref a] ∧ Rd H a (.dK kvs) ∧ ∀ p, H p = none → Q (.ref p) (upd H p (.lst (kvs.map fun kv => kV kv.1)))) cListD := fun b G H vs ds P Q g r h k => by
  obtain ⟨fs, rfl, hp⟩ := h
  cases r with
  | cons r1 r2 =>
    cases r2
    obtain ⟨a, us, rfl, ra, e, _⟩ := rp_dic r1
    refine ⟨a, us, rfl, rd_mono g.ex ra, fun q hq => new_lst g ?_ hp k hq⟩
    have e1 : (us.map fun kv => kV kv.1) = (us.map (·.1)).map kV := by rw [List.map_map]; rfl
    have e2 : (fs.map fun p => keyD p.1) = (fs.map (·.1)).map keyD := by rw [List.map_map]; rfl
    rw [e1, e2, e]
    exact rp_kVs
theorem d_listD (hc : X.calm = true) (hm : X.mg "list" = none) (ha : PA X [e] (aOf X.K X.mg E ws)) (hg : Gl X "list" := by rfl) (he : starEach [e] X.env = (false, eval e X.env) :: starEach [] X.env := by rfl) (hpl : (backTo pos (starEach [] X.env)).any (·.1) = false := by rfl) : PE X (.Call (.Name "list" p) [e] [] pos) (tOf X.K X.mg E (dBlt cListD ws)) :=
  d_ty (call_listD hc) ok_listD hg hm (by decide +kernel) ha (by decide) (by decide) he hpl
/-! ### dict(d) -/
theorem call_dictB (hu : X.A.units + 65 < cLine) : CallR X (.type "dict") (fun xs H Q => ∃ a, xs = [.ref a] ∧ ((∃ kvs, Rd H a (.dK kvs) ∧ ∀ p, H p = none → Q (.ref p) (upd H p (.dK kvs))) ∨ ∃ kvs, Rd H a (.dT kvs) ∧ kvs.length ≤ 1 ∧ ∀ p, H p = none → Q (.ref p) (upd H p (.dT kvs)))) := by
  intro pins s σ H xs us Q I r q
  obtain ⟨a, rfl, q⟩ := q
  obtain ⟨u, eu, rx⟩ := vals1 r
  subst eu
  cases rx
  rcases q with ⟨kvs, e, q⟩ | ⟨kvs, e, h1, q⟩
  · exact d_copyOf I e fun p s' hp I' => ⟨.ref p, _, I', rfl, q p hp⟩
  · obtain ⟨z, hd, xs, rel, dd⟩ := dt_rd I.hok e
    have hl : xs.length ≤ 1 := by rw [← Paired.length rel]; exact h1
    have dd' : ∀ x, (s.heap.push x).DictOfH (PySem.tupleKind (L2.mixKind X.prog X.w)) a xs := fun x => by
      obtain ⟨o, es, ep, g1, g2, g3, g4, g5, g6⟩ := dd
      refine ⟨o, es, ep, Heap.get?_push_of_some _ g1, g2, g3, g4, fun y hy => ?_, g6⟩
      obtain ⟨o', its, n, k1, k2⟩ := g5 y hy
      exact ⟨o', its, n, Heap.get?_push_of_some _ k1, k2⟩
    refine kt_call_dictH (knd := PySem.tupleKind (L2.mixKind X.prog X.w)) (show X.A.units + 1 + 1 < cLine by omega) hd dd dd' hl (fun x hx y => ?_) fun h' dn hs => ?_
    · obtain ⟨_, _, _, _, _, _, _, g5, _⟩ := dd' y
      exact PySem.IsTupleKey.typeIs (s := { s with heap := s.heap.push y }) (g5 x hx)
    · have hne : (s.heap.objs.size == sysModules) = false := beq_eq_false_iff_ne.mpr (Ne.symm (Nat.ne_of_lt I.big))
      have hp : H s.heap.objs.size = none := I.hok.fresh (Nat.le_refl _)
      refine ⟨.ref s.heap.objs.size, upd H s.heap.objs.size (.dT kvs), I.laid (a := s.heap.objs.size) (o := .dT kvs) (t' := s.toks) (fun b q hq => (hs.2 b (Nat.ne_of_lt (Heap.lt_size hq))).trans (Heap.get?_push_of_some _ hq)) (Nat.le_refl _) ?_, rfl, q _ hp⟩
      obtain ⟨o, es, ep, g1, g2, g3, g4, g5, g6⟩ := dn
      exact ⟨z, hne, xs, KT.keeps rel fun b ys e => by rw [upd_ne (fun c => by rw [c, hp] at e; cases e)]; exact e, o, es, ep, g1, g2, g3, g4, g6⟩
def cDict : CD := fun ds P => (∃ fs : List (Key × PyData), ds = [dicD fs] ∧ P (.dic (fs.map (·.1)) (fs.map fun p => .leaf p.2))) ∨ ∃ fs : List (List Key × PyData), ds = [diTD fs] ∧ fs.length ≤ 1 ∧ P (.diT (fs.map (·.1)) (fs.map fun p => .leaf p.2))
theorem new_dic {K : PySem.W.Frag} {b : Option Addr} {G H : Hp} {P : T → Prop} {Q : VK} {us : List (Key × V)} {fs : List (Key × PyData)} (g : Good K b G H) (e : us.map (·.1) = fs.map (·.1)) (r : RpAll b G (us.map (·.2)) (fs.map (·.2))) (p : P (.dic (fs.map (·.1)) (fs.map fun p => .leaf p.2)))
    (k : Ktn K b G H P Q) {a : Addr} (ha : H a = none) : Q (.ref a) (upd H a (.dK us)) := by
  have ga := (g.new (.dK us) ha).2
  have nb : b ≠ some a := fun c => by
    obtain ⟨_, _, _, _, _, _, q, _⟩ := g.box a c
    rw [ha] at q
    cases q
  refine k G _ _ _ [a] p (g.own _ ha) (.dic (upd_same ..) ga nb e ?_ (fun z => (nomatch z))) fun c hc => by rw [List.mem_singleton.mp hc]; exact ha
  have := TrAll.leaves (H := upd H a (.dK us)) r
  rw [List.map_map] at this
  exact this
theorem new_diT {K : PySem.W.Frag} {b : Option Addr} {G H : Hp} {P : T → Prop} {Q : VK} {us : List (List Key × V)} {fs : List (List Key × PyData)} (g : Good K b G H) (e : us.map (·.1) = fs.map (·.1)) (r : RpAll b G (us.map (·.2)) (fs.map (·.2))) (p : P (.diT (fs.map (·.1)) (fs.map fun p => .leaf p.2)))
    (k : Ktn K b G H P Q) {a : Addr} (ha : H a = none) : Q (.ref a) (upd H a (.dT us)) := by
  have ga := (g.new (.dT us) ha).2
  have nb : b ≠ some a := fun c => by
    obtain ⟨_, _, _, _, _, _, q, _⟩ := g.box a c
    rw [ha] at q
    cases q
  refine k G _ _ _ [a] p (g.own _ ha) (.diT (upd_same ..) ga nb e ?_ (fun z => (nomatch z))) fun c hc => by rw [List.mem_singleton.mp hc]; exact ha
  have := TrAll.leaves (H := upd H a (.dT us)) r
  rw [List.map_map] at this
  exact this
theorem ok_dict {K : PySem.W.Frag} : CdOk K (fun xs H Q => ∃ a, xs = [.ref a] ∧ ((∃ kvs, Rd H a (.dK kvs) ∧ ∀ p, H p = none → Q (.ref p) (upd H p (.dK kvs))) ∨ ∃ kvs, Rd H a (.dT kvs) ∧ kvs.length ≤ 1 ∧ ∀ p, H p = none → Q (.ref p) (upd H p (.dT kvs)))) cDict := fun b G H vs ds P Q g r h k => by
  rcases h with ⟨fs, rfl, hp⟩ | ⟨fs, rfl, h1, hp⟩
  · cases r with
    | cons r1 r2 =>
      cases r2
      obtain ⟨a, us, rfl, ra, e, rs⟩ := rp_dic r1
      exact ⟨a, rfl, .inl ⟨us, rd_mono g.ex ra, fun q hq => new_dic g e rs hp k hq⟩⟩
  · cases r with
    | cons r1 r2 =>
      cases r2
      obtain ⟨a, us, rfl, ra, e, rs⟩ := rp_diT r1
      have e1 := congrArg List.length e
      rw [List.length_map, List.length_map] at e1
      exact ⟨a, rfl, .inr ⟨us, rd_mono g.ex ra, by omega, fun q hq => new_diT g e rs hp k hq⟩⟩
theorem d_dict (hu : X.A.units + 65 < cLine) (hm : X.mg "dict" = none) (ha : PA X [e] (aOf X.K X.mg E ws)) (hg : Gl X "dict" := by rfl) (he : starEach [e] X.env = (false, eval e X.env) :: starEach [] X.env := by rfl) (hpl : (backTo pos (starEach [] X.env)).any (·.1) = false := by rfl) : PE X (.Call (.Name "dict" p) [e] [] pos) (tOf X.K X.mg E (dBlt cDict ws)) :=
  d_ty (call_dictB hu) ok_dict hg hm (by decide +kernel) ha (by decide) (by decide) he hpl
/-! ### {} -/
theorem d_dic0 : PE X (.Dict [] [] pos) (tOf X.K X.mg E fun _ _ P => P (.dic [] [])) := PE.of pe_dnewK fun σ H Q ⟨b, B, G, ρ, xp, P, p, hr, k⟩ q hq => new_dic (fs := []) (us := []) hr.good rfl .nil p k hq
theorem d_diT0 : PE X (.Dict [] [] pos) (tOf X.K X.mg E fun _ _ P => P (.diT [] [])) := PE.of pe_dnewT fun σ H Q ⟨b, B, G, ρ, xp, P, p, hr, k⟩ q hq => new_diT (fs := []) (us := []) hr.good rfl .nil p k hq
end
end Dd
/-! Objects made as own trees; dicts at places; places read; methods of settled things over expressions that change the store. -/
namespace Dd
open PySem L2
/-! ### what never comes -/
section
variable {X : Cx} {E : SX} {e : Expr} {st : Stmt}
theorem s_never : PS X st (sOf X.K X.mg E fun _ _ => False) := ⟨fun pins s σ H D I ⟨_, _, _, _, _, _, q, _⟩ => q.elim⟩
end
/-! ### an own tree of a class -/
def noS : Sto := fun _ => none
theorem stput_noS {p q : Addr} {t u : T} (h : stput noS p t q = some u) : q = p ∧ u = t := by
  unfold stput at h
  split at h
  · rename_i e
    cases h
    exact ⟨e, rfl⟩
  · cases h
theorem sto_one {b : Option Addr} {G H : Hp} {fp : List Addr} {p : Addr} {t : T} (tr : Tr b G H fp (.ref p) t) (hp : p ∈ fp) : Tr b G H fp .non (.sto (stput noS p t)) :=
  .sto (fps := fun _ => fp) (fun q u e => by rw [(stput_noS e).1]; exact hp) (fun q u e => by rw [(stput_noS e).1, (stput_noS e).2]; exact tr) (fun q u a e h => h) (fun q q' u u' a n e e' h => absurd ((stput_noS e).1.trans (stput_noS e').1.symm) n) fun a h => ⟨p, t, stput_same, h⟩
section
variable {X : Cx} {E : SX} {e e2 o : Expr} {es : List Expr} {w wi wk wr : WE} {we xr : XE} {ws : WA} {xa : XA} {wp : WP} {pos p apos tpos cpos : Pos} {x : Str} {k j l n : Nat} {ps ks : List Str} {S : SpecX} {SP : Spec} {C : Addr} {CX : CXT} {f : Str}
/-- C(..), told as a tree that nobody else holds -/
def dMake (C : Addr) (S : SpecX) (ws : WA) : WE := fun x ρ P => ws x ρ fun ds => ∀ p, S (objD p :: ds) (stput noS p (.ins C [] [])) (fun t m' => t = non ∧ ∃ u, m' = stput noS p u ∧ P u) fun n pl _ => x n pl
theorem dmake_core {ta : TA} (hta : ∀ {σ : L2.St} {H : Hp} {Q : List V → Hp → Prop}, aOf X.K X.mg E ws σ H Q → ta σ H Q) {σ : L2.St} {H : Hp} {Q : VK} (q : tOf X.K X.mg E (dMake C S ws) σ H Q) : tMakeX C (spOfX X.K X.mg S) E ta σ H Q := by
  obtain ⟨b, B, G, ρ, xp, P, p, hr, kk⟩ := q
  refine hta ⟨b, B, G, ρ, xp, _, p, hr, fun G1 H1 vs ds hp s1 r => ?_⟩
  intro q dx hq hdx ne
  have hr1 := hr.stp s1
  have kk1 := kk.stp hr.good s1
  have ne' : q ≠ dx := Ne.symm ne
  have so := hr1.good.own (.own q) hdx
  have hq1 : upd H1 dx (.own q) q = none := by rw [upd_ne ne']; exact hq
  have s2 := so.good.own (.ins C dx []) hq1
  have s12 := so.trans hr1.good s2
  have gq : G1 q = none := (hr1.good.new (.own q) hq).2
  have gx : G1 dx = none := (hr1.good.new (.own q) hdx).2
  have nb : ∀ a, H1 a = none → b ≠ some a := fun a ha c => by
    obtain ⟨_, _, _, _, _, _, q, _⟩ := hr1.good.box a c
    rw [ha] at q
    cases q
  have tr : Tr b G1 (upd (upd H1 dx (.own q)) q (.ins C dx [])) [q, dx] (.ref q) (.ins C [] []) :=
    .ins upd_same (by rw [upd_ne ne, upd_same]) gq gx (nb q hq) (nb dx hdx) rfl .nil (fun z => nomatch z) (fun z => nomatch z) ne
  have el : less (upd (upd H1 dx (.own q)) q (.ins C dx [])) [q, dx] = H1 := by
    funext a
    by_cases c : a ∈ [q, dx]
    · rw [less_in c]
      rcases List.mem_cons.mp c with z | z
      · rw [z, hq]
      · rw [List.mem_singleton.mp z, hdx]
    · rw [less_out c, upd_ne (fun z => c (by rw [z]; exact List.mem_cons_self ..)), upd_ne (fun z => c (by rw [z]; exact List.mem_cons_of_mem _ (List.mem_cons_self ..)))]
  have ab : ∀ a, a ∈ [q, dx] ∨ upd (upd H1 dx (.own q)) q (.ins C dx []) a = none → H1 a = none := fun a z => by
    rcases z with z | z
    · rcases List.mem_cons.mp z with y | y
      · rw [y]; exact hq
      · rw [List.mem_singleton.mp y]; exact hdx
    · by_cases c : a = q
      · rw [c]; exact hq
      · rw [upd_ne c] at z
        by_cases c2 : a = dx
        · rw [c2]; exact hdx
        · rw [upd_ne c2] at z
          exact z
  refine ⟨b, G1, objD q :: ds, _, [q, dx], _, _, hp q, s12.good, .cons (.obj q) r, sto_one tr (List.mem_cons_self ..), fun G' H' v t m' fs' fv hP s3 tr' tv dj fr => ?_, fun n pl c d G' H' m' fs' hx hm hd s3 tr' fr => ?_⟩
  · obtain ⟨rfl, u, rfl, hu⟩ := hP
    rw [el] at s3
    cases tv with
    | leaf rv =>
      cases rv
      cases tr' with
      | @sto _ _ fpm h0 h1 h2 h3 h4 =>
        exact ⟨rfl, kk1 G' H' (.ref q) u (fpm q) hu s3 (h1 q u stput_same) fun a z => ab a (fr a (.inl (h2 q u a stput_same z)))⟩
  · rw [el] at s3
    exact hr1.xc n pl c d G' H' hx hm hd s3
theorem d_make (W : Way X E CX) (M : MkS CX X.prog X.w X.K X.mg X.base x C ps l S) (hr : Room j X.A) (ha : PA X (e :: es) (aOf X.K X.mg E ws)) (hg : Gl X x := by rfl) (hj : l + 1 ≤ j := by decide) (hdb : (x == ("__debug__" : Str)) = false := by decide)
    (he : starEach (e :: es) X.env = (false, eval e X.env) :: starEach es X.env := by rfl) (hpl : (backTo pos (starEach es X.env)).any (·.1) = false := by rfl) :
    PE X (.Call (.Name x p) (e :: es) [] pos) (tOf X.K X.mg E (dMake C S ws)) := by
  obtain ⟨⟨f, fd, h, M, b⟩, hm⟩ := M
  exact PE.imp (pe_makeW W M h (hr.mono hj) hg hm b ha hdb he hpl) fun σ H Q q => dmake_core id q
/-- return x, x an object of the store that goes out as a tree -/
def dRetO (k i : Nat) : WS := fun C ρ => ∃ p t, ρ[i]? = some (some (.leaf (objD p))) ∧ atSto k ρ fun m => m p = some t ∧ C.rt t
theorem s_retO (k i : Nat) {x : Str} {p : Pos} (hN : X.N[i]? = some x := by rfl) (hv : Vis X.env.scope x := by first | exact Or.inl rfl | exact Or.inr (Or.inl rfl) | exact Or.inr (Or.inr rfl)) (hd : (x == ("__debug__" : Str)) = false := by decide) (hcd : (x == ("__classdict__" : Str)) = false := by decide) :
    PS X (.Return (some (.Name x p)) pos) (sOf X.K X.mg E (dRetO k i)) := PS.of (ps_ret (pe_var hN hv hd hcd)) fun D σ H ⟨b, F, G0, H0, ρ, C, ⟨q, t, ei, m, em, ep, hq⟩, g0, a, eo⟩ => by
  obtain ⟨G, e1, s, E1⟩ := a
  obtain ⟨fp, tr, hp, hB, E2⟩ := E1.take_sto em ep
  obtain ⟨_, fps, h1, _⟩ := id E1
  obtain ⟨v, ev, tv⟩ := h1 i _ ei
  have evp : v = .ref q := by
    generalize fps i = fi at tv
    cases tv with
    | leaf r => exact rp_obj r
  subst evp
  exact ⟨_, ev, eo.rt _ _ _ G H hq s tr hB⟩
/-! ### dicts at places -/
def fixK {κ : Type} [DecidableEq κ] (f : κ) : List κ → Option Nat
  | [] => none
  | g :: r => if g = f then some 0 else (fixK f r).map (· + 1)
theorem fixK_val {κ : Type} [DecidableEq κ] {f : κ} : ∀ {us : List (κ × V)} {n : Nat}, fixK f (us.map (·.1)) = some n → ∃ v, valV us f = some v ∧ (us.map (·.2))[n]? = some v
  | [], _, h => nomatch h
  | u :: us, n, h => by
    rw [List.map_cons] at h
    unfold fixK at h
    by_cases c : u.1 = f
    · rw [if_pos c] at h
      cases h
      exact ⟨u.2, valV_pos c, rfl⟩
    · rw [if_neg c] at h
      cases e : fixK f (us.map (·.1)) with
      | none => rw [e] at h; cases h
      | some m =>
        rw [e] at h
        cases h
        obtain ⟨v, h1, h2⟩ := fixK_val e
        exact ⟨v, by rw [valV_neg c]; exact h1, by rw [List.map_cons]; exact h2⟩
/-- PATH[key] -/
def dPK (k : Nat) (wp : WP) (wk : WE) : WP := fun x ρ P => wp x ρ fun p path => wk x ρ fun tk => ∃ ky : Key, tk.dat = keyD ky ∧ atSto k ρ fun m => ∃ tr ks ts n, m p = some tr ∧ tr.sub path = some (.dic ks ts) ∧ fixK ky ks = some n ∧ P p (path ++ [n])
theorem p_key (hu : X.A.units + 1 < cLine) (h : PE X e (pOf X.K X.mg E wp)) (hi : PE X e2 (tOf X.K X.mg E wk)) (hs : NoSl e2 := by exact fun _ _ => rfl) : PE X (.Subscript e e2 pos) (pOf X.K X.mg E (dPK k wp wk)) := PE.imp (pe_dget hu h hi hs) fun σ H Q ⟨b, B, G, ρ, xp, P, p, hr, kk⟩ =>
  ⟨b, B, G, ρ, xp, _, p, hr, fun G1 H1 p path v hp s1 pv => tOfD_of ⟨b, B, G1, ρ, xp, fun dk => ∃ ky : Key, dk = keyD ky ∧ atSto k ρ fun m => ∃ tr ks ts n, m p = some tr ∧ tr.sub path = some (.dic ks ts) ∧ fixK ky ks = some n ∧ P p (path ++ [n]), hp, hr.stp s1, fun G2 H2 y dk ht s2 hr2 ry => by
    obtain ⟨ky, rfl, m, em, tr, ks, ts, n, ep, es, hn, hp2⟩ := ht
    cases rp_key ry
    have pv2 := pv.keep s2.keep
    obtain ⟨v', fu, pv', t⟩ := place_look hr2.env em ep es
    cases pv2.det pv'
    cases t with
    | dic hq gq bq hk rr nq =>
      rename_i q fq us
      rw [← hk] at hn
      obtain ⟨v, h1, h2⟩ := fixK_val hn
      exact ⟨q, v, rfl, .inl ⟨us, ky, .inl hq, rfl, h1.symm⟩, kk G2 H2 p _ _ hp2 (s1.trans hr.good s2) (pv2.snoc bq (by rw [hq]; exact h2))⟩⟩⟩
/-- a dict at a place -/
theorem place_dic {K : PySem.W.Frag} {b : Option Addr} {G H F G0 H0 : Hp} {σ : L2.St} {ρ : Rho} {fv : List Addr} {k : Nat} {m : Sto} {p : Addr} {tr : T} {path : List Nat} {vq : V} {ks : List Key} {ts : List T} (E : EnvT b H0 G H σ ρ fv) (ex : Ex F G) (st : Stp K b G0 H0 G H) (hB : ∀ a, a ∈ fv → H0 a = none) (ek : ρ[k]? = some (some (.sto m))) (ep : m p = some tr) (es : tr.sub path = some (.dic ks ts)) (pv : PathV b H (.ref p) path vq) :
    ∃ q us fq, vq = .ref q ∧ H q = some (.dK us) ∧ us.map (·.1) = ks ∧ TrAll b G H fq (us.map (·.2)) ts ∧ (∀ a, a ∈ fq → a ∉ fv) ∧ ∀ (us' : List (Key × V)) (ks' : List Key) (ts' : List T) (fq' : List Addr), us'.map (·.1) = ks' → TrAll b G H fq' (us'.map (·.2)) ts' → (∀ a, a ∈ fq' → a ∈ fq ∨ a ∈ fv) →
      At K b F G0 H0 (ρ.set k (some (.sto (stput m p (tr.put path (.dic ks' ts')))))) σ (upd H q (.dK us')) := by
  obtain ⟨fu, t, hfu, back⟩ := place E ex st hB ek ep es pv
  cases t with
  | dic hq gq bq hk rr nq =>
    rename_i q fq us
    refine ⟨q, us, fq, rfl, hq, hk, rr, fun a z => (hfu a (List.mem_cons_of_mem _ z)).2.2.2, fun us' ks' ts' fq' hk' rr' sub => ?_⟩
    have nq' : q ∉ fq' := fun z => (sub q z).elim nq (hfu q (List.mem_cons_self ..)).2.2.2
    exact back _ _ (q :: fq') (fun a n => upd_ne fun z => n (by rw [z]; exact List.mem_cons_self ..)) (.dic upd_same gq bq hk' (rr'.move (Ex.rfl' _) fun a z => ⟨(rr'.mem a z).1, upd_ne fun y => nq' (by rw [← y]; exact z)⟩) nq') (fun a z => (List.mem_cons.mp z).elim (fun y => by rw [y]; exact .inl (List.mem_cons_self ..)) fun y => (sub a y).elim (fun x => .inl (List.mem_cons_of_mem _ x)) .inr) fun y => by
      cases y
      exact List.mem_cons_self ..
theorem putK_new {κ : Type} [DecidableEq κ] {us : List (κ × V)} {k : κ} {v : V} (h : k ∉ us.map (·.1)) : putK us k v = us ++ [(k, v)] := by
  unfold putK
  rw [if_neg]
  intro z
  obtain ⟨q, hq, eq⟩ := List.any_eq_true.mp z
  exact h (List.mem_map.mpr ⟨q, hq, of_decide_eq_true eq⟩)
/-- PATH[key] = e, a key that is new -/
def dSetD (k : Nat) (wp : WP) (wk : WE) (we : XE) : WS := fun Ct ρ => we Ct.xc ρ fun t ρ1 => wp (Ct.xc ρ1) ρ1 fun p path => wk (Ct.xc ρ1) ρ1 fun tk => ∃ ky : Key, tk.dat = keyD ky ∧ atSto k ρ1 fun m => ∃ tr ks ts, m p = some tr ∧ tr.sub path = some (.dic ks ts) ∧ ky ∉ ks ∧ ks.length < lim ∧
  Ct.nx (ρ1.set k (some (.sto (stput m p (tr.put path (.dic (ks ++ [ky]) (ts ++ [t])))))))
theorem s_setD (hu : X.A.units + 1 < cLine) (hp : PE X o (pOf X.K X.mg E wp)) (hi : PE X e2 (tOf X.K X.mg E wk)) (he : PE X e (xOf X.K X.mg E we)) (hs : swapsWith e (some (.Subscript o e2 tpos)) pos.line X.env = pure false := by rfl) :
    PS X (.Assign [.Subscript o e2 tpos] e pos) (sOf X.K X.mg E (dSetD k wp wk we)) := PS.of (ps_dput hu hp hi he hs) fun D σ H ⟨b, F, G0, H0, ρ, Ct, q, g0, a, eo⟩ => by
  obtain ⟨G, hr⟩ := a.siteX g0 eo
  refine ⟨b, F, G0, H0, G, ρ, Ct.xc, _, q, hr, fun ρ1 G1 H1 v t fv hp e1 s1 E1 tr hB => ?_⟩
  have hr1 := hr.to e1 s1 E1.env
  refine ⟨b, H0, G1, ρ1, _, _, hp, hr1.site, fun G2 H2 p path vq hp2 s2 pv => ?_⟩
  have hr2 := hr1.stp s2
  refine ⟨b, H0, G2, ρ1, _, _, hp2, hr2.site, fun G3 H3 u tu fu hu s3 tru fru => ?_⟩
  obtain ⟨ky, ek, m, em, tr0, ks, ts, ep, es, nk, hl, hu⟩ := hu
  have hr3 := hr2.stp s3
  have eu : u = kV ky := by
    have := (tru.settle (G' := addF G3 H3 fu) (addF_ex fun a z => (tru.mem a z).1) fun a z => addF_in z)
    rw [ek] at this
    exact rp_key this
  subst eu
  obtain ⟨q, us, fq, rfl, hq, hk, rr, off, back⟩ := place_dic ((E1.stp s2).stp s3) hr3.ex hr3.st hB em ep es (pv.keep s3.keep)
  have hl' : us.length = ks.length := by rw [← hk, List.length_map]
  obtain ⟨fr, t3, sub⟩ := TrAll.snoc rr (tr_later s3 (tr_later s2 tr)) off
  refine ⟨q, _, rfl, .inl ⟨us, ky, hq, rfl, by rw [hl']; exact lim_lt hl, rfl⟩, ?_⟩
  rw [putK_new (by rw [hk]; exact nk)]
  exact eo.nx _ _ _ hu (back (us ++ [(ky, v)]) (ks ++ [ky]) (ts ++ [t]) fr (by rw [List.map_append, hk]; rfl) (by rw [List.map_append]; exact t3) sub)
/-- PATH.f op= e, whole numbers -/
def dAugF (g : Int → Int → Int) (k : Nat) (C : Addr) (ks : List Str) (n : Nat) (wp : WP) (we : WE) : WS := fun Ct ρ => wp (Ct.xc ρ) ρ fun p path => atSto k ρ fun m => ∃ tr ts a, m p = some tr ∧ tr.sub path = some (.ins C ks ts) ∧ ts[n]? = some (int a) ∧
  we (Ct.xc ρ) ρ (asI fun c => Ct.nx (ρ.set k (some (.sto (stput m p (tr.put path (.ins C ks (ts.set n (int (g a c))))))))))
theorem s_augF {op : Operator} {g : Int → Int → Int} (ho : PIp X op (ipI g)) (n : Nat) (cf : CF X.K C ks) (hp : PE X o (pOf X.K X.mg E wp)) (he : PE X e (tOf X.K X.mg E w)) (hf : fix f ks = some n := by decide) (hz : ks.length < 1000 := by decide) :
    PS X (.AugAssign (.Attribute o f tpos) op e pos) (sOf X.K X.mg E (dAugF g k C ks n wp w)) := PS.of (ps_fldaug hp he ho) fun D σ H ⟨b, F, G0, H0, ρ, Ct, q, g0, a, eo⟩ => by
  obtain ⟨G, hr⟩ := a.siteX g0 eo
  refine ⟨b, H0, G, ρ, _, _, q, hr.site, fun G1 H1 p path vq hp s1 pv => ?_⟩
  have hr1 := hr.stp s1
  obtain ⟨m, em, tr0, ts, a0, ep, es, ea, hp⟩ := hp
  obtain ⟨q, dx, us, fq, rfl, hq, hk, rr, off, _⟩ := place_ins hr1.env.envT0 hr1.ex hr1.st (fun _ z => nomatch z) em ep es pv
  obtain ⟨u1, hu1, ru1⟩ := rr.at_ ea
  cases ru1
  refine ⟨q, C, dx, us, _, rfl, hq, cf.cls, cf.na f (fix_mem hf).1, by rw [fix_lookup, hk, hf]; exact hu1, b, H0, G1, ρ, _, _, hp, hr1.site, fun G3 H3 u tu fu hu s3 tru fru => ?_⟩
  unfold asI at hu
  dsimp only at hu
  split at hu
  · cases tru with
    | leaf r =>
      cases r
      have hr3 := hr1.stp s3
      obtain ⟨q', dx', us', fq', e', hq', hk', rr', off', back⟩ := place_ins hr3.env.envT0 hr3.ex hr3.st (fun _ z => nomatch z) em ep es (pv.keep s3.keep)
      cases e'
      obtain ⟨fr, t3, sub⟩ := TrAll.setT (.leaf (.int _)) n rr' off'
      refine ⟨_, _, rfl, rfl, dx', us', hq', ?_, ?_⟩
      · have : us'.length = ks.length := by rw [← hk', List.length_map]
        omega
      · obtain ⟨p1, p2⟩ := putF_old (us := us') (v := V.int (g a0 _)) (by rw [hk']; exact hf)
        exact eo.nx _ _ _ hu (back _ ks _ fr (by rw [p1]; exact hk') (by rw [p2]; exact t3) sub)
  · exact hu.elim
/-! ### places read -/
/-- a settled thing at a place -/
def dPl (k : Nat) (wp : WP) : WE := fun x ρ P => wp x ρ fun p path => atSto k ρ fun m => ∃ tr d, m p = some tr ∧ tr.sub path = some (.leaf d) ∧ P (.leaf d)
theorem d_pl (h : PE X e (pOf X.K X.mg E wp)) : PE X e (tOf X.K X.mg E (dPl k wp)) := PE.of h fun σ H Q ⟨b, B, G, ρ, xp, P, p, hr, kk⟩ =>
  ⟨b, B, G, ρ, xp, _, p, hr, fun G1 H1 p path v hp s1 pv => by
    obtain ⟨m, em, tr, d, ep, es, hp⟩ := hp
    obtain ⟨v', fu, pv', t⟩ := place_look (hr.stp s1).env em ep es
    cases pv.det pv'
    cases t with
    | leaf r => exact (kk.stp hr.good s1).leaf s1.good hp r⟩
/-- list(PATH) of settled things -/
def dListP (k : Nat) (wp : WP) : WE := fun x ρ P => wp x ρ fun p path => atSto k ρ fun m => ∃ (tr : T) (ds : List PyData), m p = some tr ∧ tr.sub path = some (.node (ds.map .leaf)) ∧ P (.node (ds.map .leaf))
theorem d_listP (hm : X.mg "list" = none) (h : PE X e (pOf X.K X.mg E wp)) (hg : Gl X "list" := by rfl) (he : starEach [e] X.env = (false, eval e X.env) :: starEach [] X.env := by rfl) (hpl : (backTo pos (starEach [] X.env)).any (·.1) = false := by rfl) :
    PE X (.Call (.Name "list" p) [e] [] pos) (tOf X.K X.mg E (dListP k wp)) := PE.of (pe_callTy call_list_of hg hm (by decide +kernel) (pa_cons h pa_nil he) (by decide) (by decide) he hpl) fun σ H Q ⟨b, B, G, ρ, xp, P, p, hr, kk⟩ =>
  ⟨b, B, G, ρ, xp, _, p, hr, fun G1 H1 p path v hp s1 pv => by
    obtain ⟨m, em, tr, ds, ep, es, hp⟩ := hp
    have hr1 := hr.stp s1
    obtain ⟨v', fu, pv', t⟩ := place_look hr1.env em ep es
    cases pv.det pv'
    cases t with
    | node hq gq bq rr nq =>
      rename_i q fq vs
      exact ⟨q, vs, rfl, .inl (.inl (.inl hq)), fun a ha => new_lst hr1.good rr.toRp hp (kk.stp hr.good s1) ha⟩⟩
/-! ### methods of settled things, the receiver and the arguments may change the store -/
/-- e.f of a settled thing -/
def xFld (C : Addr) (ks : List Str) (n : Nat) (we : XE) : XE := fun x ρ P => we x ρ fun t ρ1 => ∃ ds, t.dat = insD C (ks.zip ds) ∧ ks.length = ds.length ∧ ∃ d, ds[n]? = some d ∧ P (.leaf d) ρ1
theorem x_fld (n : Nat) (cf : CF X.K C ks) (h : PE X e (xOf X.K X.mg E we)) (hf : fix f ks = some n := by decide) (hb : attributeBase e f X.env (eval e X.env) = eval e X.env := by rfl) : PE X (.Attribute e f pos) (xOf X.K X.mg E (xFld C ks n we)) := PE.imp (pe_fld h hb) fun σ H Q ⟨b, F, G0, H0, G, ρ, xq, P, p, hr, kk⟩ => by
  refine xOf_D (fun d0 ρ1 => ∃ ds, d0 = insD C (ks.zip ds) ∧ ks.length = ds.length ∧ ∃ d, ds[n]? = some d ∧ P (.leaf d) ρ1) p hr fun ρ1 G1 H1 v d0 hp hr1 r => ?_
  obtain ⟨ds, rfl, hl, d, ed, hp⟩ := hp
  obtain ⟨a, dx, us, rfl, h1, _, h2, h3⟩ := rp_ins r
  rw [zip_fst hl] at h2
  rw [zip_snd hl] at h3
  obtain ⟨v, ev, rv⟩ := h3.get ed
  exact ⟨a, C, dx, us, v, rfl, hr1.good.ex _ _ h1, cf.cls, cf.na f (fix_mem hf).1, by rw [fix_lookup, h2, hf]; exact ev, kk.leaf hr1 hp rv⟩
/-- an object of the store that an expression tells settles -/
def xFix (k : Nat) (we : XE) : XE := fun x ρ P => we x ρ fun t ρ1 => ∃ p tr, t = .leaf (objD p) ∧ atSto k ρ1 fun m => m p = some tr ∧ P (.leaf tr.dat) (ρ1.set k (some (.sto (stdel m p))))
theorem x_fix (k : Nat) (h : PE X e (xOf X.K X.mg E we)) : PE X e (xOf X.K X.mg E (xFix k we)) := PE.imp h fun σ H Q ⟨b, F, G0, H0, G, ρ, xq, P, p, hr, kk⟩ =>
  ⟨b, F, G0, H0, G, ρ, xq, _, p, hr, fun ρ1 G1 H1 v t fv hp e1 s1 E1 tr hB => by
    obtain ⟨p, tr0, rfl, m, em, ep, hp⟩ := hp
    cases tr with
    | leaf r =>
      cases rp_obj r
      obtain ⟨fp, tp, hpf, hB2, E2⟩ := E1.env.take_sto em ep
      obtain ⟨g, ex, rr, E3⟩ := E2.settle s1.good tp
      exact kk _ _ H1 _ _ [] hp (e1.trans ex) (stp_addF s1 g ex hB2) E3.envT0 (.leaf rr) fun _ z => nomatch z⟩
end
end Dd
/-! A module's written tuple of texts. -/
namespace Dd
open PySem L2
structure ConT (K : PySem.W.Frag) (mg : Str → Option Value) (x : Str) (zs : List Str) : Prop where
  ex : ∃ d, mg x = some (.ref d) ∧ ∃ (o : Obj) (its : Array Value) (n : Nat), K.lookup d = some o ∧ o.cls = .type "tuple" ∧ o.data = .seq its n ∧ its.size ≤ sizeLine ∧ Vals (zs.map V.str) its.toList
def dInTc (neg : Bool) (zs : List Str) (wa : WE) : WE := fun x ρ P => wa x ρ (asS fun z => P (boo (neg != decide (z ∈ zs))))
theorem inV_strs {z : Str} : ∀ zs : List Str, inV (.str z) (zs.map V.str) = decide (z ∈ zs)
  | [] => rfl
  | y :: ys => by
    have e := inV_strs (z := z) ys
    unfold inV at e ⊢
    rw [List.map_cons, List.any_cons, e]
    by_cases c : z = y
    · subst c
      simp [eqV]
    · have c' : ¬ y = z := fun q => c q.symm
      simp [eqV, c, c']
theorem flat_strV : ∀ zs : List Str, (zs.map V.str).all flatV = true
  | [] => rfl
  | _ :: ys => by
    rw [List.map_cons, List.all_cons, flat_strV ys]
    rfl
section
variable {X : Cx} {E : SX} {e : Expr} {wa : WE} {pos p2 : Pos} {x : Str} {zs : List Str} {neg : Bool}
theorem tup_core {K : PySem.W.Frag} {mg : Str → Option Value} {d : Addr} (hT : ∃ (o : Obj) (its : Array Value) (n : Nat), K.lookup d = some o ∧ o.cls = .type "tuple" ∧ o.data = .seq its n ∧ its.size ≤ sizeLine ∧ Vals (zs.map V.str) its.toList) {σ : L2.St} {H : Hp} {Q : VK} (q : tOf K mg E (dInTc neg zs wa) σ H Q) :
    tOp (rIn K neg) (tOf K mg E wa) (tC (.ref d)) σ H Q := by
  obtain ⟨b, B, G, ρ, xp, P, p, hr, k⟩ := q
  refine ⟨b, B, G, ρ, xp, _, p, hr, fun G1 H1 v t fp ht s1 tr fr => ?_⟩
  unfold asS at ht
  split at ht
  · rename_i z
    cases tr with
    | leaf r =>
      cases r
      refine ⟨d, zs.map V.str, rfl, .inr (.inr hT), rfl, flat_strV zs, ?_⟩
      rw [inV_strs]
      have e : (if neg = true then !decide (z ∈ zs) else decide (z ∈ zs)) = (neg != decide (z ∈ zs)) := by cases neg <;> cases decide (z ∈ zs) <;> rfl
      rw [e]
      exact (k.stp hr.good s1).leaf s1.good ht (.bl _)
  · exact ht.elim
theorem tst_core {r : R2} {ta tb : TE} {w : WE} (hc : ∀ (σ : L2.St) (H : Hp) (Q : VK), tOf X.K X.mg E w σ H Q → tOp r ta tb σ H Q) (σ : L2.St) (H : Hp) (Q : Bool → Hp → Prop) (q : ttOf X.K X.mg E (dTst w) σ H Q) : tTest (tOp r ta tb) σ H Q := by
  obtain ⟨b, B, G, ρ, xp, P, p, hr, k⟩ := q
  refine hc σ H _ ⟨b, B, G, ρ, xp, _, p, hr, fun G1 H1 v t fp ht s1 tr fr => ?_⟩
  dsimp only at ht
  split at ht
  · cases tr with
    | leaf r =>
      cases r
      exact ⟨_, rfl, k G1 H1 _ ht s1⟩
  · exact ht.elim
theorem t_notInTc (C : ConT X.K X.mg x zs) (ha : PE X e (tOf X.K X.mg E wa)) (hg : Gl X x := by rfl) (hdb : (x == ("__debug__" : Str)) = false := by decide) (hmk : behindInMarks .NotIn (.Name x p2) = false := by rfl) : PT X (.Compare e [.NotIn] [.Name x p2] pos) (ttOf X.K X.mg E (dTst (dInTc true zs wa))) := by
  obtain ⟨d, hm, hT⟩ := C.ex
  exact PT.of (pt_cmpR op_notIn_seq ha (pe_glob (v := .ref d) hg hm rfl hdb) hmk) (tst_core fun σ H Q q => tup_core hT q)
end
end Dd
/-! Members, stands, societies, houses as data and as trees. -/
namespace Dd
open PySem L2
abbrev ks_Member : List Str := ["years", "purse", "alive"]
abbrev ks_Stand : List Str := ["by_age", "only_tied", "many", "people", "pairs", "hand", "history"]
abbrev ks_Society : List Str := ["stands", "done", "undone"]
abbrev ks_House : List Str := ["kept"]
theorem Cal.mkA {P : Program} {w : World} {K : PySem.W.Frag} {mg : Str → Option Value} {base : Heap} {x y qual : Str} {ps : List Str} {k : Nat} {S : Spec} {st : Stmt} {f : Addr} {fd : FuncData} (F : Fun K y qual st f fd) (h : FnOk P w K mg base CX0 k f fd ps (spOf K mg S)) (m : mg x = some (.ref f)) (b : Binds K fd ps []) : Cal P w K mg base x ps k S := ⟨f, fd, h, m, F.kp, b⟩
/-! ### what stands -/
structure Mem where
  years : Int
  purse : Int
  alive : Bool
structure Std where
  byAge : List Int
  only : Bool
  many : Int
  people : List (Str × Mem)
  pairs : List (Str × Str)
  hand : List (Str × Str × Int)
  history : List PyData
def valG {κ α : Type} [DecidableEq κ] (fs : List (κ × α)) (k : κ) : Option α := (fs.find? fun kv => decide (kv.1 = k)).map (·.2)
theorem valG_nil {κ α : Type} [DecidableEq κ] {k : κ} : valG ([] : List (κ × α)) k = none := rfl
theorem valG_cons {κ α : Type} [DecidableEq κ] {p : κ × α} {fs : List (κ × α)} {k : κ} : valG (p :: fs) k = if p.1 = k then some p.2 else valG fs k := by
  unfold valG
  rw [List.find?_cons]
  by_cases c : p.1 = k
  · rw [if_pos c, decide_eq_true c]
    rfl
  · rw [if_neg c, decide_eq_false c]
theorem valP_map {α : Type} (g : α → PyData) (k : Str) : ∀ fs : List (Str × α), valP (fs.map fun p => ((.inr p.1 : Key), g p.2)) (.inr k) = (valG fs k).map g
  | [] => rfl
  | p :: fs => by
    rw [List.map_cons, valP_cons, valG_cons, valP_map g k fs]
    by_cases c : p.1 = k
    · rw [if_pos c, if_pos (by rw [c])]
      rfl
    · rw [if_neg c, if_neg fun z => c (Sum.inr.inj z)]
def memT (C : Addr) (m : Mem) : T := .ins C ks_Member [int m.years, int m.purse, boo m.alive]
def memD (C : Addr) (m : Mem) : PyData := (memT C m).dat
def pplD (C : Addr) (ps : List (Str × Mem)) : PyData := dicD (ps.map fun p => ((.inr p.1 : Key), memD C p.2))
def pplT (C : Addr) (ps : List (Str × Mem)) : T := .dic (ps.map fun p => (.inr p.1 : Key)) (ps.map fun p => memT C p.2)
def pairK (p : Str × Str) : List Key := [.inr p.1, .inr p.2]
def prsD (ps : List (Str × Str)) : PyData := diTD (ps.map fun p => (pairK p, .bool true))
def prsT (ps : List (Str × Str)) : T := .diT (ps.map pairK) (ps.map fun _ => boo true)
def betD (b : Str × Str × Int) : PyData := .tuple [.str b.1, .str b.2.1, .int b.2.2]
def standT (CM CS : Addr) (s : Std) : T := .ins CS ks_Stand [nodeI s.byAge, boo s.only, int s.many, pplT CM s.people, prsT s.pairs, .node (s.hand.map fun b => .leaf (betD b)), .node (s.history.map .leaf)]
def standD (CM CS : Addr) (s : Std) : PyData := (standT CM CS s).dat
theorem dat_diT {ks : List (List Key)} {ts : List T} : (T.diT ks ts).dat = diTD (ks.zip (ts.map T.dat)) := by
  show diTD (ks.zip (T.dats ts)) = _
  rw [dats_eq]
theorem pplT_dat (C : Addr) (ps : List (Str × Mem)) : (pplT C ps).dat = pplD C ps := by
  unfold pplT pplD
  rw [dat_dic, List.map_map, List.zip_map']
  rfl
theorem prsT_dat (ps : List (Str × Str)) : (prsT ps).dat = prsD ps := by
  unfold prsT prsD
  rw [dat_diT, List.map_map, List.zip_map']
  rfl
theorem leaves_dat (ds : List PyData) : (T.node (ds.map .leaf)).dat = .list ds := by
  show PyData.list (T.dats _) = _
  rw [dats_leaf]
def betsD (hs : List (Str × Str × Int)) : List PyData := hs.map betD
theorem betsT_dat (hs : List (Str × Str × Int)) : (T.node (hs.map fun b => .leaf (betD b))).dat = .list (betsD hs) := by
  rw [dat_eq, List.map_map]
  rfl
section
variable {CM CS : Addr} {s : Std} {m : Mem} {P : T → Prop}
theorem fs_Stand_0 : asF CS ks_Stand 0 P (.leaf (standD CM CS s)) = P (.leaf (.list (intsD s.byAge))) := (asF_ins (u := nodeI s.byAge) rfl rfl).trans (by rw [nodeI_dat])
theorem fs_Stand_1 : asF CS ks_Stand 1 P (.leaf (standD CM CS s)) = P (boo s.only) := asF_ins (u := boo s.only) rfl rfl
theorem fs_Stand_2 : asF CS ks_Stand 2 P (.leaf (standD CM CS s)) = P (int s.many) := asF_ins (u := int s.many) rfl rfl
theorem fs_Stand_3 : asF CS ks_Stand 3 P (.leaf (standD CM CS s)) = P (.leaf (pplD CM s.people)) := (asF_ins (u := pplT CM s.people) rfl rfl).trans (by rw [pplT_dat])
theorem fs_Stand_4 : asF CS ks_Stand 4 P (.leaf (standD CM CS s)) = P (.leaf (prsD s.pairs)) := (asF_ins (u := prsT s.pairs) rfl rfl).trans (by rw [prsT_dat])
theorem fs_Stand_5 : asF CS ks_Stand 5 P (.leaf (standD CM CS s)) = P (.leaf (.list (betsD s.hand))) := (asF_ins (u := .node (s.hand.map fun b => .leaf (betD b))) rfl rfl).trans (by rw [betsT_dat])
theorem fs_Stand_6 : asF CS ks_Stand 6 P (.leaf (standD CM CS s)) = P (.leaf (.list s.history)) := (asF_ins (u := .node (s.history.map .leaf)) rfl rfl).trans (by rw [leaves_dat])
theorem fs_Member_0 : asF CM ks_Member 0 P (.leaf (memD CM m)) = P (int m.years) := asF_ins (u := int m.years) rfl rfl
theorem fs_Member_1 : asF CM ks_Member 1 P (.leaf (memD CM m)) = P (int m.purse) := asF_ins (u := int m.purse) rfl rfl
theorem fs_Member_2 : asF CM ks_Member 2 P (.leaf (memD CM m)) = P (boo m.alive) := asF_ins (u := boo m.alive) rfl rfl
end
/-! ### a method of a settled thing -/
def asM (C : Addr) (ks : List Str) (Q : PyData → Prop) (t : T) : Prop := ∃ ds0, t.dat = insD C (ks.zip ds0) ∧ ks.length = ds0.length ∧ Q t.dat
theorem e_dmeth {C : Addr} {ks : List Str} {S : Spec} {wr : WE} {ws : WA} {x : XP} {ρ : Rho} {P : T → Prop} : dMeth C ks S wr ws x ρ P = wr x ρ (asM C ks fun d => ws x ρ fun ds => S (d :: ds) P x) := rfl
theorem asM_ins {C : Addr} {ks : List Str} {ts : List T} {Q : PyData → Prop} (h : ks.length = ts.length) : asM C ks Q (.leaf (T.ins C ks ts).dat) = Q (T.ins C ks ts).dat := propext ⟨fun ⟨_, _, _, q⟩ => q, fun q => ⟨T.dats ts, rfl, by rw [dats_eq, List.length_map]; exact h, q⟩⟩
theorem asM_stand {CM CS : Addr} {s : Std} {Q : PyData → Prop} : asM CS ks_Stand Q (.leaf (standD CM CS s)) = Q (standD CM CS s) := asM_ins rfl
theorem asM_mem {C : Addr} {m : Mem} {Q : PyData → Prop} : asM C ks_Member Q (.leaf (memD C m)) = Q (memD C m) := asM_ins rfl
/-! ### dicts asked -/
theorem e_pplX {C : Addr} {ps : List (Str × Mem)} {P : List (Key × PyData) → Prop} : (∃ fs, (T.leaf (pplD C ps)).dat = dicD fs ∧ P fs) = P (ps.map fun p => ((.inr p.1 : Key), memD C p.2)) := e_dicX
theorem e_pplY {C : Addr} {ps : List (Str × Mem)} {P : List (Key × PyData) → Prop} : (∃ fs, pplD C ps = dicD fs ∧ P fs) = P (ps.map fun p => ((.inr p.1 : Key), memD C p.2)) := e_dicX
theorem e_strK {s : Str} {P : Key → Prop} : (∃ k, (T.leaf (.str s)).dat = keyD k ∧ P k) = P (.inr s) := e_keyS
theorem inD_ppl {C : Addr} {ps : List (Str × Mem)} {n : Str} {P : Bool → Prop} : inDS (.str n) (pplD C ps) P = P (valG ps n).isSome := propext ⟨fun h => (by
  rcases h with ⟨fs, k, e, ek, hp⟩ | ⟨fs, ks, e, ek, hp⟩
  · cases dicD_inj e
    cases keyD_inj (k := .inr n) ek
    rw [valP_map, Option.isSome_map] at hp
    exact hp
  · cases ek), fun h => .inl ⟨_, .inr n, rfl, rfl, by rw [valP_map, Option.isSome_map]; exact h⟩⟩
theorem valP_prs (a b : Str) : ∀ ps : List (Str × Str), (valP (ps.map fun p => (pairK p, PyData.bool true)) (pairK (a, b))).isSome = decide ((a, b) ∈ ps)
  | [] => rfl
  | p :: ps => by
    rw [List.map_cons, valP_cons]
    by_cases c : p = (a, b)
    · subst c
      rw [if_pos rfl]
      simp
    · rw [if_neg, valP_prs a b ps]
      · have : ¬ (a, b) = p := fun z => c z.symm
        simp [this]
      · intro z
        refine c (Prod.ext ?_ ?_)
        · have := List.head_eq_of_cons_eq z
          exact Sum.inr.inj this
        · have := List.head_eq_of_cons_eq (List.tail_eq_of_cons_eq z)
          exact Sum.inr.inj this
theorem inD_prs {ps : List (Str × Str)} {a b : Str} {P : Bool → Prop} : inDS (.tuple [.str a, .str b]) (prsD ps) P = P (decide ((a, b) ∈ ps)) := propext ⟨fun h => by
  rcases h with ⟨fs, k, e, ek, hp⟩ | ⟨fs, ks, e, ek, hp⟩
  · cases k <;> cases ek
  · cases diTD_inj e
    have ek' : (PyData.tuple ((pairK (a, b)).map keyD)) = .tuple (ks.map keyD) := ek
    have := keyDs_inj (PyData.tuple.inj ek')
    subst this
    rw [valP_prs] at hp
    exact hp, fun h => .inr ⟨_, pairK (a, b), rfl, rfl, by rw [valP_prs]; exact h⟩⟩
theorem e_inDT {wa wb : WE} {x : XP} {ρ : Rho} {P : Bool → Prop} : dInDT wa wb x ρ P = wa x ρ fun t => wb x ρ fun u => inDS t.dat u.dat P := rfl
theorem e_inD {wa wb : WE} {x : XP} {ρ : Rho} {P : T → Prop} : dInD wa wb x ρ P = wa x ρ fun t => wb x ρ fun u => inDS t.dat u.dat fun c => P (boo c) := rfl
theorem e_notInDT {wa wb : WE} {x : XP} {ρ : Rho} {P : Bool → Prop} : dNotInDT wa wb x ρ P = wa x ρ fun t => wb x ρ fun u => inDS t.dat u.dat fun c => P (!c) := rfl
/-! ### dicts walked -/
theorem dicD_ne_diTD {fs : List (Key × PyData)} {gs : List (List Key × PyData)} (h : dicD fs = diTD gs) : False := by
  simp only [PyData.dict.injEq, List.cons.injEq, Prod.mk.injEq, reduceCtorEq, and_false, false_and] at h
theorem keys_ppl {C : Addr} {ps : List (Str × Mem)} {Q : List PyData → Prop} : (∃ ds, keysS (pplD C ps) ds ∧ Q ds) = Q (strsD (ps.map (·.1))) := propext ⟨fun ⟨ds, h, q⟩ => by
  rcases h with ⟨fs, e, rfl⟩ | ⟨e, rfl⟩
  · cases dicD_inj e
    rw [List.map_map] at q
    unfold strsD
    rw [List.map_map]
    exact q
  · exact (dicD_ne_diTD e).elim, fun q => ⟨_, .inl ⟨_, rfl, rfl⟩, by
    unfold strsD at q
    rw [List.map_map] at q
    rw [List.map_map]
    exact q⟩⟩
theorem keys_prs0 {Q : List PyData → Prop} : (∃ ds, keysS (prsD []) ds ∧ Q ds) = Q [] := propext ⟨fun ⟨ds, h, q⟩ => by
  rcases h with ⟨fs, e, rfl⟩ | ⟨e, rfl⟩
  · exact (dicD_ne_diTD e.symm).elim
  · exact q, fun q => ⟨[], .inr ⟨rfl, rfl⟩, q⟩⟩
theorem items_ppl {C : Addr} {ps : List (Str × Mem)} {Q : List PyData → Prop} : (∃ ds, itemsS (pplD C ps) ds ∧ Q ds) = Q (ps.map fun p => .tuple [.str p.1, memD C p.2]) := propext ⟨fun ⟨ds, h, q⟩ => by
  obtain ⟨fs, e, rfl⟩ := h
  cases dicD_inj e
  rw [List.map_map] at q
  exact q, fun q => ⟨_, ⟨_, rfl, rfl⟩, by rw [List.map_map]; exact q⟩⟩
theorem e_iSem {Sem : PyData → List PyData → Prop} {w : WE} {x : XP} {ρ : Rho} {P : List PyData → Prop} : iSem Sem w x ρ P = w x ρ fun t => ∃ ds, Sem t.dat ds ∧ P ds := rfl
/-! ### flat things -/
theorem fl2_I : ∀ ns : List Int, tl2s (ns.map fun i => T.leaf (.int i)) = true
  | [] => rfl
  | n :: ns => by
    show (tl2 _ && tl2s _) = true
    rw [fl2_I ns]
    rfl
theorem tl2_nodeI (ns : List Int) : tl2 (nodeI ns) = true := fl2_I ns
theorem tl2s_all : ∀ ts : List T, (∀ t, t ∈ ts → tl2 t = true) → tl2s ts = true
  | [], _ => rfl
  | t :: ts, h => by
    show (tl2 _ && tl2s _) = true
    rw [h t (List.mem_cons_self ..), tl2s_all ts fun u m => h u (List.mem_cons_of_mem _ m)]
    rfl
theorem tl2_strs (ns : List Str) : tl2 (.node ((strsD ns).map .leaf)) = true := tl2s_all _ fun t m => by
  obtain ⟨d, hd, rfl⟩ := List.mem_map.mp m
  unfold strsD at hd
  obtain ⟨n, _, rfl⟩ := List.mem_map.mp hd
  rfl
theorem tl2_i {i : Int} : tl2 (.leaf (.int i)) = true := rfl
theorem tl2_b {i : Bool} : tl2 (.leaf (.bool i)) = true := rfl
theorem tl2_s {i : Str} : tl2 (.leaf (.str i)) = true := rfl
theorem tl2_n : tl2 (.leaf .none) = true := rfl
theorem tl2_o {a : Addr} : tl2 (.leaf (objD a)) = true := rfl
theorem e_bor2 {w : WE} {x : XP} {ρ : Rho} {P : T → Prop} : dBor2 w x ρ P = w x (frzR ρ) fun t => tl2 t = true ∧ P t := rfl
theorem e_borT2 {w : WT} {x : XP} {ρ : Rho} {P : Bool → Prop} : dBorT2 w x ρ P = w x (frzR ρ) P := rfl
theorem valG_mem {κ α : Type} [DecidableEq κ] : ∀ {ps : List (κ × α)} {p : κ × α}, (ps.map (·.1)).Nodup → p ∈ ps → valG ps p.1 = some p.2
  | q :: ps, p, nd, h => by
    rw [List.map_cons, List.nodup_cons] at nd
    rw [valG_cons]
    rcases List.mem_cons.mp h with z | z
    · rw [if_pos (by rw [z]), z]
    · rw [if_neg fun c => nd.1 (List.mem_map.mpr ⟨p, z, c.symm⟩)]
      exact valG_mem nd.2 z
theorem valG_none {κ α : Type} [DecidableEq κ] {ps : List (κ × α)} {k : κ} (h : valG ps k = none) : k ∉ ps.map (·.1) := by
  induction ps with
  | nil => exact fun z => nomatch z
  | cons p ps ih =>
    rw [valG_cons] at h
    by_cases c : p.1 = k
    · rw [if_pos c] at h; cases h
    · rw [if_neg c] at h
      rw [List.map_cons]
      intro z
      rcases List.mem_cons.mp z with y | y
      · exact c y.symm
      · exact ih h y
theorem asL_lv {ds : List PyData} {P : List PyData → Prop} : asL P (.node (ds.map .leaf)) = P ds := by
  unfold asL
  rw [leaves_dat]
end Dd
/-! Readings of what changes stands. -/
namespace Dd
open PySem L2
section
variable {k n : Nat} {C : Addr} {ks : List Str} {wp : WP} {wk w : WE} {we : XE} {wr : XE} {wa : XA} {x : XP} {xx : Rho → XP} {ρ : Rho} {Ct : Ctl} {g : Int → Int → Int}
theorem e_pK {P : Addr → List Nat → Prop} : dPK k wp wk x ρ P = wp x ρ fun p path => wk x ρ fun tk => ∃ ky : Key, tk.dat = keyD ky ∧ atSto k ρ fun m => ∃ tr, m p = some tr ∧ ∃ ks ts, tr.sub path = some (.dic ks ts) ∧ ∃ n, fixK ky ks = some n ∧ P p (path ++ [n]) := by
  unfold dPK
  congr
  funext p path
  refine congrArg (wk x ρ) (funext fun tk => congrArg Exists (funext fun ky => congrArg (And _) (congrArg (atSto k ρ) (funext fun m => propext ⟨fun ⟨tr, ks, ts, n, a, b, c, d⟩ => ⟨tr, a, ks, ts, b, n, c, d⟩, fun ⟨tr, a, ks, ts, b, n, c, d⟩ => ⟨tr, ks, ts, n, a, b, c, d⟩⟩))))
theorem e_setD : dSetD k wp wk we Ct ρ = we Ct.xc ρ fun t ρ1 => wp (Ct.xc ρ1) ρ1 fun p path => wk (Ct.xc ρ1) ρ1 fun tk => ∃ ky : Key, tk.dat = keyD ky ∧ atSto k ρ1 fun m => ∃ tr, m p = some tr ∧ ∃ ks ts, tr.sub path = some (.dic ks ts) ∧ ky ∉ ks ∧ ks.length < lim ∧
    Ct.nx (ρ1.set k (some (.sto (stput m p (tr.put path (.dic (ks ++ [ky]) (ts ++ [t]))))))) := by
  unfold dSetD
  congr
  funext t ρ1
  congr
  funext p path
  refine congrArg (wk (Ct.xc ρ1) ρ1) (funext fun tk => congrArg Exists (funext fun ky => congrArg (And _) (congrArg (atSto k ρ1) (funext fun m => propext ⟨fun ⟨tr, ks, ts, a, b, c⟩ => ⟨tr, a, ks, ts, b, c⟩, fun ⟨tr, a, ks, ts, b, c⟩ => ⟨tr, ks, ts, a, b, c⟩⟩))))
theorem e_augF : dAugF g k C ks n wp w Ct ρ = wp (Ct.xc ρ) ρ fun p path => atSto k ρ fun m => ∃ tr, m p = some tr ∧ ∃ ts, tr.sub path = some (.ins C ks ts) ∧ ∃ a, ts[n]? = some (int a) ∧
    w (Ct.xc ρ) ρ (asI fun c => Ct.nx (ρ.set k (some (.sto (stput m p (tr.put path (.ins C ks (ts.set n (int (g a c)))))))))) := by
  unfold dAugF
  congr
  funext p path
  refine congrArg (atSto k ρ) (funext fun m => propext ⟨fun ⟨tr, ts, a, h1, h2, h3⟩ => ⟨tr, h1, ts, h2, a, h3⟩, fun ⟨tr, h1, ts, h2, a, h3⟩ => ⟨tr, ts, a, h1, h2, h3⟩⟩)
theorem e_pl {P : T → Prop} : dPl k wp x ρ P = wp x ρ fun p path => atSto k ρ fun m => ∃ tr, m p = some tr ∧ ∃ d, tr.sub path = some (.leaf d) ∧ P (.leaf d) := by
  unfold dPl
  congr
  funext p path
  refine congrArg (atSto k ρ) (funext fun m => propext ⟨fun ⟨tr, d, a, b, c⟩ => ⟨tr, a, d, b, c⟩, fun ⟨tr, a, d, b, c⟩ => ⟨tr, d, a, b, c⟩⟩)
theorem e_listP {P : T → Prop} : dListP k wp x ρ P = wp x ρ fun p path => atSto k ρ fun m => ∃ tr, m p = some tr ∧ ∃ ds : List PyData, tr.sub path = some (.node (ds.map .leaf)) ∧ P (.node (ds.map .leaf)) := by
  unfold dListP
  congr
  funext p path
  refine congrArg (atSto k ρ) (funext fun m => propext ⟨fun ⟨tr, d, a, b, c⟩ => ⟨tr, a, d, b, c⟩, fun ⟨tr, a, d, b, c⟩ => ⟨tr, d, a, b, c⟩⟩)
def asFX (C : Addr) (ks : List Str) (n : Nat) (P : T → Rho → Prop) (t : T) (ρ : Rho) : Prop := ∃ ds, t.dat = insD C (ks.zip ds) ∧ ks.length = ds.length ∧ ∃ d, ds[n]? = some d ∧ P (.leaf d) ρ
theorem e_xfld {P : T → Rho → Prop} : xFld C ks n we xx ρ P = we xx ρ (asFX C ks n P) := rfl
theorem asFX_asF {P : T → Rho → Prop} {t : T} : asFX C ks n P t ρ = asF C ks n (fun u => P u ρ) t := rfl
theorem e_fix {P : T → Rho → Prop} : xFix k we xx ρ P = we xx ρ fun t ρ1 => ∃ p, t = .leaf (objD p) ∧ atSto k ρ1 fun m => ∃ tr, m p = some tr ∧ P (.leaf tr.dat) (ρ1.set k (some (.sto (stdel m p)))) := by
  unfold xFix
  congr
  funext t ρ1
  exact propext ⟨fun ⟨p, tr, e, m, em, ep, h⟩ => ⟨p, e, m, em, tr, ep, h⟩, fun ⟨p, e, m, em, tr, ep, h⟩ => ⟨p, tr, e, m, em, ep, h⟩⟩
theorem leaf_obj {p q : Addr} : (T.leaf (objD p) = T.leaf (objD q)) = (p = q) := propext ⟨fun h => by
  have := T.leaf.inj h
  rw [objD_eq] at this
  exact this, fun h => by rw [h]⟩
theorem e_retO {k i : Nat} : dRetO k i Ct ρ = ∃ p, ρ[i]? = some (some (.leaf (objD p))) ∧ atSto k ρ fun m => ∃ t, m p = some t ∧ Ct.rt t := propext ⟨fun ⟨p, t, a, m, b, c, d⟩ => ⟨p, a, m, b, t, c, d⟩, fun ⟨p, a, m, b, t, c, d⟩ => ⟨p, t, a, m, b, c, d⟩⟩
theorem e_fixS {k i : Nat} {w : WS} : dFix k i w Ct ρ = ∃ p, ρ[i]? = some (some (.leaf (objD p))) ∧ i ≠ k ∧ atSto k ρ fun m => ∃ t, m p = some t ∧ w Ct ((ρ.set k (some (.sto (stdel m p)))).set i (some (.leaf t.dat))) := propext ⟨fun ⟨p, t, a, h, m, b, c, d⟩ => ⟨p, a, h, m, b, t, c, d⟩, fun ⟨p, a, h, m, b, t, c, d⟩ => ⟨p, t, a, h, m, b, c, d⟩⟩
end
theorem set_selfL {α : Type} {l : List α} {i : Nat} {v : α} (e : l[i]? = some v) : l.set i v = l := by
  refine List.ext_getElem? fun j => ?_
  rw [List.getElem?_set]
  split
  · rename_i c
    subst c
    split
    · exact e.symm
    · rename_i c
      exact absurd (List.getElem?_eq_some_iff.mp e).1 c
  · rfl
/-! ### trees of stands -/
section
variable {CM CS C : Addr} {ps : List (Str × Mem)} {n : Nat} {r : List Nat} {u t : T}
theorem sub_dic {ks : List Key} {ts : List T} : (T.dic ks ts).sub (n :: r) = (ts[n]?).elim none fun u => u.sub r := by
  show (match ts[n]? with | some u => u.sub r | none => none) = _
  cases ts[n]? <;> rfl
theorem put_dic {ks : List Key} {ts : List T} : (T.dic ks ts).put (n :: r) u = (ts[n]?).elim (T.dic ks ts) fun x => .dic ks (ts.set n (x.put r u)) := by
  show (match ts[n]? with | some x => T.dic ks (ts.set n (x.put r u)) | none => _) = _
  cases ts[n]? <;> rfl
theorem sub_node {ts : List T} : (T.node ts).sub (n :: r) = (ts[n]?).elim none fun u => u.sub r := by
  show (match ts[n]? with | some u => u.sub r | none => none) = _
  cases ts[n]? <;> rfl
theorem sub_ppl : (pplT C ps).sub (n :: r) = (ps[n]?).elim none fun p => (memT C p.2).sub r := by
  unfold pplT
  rw [sub_dic, List.getElem?_map]
  cases ps[n]? <;> rfl
theorem put_ppl {m : Mem} (p : Str × Mem) (e : ps[n]? = some p) (h : (memT C p.2).put r u = memT C m) : (pplT C ps).put (n :: r) u = pplT C (ps.set n (p.1, m)) := by
  unfold pplT
  rw [put_dic, List.getElem?_map, e]
  show T.dic _ ((ps.map _).set n _) = _
  rw [h, List.map_set, List.map_set]
  congr 1
  exact (set_selfL (by rw [List.getElem?_map, e]; rfl)).symm
theorem ppl_dic {ks : List Key} {ts : List T} : (pplT C ps = T.dic ks ts) = ((ps.map fun p => (.inr p.1 : Key)) = ks ∧ (ps.map fun p => memT C p.2) = ts) := propext ⟨fun h => by
  unfold pplT at h
  exact ⟨(T.dic.inj h).1, (T.dic.inj h).2⟩, fun ⟨h1, h2⟩ => by
  unfold pplT
  rw [h1, h2]⟩
theorem mem_ins {C' : Addr} {m : Mem} {ks : List Str} {ts : List T} : (memT C m = T.ins C' ks ts) = (C = C' ∧ ks_Member = ks ∧ [int m.years, int m.purse, boo m.alive] = ts) := propext ⟨fun h => by
  unfold memT at h
  exact T.ins.inj h, fun ⟨h1, h2, h3⟩ => by
  unfold memT
  rw [h1, h2, h3]⟩
theorem fold_ppl {s : Str} {m : Mem} : T.dic ((ps.map fun p => (.inr p.1 : Key)) ++ [.inr s]) ((ps.map fun p => memT C p.2) ++ [memT C m]) = pplT C (ps ++ [(s, m)]) := by
  unfold pplT
  rw [List.map_append, List.map_append]
  rfl
theorem inr_notin {s : Str} : ((.inr s : Key) ∉ ps.map fun p => (.inr p.1 : Key)) = (s ∉ ps.map (·.1)) := propext ⟨fun h z => by
  obtain ⟨p, hp, e⟩ := List.mem_map.mp z
  exact h (List.mem_map.mpr ⟨p, hp, by rw [e]⟩), fun h z => by
  obtain ⟨p, hp, e⟩ := List.mem_map.mp z
  exact h (List.mem_map.mpr ⟨p, hp, Sum.inr.inj e⟩)⟩
end
theorem forK_of {wi : WI} {wg : WG} {wb : WS} {C : Ctl} {ρ : Rho} (ds : List PyData) (Inv : Nat → Rho → Prop) (hi : ∀ P : List PyData → Prop, P ds → wi (C.xc ρ) ρ P) (h0 : Inv 0 ρ)
    (hs : ∀ (i : Nat) d ρ', ds[i]? = some d → Inv i ρ' → wg d ρ' fun ρ2 => wb { nx := Inv (i + 1), rt := fun _ => False, ct := Inv (i + 1) } ρ2) (hd : ∀ ρ', Inv ds.length ρ' → C.nx ρ') : dForK wi wg wb C ρ := hi _ ⟨Inv, h0, hs, hd⟩
section
variable {CM CS C : Addr} {s : Std} {n : Nat} {r : List Nat} {u : T}
theorem standT_ins {C : Addr} {ks : List Str} {ts : List T} : (standT CM CS s = T.ins C ks ts) = (CS = C ∧ ks_Stand = ks ∧ [nodeI s.byAge, boo s.only, int s.many, pplT CM s.people, prsT s.pairs, .node (s.hand.map fun b => .leaf (betD b)), .node (s.history.map .leaf)] = ts) := propext ⟨fun h => by
  unfold standT at h
  exact T.ins.inj h, fun ⟨h1, h2, h3⟩ => by
  unfold standT
  rw [h1, h2, h3]⟩
theorem sub_stand : (standT CM CS s).sub (n :: r) = ([nodeI s.byAge, boo s.only, int s.many, pplT CM s.people, prsT s.pairs, .node (s.hand.map fun b => .leaf (betD b)), .node (s.history.map .leaf)][n]?).elim none fun u => u.sub r := sub_ins
theorem put_stand : (standT CM CS s).put (n :: r) u = ([nodeI s.byAge, boo s.only, int s.many, pplT CM s.people, prsT s.pairs, .node (s.hand.map fun b => .leaf (betD b)), .node (s.history.map .leaf)][n]?).elim (standT CM CS s) fun x => .ins CS ks_Stand ([nodeI s.byAge, boo s.only, int s.many, pplT CM s.people, prsT s.pairs, .node (s.hand.map fun b => .leaf (betD b)), .node (s.history.map .leaf)].set n (x.put r u)) := put_ins
theorem fold_stand {b : List Int} {o : Bool} {k : Int} {ps : List (Str × Mem)} {pr : List (Str × Str)} {hs : List (Str × Str × Int)} {hi : List PyData} : T.ins CS ks_Stand [nodeI b, boo o, int k, pplT CM ps, prsT pr, .node (hs.map fun b => .leaf (betD b)), .node (hi.map .leaf)] = standT CM CS ⟨b, o, k, ps, pr, hs, hi⟩ := rfl
theorem standT_dat : (standT CM CS s).dat = standD CM CS s := rfl
theorem memT_dat {m : Mem} : (memT C m).dat = memD C m := rfl
end
theorem e_xcS {k : Nat} {P : T → Sto → Prop} {xp : Str → PyData → Sto → Prop} {ρ : Rho} {n : Str} {pl : PyData} : (storeEnds k P xp).xc ρ n pl = ∃ m, ρ[k]? = some (some (.sto m)) ∧ ∃ m', SLe m' m ∧ xp n pl m' := rfl
theorem len_strsD (ns : List Str) : (strsD ns).length = ns.length := List.length_map _
theorem fixK_at {C : Addr} {n : Str} {m : Mem} : ∀ {ps : List (Str × Mem)}, valG ps n = some m → ∃ i, fixK (Sum.inr n : Key) (ps.map fun p => (.inr p.1 : Key)) = some i ∧ ps[i]? = some (n, m)
  | [], h => nomatch h
  | p :: ps, h => by
    rw [valG_cons] at h
    rw [List.map_cons]
    unfold fixK
    by_cases c : p.1 = n
    · rw [if_pos c] at h
      cases h
      exact ⟨0, if_pos (by rw [c]), by rw [← c]; rfl⟩
    · rw [if_neg c] at h
      obtain ⟨i, h1, h2⟩ := fixK_at (C := C) h
      exact ⟨i + 1, by rw [if_neg fun z => c (Sum.inr.inj z), h1]; rfl, h2⟩
def updM (n : Str) (f : Mem → Mem) (p : Str × Mem) : Str × Mem := if p.1 = n then (p.1, f p.2) else p
theorem updM_set {n : Str} {m : Mem} {f : Mem → Mem} : ∀ {ps : List (Str × Mem)} {i : Nat}, (ps.map (·.1)).Nodup → ps[i]? = some (n, m) → ps.map (updM n f) = ps.set i (n, f m)
  | [], _, _, e => nomatch e
  | p :: ps, 0, nd, e => by
    cases e
    rw [List.map_cons, List.nodup_cons] at nd
    rw [List.map_cons, List.set_cons_zero]
    congr 1
    · unfold updM
      rw [if_pos rfl]
    · have : ∀ q, q ∈ ps → updM n f q = q := fun q hq => by
        unfold updM
        rw [if_neg]
        intro c
        exact nd.1 (List.mem_map.mpr ⟨q, hq, c⟩)
      rw [List.map_congr_left this, List.map_id']
  | p :: ps, i + 1, nd, e => by
    rw [List.map_cons, List.nodup_cons] at nd
    rw [List.map_cons, List.set_cons_succ, updM_set nd.2 (by simpa using e)]
    congr 1
    unfold updM
    rw [if_neg]
    intro c
    refine nd.1 (List.mem_map.mpr ⟨(n, m), List.mem_of_getElem? (by simpa using e), c.symm⟩)
end Dd
/-! Societies, houses. -/
namespace Dd
open PySem L2
structure Soc where
  past : List Std
  cur : Std
  done : List PyData
  undone : List (PyData × Std)
def Soc.stands (y : Soc) : List Std := y.past ++ [y.cur]
def stdsD (CM CS : Addr) (l : List Std) : List PyData := l.map (standD CM CS)
def undD (CM CS : Addr) (u : PyData × Std) : PyData := .tuple [u.1, standD CM CS u.2]
def socT (CM CS CY : Addr) (y : Soc) : T := .ins CY ks_Society [.node ((stdsD CM CS y.stands).map .leaf), T.node (y.done.map .leaf), T.node ((y.undone.map (undD CM CS)).map .leaf)]
def socD (CM CS CY : Addr) (y : Soc) : PyData := (socT CM CS CY y).dat
/-- a house: names and where their societies stand -/
def keptD (ks : List (Str × Addr)) : PyData := dicD (ks.map fun p => ((.inr p.1 : Key), objD p.2))
def keptT (ks : List (Str × Addr)) : T := .dic (ks.map fun p => (.inr p.1 : Key)) (ks.map fun p => .leaf (objD p.2))
def houT (CH : Addr) (ks : List (Str × Addr)) : T := .ins CH ks_House [keptT ks]
def houD (CH : Addr) (ks : List (Str × Addr)) : PyData := (houT CH ks).dat
section
variable {CM CS CY CH C : Addr} {y : Soc} {P : T → Prop} {ks : List (Str × Addr)} {n : Nat} {r : List Nat} {u : T} {Q : PyData → Prop}
theorem keptT_dat : (keptT ks).dat = keptD ks := by
  unfold keptT keptD
  rw [dat_dic, List.map_map, List.zip_map']
  rfl
theorem socT_dat : (socT CM CS CY y).dat = socD CM CS CY y := rfl
theorem houT_dat : (houT CH ks).dat = houD CH ks := rfl
theorem fs_Society_0 : asF CY ks_Society 0 P (.leaf (socD CM CS CY y)) = P (.leaf (.list (stdsD CM CS y.stands))) := (asF_ins (u := .node ((stdsD CM CS y.stands).map .leaf)) rfl rfl).trans (by rw [leaves_dat])
theorem fs_Society_1 : asF CY ks_Society 1 P (.leaf (socD CM CS CY y)) = P (.leaf (.list y.done)) := (asF_ins (u := .node (y.done.map .leaf)) rfl rfl).trans (by rw [leaves_dat])
theorem fs_Society_2 : asF CY ks_Society 2 P (.leaf (socD CM CS CY y)) = P (.leaf (.list (y.undone.map (undD CM CS)))) := (asF_ins (u := .node ((y.undone.map (undD CM CS)).map .leaf)) rfl rfl).trans (by rw [leaves_dat])
theorem fs_House_0 : asF CH ks_House 0 P (.leaf (houD CH ks)) = P (.leaf (keptD ks)) := (asF_ins (u := keptT ks) rfl rfl).trans (by rw [keptT_dat])
theorem asM_soc : asM CY ks_Society Q (.leaf (socD CM CS CY y)) = Q (socD CM CS CY y) := asM_ins rfl
theorem asM_hou : asM CH ks_House Q (.leaf (houD CH ks)) = Q (houD CH ks) := asM_ins rfl
theorem socT_ins {kk : List Str} {ts : List T} : (socT CM CS CY y = T.ins C kk ts) = (CY = C ∧ ks_Society = kk ∧ [.node ((stdsD CM CS y.stands).map .leaf), T.node (y.done.map .leaf), T.node ((y.undone.map (undD CM CS)).map .leaf)] = ts) := propext ⟨fun h => by
  unfold socT at h
  exact T.ins.inj h, fun ⟨h1, h2, h3⟩ => by
  unfold socT
  rw [h1, h2, h3]⟩
theorem houT_ins {kk : List Str} {ts : List T} : (houT CH ks = T.ins C kk ts) = (CH = C ∧ ks_House = kk ∧ [keptT ks] = ts) := propext ⟨fun h => by
  unfold houT at h
  exact T.ins.inj h, fun ⟨h1, h2, h3⟩ => by
  unfold houT
  rw [h1, h2, h3]⟩
theorem kept_dic {kk : List Key} {ts : List T} : (keptT ks = T.dic kk ts) = ((ks.map fun p => (.inr p.1 : Key)) = kk ∧ (ks.map fun p => .leaf (objD p.2)) = ts) := propext ⟨fun h => by
  unfold keptT at h
  exact ⟨(T.dic.inj h).1, (T.dic.inj h).2⟩, fun ⟨h1, h2⟩ => by
  unfold keptT
  rw [h1, h2]⟩
theorem sub_soc : (socT CM CS CY y).sub (n :: r) = ([T.node ((stdsD CM CS y.stands).map .leaf), T.node (y.done.map .leaf), T.node ((y.undone.map (undD CM CS)).map .leaf)][n]?).elim none fun u => u.sub r := sub_ins
theorem put_soc : (socT CM CS CY y).put (n :: r) u = ([T.node ((stdsD CM CS y.stands).map .leaf), T.node (y.done.map .leaf), T.node ((y.undone.map (undD CM CS)).map .leaf)][n]?).elim (socT CM CS CY y) fun x => .ins CY ks_Society ([T.node ((stdsD CM CS y.stands).map .leaf), T.node (y.done.map .leaf), T.node ((y.undone.map (undD CM CS)).map .leaf)].set n (x.put r u)) := put_ins
theorem sub_hou : (houT CH ks).sub (n :: r) = ([keptT ks][n]?).elim none fun u => u.sub r := sub_ins
theorem put_hou : (houT CH ks).put (n :: r) u = ([keptT ks][n]?).elim (houT CH ks) fun x => .ins CH ks_House ([keptT ks].set n (x.put r u)) := put_ins
theorem fold_kept {s : Str} {p : Addr} : T.dic ((ks.map fun p => (.inr p.1 : Key)) ++ [.inr s]) ((ks.map fun p => T.leaf (objD p.2)) ++ [.leaf (objD p)]) = keptT (ks ++ [(s, p)]) := by
  unfold keptT
  rw [List.map_append, List.map_append]
  rfl
theorem fold_hou : T.ins CH ks_House [keptT ks] = houT CH ks := rfl
theorem inD_kept {n : Str} {P : Bool → Prop} : inDS (.str n) (keptD ks) P = P (valG ks n).isSome := propext ⟨fun h => (by
  rcases h with ⟨fs, k, e, ek, hp⟩ | ⟨fs, kk, e, ek, hp⟩
  · cases dicD_inj e
    cases keyD_inj (k := .inr n) ek
    rw [valP_map (fun a => objD a), Option.isSome_map] at hp
    exact hp
  · cases ek), fun h => .inl ⟨_, .inr n, rfl, rfl, by rw [valP_map (fun a => objD a), Option.isSome_map]; exact h⟩⟩
theorem e_keptX {P : List (Key × PyData) → Prop} : (∃ fs, (T.leaf (keptD ks)).dat = dicD fs ∧ P fs) = P (ks.map fun p => ((.inr p.1 : Key), objD p.2)) := e_dicX
theorem e_keptY {P : List (Key × PyData) → Prop} : (∃ fs, keptD ks = dicD fs ∧ P fs) = P (ks.map fun p => ((.inr p.1 : Key), objD p.2)) := e_dicX
theorem keys_kept {Q : List PyData → Prop} : (∃ ds, keysS (keptD ks) ds ∧ Q ds) = Q (strsD (ks.map (·.1))) := propext ⟨fun ⟨ds, h, q⟩ => by
  rcases h with ⟨fs, e, rfl⟩ | ⟨e, rfl⟩
  · cases dicD_inj e
    rw [List.map_map] at q
    unfold strsD
    rw [List.map_map]
    exact q
  · exact (dicD_ne_diTD e).elim, fun q => ⟨_, .inl ⟨_, rfl, rfl⟩, by
    unfold strsD at q
    rw [List.map_map] at q
    rw [List.map_map]
    exact q⟩⟩
theorem at_last {α : Type} (g : α → PyData) (l : List α) (a : α) : atI ((l ++ [a]).map g) (-1) = some (g a) := by
  have e : ixN ((l ++ [a]).map g).length (-1) = some l.length := by
    rw [List.length_map, List.length_append, List.length_singleton]
    unfold ixN
    split
    · omega
    · rw [if_pos (by omega)]
      congr 1
      omega
  unfold atI
  rw [e, List.map_append]
  show ((l.map g) ++ [g a])[l.length]? = _
  rw [List.getElem?_append_right (by rw [List.length_map]; exact Nat.le_refl _), List.length_map, Nat.sub_self]
  rfl
theorem at_now : atI (stdsD CM CS y.stands) (-1) = some (standD CM CS y.cur) := at_last _ _ _
theorem now_ix : ixN ((stdsD CM CS y.stands).map T.leaf).length (-1) = some y.past.length := by
  unfold stdsD Soc.stands
  rw [List.length_map, List.length_map, List.length_append, List.length_singleton]
  unfold ixN
  split
  · omega
  · rw [if_pos (by omega)]
    congr 1
    omega
theorem now_get : ((stdsD CM CS y.stands).map T.leaf)[y.past.length]? = some (.leaf (standD CM CS y.cur)) := by
  unfold stdsD Soc.stands
  rw [List.map_map, List.getElem?_map, List.getElem?_append_right (Nat.le_refl _), Nat.sub_self]
  rfl
/-- list(d) of what is told -/
theorem keysL {α : Type} (g : α → PyData) (ps : List (Str × α)) : ((ps.map fun p => ((.inr p.1 : Key), g p.2)).map fun p => keyD p.1) = strsD (ps.map (·.1)) := by
  unfold strsD
  rw [List.map_map, List.map_map]
  rfl
theorem listD_ppl {C : Addr} {ps : List (Str × Mem)} {P : T → Prop} : cListD [pplD C ps] P = P (.node ((strsD (ps.map (·.1))).map .leaf)) := propext ⟨fun ⟨fs, e, h⟩ => by
  cases dicD_inj (List.cons.inj e).1
  rw [keysL (memD C)] at h
  exact h, fun h => ⟨_, rfl, by rw [keysL (memD C)]; exact h⟩⟩
theorem listD_kept {P : T → Prop} : cListD [keptD ks] P = P (.node ((strsD (ks.map (·.1))).map .leaf)) := propext ⟨fun ⟨fs, e, h⟩ => by
  cases dicD_inj (List.cons.inj e).1
  rw [keysL (fun a : Addr => objD a)] at h
  exact h, fun h => ⟨_, rfl, by rw [keysL (fun a : Addr => objD a)]; exact h⟩⟩
end
/-! ### deeds -/
inductive Deed where
  | join (n : Str) (y : Int)
  | pay (n : Str) (c : Int)
  | draw (n : Str) (c : Int)
  | tie (a b : Str)
  | untie (a b : Str)
  | bet (a b : Str) (k : Int)
  | drop (a b : Str)
  | blanks (k : Int)
  | strike (t : Int)
def Deed.row : Deed → PyData
  | join n y => .tuple [.str "join", .str n, .int y]
  | pay n c => .tuple [.str "pay", .str n, .int c]
  | draw n c => .tuple [.str "draw", .str n, .int c]
  | tie a b => .tuple [.str "tie", .str a, .str b]
  | untie a b => .tuple [.str "untie", .str a, .str b]
  | bet a b k => .tuple [.str "bet", .str a, .str b, .int k]
  | drop a b => .tuple [.str "drop", .str a, .str b]
  | blanks k => .tuple [.str "blanks", .int k]
  | strike t => .tuple [.str "strike", .int t]
def Std.Flat (s : Std) : Prop := ∀ h, h ∈ s.history → fl2 h = true
theorem tl2_leaves {ds : List PyData} (h : ∀ d, d ∈ ds → fl2 d = true) : tl2s (ds.map T.leaf) = true := tl2s_all _ fun t m => by
  obtain ⟨d, hd, rfl⟩ := List.mem_map.mp m
  exact h d hd
theorem tl2_stand {CM CS : Addr} {s : Std} (h : s.Flat) : tl2 (standT CM CS s) = true := by
  show tl2s _ = true
  refine tl2s_all _ fun t m => ?_
  simp only [List.mem_cons, List.not_mem_nil, or_false] at m
  rcases m with rfl | rfl | rfl | rfl | rfl | rfl | rfl
  · exact tl2_nodeI _
  · rfl
  · rfl
  · refine tl2s_all _ fun t m => ?_
    obtain ⟨p, _, rfl⟩ := List.mem_map.mp m
    rfl
  · refine tl2s_all _ fun t m => ?_
    obtain ⟨p, _, rfl⟩ := List.mem_map.mp m
    rfl
  · refine tl2s_all _ fun t m => ?_
    obtain ⟨p, _, rfl⟩ := List.mem_map.mp m
    rfl
  · exact tl2_leaves h
def Std.Yrs (s : Std) : Prop := s.byAge ≠ [] ∧ ∀ p, p ∈ s.people → 0 ≤ p.2.years
end Dd
/-! try .. except X: without a name. -/
namespace Dd
open PySem L2
def dTryN (ns : Str → Prop) (wb ws : WS) : WS := fun C ρ => wb { C with xc := fun ρ' n pl => ns n ∧ ws { nx := C.nx, rt := C.rt, bk := C.bk, ct := C.ct } ρ' } ρ
section
variable {X : Cx} {E : SX} {p pos : Pos} {L : List Str}
theorem s_tryN {x : Str} {body suite : List Stmt} {b₀ : Stmt} {np pos' : Pos} {wb ws : WS} (L : List Str) (I : ∃ C, X.mg x = some (.ref C) ∧ ExTab X.K X.mg L (.ref C)) (tk : Takes X (wxOf E))
    (hb : ∀ (E' : SX) (pn : List (Addr × Obj)) (xe : Value → Shared → Prop), Takes (X.tr pn xe) (wxOf E') → PassesOwn (model X.prog X.w) X.A X.env xe → PSs (X.tr pn xe) body (sOf X.K X.mg E' wb))
    (hsu : ∀ (a : Addr) (oe : Obj) (pn : List (Addr × Obj)), PSs (X.suite a ((a, oe) :: pn)) (b₀ :: suite) (sOf X.K X.mg noE ws))
    (hg : Gl X x := by rfl) (hdb : (x == ("__debug__" : Str)) = false := by decide) (hs : X.stack = X.env :: X.outer := by rfl) (hf : X.env.frame = some X.env.locals := by rfl) :
    PS X (.Try body [.ExceptHandler (some (.Name x np)) none (b₀ :: suite) pos'] [] [] pos) (sOf X.K X.mg E (dTryN (fun n => n ∈ L) wb ws)) := by
  obtain ⟨C, hm, hK⟩ := I
  refine PS.of (ps_try_only (c := .ref C) (tb := fun W => sOf X.K X.mg (fun σ cls d H => W cls d σ H) wb) (ts := fun a cls d D σ H => sOf X.K X.mg noE ws D σ H) (Wout := wxOf E) hs hf ⟨hg, hdb, .inl hm⟩ tk
    (fun W pn xe tk' ps' => hb _ pn xe tk' ps') (fun a oe cls d pn hz hv => hsu a oe pn)) fun D σ H ⟨b, F, G0, H0, ρ, Ct, q, g0, a, eo⟩ => ?_
  refine ⟨b, F, G0, H0, ρ, _, q, g0, a, ⟨eo.nx, eo.bk, eo.ct, eo.rt, fun ρ' σ' n pl c0 d G H' hx e1 s E1 hm hd => ?_⟩⟩
  obtain ⟨hx, hw⟩ := hx
  exact ⟨true, hK n c0 hx hm, fun _ a' ha => ⟨b, F, G0, H0, _, _, hw, g0, ⟨G, e1, s, E1⟩, ⟨eo.nx, eo.bk, eo.ct, eo.rt, fun _ _ _ _ _ _ _ _ z => z.elim⟩⟩, fun z => nomatch z⟩
end
theorem e_tryN {ns : Str → Prop} {wb ws : WS} {C : Ctl} {ρ : Rho} : dTryN ns wb ws C ρ = wb { C with xc := fun ρ' n pl => ns n ∧ ws { nx := C.nx, rt := C.rt, bk := C.bk, ct := C.ct } ρ' } ρ := rfl
/-! ### x in a list of flat things -/
def rdInLF (neg : Bool) : R2D := fun d e P => match e with
  | .list ds => flatD d = true ∧ ds.all flatD = true ∧ P (boo (neg != inF d ds))
  | _ => False
theorem ok_inLF {K : PySem.W.Frag} {neg : Bool} : RdOk K (rIn K neg) (rdInLF neg) := fun b G H x y d e P Q g rx ry h k => by
  unfold rdInLF at h
  split at h
  · obtain ⟨f1, f2, p⟩ := h
    have ex := rp_pyV rx f1
    subst ex
    cases ry with
    | lst h1 r1 =>
      have ev := rp_pyVs r1 f2
      subst ev
      refine ⟨_, _, rfl, .inl (.inl (.inl (g.ex _ _ h1))), flatV_pyV f1, flatV_all f2, ?_⟩
      rw [inV_eq]
      cases neg with
      | false =>
        simp only [Bool.false_bne] at p
        exact k G H _ _ [] p g.stp (.leaf (.bl _)) fun _ z => nomatch z
      | true =>
        simp only [Bool.true_bne] at p
        exact k G H _ _ [] p g.stp (.leaf (.bl _)) fun _ z => nomatch z
  · exact h.elim
section
variable {X : Cx} {E : SX} {e e2 : Expr} {wa wb : WE} {pos : Pos}
theorem t_inLF (ha : PE X e (tOf X.K X.mg E wa)) (hb : PE X e2 (tOf X.K X.mg E wb)) (hm : behindInMarks .In e2 = false := by rfl) : PT X (.Compare e [.In] [e2] pos) (ttOf X.K X.mg E (dTst (dOp (rdInLF false) wa wb))) := t_cmp op_in_seq ok_inLF ha hb hm
end
theorem inF_st (z : Str) : ∀ ys : List Str, inF (.str z) (strsD ys) = decide (z ∈ ys)
  | [] => rfl
  | y :: ys => by
    show (eqV (.str y) (.str z) || inF (.str z) (strsD ys)) = _
    rw [inF_st z ys]
    by_cases h : y = z
    · subst h
      simp [eqV]
    · have h' : ¬ z = y := fun e => h e.symm
      simp [eqV, h, h']
theorem flat_st : ∀ ys : List Str, (strsD ys).all flatD = true
  | [] => rfl
  | y :: ys => by
    show (flatD _ && (strsD ys).all flatD) = true
    rw [flat_st ys]
    rfl
theorem e_inLF {neg : Bool} {z : Str} {ys : List Str} {P : T → Prop} : rdInLF neg (.str z) (.list (strsD ys)) P = P (boo (neg != decide (z ∈ ys))) := propext ⟨fun ⟨_, _, h⟩ => by
  rw [inF_st] at h
  exact h, fun h => ⟨rfl, flat_st ys, by rw [inF_st]; exact h⟩⟩
theorem cut_st (k : Nat) (ys : List Str) : cutD (strsD ys) (some (k : Int)) none = strsD (ys.drop k) := by
  unfold cutD
  rw [HT.sIx_nat, HT.sIx_none, strs_len]
  unfold strsD
  by_cases h : k ≤ ys.length
  · rw [Nat.min_eq_left h, List.map_drop]
    refine List.take_of_length_le ?_
    rw [List.length_drop, List.length_map]
    exact Nat.le_refl _
  · rw [Nat.min_eq_right (by omega), Nat.sub_self, List.take_zero, List.drop_of_length_le (l := ys) (by omega)]
    rfl
theorem at_st {ys : List Str} {k : Nat} {z : Str} (h : ys[k]? = some z) : atI (strsD ys) (k : Int) = some (.str z) := atI_nat (by
  unfold strsD
  rw [List.getElem?_map, h]
  rfl)
theorem joinL_lenW (s : List Nat) : ∀ ps : List (List Nat), (TL.joinL s ps).length ≤ (ps.map List.length).sum + ps.length * s.length
  | [] => Nat.zero_le _
  | [p] => by
    show p.length ≤ _
    simp
  | p :: q :: r => by
    have ih := joinL_lenW s (q :: r)
    show (p ++ (s ++ TL.joinL s (q :: r))).length ≤ _
    rw [List.length_append, List.length_append, List.map_cons, List.sum_cons, List.length_cons, Nat.succ_mul]
    omega
theorem sum_leW {M : Nat} : ∀ {ws : List Str}, (∀ w ∈ ws, w.length ≤ M) → (ws.map (·.length)).sum ≤ ws.length * M
  | [], _ => Nat.zero_le _
  | w :: ws, h => by
    have := sum_leW (ws := ws) fun x hx => h x (List.mem_cons_of_mem _ hx)
    have := h w (List.mem_cons_self ..)
    rw [List.map_cons, List.sum_cons, List.length_cons, Nat.succ_mul]
    omega
theorem join_lenW (ws : List Str) : (Txt.join " " ws).length ≤ (ws.map (·.length)).sum + ws.length := by
  have e : TL.tl (Txt.join " " ws) = TL.joinL [32] (ws.map TL.tl) := by
    rw [TL.join_eq, TL.tl_join]
    rfl
  have := joinL_lenW [32] (ws.map TL.tl)
  rw [← e, ← TL.len_tl, List.map_map, List.length_map, List.length_singleton, Nat.mul_one] at this
  have e2 : (ws.map (List.length ∘ TL.tl)) = ws.map (·.length) := List.map_congr_left fun w _ => (TL.len_tl w).symm
  rw [e2] at this
  exact this
end Dd
/-! A law that has a store. -/
namespace Dd
open PySem L2
section
variable {P : Program} {w : World} {K : PySem.W.Frag} {mg : Str → Option Value} {base : Heap}
theorem law_okO {dn : Str} {kk : Nat} {st : Stmt} {rest : List Stmt} {f fb : Addr} {fd fdb : FuncData} {N : List Str} {k : Nat} {ws : WS} {q1 q2 q3 q4 q5 : Pos} {kb : Nat} (F : Fun K "law" "law" st f fd) (sc : FnScope ("_law_script" :: "_law_box_here" :: N) ["_law_script"] (defScope st))
    (hb : defBody st = .Assign [.Name "_law_box_here" q1] (.Call (.Name "_law_box" q2) [.Name "_law_script" q3] [] q4) q5 :: rest)
    (B : FnOk P w K mg base CX0 kb fb fdb ["_law_script"] (spBox K)) (mB : mg "_law_box" = some (.ref fb)) (kB : PySem.W.keepIn K (.ref fb) = true) (bB : Binds K fdb ["_law_script"] []) (hk : kb ≤ k) (hN : (("_law_script" : Str) :: ("_law_box_here" : Str) :: N)[kk]? = some dn) (hd : (defScope st).names.lookup dn = none)
    (hs1 : ∀ (cdv : Value) (A : Around) (outer : List PySem.Env) (s : Shared) (H : Hp) (E : XK), Room k (A.deeper (PyProof.Rows.envOfC "law" (defScope st) s.heap.objs.size f cdv)) →
      PS (cxOf CX0 P w K mg base ("_law_script" :: "_law_box_here" :: N) "law" (defScope st) f cdv A outer s H E).nox (.Assign [.Name "_law_box_here" q1] (.Call (.Name "_law_box" q2) [.Name "_law_script" q3] [] q4) q5) (tAsg (tCall (spBox K) [] (fun _ _ _ => False) (tCons (tVar 0) tNil)) (gName 1)))
    (body : ∀ (cdv : Value) (A : Around) (outer : List PySem.Env) (s : Shared) (H : Hp) (E : XK), Room k (A.deeper (PyProof.Rows.envOfC "law" (defScope st) s.heap.objs.size f cdv)) →
      PSs (cxOf CX0 P w K mg base ("_law_script" :: "_law_box_here" :: N) "law" (defScope st) f cdv A outer s H E).nox rest (sOf K mg noE ws))
    (spec : ws { nx := fun _ => False, rt := fun t => t = boo true } ((none :: some (.leaf bx) :: List.replicate N.length none).set kk (some (.sto fun _ => none)))) : FnOk P w K mg base CX0 (k + 1) f fd ["_law_script"] (spOf0 K) := by
  refine F.ok sc (fun vs H Q E h => ?_) (fun cdv A outer s H vs Q E hr h => ?_)
  · obtain ⟨a, ns, rfl, _⟩ := h
    rfl
  · obtain ⟨a, ns, rfl, hS, hl, q⟩ := h
    rw [hb]
    refine ⟨_, pss_cons (hs1 cdv A outer s H E hr) (pss_dummy (k := kk) .non (body cdv A outer s H E hr) hN hd), ?_⟩
    refine ⟨.ref a, rfl, a, ns, rfl, hS, fun p c H' cells hp hc pc hcl => ?_⟩
    let G0 : Hp := fun x => if x = c then some (.lst (cells.map V.int)) else none
    have g0p : G0 p = none := if_neg pc
    have g0c : G0 c = some (.lst (cells.map V.int)) := if_pos rfl
    have good : Good K (some p) G0 H' := by
      refine ⟨fun x u e => ?_, fun x e => ?_⟩
      · by_cases z : x = c
        · rw [z, g0c] at e
          cases e
          rw [z]
          exact hc
        · rw [show G0 x = none from if_neg z] at e
          cases e
      · cases e
        exact ⟨g0p, c, cells, 0, 0, 17, hp, g0c, hcl, by omega, by omega, by omega, by omega⟩
    refine ⟨some p, G0, G0, H', _, _, spec, good, ⟨G0, Ex.rfl' _, good.stp, ?_⟩, ⟨fun _ _ _ z => z.elim, fun _ _ _ z => z.elim, fun _ _ _ z => z.elim, fun t v fp G' H2 ht s tr fr => ?_, fun _ _ _ _ _ _ _ _ z => z.elim⟩⟩
    · refine EnvT.put (Env.envT0 ?_) sto_none (fun _ z => nomatch z) kk
      refine ⟨by simp [L2.start], fun _ => [], fun i t e => ?_, (fun i a m => by cases m), fun i j a n m => by cases m⟩
      match i, e with
      | 0, e => simp at e
      | 1, e =>
        have e' : T.leaf bx = t := by simpa using e
        subst e'
        exact ⟨.ref p, rfl, .leaf (.box rfl)⟩
      | i + 2, e =>
        exfalso
        have e' : (List.replicate N.length (none : Option T))[i]? = some (some t) := by simpa using e
        rw [List.getElem?_replicate] at e'
        split at e' <;> cases e'
    · subst ht
      cases tr with
      | leaf r =>
        cases r
        exact q _
end
section
variable {X : Cx} {E : SX} {e e2 : Expr} {es : List Expr} {wa wb : XE} {pos : Pos}
/-- a and b, truth values, each may change the store -/
def xAndV (wa wb : XE) : XE := fun x ρ P => wa x ρ fun t ρ1 => ∃ c, t = boo c ∧ (c = true → wb x ρ1 P) ∧ (c = false → P (boo false) ρ1)
theorem x_one (h : PE X e (xOf X.K X.mg E wa)) : PE X (.BoolOp .And [e] pos) (xOf X.K X.mg E wa) := pe_one h
theorem x_and (ha : PE X e (xOf X.K X.mg E wa)) (hb : PE X (.BoolOp .And (e2 :: es) pos) (xOf X.K X.mg E wb)) : PE X (.BoolOp .And (e :: e2 :: es) pos) (xOf X.K X.mg E (xAndV wa wb)) := PE.imp (pe_and ha hb) fun σ H Q ⟨b, F, G0, H0, G, ρ, xq, P, p, hr, kk⟩ =>
  ⟨b, F, G0, H0, G, ρ, xq, _, p, hr, fun ρ' G' H' v t fv hp e s E' tr hB => by
    obtain ⟨c, rfl, h1, h2⟩ := hp
    cases tr with
    | leaf r =>
      cases r
      have hr1 := hr.to e s E'.env
      refine ⟨c, rfl, ?_⟩
      cases c with
      | true => exact ⟨b, F, G0, H0, G', ρ', xq, P, h1 rfl, hr1, kk⟩
      | false => exact kk.leaf hr1 (h2 rfl) (.bl false)⟩
end
section
variable {X : Cx} {E : SX} {es : List Expr} {xa : XA} {pos : Pos}
theorem SiteX.ktn {K : PySem.W.Frag} {mg : Str → Option Value} {E : XK} {b : Option Addr} {F G0 H0 G H : Hp} {σ : L2.St} {ρ : Rho} {xq : Rho → XP} {P : T → Rho → Prop} {Q : VK} (hr : SiteX K mg E b F G0 H0 G H σ ρ xq) (kk : Ktx K b F G0 H0 σ P Q) : Ktn K b G H (fun t => P t ρ) Q := fun G' H' v t fv hP s tr fr => kk ρ G' H' v t fv hP (hr.ex.trans s.ex) (hr.st.trans hr.g0 s) (hr.env.envT s fr) tr fun a z => hr.st.free hr.g0 (fr a z)
def xLst (xa : XA) : XE := fun x ρ P => xa x ρ fun ds ρ1 => ds.length ≤ lim ∧ P (.node (ds.map .leaf)) ρ1
theorem x_lst (h : PA X es (xaOf X.K X.mg E xa)) : PE X (.List es pos) (xOf X.K X.mg E (xLst xa)) := PE.imp (pe_lst h) fun σ H Q ⟨b, F, G0, H0, G, ρ, xq, P, p, hr, kk⟩ =>
  ⟨b, F, G0, H0, G, ρ, xq, _, p, hr, fun ρ1 G1 H1 vs ds p1 hr1 _ r1 => ⟨by rw [r1.len]; exact lim_le p1.1, fun a ha => new_lst hr1.good r1 p1.2 (hr1.ktn kk) ha⟩⟩
end
end Dd
/-! Texts as joined words. -/
namespace Dd
open PySem L2
theorem str_assoc (a b c : Str) : a ++ b ++ c = a ++ (b ++ c) := TL.ext_tl (by rw [TL.tl_append, TL.tl_append, TL.tl_append, TL.tl_append, List.append_assoc])
theorem jn1 (w : Str) : Txt.join " " [w] = w := TL.ext_tl (by rw [TL.join_eq, TL.tl_join]; rfl)
theorem jn2 (w v : Str) (r : List Str) : Txt.join " " (w :: v :: r) = w ++ (" " ++ Txt.join " " (v :: r)) := TL.ext_tl (by
  rw [TL.join_eq, TL.tl_join, TL.tl_append, TL.tl_append, TL.join_eq, TL.tl_join]
  rfl)
/-- a text ahead -/
theorem str_len (a b : Str) : (a ++ b).length = a.length + b.length := by
  rw [TL.len_tl, TL.len_tl, TL.len_tl, TL.tl_append, List.length_append]
theorem str_nil (a : Str) : ("" : Str) ++ a = a := TL.ext_tl (by rw [TL.tl_append]; rfl)
theorem str_nilR (a : Str) : a ++ ("" : Str) = a := TL.ext_tl (by rw [TL.tl_append]; exact List.append_nil _)
/-- one more word behind -/
theorem jn_snoc (v : Str) : ∀ (ws : List Str), ws ≠ [] → Txt.join " " ws ++ (" " ++ v) = Txt.join " " (ws ++ [v])
  | [], h => absurd rfl h
  | [w], _ => by
    rw [jn1]
    show _ = Txt.join " " [w, v]
    rw [jn2, jn1]
  | w :: u :: r, _ => by
    have e := jn_snoc v (u :: r) (by simp)
    show _ = Txt.join " " (w :: u :: (r ++ [v]))
    rw [jn2, jn2, str_assoc, str_assoc, e]
    rfl
/-- a law's line, by its words -/
def lineWs (n a b k : Str) : List (List Str) := [["copy", n, b], ["close", n], ["move", n, b, a, k], ["names"], ["back", n], ["again", n], ["living", n], ["coins", n, a], ["free", n, a], ["age", n, a], ["total", n], ["who", n, k], ["told", n], ["bets", n], ["shut", n], ["odds", n, a, "1"], ["in", n, "pay", a, k], ["in", n, "tie", a, b], ["in", n, "blanks", k]]
/-! ### upper -/
def dUpper (w : WE) : WE := fun x ρ P => w x ρ (asS fun a => a.length ≤ 10000 ∧ P (.leaf (.str (Txt.upper a))))
theorem d_upper {X : Cx} {E : SX} {e : Expr} {w : WE} {apos pos : Pos} (ho : PE X e (tOf X.K X.mg E w)) (hbase : attributeBase e "upper" X.env (eval e X.env) = eval e X.env := by rfl) (hline : (apos.endLine == pos.line) = true := by rfl) : PE X (.Call (.Attribute e "upper" apos) [] [] pos) (tOf X.K X.mg E (dUpper w)) := PE.of (pe_upper ho hbase hline) fun σ H Q ⟨b, B, G, ρ, xp, P, p, hr, k⟩ => by
  refine ⟨b, B, G, ρ, xp, _, p, hr, fun G1 H1 v t fp ht s1 tr fr => ?_⟩
  unfold asS at ht
  split at ht
  · rename_i a
    cases tr with
    | leaf r =>
      cases r
      exact ⟨⟨_, rfl⟩, a, rfl, rfl, Nat.le_trans ht.1 (by decide), (k.stp hr.good s1).leaf s1.good ht.2 (.str _)⟩
  · exact ht.elim
theorem cut_all (k : Nat) (ys : List Str) : cutD (strsD ys) none (some (k : Int)) = strsD (ys.take k) := by
  unfold cutD
  rw [HT.sIx_nat, HT.sIx_none, strs_len, Nat.sub_zero, List.drop_zero]
  unfold strsD
  rw [List.map_take]
  by_cases h : k ≤ ys.length
  · rw [Nat.min_eq_left h]
  · rw [Nat.min_eq_right (by omega), List.take_of_length_le (by rw [List.length_map]; omega), List.take_of_length_le (by rw [List.length_map]; omega)]
theorem cut_last {ys : List Str} (h : ys ≠ []) : cutD (strsD ys) none (some (-1)) = strsD ys.dropLast := by
  have hl : 0 < ys.length := List.length_pos_iff.mpr h
  unfold cutD
  rw [HT.sIx_none, strs_len, Nat.sub_zero, List.drop_zero]
  have e : HT.sIx ys.length ys.length (some (-1)) = ys.length - 1 := by
    unfold HT.sIx
    simp
    omega
  rw [e]
  unfold strsD
  rw [List.dropLast_eq_take, List.map_take]
end Dd
/-! The held exception's word; f"text{text}". -/
/-! PATH.pop(); PATH.append((P.pop(), P.pop())); a, b = PATH.pop(); (a, b) with effects. -/
/-! list(zip(xs, ys)) of two lists. -/
namespace Dd
open PySem PySem.Calls PyProof.Rows PyProof.V PySem.Spec PySem.W
/-- a zip that has told i pairs, while the list at S is filled -/
def ZAt (z TI TO i1 i2 l1 l2 S : Addr) (xs ys : Array Value) (i : Nat) (h : Heap) : Prop :=
  IsPair h TI (.ref i1) (.ref i2) ∧ h.IsListIter i1 l1 i ∧ h.IsListIter i2 l2 i ∧ h.IsList l1 xs ∧ h.IsList l2 ys ∧
    ((IsZip h z TI TO .none ∧ ∃ a b, IsPair h TO a b) ∨ ∃ T f oT, IsZipHeld h z TI TO T f ∧ h.get? T = some oT ∧ T ≠ z ∧ T ≠ i1 ∧ T ≠ i2 ∧ T ≠ S)
/-- S stands apart -/
structure ZOff (z TI TO i1 i2 l1 l2 S : Addr) : Prop where
  z : S ≠ z
  TI : S ≠ TI
  TO : S ≠ TO
  i1 : S ≠ i1
  i2 : S ≠ i2
  l1 : S ≠ l1
  l2 : S ≠ l2
section
variable {prog : Program} {w : World} {A : Around} {E : Value → Shared → Prop} {s : Shared} {z TI TO i1 i2 l1 l2 S : Addr} {xs ys : Array Value} {i : Nat}
theorem ZAt.frame {h h' : Heap} (F : ZOff z TI TO i1 i2 l1 l2 S) (st : ZAt z TI TO i1 i2 l1 l2 S xs ys i h) (hk : ∀ b o, b ≠ S → h.get? b = some o → h'.get? b = some o) : ZAt z TI TO i1 i2 l1 l2 S xs ys i h' := by
  obtain ⟨p, j1, j2, m1, m2, c⟩ := st
  refine ⟨hk _ _ (Ne.symm F.TI) p, j1.at fun o e => hk _ o (Ne.symm F.i1) e, j2.at fun o e => hk _ o (Ne.symm F.i2) e, m1.at fun o e => hk _ o (Ne.symm F.l1) e, m2.at fun o e => hk _ o (Ne.symm F.l2) e, ?_⟩
  rcases c with ⟨y, a, b, t⟩ | ⟨T, f, oT, y, t, n⟩
  · exact .inl ⟨hk _ _ (Ne.symm F.z) y, a, b, hk _ _ (Ne.symm F.TO) t⟩
  · exact .inr ⟨T, f, oT, hk _ _ (Ne.symm F.z) y, hk _ _ n.2.2.2 t, n⟩
end
end Dd
/-! list(zip(xs, ys)): the rule, by data. -/
namespace Dd
open PySem L2
local macro_rules | `(tactic| walk_at "dd") => `(tactic| try simp only [dUpper, e_inLF, Bool.false_bne, Bool.true_bne, dInTc, e_tryN, now_ix, now_get, fs_Society_0, fs_Society_1, fs_Society_2, fs_House_0, asM_soc, asM_hou, socT_ins, houT_ins, kept_dic, sub_soc, put_soc, sub_hou, put_hou, fold_kept, fold_hou, inD_kept, e_keptX, e_keptY, keys_kept, at_now, listD_ppl, listD_kept, socT_dat, houT_dat, leaves_dat, standT_ins, sub_stand, put_stand, fold_stand, standT_dat, memT_dat, e_xcS, e_pK, e_setD, e_augF, e_pl, e_listP, e_xfld, asFX_asF, e_fix, leaf_obj, e_retO, e_fixS, sub_dic, sub_node, sub_ppl, ppl_dic, mem_ins, fold_ppl, inr_notin, T.dic.injEq, dMake, noS, e_bor2, e_borT2, tl2_i, tl2_b, tl2_s, tl2_n, tl2_o, tl2_nodeI, tl2_strs, e_dmeth, asM_stand, asM_mem, fs_Stand_0, fs_Stand_1, fs_Stand_2, fs_Stand_3, fs_Stand_4, fs_Stand_5, fs_Stand_6, fs_Member_0, fs_Member_1, fs_Member_2, e_pplX, e_pplY, e_strK, inD_ppl, inD_prs, e_inDT, e_inD, e_notInDT, keys_ppl, keys_prs0, items_ppl, e_iSem, dDGet, e_fldV, e_res, asO_o, frz_sto, e_keyS, e_keyI, dat_dic, e_dicX, List.zip_cons_cons, List.zip_nil_left, List.zip_nil_right, e_addS, dSeq, dIf, dOp, dVar, dC, dFr, dBlt, dRet, dRetV, dAsg, dApp, dFrz, dDrop, dNext, dNot, dAnd, dOr, dLst, dTup, dCall, dIsi, dSl, dYes, e_mulL, e_addL, e_addT, e_sumI, frz_nil, frz_cons, frz_leaf, frz_node, frz_own, frz_ins, frz_dic, frz_diT, frz_sto, frz_I, Option.map_some, Option.map_none, flat_i, flat_b, flat_n, flat_s,  aNil, aCons, oN, iR1, iZi, gN, gs0, gsC, gT, dSplit, iStrD, dInTab, dAtTab, iZs, e_stri, e_strs, e_notInS, dTry, dRaise, own_dat, T.own.injEq, dJoin, asS_s, e_ixs, e_inS, e_tupl, e_tupt, asL_I, asB_b, asI_i, asL_l, asL_n, asL_c, asU_u, e_tst, e_andV, e_orV, e_neg, e_chain, e_setI, e_oS, e_iL, e_iT, e_I, e_I0, e_add, e_mul, e_ixl, e_ixt, e_eqi, e_eqs, e_eqb, e_eql, e_eqt, e_nei, e_nes, e_neb, e_nel, e_net, e_isNn, e_isNi, e_isNl, e_isNt, e_isNb, e_isNs, e_notNn, e_notNi, e_notNl, e_notNt, e_lenl, e_lent, e_lens, e_listl, e_listt, e_take, dat_leaf, dat_n0, dat_n1, dat_n2, dat_n3, dat_n4, dat_n5, dat_n6, dat_n7, dat_n8, dat_leaves0, nodeI_dat, len_intsD, wipeR, List.map_cons, List.map_nil, List.set_cons_zero, List.set_cons_succ, List.getElem?_cons_zero, List.getElem?_cons_succ, List.getElem?_nil, Option.some.injEq, T.leaf.injEq, T.node.injEq, exists_eq_left', exists_eq_left, startR, List.length_cons, List.length_nil, Nat.reduceAdd, Nat.reduceSub, Nat.zero_add, Nat.sub_self, List.replicate, List.cons_append, List.nil_append, List.append_nil, decide_eq_true_eq, decide_eq_false_iff_not, Bool.not_eq_true', Bool.not_eq_false', Bool.not_true, Bool.not_false, reduceCtorEq, true_implies, false_implies, and_true, true_and, Int.zero_add, Int.toNat_natCast, implies_true, false_and, and_false, ite_true, ite_false])
local macro_rules | `(tactic| walk_at "ds") => `(tactic| try simp only [dUpper, xLst, xNot, xTst, xAndV, e_inLF, Bool.false_bne, Bool.true_bne, dInTc, e_tryN, now_ix, now_get, fs_Society_0, fs_Society_1, fs_Society_2, fs_House_0, asM_soc, asM_hou, socT_ins, houT_ins, kept_dic, sub_soc, put_soc, sub_hou, put_hou, fold_kept, fold_hou, inD_kept, e_keptX, e_keptY, keys_kept, at_now, listD_ppl, listD_kept, socT_dat, houT_dat, leaves_dat, len_strsD, standT_ins, sub_stand, put_stand, fold_stand, standT_dat, memT_dat, e_xcS, e_pK, e_setD, e_augF, e_pl, e_listP, e_xfld, asFX_asF, e_fix, leaf_obj, e_retO, e_fixS, sub_dic, sub_node, sub_ppl, ppl_dic, mem_ins, fold_ppl, inr_notin, T.dic.injEq, dMake, noS, e_bor2, e_borT2, tl2_i, tl2_b, tl2_s, tl2_n, tl2_o, tl2_nodeI, tl2_strs, e_dmeth, asM_stand, asM_mem, fs_Stand_0, fs_Stand_1, fs_Stand_2, fs_Stand_3, fs_Stand_4, fs_Stand_5, fs_Stand_6, fs_Member_0, fs_Member_1, fs_Member_2, e_pplX, e_pplY, e_strK, inD_ppl, inD_prs, e_inDT, e_inD, e_notInDT, keys_ppl, keys_prs0, items_ppl, e_iSem, dDGet, e_fldV, e_res, asO_o, frz_sto, e_keyS, e_keyI, dat_dic, e_dicX, List.zip_cons_cons, List.zip_nil_left, List.zip_nil_right, e_addS, dSeq, dIf, dOp, dVar, dC, dFr, dBlt, dRet, dRetV, dAsg, dApp, dFrz, dDrop, dNext, dNot, dAnd, dOr, dLst, dTup, dCall, dIsi, dSl, dYes, e_mulL, e_addL, e_addT, e_sumI, frz_nil, frz_cons, frz_leaf, frz_node, frz_own, frz_ins, frz_dic, frz_diT, frz_sto, frz_I, Option.map_some, Option.map_none, flat_i, flat_b, flat_n, flat_s,  aNil, aCons, oN, iR1, iZi, gN, gs0, gsC, gT, dSplit, iStrD, dInTab, dAtTab, iZs, e_stri, e_strs, e_notInS, dTry, dRaise, own_dat, T.own.injEq, dJoin, asS_s, e_ixs, e_inS, e_tupl, e_tupt, asL_I, asB_b, asI_i, asL_l, asL_n, asL_c, asU_u, e_tst, e_andV, e_orV, e_neg, e_chain, e_setI, e_oS, e_iL, e_iT, e_I, e_I0, e_add, e_mul, e_ixl, e_ixt, e_eqi, e_eqs, e_eqb, e_eql, e_eqt, e_nei, e_nes, e_neb, e_nel, e_net, e_isNn, e_isNi, e_isNl, e_isNt, e_isNb, e_isNs, e_notNn, e_notNi, e_notNl, e_notNt, e_lenl, e_lent, e_lens, e_listl, e_listt, e_take, dat_leaf, dat_n0, dat_n1, dat_n2, dat_n3, dat_n4, dat_n5, dat_n6, dat_n7, dat_n8, dat_leaves0, nodeI_dat, len_intsD, wipeR, List.map_cons, List.map_nil, List.set_cons_zero, List.set_cons_succ, List.getElem?_cons_zero, List.getElem?_cons_succ, List.getElem?_nil, Option.some.injEq, T.leaf.injEq, T.node.injEq, exists_eq_left', exists_eq_left, startR, List.length_cons, List.length_nil, Nat.reduceAdd, Nat.reduceSub, Nat.zero_add, Nat.sub_self, List.replicate, List.cons_append, List.nil_append, List.append_nil, decide_eq_true_eq, decide_eq_false_iff_not, Bool.not_eq_true', Bool.not_eq_false', Bool.not_true, Bool.not_false, reduceCtorEq, true_implies, false_implies, and_true, true_and, Int.zero_add, Int.toNat_natCast, implies_true, false_and, and_false, ite_true, ite_false, e_res, asO_o, e_fldV, e_pV, e_pF, e_pI, e_appP, e_setF, e_setN, e_meth, xMake, xPu, xPuA, xaNil, xaCons, xCallP, xCall, atSto, dAsgX, dDropX, dRetX, dRetN, dIfX, dProm, T.sto.injEq, T.fro.injEq, stput_same, stput_put, sub_nil, put_nil, objD_eq, e_obj, deadD_isN, deadD_notN, booT_dat, optT_dat, sub_ins, put_ins, Option.elim_some, T.ins.injEq, nodeI_node, booT_node, optT_node, foldI, foldB, foldO, foldA, optT_rep, booT_rep, e_rtS, e_nxS, frz_I, frz_B, frz_O])
theorem sc_XBadAge : FnScope ["self"] ["self"] (defScope st_XBadAge) := ⟨rfl, rfl, rfl, by decide +kernel, rfl, by decide +kernel, by decide +kernel⟩
theorem sc_XBadBlanks : FnScope ["self"] ["self"] (defScope st_XBadBlanks) := ⟨rfl, rfl, rfl, by decide +kernel, rfl, by decide +kernel, by decide +kernel⟩
theorem sc_XBadCoins : FnScope ["self"] ["self"] (defScope st_XBadCoins) := ⟨rfl, rfl, rfl, by decide +kernel, rfl, by decide +kernel, by decide +kernel⟩
theorem sc_XBadName : FnScope ["self"] ["self"] (defScope st_XBadName) := ⟨rfl, rfl, rfl, by decide +kernel, rfl, by decide +kernel, by decide +kernel⟩
theorem sc_XBadTable : FnScope ["self"] ["self"] (defScope st_XBadTable) := ⟨rfl, rfl, rfl, by decide +kernel, rfl, by decide +kernel, by decide +kernel⟩
theorem sc_XDead : FnScope ["self"] ["self"] (defScope st_XDead) := ⟨rfl, rfl, rfl, by decide +kernel, rfl, by decide +kernel, by decide +kernel⟩
theorem sc_XFull : FnScope ["self"] ["self"] (defScope st_XFull) := ⟨rfl, rfl, rfl, by decide +kernel, rfl, by decide +kernel, by decide +kernel⟩
theorem sc_XKnown : FnScope ["self"] ["self"] (defScope st_XKnown) := ⟨rfl, rfl, rfl, by decide +kernel, rfl, by decide +kernel, by decide +kernel⟩
theorem sc_XNoDeed : FnScope ["self"] ["self"] (defScope st_XNoDeed) := ⟨rfl, rfl, rfl, by decide +kernel, rfl, by decide +kernel, by decide +kernel⟩
theorem sc_XNoMember : FnScope ["self"] ["self"] (defScope st_XNoMember) := ⟨rfl, rfl, rfl, by decide +kernel, rfl, by decide +kernel, by decide +kernel⟩
theorem sc_XNoSociety : FnScope ["self"] ["self"] (defScope st_XNoSociety) := ⟨rfl, rfl, rfl, by decide +kernel, rfl, by decide +kernel, by decide +kernel⟩
theorem sc_XTaken : FnScope ["self"] ["self"] (defScope st_XTaken) := ⟨rfl, rfl, rfl, by decide +kernel, rfl, by decide +kernel, by decide +kernel⟩
theorem sc_l_box : FnScope ["_law_script"] ["_law_script"] (defScope st_l_box) := ⟨rfl, rfl, rfl, by decide +kernel, rfl, by decide +kernel, by decide +kernel⟩
section
variable {P : Program} {w : World} {K : PySem.W.Frag} {mg : Str → Option Value} {base : Heap}
theorem ok_l_box {f : Addr} {fd : FuncData} (F : Fun K "_law_box" "_law_box" st_l_box f fd) (m_list : mg "list" = none) : FnOk P w K mg base CX0 1 f fd ["_law_script"] (spBox K) := by
  refine F.ok sc_l_box (fun vs H Q E h => ?_) (fun cdv A outer s H vs Q E hr h => ?_)
  · obtain ⟨a, ns, rfl, _⟩ := h
    rfl
  · obtain ⟨a, ns, rfl, hS, q⟩ := h
    refine ⟨_, pss_one (ps_ret (pe_lst (pa_cons (pe_callTy call_list_of (by rfl) m_list (by decide +kernel) (pa_cons (pe_slice sl_list (pv 0) po_none (po_some pe_int)) pa_nil)) (pa_cons pe_int (pa_cons pe_int (pa_cons pe_int pa_nil)))))), ?_⟩
    refine ⟨_, rfl, 63, rfl, a, _, rfl, hS, fun t ht => ?_⟩
    refine ⟨t, _, rfl, .inl (.inl (.inl upd_same)), fun c hc => ?_⟩
    refine ⟨by show 4 ≤ sizeLine; decide, fun p hp => ?_⟩
    have pc : p ≠ c := fun z => by
      rw [z, upd_same] at hp
      cases hp
    have hcut : cutV (ns.map V.int) none (some 63) = (ns.take 63).map V.int := by
      unfold cutV
      rw [HT.sIx_none]
      rw [show HT.sIx (ns.map V.int).length (ns.map V.int).length (some 63) = min 63 (ns.map V.int).length from HT.sIx_nat _ _ 63]
      rw [List.drop_zero, Nat.sub_zero, List.map_take]
      by_cases h : 63 ≤ (ns.map V.int).length
      · rw [Nat.min_eq_left h]
      · rw [Nat.min_eq_right (by omega), List.take_of_length_le (Nat.le_refl _), List.take_of_length_le (by omega)]
    refine q p c _ (ns.take 63) upd_same ?_ pc (by simp; omega)
    rw [upd_ne (Ne.symm pc), upd_same, hcut]
end
theorem sc_l_take : FnScope ["_law_box_here", "_law_many", "_law_rest", "_law_cell", "_law_seed"] ["_law_box_here", "_law_many"] (defScope st_l_take) := ⟨rfl, rfl, rfl, by decide +kernel, rfl, by decide +kernel, by decide +kernel⟩
theorem box_step {K : PySem.W.Frag} {G H H' : Hp} {a c : Addr} {cells : List Int} {pos : Nat} {rest seed : Int} (g : Good K (some a) G H) (e0 : boxc H a = some (.ref c)) (e : H' a = some (.lst [.ref c, .int pos, .int rest, .int seed])) (o : ∀ x, x ≠ a → H' x = H x) (hc : G c = some (.lst (cells.map V.int)))
    (h1 : cells.length ≤ 63) (h2 : pos ≤ 63) (h3 : 0 ≤ rest) (h4 : 0 ≤ seed) (h5 : seed < 2147483629) : Stp K (some a) G H G H' := by
  have gn : G a = none := (g.box a rfl).1
  refine ⟨fun _ _ e => e, ⟨fun x u q => ?_, fun x q => ?_⟩, fun x u n q => ?_, fun x u n _ => n, fun x q => ?_⟩
  · have na : x ≠ a := fun z => by
      rw [z, gn] at q
      cases q
    rw [o x na]
    exact g.ex x u q
  · cases q
    exact ⟨gn, c, cells, pos, rest, seed, e, hc, h1, h2, h3, h4, h5⟩
  · rw [o x fun z => n (by rw [z])]
    exact q
  · cases q
    rw [e0]
    unfold boxc
    rw [e] <;> rfl
theorem at3 {α : Type} {a b c d : α} : atI [a, b, c, d] 3 = some d := rfl
theorem at2' {α : Type} {a b c d : α} : atI [a, b, c, d] 2 = some c := rfl
theorem at1' {α : Type} {a b c d : α} : atI [a, b, c, d] 1 = some b := rfl
theorem at0' {α : Type} {a b c d : α} : atI [a, b, c, d] 0 = some a := rfl
section
variable {P : Program} {w : World} {K : PySem.W.Frag} {mg : Str → Option Value} {base : Heap}
theorem ok_l_take {f : Addr} {fd : FuncData} (F : Fun K "_law_take" "_law_take" st_l_take f fd) (ml : mg "len" = none) : FnOk P w K mg base CX0 1 f fd ["_law_box_here", "_law_many"] (spOf K mg S_l_take) := by
  refine F.ok sc_l_take (sp_len fun ds P xp h => ?_) (fun cdv A outer s H vs Q E hr h => ?_)
  · obtain ⟨n, rfl, _⟩ := h
    rfl
  · obtain ⟨b, G, ds, P, xp, ⟨n, rfl, n0, n1, hP⟩, g, r, k, _⟩ := h
    cases r with
    | cons r1 r2 =>
      cases r1 with
      | @box a hb =>
        subst hb
        cases r2 with
        | cons r3 r4 =>
          cases r3
          cases r4
          obtain ⟨gn, c, cells, pos, rest, seed, hH, hG, hl, hp, h0, hs0, hs1⟩ := g.box a rfl
          refine ⟨_, pss_cons (ps_if (pt_cmpR op_gt (pe_ix ix_list (pv 0) pe_int (fun _ _ => rfl)) pe_int (nomark _))
              (pss_cons (ps_set (i := 2) sc_l_take.nd rfl (.inl rfl) (pe_ix ix_list (pv 0) pe_int (fun _ _ => rfl)))
              (pss_cons (ps_asg (pe_op op_fdivW (pv 2) (pv 1)) (pg_sub (pv 0) pe_int set_list))
              (pss_one (ps_ret (pe_op op_mod (pv 2) (pv 1)))))) pss_nil)
            (pss_cons (ps_set (i := 3) sc_l_take.nd rfl (.inl rfl) pe_int)
            (pss_cons (ps_if (pt_cmpR op_lt (pe_ix ix_list (pv 0) pe_int (fun _ _ => rfl)) (pe_callB call_len_seq (by rfl) ml PySem.boot_len (pa_cons (pe_ix ix_list (pv 0) pe_int (fun _ _ => rfl)) pa_nil)) (nomark _))
              (pss_cons (ps_set (i := 3) sc_l_take.nd rfl (.inl rfl) (pe_ix ix_list (pe_ix ix_list (pv 0) pe_int (fun _ _ => rfl)) (pe_ix ix_list (pv 0) pe_int (fun _ _ => rfl)) (fun _ _ => rfl)))
              (pss_one (ps_augS (pv 0) pe_int get_list pe_int ip_add set_list))) pss_nil)
            (pss_cons (ps_if (pt_cmpR op_ge (pv 3) (pe_op op_pow pe_int pe_int) (nomark _))
              (pss_cons (ps_asg (pe_op op_fdivW (pv 3) (pv 1)) (pg_sub (pv 0) pe_int set_list))
              (pss_one (ps_ret (pe_op op_mod (pv 3) (pv 1))))) pss_nil)
            (pss_cons (ps_set (i := 4) sc_l_take.nd rfl (.inl rfl) (pe_ix ix_list (pv 0) pe_int (fun _ _ => rfl)))
            (pss_cons (ps_set (i := 4) sc_l_take.nd rfl (.inl rfl) (pe_op op_add (pe_op op_add (pe_op op_pow (pv 4) pe_int) (pe_op op_mul pe_int (pv 4))) (pe_op op_mul pe_int (pe_op op_mod (pv 3) pe_int))))
            (pss_cons (ps_asg (pe_op op_mod (pe_op op_add (pv 4) pe_int) pe_int) (pg_sub (pv 0) pe_int set_list))
            (pss_one (ps_ret (pe_op op_mod (pe_op op_fdiv (pe_ix ix_list (pv 0) pe_int (fun _ _ => rfl)) pe_int) (pv 1)))))))))), ?_⟩
          have L : ∀ {H' : Hp} {xs : List V}, H' a = some (.lst xs) → SqL K H' a xs := fun h => .inl (.inl h)
          -- the end: r a drawn number, H' the heap
          have fin : ∀ (H' : Hp) (pos' : Nat) (rest' seed' r : Int), H' a = some (.lst [.ref c, .int pos', .int rest', .int seed']) → (∀ x, x ≠ a → H' x = H x) → pos' ≤ 63 → 0 ≤ rest' → 0 ≤ seed' → seed' < 2147483629 → 0 ≤ r → r < n → Q (.int r) H' := fun H' pos' rest' seed' r e o q1 q2 q3 q4 q5 q6 =>
            k G H' _ _ [] (hP r q5 q6) (box_step g (by unfold boxc; rw [hH] <;> rfl) e o hG hl q1 q2 q3 q4) (.leaf (.int r)) fun _ z => nomatch z
          have mod0 : ∀ x : Int, 0 ≤ x % n := fun x => Int.emod_nonneg _ (by omega)
          have modn : ∀ x : Int, x % n < n := fun x => Int.emod_lt_of_pos _ n0
          refine ⟨_, rfl, a, _, 2, _, rfl, rfl, L hH, at2', rest, 0, rfl, rfl, _, rfl, ?_⟩
          refine ite2 (fun c0 => ?_) (fun c0 => ?_)
          · have c3 : (0 : Int) < rest := of_decide_eq_true c0
            refine ⟨_, rfl, a, _, 2, _, rfl, rfl, L hH, at2', ?_⟩
            refine ⟨_, rfl, _, rfl, _, _, rfl, rfl, (wide_div (b := 200) n0 (Nat.lt_of_lt_of_le (show n.natAbs < 1000000000000000000000000000000 by omega) (by decide)) (by decide) (by decide)), _, rfl, a, _, 2, 2, rfl, rfl, hH, rfl, ?_⟩
            refine ⟨_, rfl, _, rfl, _, _, rfl, rfl, n0, ?_⟩
            exact fin _ pos (rest / n) seed _ upd_same (fun x nx => upd_ne nx) hp (Int.ediv_nonneg (by omega) (by omega)) hs0 hs1 (mod0 _) (modn _)
          -- cell = 0; box[1] < len(box[0])
          refine ⟨_, rfl, a, _, 1, _, rfl, rfl, L hH, at1', _, rfl, a, _, 0, _, rfl, rfl, L hH, at0', c, _, rfl, .inl (.inl (.inl (g.ex _ _ hG))), _, _, rfl, rfl, _, rfl, ?_⟩
          refine ite2 (fun c1 => ?_) (fun c1 => ?_)
          · have c3 : (pos : Int) < ((cells.map V.int).length : Nat) := of_decide_eq_true c1
            rw [List.length_map] at c3
            have c4 : pos < cells.length := by omega
            have ec : atI (cells.map V.int) (pos : Int) = some (.int cells[pos]) := atI_nat (by rw [List.getElem?_map, List.getElem?_eq_getElem c4] <;> rfl)
            refine ⟨_, rfl, a, _, 0, _, rfl, rfl, L hH, at0', _, rfl, a, _, 1, _, rfl, rfl, L hH, at1', c, _, _, _, rfl, rfl, .inl (.inl (g.ex _ _ hG)), ec, ?_⟩
            refine ⟨_, rfl, a, _, 1, _, rfl, rfl, hH, by decide, rfl, _, _, rfl, rfl, a, _, 1, 1, rfl, rfl, hH, rfl, ?_⟩
            generalize hcell : cells[pos] = cell
            have ho : ∀ x, x ≠ a → upd H a (.lst ([V.ref c, .int pos, .int rest, .int seed].set 1 (.int ((pos : Int) + 1)))) x = H x := fun x nx => upd_ne nx
            have hH1 : upd H a (.lst ([V.ref c, .int pos, .int rest, .int seed].set 1 (.int ((pos : Int) + 1)))) a = some (.lst [.ref c, .int ((pos + 1 : Nat) : Int), .int rest, .int seed]) := upd_same
            have hp1 : pos + 1 ≤ 63 := by omega
            revert ho hH1 hp1
            generalize upd H a (.lst ([V.ref c, .int pos, .int rest, .int seed].set 1 (.int ((pos : Int) + 1)))) = H1
            generalize pos + 1 = pos1
            intro ho hH1 hp1
            -- cell >= 10 ** 18
            refine ⟨_, rfl, 10, 18, rfl, rfl, ⟨by decide, by decide, by decide⟩, _, _, rfl, rfl, _, rfl, ?_⟩
            refine ite2 (fun c2 => ?_) (fun c2 => ?_)
            · have c3 : (10 : Int) ^ (18 : Int).toNat ≤ cell := of_decide_eq_true c2
              have hc : 0 ≤ cell := Int.le_trans (by decide) c3
              refine ⟨_, rfl, _, rfl, _, _, rfl, rfl, (wide_div (b := 200) n0 (Nat.lt_of_lt_of_le (show n.natAbs < 1000000000000000000000000000000 by omega) (by decide)) (by decide) (by decide)), _, rfl, a, _, 2, 2, rfl, rfl, hH1, rfl, ?_⟩
              refine ⟨_, rfl, _, rfl, _, _, rfl, rfl, n0, ?_⟩
              exact fin _ pos1 (cell / n) seed _ upd_same (fun x nx => by rw [upd_ne nx]; exact ho x nx) hp1 (Int.ediv_nonneg hc (by omega)) hs0 hs1 (mod0 _) (modn _)
            · refine ⟨_, rfl, a, _, 3, _, rfl, rfl, L hH1, at3, ?_⟩
              refine ⟨_, rfl, seed, 3, rfl, rfl, ⟨by decide, by decide, by show seed.natAbs < 2 ^ 64; omega⟩, _, rfl, 48271, seed, rfl, rfl, .inl ⟨by decide, by decide⟩, _, _, rfl, rfl, _, rfl, cell, 2147483629, rfl, rfl, (by show (0 : Int) < 2147483629; decide), 69621, _, rfl, rfl, .inl ⟨by decide, by decide⟩, _, _, rfl, rfl, ?_⟩
              refine ⟨_, rfl, _, 11, rfl, rfl, _, 2147483629, rfl, rfl, (by show (0 : Int) < 2147483629; decide), _, rfl, a, _, 3, 3, rfl, rfl, hH1, rfl, ?_⟩
              refine ⟨_, rfl, a, _, 3, _, rfl, rfl, L upd_same, at3, _, 64, rfl, rfl, ⟨by decide, by decide⟩, _, rfl, _, n, rfl, rfl, n0, ?_⟩
              exact fin _ pos1 rest _ _ upd_same (fun x nx => by rw [upd_ne nx]; exact ho x nx) hp1 h0 (Int.emod_nonneg _ (by decide)) (Int.emod_lt_of_pos _ (by decide)) (mod0 _) (modn _)
          · -- 0 >= 10 ** 18
            refine ⟨_, rfl, 10, 18, rfl, rfl, ⟨by decide, by decide, by decide⟩, _, _, rfl, rfl, _, rfl, ?_⟩
            refine ite2 (fun c2 => ?_) (fun c2 => ?_)
            · have c3 : (10 : Int) ^ (18 : Int).toNat ≤ (0 : Int) := of_decide_eq_true c2
              have hc : 0 ≤ (0 : Int) := Int.le_trans (by decide) c3
              refine ⟨_, rfl, _, rfl, _, _, rfl, rfl, (wide_div (b := 200) n0 (Nat.lt_of_lt_of_le (show n.natAbs < 1000000000000000000000000000000 by omega) (by decide)) (by decide) (by decide)), _, rfl, a, _, 2, 2, rfl, rfl, hH, rfl, ?_⟩
              refine ⟨_, rfl, _, rfl, _, _, rfl, rfl, n0, ?_⟩
              exact fin _ pos ((0 : Int) / n) seed _ upd_same (fun x nx => upd_ne nx) hp (Int.ediv_nonneg hc (by omega)) hs0 hs1 (mod0 _) (modn _)
            · refine ⟨_, rfl, a, _, 3, _, rfl, rfl, L hH, at3, ?_⟩
              refine ⟨_, rfl, seed, 3, rfl, rfl, ⟨by decide, by decide, by show seed.natAbs < 2 ^ 64; omega⟩, _, rfl, 48271, seed, rfl, rfl, .inl ⟨by decide, by decide⟩, _, _, rfl, rfl, _, rfl, (0 : Int), 2147483629, rfl, rfl, (by show (0 : Int) < 2147483629; decide), 69621, _, rfl, rfl, .inl ⟨by decide, by decide⟩, _, _, rfl, rfl, ?_⟩
              refine ⟨_, rfl, _, 11, rfl, rfl, _, 2147483629, rfl, rfl, (by show (0 : Int) < 2147483629; decide), _, rfl, a, _, 3, 3, rfl, rfl, hH, rfl, ?_⟩
              refine ⟨_, rfl, a, _, 3, _, rfl, rfl, L upd_same, at3, _, 64, rfl, rfl, ⟨by decide, by decide⟩, _, rfl, _, n, rfl, rfl, n0, ?_⟩
              exact fin _ pos rest _ _ upd_same (fun x nx => upd_ne nx) hp h0 (Int.emod_nonneg _ (by decide)) (Int.emod_lt_of_pos _ (by decide)) (mod0 _) (modn _)
end
theorem sc_l_names : FnScope ["_law_box_here", "_law_many", "_law_letters", "_law_size", "_law_place", "_law_alike", "_law_first", "_law_rows", "_law_k", "_law_row", "_law_step", "_law_one"] ["_law_box_here", "_law_many"] (defScope st_l_names) := ⟨rfl, rfl, rfl, by decide +kernel, rfl, by decide +kernel, by decide +kernel⟩
def S_l_names : Spec := fun ds P _ => ∃ n : Int, ds = [.dict [], .int n] ∧ 0 ≤ n ∧ n ≤ 26 ∧ ∀ ns : List Str, (ns.length : Int) = n → (∀ z ∈ ns, IsName z) → ns.Nodup → P (.node ((strsD ns).map .leaf))
theorem abc_at : ∀ k : Int, 0 ≤ k → k < 26 → L2.atI (Str.ofString "abcdefghijklmnopqrstuvwxyz").cps.toList k = some (97 + k.toNat) := by
  have h : ∀ k : Fin 26, L2.atI (Str.ofString "abcdefghijklmnopqrstuvwxyz").cps.toList ((k.val : Nat) : Int) = some (97 + k.val) := by decide +kernel
  intro k k0 k1
  have := h ⟨k.toNat, by omega⟩
  simp only [] at this
  rw [Int.toNat_of_nonneg k0] at this
  exact this
def nameOf (cs : List Int) : Str := Txt.join (Str.ofString "") (cs.map fun a => sgn (97 + a.toNat))
theorem tl_nameOf (cs : List Int) : TL.tl (nameOf cs) = cs.map fun a => 97 + a.toNat := by
  have h := join_sgn (cs.map fun a => 97 + a.toNat)
  rw [List.map_map] at h
  exact h
theorem name_ok {cs : List Int} (h1 : 1 ≤ cs.length) (h2 : cs.length ≤ 8) (h : ∀ a ∈ cs, 0 ≤ a ∧ a < 26) : IsName (nameOf cs) := by
  refine ⟨?_, ?_, fun c hc => ?_⟩
  · rw [TL.len_tl, tl_nameOf, List.length_map]; exact h1
  · rw [TL.len_tl, tl_nameOf, List.length_map]; exact h2
  · have hc : c ∈ TL.tl (nameOf cs) := hc
    rw [tl_nameOf] at hc
    obtain ⟨a, ha, rfl⟩ := List.mem_map.mp hc
    have := h a ha
    omega
def nmAt (z : Str) (p : Nat) : Nat := (TL.tl z).getD p 0
theorem nmAt_of {cs : List Int} {p : Nat} (hp : p < cs.length) : nmAt (nameOf cs) p = 97 + (cs.getD p 0).toNat := by
  unfold nmAt
  rw [tl_nameOf, List.getD_eq_getElem?_getD, List.getElem?_map, List.getElem?_eq_getElem hp, List.getD_eq_getElem?_getD, List.getElem?_eq_getElem hp]
  rfl
theorem names_nodup {ns : List Str} {p : Nat} {f : Int} (hl : ns.length ≤ 26) (h : ∀ k (hk : k < ns.length), nmAt ns[k] p = 97 + ((f + 11 * (k : Int)) % 26).toNat) : ns.Nodup := by
  refine List.pairwise_iff_getElem.mpr fun i j hi hj hij e => ?_
  have h1 := h i hi
  have h2 := h j hj
  rw [e, h2] at h1
  omega
section
variable {P : Program} {w : World} {K : PySem.W.Frag} {mg : Str → Option Value} {base : Heap}
theorem ok_l_names {f : Addr} {fd : FuncData} (F : Fun K "_law_names" "_law_names" st_l_names f fd) (C_l_take : Cal P w K mg base "_law_take" ["_law_box_here", "_law_many"] 1 S_l_take) (m_range : mg "range" = none) (m_list : mg "list" = none) :
    FnOk P w K mg base CX0 2 f fd ["_law_box_here", "_law_many"] (spOf K mg S_l_names) := by
  refine fn_ok F sc_l_names ?len (fun cdv A outer s H E hr => s_cons (s_asg 2 sc_l_names.nd d_str)
    (s_cons (s_asg 3 sc_l_names.nd (d_fr (d_add d_int (d_callC C_l_take hr (a_cons (d_var 0) (a_cons d_int a_nil))))))
    (s_cons (s_asg 4 sc_l_names.nd (d_fr (d_callC C_l_take hr (a_cons (d_var 0) (a_cons (d_var 3) a_nil)))))
    (s_cons (s_asg 5 sc_l_names.nd (d_eq hr.units (d_callC C_l_take hr (a_cons (d_var 0) (a_cons d_int a_nil))) d_int))
    (s_cons (s_setLc (own := [("_law_k", 8)]) (i := 6) rfl sc_l_names.nd rfl rfl (sw_true rfl rfl rfl (by decide +kernel)) (i_rng1 m_range (a_cons (d_var 3) a_nil)) (blkOk_by (N := ["_law_box_here", "_law_many", "_law_letters", "_law_size", "_law_place", "_law_alike", "_law_first", "_law_rows", "_law_k", "_law_row", "_law_step", "_law_one"]) (sc := defScope st_l_names) (by decide +kernel)) (fun _ _ _ _ _ => g_name 8 sc_l_names.nd) (fun _ _ _ _ _ => ts_nil) (fun _ _ _ _ _ => d_callC C_l_take hr (a_cons (d_var 0) (a_cons d_int a_nil))))
    (s_frz 6 (s_cons (s_asg 7 sc_l_names.nd (d_lst a_nil))
    (s_cons (s_for (ts := [8]) PassesOwn.never rfl (i_rng1 m_range (a_cons (d_var 1) a_nil)) (g_name 8 sc_l_names.nd)
      (s_cons (s_asg 9 sc_l_names.nd (d_list m_list (a_cons (d_var 6) a_nil)))
    (s_cut (s_if (t_not (t_val (d_var 5))) (s_one (s_setLc (own := [("_law_step", 10)]) (i := 9) rfl sc_l_names.nd rfl rfl (sw_true rfl rfl rfl (by decide +kernel)) (i_rng1 m_range (a_cons (d_add (d_add (d_var 4) d_int) (d_callC C_l_take hr (a_cons (d_var 0) (a_cons (d_sub (d_var 3) (d_var 4)) a_nil)))) a_nil)) (blkOk_by (N := ["_law_box_here", "_law_many", "_law_letters", "_law_size", "_law_place", "_law_alike", "_law_first", "_law_rows", "_law_k", "_law_row", "_law_step", "_law_one"]) (sc := defScope st_l_names) (by decide +kernel)) (fun _ _ _ _ _ => g_name 10 sc_l_names.nd) (fun _ _ _ _ _ => ts_nil) (fun _ _ _ _ _ => d_callC C_l_take hr (a_cons (d_var 0) (a_cons d_int a_nil)))))
      s_nil)
    (s_cons (s_setI 9 (hj := d_var 4) (he := d_mod (d_add (d_at (d_var 6) (d_var 4)) (d_mul d_int (d_var 8))) d_int))
    (s_frz 9 (s_one (s_app 7 (d_join d_str (d_lc (own := [("_law_one", 11)]) rfl sc_l_names.nd (i_list (d_var 9)) (blkOk_by (N := ["_law_box_here", "_law_many", "_law_letters", "_law_size", "_law_place", "_law_alike", "_law_first", "_law_rows", "_law_k", "_law_row", "_law_step", "_law_one"]) (sc := defScope st_l_names) (by decide +kernel)) (fun _ _ _ _ _ => g_name 11 sc_l_names.nd) (fun _ _ _ _ _ => ts_nil) (fun _ _ _ _ _ => d_ats (d_var 2) (d_var 11)))))))))))
    (s_one (s_retV 7)))))))))) ?spec ?nx
  case len =>
    rintro ds P xp ⟨n, rfl, _⟩
    rfl
  case nx => exact fun _ _ _ h => h
  case spec =>
    rintro ds P ⟨n, rfl, n0, n1, q⟩
    walk_at "dd"
    refine ⟨by decide, by decide, fun r r0 r1 => ⟨by omega, by omega, fun p p0 p1 => ⟨by decide, by decide, fun u u0 u1 => ?_⟩⟩⟩
    -- a list of drawn letters
    let Dr : Nat → List T → Prop := fun i acc => ∃ cs : List Int, acc = cs.map (fun i => T.leaf (.int i)) ∧ cs.length = i ∧ ∀ a ∈ cs, 0 ≤ a ∧ a < 26
    have dr : ∀ {i : Nat} {acc : List T}, Dr i acc → ∀ a : Int, 0 ≤ a → a < 26 → Dr (i + 1) (acc ++ [.leaf (.int a)]) := fun {i acc} ⟨cs, e, hl, hc⟩ a a0 a1 => by
      subst e
      rw [snocI]
      refine ⟨_, rfl, by rw [List.length_append, hl]; rfl, fun x hx => ?_⟩
      rcases List.mem_append.mp hx with z | z
      · exact hc x z
      · rw [List.mem_singleton.mp z]
        exact ⟨a0, a1⟩
    refine lc_inv (rngD 0 (1 + r).toNat) Dr (fun P h => by walk_at "dd"; exact ⟨by omega, h⟩) (by rw [rngD_len]; exact lt_lim (by omega)) ⟨[], rfl, rfl, fun _ z => (nomatch z)⟩ ?_ ?_
    · rintro i d acc hd hacc
      walk_at "dd"
      exact ⟨by decide, by decide, fun a a0 a1 => dr hacc a a0 a1⟩
    · rintro acc ⟨fs, rfl, hfl, hf⟩
      rw [rngD_len] at hfl
      rw [show T.node (fs.map fun i => T.leaf (.int i)) = nodeI fs from rfl]
      have fp := hf _ (getD_mem (d := 0) (show p.toNat < fs.length by omega))
      walk_at "dd"
      refine ⟨Nat.zero_le _, ?_⟩
      refine for_rng 0 n.toNat (fun i ρ' => ∃ (ns : List Str) (y8 y9 : Option T), ρ' = [some (.leaf bx), some (int n), some (.leaf (.str (Str.ofString "abcdefghijklmnopqrstuvwxyz"))), some (int (1 + r)), some (int p), some (boo (decide (u = 0))), some (.leaf (.list (intsD fs))), some (.node ((strsD ns).map .leaf)), y8, y9, none, none] ∧ ns.length = i ∧ (∀ z ∈ ns, IsName z) ∧ ∀ k (hk : k < ns.length), nmAt ns[k] p.toNat = 97 + ((fs.getD p.toNat 0 + 11 * (k : Int)) % 26).toNat) (fun P h => by walk_at "dd"; exact ⟨by omega, h⟩) ⟨[], none, none, rfl, rfl, fun _ z => (nomatch z), fun k hk => absurd hk (Nat.not_lt_zero _)⟩ ?_ ?_
      · rintro i ρ' hi ⟨ns, y8, y9, rfl, hl, hn, hk⟩
        walk_at "dd"
        refine ⟨fun ρ' => ∃ cs : List Int, ρ' = [some (.leaf bx), some (int n), some (.leaf (.str (Str.ofString "abcdefghijklmnopqrstuvwxyz"))), some (int (1 + r)), some (int p), some (boo (decide (u = 0))), some (.leaf (.list (intsD fs))), some (.node ((strsD ns).map .leaf)), some (int i), some (nodeI cs), none, none] ∧ p.toNat < cs.length ∧ cs.length ≤ 8 ∧ ∀ a ∈ cs, 0 ≤ a ∧ a < 26, ?_, ?_⟩
        · walk_at "dd"
          refine ⟨fun _ => lc_raw ?_, fun _ => ⟨fs, by rw [node_ints], by omega, by omega, hf⟩⟩
          walk_at "dd"
          refine ⟨by omega, by omega, fun v v0 v1 => ⟨by omega, by rw [rngD_len]; exact lt_lim (by omega), Dr, ⟨[], rfl, rfl, fun _ z => (nomatch z)⟩, ?_, ?_⟩⟩
          · rintro i d acc hd hacc
            walk_at "dd"
            exact ⟨by decide, by decide, fun a a0 a1 => dr hacc a a0 a1⟩
          · rintro acc ⟨cs, rfl, hcl, hc⟩
            rw [rngD_len] at hcl
            exact ⟨cs, rfl, by omega, by omega, hc⟩
        · rintro ρ' ⟨cs, rfl, hp, hl8, hc⟩
          unfold nodeI
          walk_at "dd"
          refine ⟨_, atI_ints p0 (by omega), ?_⟩
          walk_at "dd"
          obtain ⟨w, hw⟩ : ∃ w, w = (fs.getD p.toNat 0 + 11 * (i : Int)) % 26 := ⟨_, rfl⟩
          have w0 : 0 ≤ w := by rw [hw]; exact Int.emod_nonneg _ (by decide)
          have w1 : w < 26 := by rw [hw]; exact Int.emod_lt_of_pos _ (by decide)
          rw [← hw]
          refine ⟨small_mul (by decide) (small_lt (by omega) (by omega)), by decide, p.toNat, by rw [List.length_map]; exact ixN_of p0 (by omega), ?_⟩
          rw [mapI1_set]
          have hcs : ∀ a ∈ cs.set p.toNat w, 0 ≤ a ∧ a < 26 := fun a ha => by
            rcases mem_set ha with z | z
            · exact hc a z
            · rw [z]; exact ⟨w0, w1⟩
          have hcl : (cs.set p.toNat w).length = cs.length := List.length_set
          have hcg : (cs.set p.toNat w).getD p.toNat 0 = w := by rw [getD_set hp, if_pos rfl]
          generalize cs.set p.toNat w = ds at hcs hcl hcg
          rw [show T.node (ds.map fun i => T.leaf (.int i)) = nodeI ds from rfl]
          walk_at "dd"
          refine ⟨by rw [List.length_map, strs_len, hl]; exact lt_lim (by omega), ?_⟩
          refine lc_ints ds (fun a => .leaf (.str (sgn (97 + a.toNat)))) (fun P h => by walk_at "dd"; exact h) (lt_lim (by omega)) (fun a Q R ha hQ => ?_) ?_
          · walk_at "dd"
            exact ⟨by decide +kernel, _, abc_at a (hcs a ha).1 (hcs a ha).2, hQ⟩
          · rw [show T.node (ds.map fun a => T.leaf (.str (sgn (97 + a.toNat)))) = .node ((strsD (ds.map fun a => sgn (97 + a.toNat))).map .leaf) by unfold strsD; rw [List.map_map, List.map_map]; rfl, asX_n]
            refine ⟨?_, ?_⟩
            · have this := sum_sgn (ds.map fun a => 97 + a.toNat)
              simp only [List.map_map, List.length_map] at this
              rw [List.map_map, List.length_map]
              have e : (ds.map ((fun x => x.length) ∘ fun a => sgn (97 + a.toNat))).sum = ds.length := this
              rw [e]
              show _ + _ * 0 ≤ _
              omega
            · refine ⟨ns ++ [nameOf ds], some (int i), some (.leaf (.list (intsD ds))), ?_, by rw [List.length_append, hl]; rfl, fun z hz => ?_, fun k hk2 => ?_⟩
              · unfold strsD
                rw [List.map_append, List.map_append]
                rfl
              · rcases List.mem_append.mp hz with y | y
                · exact hn z y
                · rw [List.mem_singleton.mp y]
                  exact name_ok (by omega) (by omega) hcs
              · rw [List.getElem_append]
                split
                · rename_i h
                  exact hk k h
                · have hk2 : k < ns.length + 1 := by rw [List.length_append] at hk2; exact hk2
                  have ek : k = i := by omega
                  rw [List.getElem_singleton, nmAt_of (by omega), hcg, hw, ek]
      · rintro ρ' ⟨ns, y8, y9, rfl, hl, hn, hk⟩
        walk_at "dd"
        exact q ns (by omega) hn (names_nodup (by omega) hk)
end
theorem sc_m_Society_now : FnScope ["self"] ["self"] (defScope st_m_Society_now) := ⟨rfl, rfl, rfl, by decide +kernel, rfl, by decide +kernel, by decide +kernel⟩
def S_m_Society_now (CM CS CY : Addr) : Spec := fun ds P _ => ∃ (y : Soc), ds = [socD CM CS CY y] ∧ P (.leaf (standD CM CS y.cur))
section
variable {P : Program} {w : World} {K : PySem.W.Frag} {mg : Str → Option Value} {base : Heap}
theorem ok_m_Society_now {f : Addr} {fd : FuncData} {C_Society : Addr} (cf_Society : CF K C_Society ks_Society) {C_Member : Addr} (cf_Member : CF K C_Member ks_Member) {C_Stand : Addr} (cf_Stand : CF K C_Stand ks_Stand) (F : Fun K "now" "Society.now" st_m_Society_now f fd)  :
    FnOk P w K mg base CX0 1 f fd ["self"] (spOf K mg (S_m_Society_now C_Member C_Stand C_Society)) := by
  refine fn_ok F sc_m_Society_now ?len (fun cdv A outer s H E hr => s_one (s_ret (d_at (d_fld 0 cf_Society (d_var 0)) (d_neg d_int)))) ?spec ?nx
  case len =>
    rintro ds P x ⟨y, rfl, _⟩
    rfl
  case nx => exact fun _ _ _ h => h
  case spec =>
    rintro ds P ⟨y, rfl, h⟩
    walk_at "dd"
    exact h
end
theorem sc_m_Society_names : FnScope ["self"] ["self"] (defScope st_m_Society_names) := ⟨rfl, rfl, rfl, by decide +kernel, rfl, by decide +kernel, by decide +kernel⟩
def S_m_Society_names (CM CS CY : Addr) : Spec := fun ds P _ => ∃ (y : Soc), ds = [socD CM CS CY y] ∧ P (.node ((strsD (y.cur.people.map (·.1))).map .leaf))
section
variable {P : Program} {w : World} {K : PySem.W.Frag} {mg : Str → Option Value} {base : Heap}
theorem ok_m_Society_names {f : Addr} {fd : FuncData} {C_Society : Addr} (cf_Society : CF K C_Society ks_Society) {C_Stand : Addr} (cf_Stand : CF K C_Stand ks_Stand) {C_Member : Addr} (cf_Member : CF K C_Member ks_Member) (F : Fun K "names" "Society.names" st_m_Society_names f fd) (M_Society_now : MthP CX0 P w K mg base C_Society "now" ["self"] 1 (S_m_Society_now C_Member C_Stand C_Society)) (m_list : mg "list" = none) :
    FnOk P w K mg base CX0 2 f fd ["self"] (spOf K mg (S_m_Society_names C_Member C_Stand C_Society)) := by
  refine fn_ok F sc_m_Society_names ?len (fun cdv A outer s H E hr => s_one (s_ret (d_listD rfl m_list (a_cons (d_fld 3 cf_Stand (d_meth0 (ks := ks_Society) .calm M_Society_now hr (d_var 0))) a_nil)))) ?spec ?nx
  case len =>
    rintro ds P x ⟨y, rfl, _⟩
    rfl
  case nx => exact fun _ _ _ h => h
  case spec =>
    rintro ds P ⟨y, rfl, h⟩
    walk_at "dd"
    refine ⟨y, rfl, ?_⟩
    walk_at "dd"
    exact h
end
theorem sc_m_Stand_alive_names : FnScope ["self", "name"] ["self"] (defScope st_m_Stand_alive_names) := ⟨rfl, rfl, rfl, by decide +kernel, rfl, by decide +kernel, by decide +kernel⟩
def aliveP (ps : List (Str × Mem)) : List (Str × Mem) := ps.filter fun p => p.2.alive
def aliveN (ps : List (Str × Mem)) : List Str := (aliveP ps).map (·.1)
def S_m_Stand_alive_names (CM CS : Addr) : Spec := fun ds P x => ∃ (s : Std), ds = [standD CM CS s] ∧ (s.people.map (·.1)).Nodup ∧ s.people.length < lim ∧ P (.node ((strsD (aliveN s.people)).map .leaf))
section
variable {P : Program} {w : World} {K : PySem.W.Frag} {mg : Str → Option Value} {base : Heap}
theorem ok_m_Stand_alive_names {f : Addr} {fd : FuncData} {C_Stand : Addr} (cf_Stand : CF K C_Stand ks_Stand) {C_Member : Addr} (cf_Member : CF K C_Member ks_Member) (F : Fun K "alive_names" "Stand.alive_names" st_m_Stand_alive_names f fd)  :
    FnOk P w K mg base CX0 1 f fd ["self"] (spOf K mg (S_m_Stand_alive_names C_Member C_Stand)) := by
  refine fn_ok F sc_m_Stand_alive_names ?len (fun cdv A outer s H E hr => s_one (s_ret (d_lcK (own := [("name", 1)]) rfl sc_m_Stand_alive_names.nd (d_fld 3 cf_Stand (d_var 0)) (blkOk_by (N := ["self", "name"]) (sc := defScope st_m_Stand_alive_names) (by decide +kernel)) (fun _ _ _ _ _ => g_name 1 sc_m_Stand_alive_names.nd) (fun _ _ _ _ _ => ts_one (t_val (d_fld 2 cf_Member (d_dget (room1 hr) (d_fld 3 cf_Stand (d_var 0)) (d_var 1))))) (fun _ _ _ _ _ => d_var 1)))) ?spec ?nx
  case len =>
    rintro ds P x ⟨s, rfl, _⟩
    rfl
  case nx => exact fun _ _ _ h => h
  case spec =>
    rintro ds P ⟨s, rfl, nd, hl, h⟩
    walk_at "dd"
    refine lc_overF (fun p => .str p.1) s.people (fun p => p.2.alive) (fun p => .leaf (.str p.1)) (fun P h => ?_) hl (fun a Q R ha q1 q2 => ?_) ?_
    · walk_at "dd"
      unfold strsD
      rw [List.map_map]
      exact h
    · walk_at "dd"
      refine ⟨memD C_Member a.2, by rw [valP_map, valG_mem nd ha]; rfl, ?_⟩
      walk_at "dd"
      exact ⟨q1, fun z => q2 (by simpa using z)⟩
    · unfold aliveN aliveP strsD at h
      rw [List.map_map, List.map_map] at h
      exact h
end
theorem sc_m_Society_living : FnScope ["self"] ["self"] (defScope st_m_Society_living) := ⟨rfl, rfl, rfl, by decide +kernel, rfl, by decide +kernel, by decide +kernel⟩
def S_m_Society_living (CM CS CY : Addr) : Spec := fun ds P _ => ∃ (y : Soc), ds = [socD CM CS CY y] ∧ (y.cur.people.map (·.1)).Nodup ∧ y.cur.people.length < lim ∧ y.cur.Yrs ∧ P (.node ((strsD (aliveN y.cur.people)).map .leaf))
section
variable {P : Program} {w : World} {K : PySem.W.Frag} {mg : Str → Option Value} {base : Heap}
theorem ok_m_Society_living {f : Addr} {fd : FuncData} {C_Society : Addr} (cf_Society : CF K C_Society ks_Society) {C_Stand : Addr} (cf_Stand : CF K C_Stand ks_Stand) {C_Member : Addr} (cf_Member : CF K C_Member ks_Member) (F : Fun K "living" "Society.living" st_m_Society_living f fd) (M_Stand_alive_names : MthP CX0 P w K mg base C_Stand "alive_names" ["self"] 1 (S_m_Stand_alive_names C_Member C_Stand)) (M_Society_now : MthP CX0 P w K mg base C_Society "now" ["self"] 1 (S_m_Society_now C_Member C_Stand C_Society)) :
    FnOk P w K mg base CX0 2 f fd ["self"] (spOf K mg (S_m_Society_living C_Member C_Stand C_Society)) := by
  refine fn_ok F sc_m_Society_living ?len (fun cdv A outer s H E hr => s_one (s_ret (d_meth0 (ks := ks_Stand) .calm M_Stand_alive_names hr (d_meth0 (ks := ks_Society) .calm M_Society_now hr (d_var 0))))) ?spec ?nx
  case len =>
    rintro ds P x ⟨y, rfl, _⟩
    rfl
  case nx => exact fun _ _ _ h => h
  case spec =>
    rintro ds P ⟨y, rfl, nd, hl, yr, h⟩
    walk_at "dd"
    refine ⟨y, rfl, ?_⟩
    walk_at "dd"
    exact ⟨y.cur, rfl, nd, hl, h⟩
end
theorem sc_m_Society_is_tied : FnScope ["self"] ["self"] (defScope st_m_Society_is_tied) := ⟨rfl, rfl, rfl, by decide +kernel, rfl, by decide +kernel, by decide +kernel⟩
def S_m_Society_is_tied (CM CS CY : Addr) : Spec := fun ds P _ => ∃ (y : Soc), ds = [socD CM CS CY y] ∧ P (boo y.cur.only)
section
variable {P : Program} {w : World} {K : PySem.W.Frag} {mg : Str → Option Value} {base : Heap}
theorem ok_m_Society_is_tied {f : Addr} {fd : FuncData} {C_Society : Addr} (cf_Society : CF K C_Society ks_Society) {C_Stand : Addr} (cf_Stand : CF K C_Stand ks_Stand) {C_Member : Addr} (cf_Member : CF K C_Member ks_Member) (F : Fun K "is_tied" "Society.is_tied" st_m_Society_is_tied f fd) (M_Society_now : MthP CX0 P w K mg base C_Society "now" ["self"] 1 (S_m_Society_now C_Member C_Stand C_Society)) :
    FnOk P w K mg base CX0 2 f fd ["self"] (spOf K mg (S_m_Society_is_tied C_Member C_Stand C_Society)) := by
  refine fn_ok F sc_m_Society_is_tied ?len (fun cdv A outer s H E hr => s_one (s_ret (d_fld 1 cf_Stand (d_meth0 (ks := ks_Society) .calm M_Society_now hr (d_var 0))))) ?spec ?nx
  case len =>
    rintro ds P x ⟨y, rfl, _⟩
    rfl
  case nx => exact fun _ _ _ h => h
  case spec =>
    rintro ds P ⟨y, rfl, h⟩
    walk_at "dd"
    refine ⟨y, rfl, ?_⟩
    walk_at "dd"
    exact h
end
theorem sc_m_Society_table : FnScope ["self"] ["self"] (defScope st_m_Society_table) := ⟨rfl, rfl, rfl, by decide +kernel, rfl, by decide +kernel, by decide +kernel⟩
def S_m_Society_table (CM CS CY : Addr) : Spec := fun ds P _ => ∃ (y : Soc), ds = [socD CM CS CY y] ∧ P (.node ((intsD y.cur.byAge).map .leaf))
section
variable {P : Program} {w : World} {K : PySem.W.Frag} {mg : Str → Option Value} {base : Heap}
theorem ok_m_Society_table {f : Addr} {fd : FuncData} {C_Society : Addr} (cf_Society : CF K C_Society ks_Society) {C_Stand : Addr} (cf_Stand : CF K C_Stand ks_Stand) {C_Member : Addr} (cf_Member : CF K C_Member ks_Member) (F : Fun K "table" "Society.table" st_m_Society_table f fd) (M_Society_now : MthP CX0 P w K mg base C_Society "now" ["self"] 1 (S_m_Society_now C_Member C_Stand C_Society)) (m_list : mg "list" = none) :
    FnOk P w K mg base CX0 2 f fd ["self"] (spOf K mg (S_m_Society_table C_Member C_Stand C_Society)) := by
  refine fn_ok F sc_m_Society_table ?len (fun cdv A outer s H E hr => s_one (s_ret (d_list m_list (a_cons (d_fld 0 cf_Stand (d_meth0 (ks := ks_Society) .calm M_Society_now hr (d_var 0))) a_nil)))) ?spec ?nx
  case len =>
    rintro ds P x ⟨y, rfl, _⟩
    rfl
  case nx => exact fun _ _ _ h => h
  case spec =>
    rintro ds P ⟨y, rfl, h⟩
    walk_at "dd"
    refine ⟨y, rfl, ?_⟩
    walk_at "dd"
    exact h
end
theorem sc_m_Society_blanks : FnScope ["self"] ["self"] (defScope st_m_Society_blanks) := ⟨rfl, rfl, rfl, by decide +kernel, rfl, by decide +kernel, by decide +kernel⟩
def S_m_Society_blanks (CM CS CY : Addr) : Spec := fun ds P _ => ∃ (y : Soc), ds = [socD CM CS CY y] ∧ P (int y.cur.many)
section
variable {P : Program} {w : World} {K : PySem.W.Frag} {mg : Str → Option Value} {base : Heap}
theorem ok_m_Society_blanks {f : Addr} {fd : FuncData} {C_Society : Addr} (cf_Society : CF K C_Society ks_Society) {C_Stand : Addr} (cf_Stand : CF K C_Stand ks_Stand) {C_Member : Addr} (cf_Member : CF K C_Member ks_Member) (F : Fun K "blanks" "Society.blanks" st_m_Society_blanks f fd) (M_Society_now : MthP CX0 P w K mg base C_Society "now" ["self"] 1 (S_m_Society_now C_Member C_Stand C_Society)) :
    FnOk P w K mg base CX0 2 f fd ["self"] (spOf K mg (S_m_Society_blanks C_Member C_Stand C_Society)) := by
  refine fn_ok F sc_m_Society_blanks ?len (fun cdv A outer s H E hr => s_one (s_ret (d_fld 2 cf_Stand (d_meth0 (ks := ks_Society) .calm M_Society_now hr (d_var 0))))) ?spec ?nx
  case len =>
    rintro ds P x ⟨y, rfl, _⟩
    rfl
  case nx => exact fun _ _ _ h => h
  case spec =>
    rintro ds P ⟨y, rfl, h⟩
    walk_at "dd"
    refine ⟨y, rfl, ?_⟩
    walk_at "dd"
    exact h
end
theorem sc_p_total : FnScope ["tickets", "blanks"] ["tickets", "blanks"] (defScope st_p_total) := ⟨rfl, rfl, rfl, by decide +kernel, rfl, by decide +kernel, by decide +kernel⟩
def S_p_total : Spec := fun ds P _ => ∃ (xs : List Int) (b : Int), ds = [.list (intsD xs), .int b] ∧ P (int (xs.sum + b))
section
variable {P : Program} {w : World} {K : PySem.W.Frag} {mg : Str → Option Value} {base : Heap}
theorem ok_p_total {f : Addr} {fd : FuncData} (F : Fun K "total" "total" st_p_total f fd) (m_sum : mg "sum" = none) :
    FnOk P w K mg base CX0 1 f fd ["tickets", "blanks"] (spOf K mg S_p_total) := by
  refine fn_ok F sc_p_total ?len (fun cdv A outer s H E hr => s_one (s_ret (d_add (d_sum rfl m_sum (a_cons (d_var 0) a_nil)) (d_var 1)))) ?spec ?nx
  case len =>
    rintro ds P xp ⟨xs, b, rfl, _⟩
    rfl
  case nx => exact fun _ _ _ h => h
  case spec =>
    rintro ds P ⟨xs, b, rfl, q⟩
    walk_at "dd"
    exact q
end
theorem sc_p_tickets_at : FnScope ["table", "age"] ["table", "age"] (defScope st_p_tickets_at) := ⟨rfl, rfl, rfl, by decide +kernel, rfl, by decide +kernel, by decide +kernel⟩
def ticketAt (ns : List Int) (a : Int) : Int := ns.getD (min a.toNat (ns.length - 1)) 0
def S_p_tickets_at : Spec := fun ds P _ => ∃ (ns : List Int) (a : Int), ds = [.list (intsD ns), .int a] ∧ ns ≠ [] ∧ 0 ≤ a ∧ P (int (ticketAt ns a))
section
variable {P : Program} {w : World} {K : PySem.W.Frag} {mg : Str → Option Value} {base : Heap}
theorem ok_p_tickets_at {f : Addr} {fd : FuncData} (F : Fun K "tickets_at" "tickets_at" st_p_tickets_at f fd) (m_len : mg "len" = none) :
    FnOk P w K mg base CX0 1 f fd ["table", "age"] (spOf K mg S_p_tickets_at) := by
  refine fn_ok F sc_p_tickets_at ?len (fun cdv A outer s H E hr => s_cons (s_if (t_lt (d_var 1) (d_len m_len (a_cons (d_var 0) a_nil))) (s_one (s_ret (d_at (d_var 0) (d_var 1))))
      s_nil)
    (s_one (s_ret (d_at (d_var 0) (d_neg d_int))))) ?spec ?nx
  case len =>
    rintro ds P xp ⟨ns, a, rfl, _⟩
    rfl
  case nx => exact fun _ _ _ h => h
  case spec =>
    rintro ds P ⟨ns, a, rfl, hne, h0, q⟩
    walk_at "dd"
    refine ⟨fun h => ⟨_, atI_ints h0 (by omega), ?_⟩, fun h => ⟨_, atI_ints_last hne, ?_⟩⟩
    · unfold ticketAt at q
      rw [Nat.min_eq_left (by omega)] at q
      exact q
    · unfold ticketAt at q
      rw [Nat.min_eq_right (by omega)] at q
      exact q
end
theorem sc_m_Stand_member : FnScope ["self", "name"] ["self", "name"] (defScope st_m_Stand_member) := ⟨rfl, rfl, rfl, by decide +kernel, rfl, by decide +kernel, by decide +kernel⟩
def S_m_Stand_member (CM CS : Addr) : Spec := fun ds P x => ∃ (s : Std) (n : Str), ds = [standD CM CS s, .str n] ∧ (∀ m, valG s.people n = some m → P (.leaf (memD CM m))) ∧ (valG s.people n = none → x "NoMember" .none)
section
variable {P : Program} {w : World} {K : PySem.W.Frag} {mg : Str → Option Value} {base : Heap}
theorem ok_m_Stand_member {f : Addr} {fd : FuncData} {C_Stand : Addr} (cf_Stand : CF K C_Stand ks_Stand) {C_Member : Addr} (cf_Member : CF K C_Member ks_Member) (F : Fun K "member" "Stand.member" st_m_Stand_member f fd) (X_NoMember : ExcF P w K mg base "NoMember") :
    FnOk P w K mg base (L2.CX P w) 3 f fd ["self", "name"] (spOf K mg (S_m_Stand_member C_Member C_Stand)) := by
  refine fn_okX F sc_m_Stand_member ?len (fun cdv A outer s H E hr => s_cons (s_if (t_notInD (room1 hr) (d_var 1) (d_fld 3 cf_Stand (d_var 0))) (s_one (s_raise X_NoMember hr rfl (takes_of rfl rfl rfl rfl)))
      s_nil)
    (s_one (s_ret (d_dget (room1 hr) (d_fld 3 cf_Stand (d_var 0)) (d_var 1))))) ?spec
  case len =>
    rintro ds P x ⟨s, n, rfl, _⟩
    rfl
  case spec =>
    rintro ds P x ⟨s, n, rfl, h1, h2⟩
    walk_at "dd"
    refine ⟨fun h => h2 ?_, fun h => ?_⟩
    · simpa using h
    · cases e : valG s.people n with
      | none => rw [e] at h; simp at h
      | some m => exact ⟨memD C_Member m, by rw [valP_map, e]; rfl, h1 m e⟩
end
theorem sc_m_Stand_tickets_of : FnScope ["self", "name", "one"] ["self", "name"] (defScope st_m_Stand_tickets_of) := ⟨rfl, rfl, rfl, by decide +kernel, rfl, by decide +kernel, by decide +kernel⟩
def Std.tixM (s : Std) (m : Mem) : Int := if m.alive then ticketAt s.byAge m.years else 0
def S_m_Stand_tickets_of (CM CS : Addr) : Spec := fun ds P x => ∃ (s : Std) (n : Str), ds = [standD CM CS s, .str n] ∧ (∀ m, valG s.people n = some m → s.byAge ≠ [] ∧ 0 ≤ m.years ∧ P (int (s.tixM m))) ∧ (valG s.people n = none → x "NoMember" .none)
section
variable {P : Program} {w : World} {K : PySem.W.Frag} {mg : Str → Option Value} {base : Heap}
theorem ok_m_Stand_tickets_of {f : Addr} {fd : FuncData} {C_Stand : Addr} (cf_Stand : CF K C_Stand ks_Stand) {C_Member : Addr} (cf_Member : CF K C_Member ks_Member) (F : Fun K "tickets_of" "Stand.tickets_of" st_m_Stand_tickets_of f fd) (C_p_tickets_at : Cal P w K mg base "tickets_at" ["table", "age"] 1 S_p_tickets_at) (M_Stand_member : MthP (L2.CX P w) P w K mg base C_Stand "member" ["self", "name"] 3 (S_m_Stand_member C_Member C_Stand)) :
    FnOk P w K mg base (L2.CX P w) 4 f fd ["self", "name"] (spOf K mg (S_m_Stand_tickets_of C_Member C_Stand)) := by
  refine fn_okX F sc_m_Stand_tickets_of ?len (fun cdv A outer s H E hr => s_cons (s_asg 2 sc_m_Stand_tickets_of.nd (d_fr (d_meth (ks := ks_Stand) (.out (takes_of rfl rfl rfl rfl)) M_Stand_member hr (d_var 0) (a_cons (d_var 1) a_nil))))
    (s_cons (s_if (t_not (t_val (d_fld 2 cf_Member (d_var 2)))) (s_one (s_ret d_int))
      s_nil)
    (s_one (s_ret (d_callC C_p_tickets_at hr (a_cons (d_fld 0 cf_Stand (d_var 0)) (a_cons (d_fld 0 cf_Member (d_var 2)) a_nil))))))) ?spec
  case len =>
    rintro ds P x ⟨s, n, rfl, _⟩
    rfl
  case spec =>
    rintro ds P x ⟨s, n, rfl, h1, h2⟩
    walk_at "dd"
    refine ⟨s, n, rfl, fun m e => ?_, h2⟩
    obtain ⟨b0, y0, p⟩ := h1 m e
    walk_at "dd"
    unfold Std.tixM at p
    refine ⟨fun h => by rw [h] at p; exact p, fun h => ⟨s.byAge, m.years, rfl, b0, y0, ?_⟩⟩
    rw [if_pos h] at p
    exact p
end
theorem sc_m_Stand_live_tickets : FnScope ["self", "name"] ["self"] (defScope st_m_Stand_live_tickets) := ⟨rfl, rfl, rfl, by decide +kernel, rfl, by decide +kernel, by decide +kernel⟩
def Std.liveT (s : Std) : List Int := (aliveP s.people).map fun p => s.tixM p.2
def S_m_Stand_live_tickets (CM CS : Addr) : Spec := fun ds P x => ∃ (s : Std), ds = [standD CM CS s] ∧ (s.people.map (·.1)).Nodup ∧ s.people.length < lim ∧ s.Yrs ∧ P (nodeI s.liveT)
section
variable {P : Program} {w : World} {K : PySem.W.Frag} {mg : Str → Option Value} {base : Heap}
theorem ok_m_Stand_live_tickets {f : Addr} {fd : FuncData} {C_Stand : Addr} (cf_Stand : CF K C_Stand ks_Stand) {C_Member : Addr} (cf_Member : CF K C_Member ks_Member) (F : Fun K "live_tickets" "Stand.live_tickets" st_m_Stand_live_tickets f fd) (M_Stand_tickets_of : MthP (L2.CX P w) P w K mg base C_Stand "tickets_of" ["self", "name"] 4 (S_m_Stand_tickets_of C_Member C_Stand)) (M_Stand_alive_names : MthP CX0 P w K mg base C_Stand "alive_names" ["self"] 1 (S_m_Stand_alive_names C_Member C_Stand)) :
    FnOk P w K mg base CX0 5 f fd ["self"] (spOf K mg (S_m_Stand_live_tickets C_Member C_Stand)) := by
  refine fn_ok F sc_m_Stand_live_tickets ?len (fun cdv A outer s H E hr => s_one (s_ret (d_lc (own := [("name", 1)]) rfl sc_m_Stand_live_tickets.nd (i_list (d_meth0 (ks := ks_Stand) .calm M_Stand_alive_names hr (d_var 0))) (blkOk_by (N := ["self", "name"]) (sc := defScope st_m_Stand_live_tickets) (by decide +kernel)) (fun _ _ _ _ _ => g_name 1 sc_m_Stand_live_tickets.nd) (fun _ _ _ _ _ => ts_nil) (fun _ _ _ _ _ => d_meth (ks := ks_Stand) (.out takes0) M_Stand_tickets_of hr (d_var 0) (a_cons (d_var 1) a_nil))))) ?spec ?nx
  case len =>
    rintro ds P x ⟨s, rfl, _⟩
    rfl
  case nx => exact fun _ _ _ h => h
  case spec =>
    rintro ds P ⟨s, rfl, nd, hl, yr, h⟩
    walk_at "dd"
    have hla : (aliveP s.people).length < lim := Nat.lt_of_le_of_lt (List.length_filter_le _ _) hl
    refine lc_overF (fun p => .str p.1) (aliveP s.people) (fun p => true) (fun p => int (s.tixM p.2)) (fun P h => ?_) hla (fun a Q R ha q1 q2 => ?_) ?_
    · walk_at "dd"
      refine ⟨s, rfl, nd, hl, ?_⟩
      unfold aliveN strsD
      rw [asL_lv, List.map_map]
      exact h
    · walk_at "dd"
      have hm : a ∈ s.people := (List.mem_filter.mp ha).1
      refine ⟨s, a.1, rfl, fun m em => ?_, fun z => ?_⟩
      · rw [valG_mem nd hm] at em
        cases em
        exact ⟨yr.1, yr.2 a hm, q1 rfl⟩
      · rw [valG_mem nd hm] at z
        cases z
    · rw [List.filter_eq_self.mpr fun _ _ => rfl]
      unfold Std.liveT nodeI at h
      rw [List.map_map] at h
      exact h
end
theorem sc_m_Society_total : FnScope ["self"] ["self"] (defScope st_m_Society_total) := ⟨rfl, rfl, rfl, by decide +kernel, rfl, by decide +kernel, by decide +kernel⟩
def S_m_Society_total (CM CS CY : Addr) : Spec := fun ds P _ => ∃ (y : Soc), ds = [socD CM CS CY y] ∧ (y.cur.people.map (·.1)).Nodup ∧ y.cur.people.length < lim ∧ y.cur.Yrs ∧ P (int (y.cur.liveT.sum + y.cur.many))
section
variable {P : Program} {w : World} {K : PySem.W.Frag} {mg : Str → Option Value} {base : Heap}
theorem ok_m_Society_total {f : Addr} {fd : FuncData} {C_Society : Addr} (cf_Society : CF K C_Society ks_Society) {C_Stand : Addr} (cf_Stand : CF K C_Stand ks_Stand) {C_Member : Addr} (cf_Member : CF K C_Member ks_Member) (F : Fun K "total" "Society.total" st_m_Society_total f fd) (C_p_total_tickets : Cal P w K mg base "total_tickets" ["tickets", "blanks"] 1 S_p_total) (M_Stand_live_tickets : MthP CX0 P w K mg base C_Stand "live_tickets" ["self"] 5 (S_m_Stand_live_tickets C_Member C_Stand)) (M_Society_now : MthP CX0 P w K mg base C_Society "now" ["self"] 1 (S_m_Society_now C_Member C_Stand C_Society)) :
    FnOk P w K mg base CX0 6 f fd ["self"] (spOf K mg (S_m_Society_total C_Member C_Stand C_Society)) := by
  refine fn_ok F sc_m_Society_total ?len (fun cdv A outer s H E hr => s_one (s_ret (d_callC C_p_total_tickets hr (a_cons (d_meth0 (ks := ks_Stand) .calm M_Stand_live_tickets hr (d_meth0 (ks := ks_Society) .calm M_Society_now hr (d_var 0))) (a_cons (d_fld 2 cf_Stand (d_meth0 (ks := ks_Society) .calm M_Society_now hr (d_var 0))) a_nil))))) ?spec ?nx
  case len =>
    rintro ds P x ⟨y, rfl, _⟩
    rfl
  case nx => exact fun _ _ _ h => h
  case spec =>
    rintro ds P ⟨y, rfl, nd, hl, yr, h⟩
    walk_at "dd"
    refine ⟨y, rfl, ?_⟩
    walk_at "dd"
    refine ⟨y.cur, rfl, nd, hl, yr, ?_⟩
    walk_at "dd"
    refine ⟨y, rfl, ?_⟩
    walk_at "dd"
    exact ⟨_, _, rfl, h⟩
end
theorem sc_m_Society_deeds : FnScope ["self"] ["self"] (defScope st_m_Society_deeds) := ⟨rfl, rfl, rfl, by decide +kernel, rfl, by decide +kernel, by decide +kernel⟩
def S_m_Society_deeds (CM CS CY : Addr) : Spec := fun ds P _ => ∃ (y : Soc), ds = [socD CM CS CY y] ∧ P (.node (y.done.map .leaf))
section
variable {P : Program} {w : World} {K : PySem.W.Frag} {mg : Str → Option Value} {base : Heap}
theorem ok_m_Society_deeds {f : Addr} {fd : FuncData} {C_Society : Addr} (cf_Society : CF K C_Society ks_Society) {C_Member : Addr} (cf_Member : CF K C_Member ks_Member) {C_Stand : Addr} (cf_Stand : CF K C_Stand ks_Stand) (F : Fun K "deeds" "Society.deeds" st_m_Society_deeds f fd) (m_list : mg "list" = none) :
    FnOk P w K mg base CX0 1 f fd ["self"] (spOf K mg (S_m_Society_deeds C_Member C_Stand C_Society)) := by
  refine fn_ok F sc_m_Society_deeds ?len (fun cdv A outer s H E hr => s_one (s_ret (d_list m_list (a_cons (d_fld 1 cf_Society (d_var 0)) a_nil)))) ?spec ?nx
  case len =>
    rintro ds P x ⟨y, rfl, _⟩
    rfl
  case nx => exact fun _ _ _ h => h
  case spec =>
    rintro ds P ⟨y, rfl, h⟩
    walk_at "dd"
    exact h
end
theorem sc_m_Society_bets : FnScope ["self"] ["self"] (defScope st_m_Society_bets) := ⟨rfl, rfl, rfl, by decide +kernel, rfl, by decide +kernel, by decide +kernel⟩
def S_m_Society_bets (CM CS CY : Addr) : Spec := fun ds P _ => ∃ (y : Soc), ds = [socD CM CS CY y] ∧ P (.node ((betsD y.cur.hand).map .leaf))
section
variable {P : Program} {w : World} {K : PySem.W.Frag} {mg : Str → Option Value} {base : Heap}
theorem ok_m_Society_bets {f : Addr} {fd : FuncData} {C_Society : Addr} (cf_Society : CF K C_Society ks_Society) {C_Stand : Addr} (cf_Stand : CF K C_Stand ks_Stand) {C_Member : Addr} (cf_Member : CF K C_Member ks_Member) (F : Fun K "bets" "Society.bets" st_m_Society_bets f fd) (M_Society_now : MthP CX0 P w K mg base C_Society "now" ["self"] 1 (S_m_Society_now C_Member C_Stand C_Society)) (m_list : mg "list" = none) :
    FnOk P w K mg base CX0 2 f fd ["self"] (spOf K mg (S_m_Society_bets C_Member C_Stand C_Society)) := by
  refine fn_ok F sc_m_Society_bets ?len (fun cdv A outer s H E hr => s_one (s_ret (d_list m_list (a_cons (d_fld 5 cf_Stand (d_meth0 (ks := ks_Society) .calm M_Society_now hr (d_var 0))) a_nil)))) ?spec ?nx
  case len =>
    rintro ds P x ⟨y, rfl, _⟩
    rfl
  case nx => exact fun _ _ _ h => h
  case spec =>
    rintro ds P ⟨y, rfl, h⟩
    walk_at "dd"
    refine ⟨y, rfl, ?_⟩
    walk_at "dd"
    exact h
end
theorem sc_m_Society_strokes : FnScope ["self"] ["self"] (defScope st_m_Society_strokes) := ⟨rfl, rfl, rfl, by decide +kernel, rfl, by decide +kernel, by decide +kernel⟩
def S_m_Society_strokes (CM CS CY : Addr) : Spec := fun ds P _ => ∃ (y : Soc), ds = [socD CM CS CY y] ∧ P (.node (y.cur.history.map .leaf))
section
variable {P : Program} {w : World} {K : PySem.W.Frag} {mg : Str → Option Value} {base : Heap}
theorem ok_m_Society_strokes {f : Addr} {fd : FuncData} {C_Society : Addr} (cf_Society : CF K C_Society ks_Society) {C_Stand : Addr} (cf_Stand : CF K C_Stand ks_Stand) {C_Member : Addr} (cf_Member : CF K C_Member ks_Member) (F : Fun K "strokes" "Society.strokes" st_m_Society_strokes f fd) (M_Society_now : MthP CX0 P w K mg base C_Society "now" ["self"] 1 (S_m_Society_now C_Member C_Stand C_Society)) (m_list : mg "list" = none) :
    FnOk P w K mg base CX0 2 f fd ["self"] (spOf K mg (S_m_Society_strokes C_Member C_Stand C_Society)) := by
  refine fn_ok F sc_m_Society_strokes ?len (fun cdv A outer s H E hr => s_one (s_ret (d_list m_list (a_cons (d_fld 6 cf_Stand (d_meth0 (ks := ks_Society) .calm M_Society_now hr (d_var 0))) a_nil)))) ?spec ?nx
  case len =>
    rintro ds P x ⟨y, rfl, _⟩
    rfl
  case nx => exact fun _ _ _ h => h
  case spec =>
    rintro ds P ⟨y, rfl, h⟩
    walk_at "dd"
    refine ⟨y, rfl, ?_⟩
    walk_at "dd"
    exact h
end
theorem sc_m_Society_age : FnScope ["self", "name"] ["self", "name"] (defScope st_m_Society_age) := ⟨rfl, rfl, rfl, by decide +kernel, rfl, by decide +kernel, by decide +kernel⟩
def S_m_Society_age (CM CS CY : Addr) : Spec := fun ds P x => ∃ (y : Soc) (n : Str), ds = [socD CM CS CY y, .str n] ∧ (∀ m, valG y.cur.people n = some m → P (int m.years)) ∧ (valG y.cur.people n = none → x "NoMember" .none)
section
variable {P : Program} {w : World} {K : PySem.W.Frag} {mg : Str → Option Value} {base : Heap}
theorem ok_m_Society_age {f : Addr} {fd : FuncData} {C_Society : Addr} (cf_Society : CF K C_Society ks_Society) {C_Member : Addr} (cf_Member : CF K C_Member ks_Member) {C_Stand : Addr} (cf_Stand : CF K C_Stand ks_Stand) (F : Fun K "age" "Society.age" st_m_Society_age f fd) (M_Stand_member : MthP (L2.CX P w) P w K mg base C_Stand "member" ["self", "name"] 3 (S_m_Stand_member C_Member C_Stand)) (M_Society_now : MthP CX0 P w K mg base C_Society "now" ["self"] 1 (S_m_Society_now C_Member C_Stand C_Society)) :
    FnOk P w K mg base (L2.CX P w) 4 f fd ["self", "name"] (spOf K mg (S_m_Society_age C_Member C_Stand C_Society)) := by
  refine fn_okX F sc_m_Society_age ?len (fun cdv A outer s H E hr => s_one (s_ret (d_fld 0 cf_Member (d_meth (ks := ks_Stand) (.out (takes_of rfl rfl rfl rfl)) M_Stand_member hr (d_meth0 (ks := ks_Society) .calm M_Society_now hr (d_var 0)) (a_cons (d_var 1) a_nil))))) ?spec
  case len =>
    rintro ds P x ⟨y, n, rfl, _⟩
    rfl
  case spec =>
    rintro ds P x ⟨y, n, rfl, h1, h2⟩
    walk_at "dd"
    refine ⟨y, rfl, ?_⟩
    walk_at "dd"
    refine ⟨y.cur, n, rfl, fun m em => ?_, h2⟩
    walk_at "dd"
    exact h1 m em
end
theorem sc_m_Society_coins : FnScope ["self", "name"] ["self", "name"] (defScope st_m_Society_coins) := ⟨rfl, rfl, rfl, by decide +kernel, rfl, by decide +kernel, by decide +kernel⟩
def S_m_Society_coins (CM CS CY : Addr) : Spec := fun ds P x => ∃ (y : Soc) (n : Str), ds = [socD CM CS CY y, .str n] ∧ (∀ m, valG y.cur.people n = some m → P (int m.purse)) ∧ (valG y.cur.people n = none → x "NoMember" .none)
section
variable {P : Program} {w : World} {K : PySem.W.Frag} {mg : Str → Option Value} {base : Heap}
theorem ok_m_Society_coins {f : Addr} {fd : FuncData} {C_Society : Addr} (cf_Society : CF K C_Society ks_Society) {C_Member : Addr} (cf_Member : CF K C_Member ks_Member) {C_Stand : Addr} (cf_Stand : CF K C_Stand ks_Stand) (F : Fun K "coins" "Society.coins" st_m_Society_coins f fd) (M_Stand_member : MthP (L2.CX P w) P w K mg base C_Stand "member" ["self", "name"] 3 (S_m_Stand_member C_Member C_Stand)) (M_Society_now : MthP CX0 P w K mg base C_Society "now" ["self"] 1 (S_m_Society_now C_Member C_Stand C_Society)) :
    FnOk P w K mg base (L2.CX P w) 4 f fd ["self", "name"] (spOf K mg (S_m_Society_coins C_Member C_Stand C_Society)) := by
  refine fn_okX F sc_m_Society_coins ?len (fun cdv A outer s H E hr => s_one (s_ret (d_fld 1 cf_Member (d_meth (ks := ks_Stand) (.out (takes_of rfl rfl rfl rfl)) M_Stand_member hr (d_meth0 (ks := ks_Society) .calm M_Society_now hr (d_var 0)) (a_cons (d_var 1) a_nil))))) ?spec
  case len =>
    rintro ds P x ⟨y, n, rfl, _⟩
    rfl
  case spec =>
    rintro ds P x ⟨y, n, rfl, h1, h2⟩
    walk_at "dd"
    refine ⟨y, rfl, ?_⟩
    walk_at "dd"
    refine ⟨y.cur, n, rfl, fun m em => ?_, h2⟩
    walk_at "dd"
    exact h1 m em
end
theorem sc_m_Stand_held_of : FnScope ["self", "name", "coins", "row", "first", "second"] ["self", "name"] (defScope st_m_Stand_held_of) := ⟨rfl, rfl, rfl, by decide +kernel, rfl, by decide +kernel, by decide +kernel⟩
def S_m_Stand_held_of (CM CS : Addr) : Spec := fun ds P x => ∃ (s : Std) (n : Str), ds = [standD CM CS s, .str n] ∧ s.hand = [] ∧ P (int 0)
section
variable {P : Program} {w : World} {K : PySem.W.Frag} {mg : Str → Option Value} {base : Heap}
theorem ok_m_Stand_held_of {f : Addr} {fd : FuncData} {C_Stand : Addr} (cf_Stand : CF K C_Stand ks_Stand) {C_Member : Addr} (cf_Member : CF K C_Member ks_Member) (F : Fun K "held_of" "Stand.held_of" st_m_Stand_held_of f fd)  :
    FnOk P w K mg base CX0 1 f fd ["self", "name"] (spOf K mg (S_m_Stand_held_of C_Member C_Stand)) := by
  refine fn_ok F sc_m_Stand_held_of ?len (fun cdv A outer s H E hr => s_cons (s_asg 2 sc_m_Stand_held_of.nd d_int)
    (s_cons (s_for (ts := [3]) PassesOwn.never rfl (i_list (d_fld 5 cf_Stand (d_var 0))) (g_name 3 sc_m_Stand_held_of.nd)
      (s_cons s_never
    (s_cut s_never
    (s_one s_never))))
    (s_one (s_retV 2)))) ?spec ?nx
  case len =>
    rintro ds P x ⟨s, n, rfl, _⟩
    rfl
  case nx => exact fun _ _ _ h => h
  case spec =>
    rintro ds P ⟨s, n, rfl, e, h⟩
    walk_at "dd"
    refine for_of [] (fun i ρ' => i = 0 ∧ ∃ y z u, ρ' = [some (.leaf (standD C_Member C_Stand s)), some (.leaf (.str n)), some (int 0), y, z, u]) (fun P h => by walk_at "dd"; rw [e]; exact h) ⟨rfl, _, _, _, rfl⟩ (fun i d ρ' e => by cases e) ?_
    rintro ρ' ⟨_, y, z, u, rfl⟩
    walk_at "dd"
    exact h
end
theorem sc_m_Stand_free_of : FnScope ["self", "name"] ["self", "name"] (defScope st_m_Stand_free_of) := ⟨rfl, rfl, rfl, by decide +kernel, rfl, by decide +kernel, by decide +kernel⟩
def S_m_Stand_free_of (CM CS : Addr) : Spec := fun ds P x => ∃ (s : Std) (n : Str), ds = [standD CM CS s, .str n] ∧ s.hand = [] ∧ (∀ m, valG s.people n = some m → P (int m.purse)) ∧ (valG s.people n = none → x "NoMember" .none)
section
variable {P : Program} {w : World} {K : PySem.W.Frag} {mg : Str → Option Value} {base : Heap}
theorem ok_m_Stand_free_of {f : Addr} {fd : FuncData} {C_Stand : Addr} (cf_Stand : CF K C_Stand ks_Stand) {C_Member : Addr} (cf_Member : CF K C_Member ks_Member) (F : Fun K "free_of" "Stand.free_of" st_m_Stand_free_of f fd) (M_Stand_held_of : MthP CX0 P w K mg base C_Stand "held_of" ["self", "name"] 1 (S_m_Stand_held_of C_Member C_Stand)) (M_Stand_member : MthP (L2.CX P w) P w K mg base C_Stand "member" ["self", "name"] 3 (S_m_Stand_member C_Member C_Stand)) :
    FnOk P w K mg base (L2.CX P w) 4 f fd ["self", "name"] (spOf K mg (S_m_Stand_free_of C_Member C_Stand)) := by
  refine fn_okX F sc_m_Stand_free_of ?len (fun cdv A outer s H E hr => s_one (s_ret (d_sub (d_fld 1 cf_Member (d_meth (ks := ks_Stand) (.out (takes_of rfl rfl rfl rfl)) M_Stand_member hr (d_var 0) (a_cons (d_var 1) a_nil))) (d_meth (ks := ks_Stand) .calm M_Stand_held_of hr (d_var 0) (a_cons (d_var 1) a_nil))))) ?spec
  case len =>
    rintro ds P x ⟨s, n, rfl, _⟩
    rfl
  case spec =>
    rintro ds P x ⟨s, n, rfl, e, h1, h2⟩
    walk_at "dd"
    refine ⟨s, n, rfl, fun m em => ?_, h2⟩
    walk_at "dd"
    refine ⟨s, n, rfl, e, ?_⟩
    walk_at "dd"
    simpa using h1 m em
end
theorem sc_m_Society_free : FnScope ["self", "name"] ["self", "name"] (defScope st_m_Society_free) := ⟨rfl, rfl, rfl, by decide +kernel, rfl, by decide +kernel, by decide +kernel⟩
def S_m_Society_free (CM CS CY : Addr) : Spec := fun ds P x => ∃ (y : Soc) (n : Str), ds = [socD CM CS CY y, .str n] ∧ y.cur.hand = [] ∧ (∀ m, valG y.cur.people n = some m → P (int m.purse)) ∧ (valG y.cur.people n = none → x "NoMember" .none)
section
variable {P : Program} {w : World} {K : PySem.W.Frag} {mg : Str → Option Value} {base : Heap}
theorem ok_m_Society_free {f : Addr} {fd : FuncData} {C_Society : Addr} (cf_Society : CF K C_Society ks_Society) {C_Stand : Addr} (cf_Stand : CF K C_Stand ks_Stand) {C_Member : Addr} (cf_Member : CF K C_Member ks_Member) (F : Fun K "free" "Society.free" st_m_Society_free f fd) (M_Stand_free_of : MthP (L2.CX P w) P w K mg base C_Stand "free_of" ["self", "name"] 4 (S_m_Stand_free_of C_Member C_Stand)) (M_Society_now : MthP CX0 P w K mg base C_Society "now" ["self"] 1 (S_m_Society_now C_Member C_Stand C_Society)) :
    FnOk P w K mg base (L2.CX P w) 5 f fd ["self", "name"] (spOf K mg (S_m_Society_free C_Member C_Stand C_Society)) := by
  refine fn_okX F sc_m_Society_free ?len (fun cdv A outer s H E hr => s_one (s_ret (d_meth (ks := ks_Stand) (.out (takes_of rfl rfl rfl rfl)) M_Stand_free_of hr (d_meth0 (ks := ks_Society) .calm M_Society_now hr (d_var 0)) (a_cons (d_var 1) a_nil)))) ?spec
  case len =>
    rintro ds P x ⟨y, n, rfl, _⟩
    rfl
  case spec =>
    rintro ds P x ⟨y, n, rfl, hh, h1, h2⟩
    walk_at "dd"
    refine ⟨y, rfl, ?_⟩
    walk_at "dd"
    exact ⟨y.cur, n, rfl, hh, h1, h2⟩
end
theorem sc_m_Society_tickets : FnScope ["self", "name"] ["self", "name"] (defScope st_m_Society_tickets) := ⟨rfl, rfl, rfl, by decide +kernel, rfl, by decide +kernel, by decide +kernel⟩
def S_m_Society_tickets (CM CS CY : Addr) : Spec := fun ds P x => ∃ (y : Soc) (n : Str), ds = [socD CM CS CY y, .str n] ∧ (∀ m, valG y.cur.people n = some m → y.cur.byAge ≠ [] ∧ 0 ≤ m.years ∧ P (int (y.cur.tixM m))) ∧ (valG y.cur.people n = none → x "NoMember" .none)
section
variable {P : Program} {w : World} {K : PySem.W.Frag} {mg : Str → Option Value} {base : Heap}
theorem ok_m_Society_tickets {f : Addr} {fd : FuncData} {C_Society : Addr} (cf_Society : CF K C_Society ks_Society) {C_Stand : Addr} (cf_Stand : CF K C_Stand ks_Stand) {C_Member : Addr} (cf_Member : CF K C_Member ks_Member) (F : Fun K "tickets" "Society.tickets" st_m_Society_tickets f fd) (M_Stand_tickets_of : MthP (L2.CX P w) P w K mg base C_Stand "tickets_of" ["self", "name"] 4 (S_m_Stand_tickets_of C_Member C_Stand)) (M_Society_now : MthP CX0 P w K mg base C_Society "now" ["self"] 1 (S_m_Society_now C_Member C_Stand C_Society)) :
    FnOk P w K mg base (L2.CX P w) 5 f fd ["self", "name"] (spOf K mg (S_m_Society_tickets C_Member C_Stand C_Society)) := by
  refine fn_okX F sc_m_Society_tickets ?len (fun cdv A outer s H E hr => s_one (s_ret (d_meth (ks := ks_Stand) (.out (takes_of rfl rfl rfl rfl)) M_Stand_tickets_of hr (d_meth0 (ks := ks_Society) .calm M_Society_now hr (d_var 0)) (a_cons (d_var 1) a_nil)))) ?spec
  case len =>
    rintro ds P x ⟨y, n, rfl, _⟩
    rfl
  case spec =>
    rintro ds P x ⟨y, n, rfl, h1, h2⟩
    walk_at "dd"
    refine ⟨y, rfl, ?_⟩
    walk_at "dd"
    exact ⟨y.cur, n, rfl, h1, h2⟩
end
theorem sc_m_Stand_are_tied : FnScope ["self", "one", "other"] ["self", "one", "other"] (defScope st_m_Stand_are_tied) := ⟨rfl, rfl, rfl, by decide +kernel, rfl, by decide +kernel, by decide +kernel⟩
def S_m_Stand_are_tied (CM CS : Addr) : Spec := fun ds P x => ∃ (s : Std) (a b : Str), ds = [standD CM CS s, .str a, .str b] ∧ P (boo (decide ((a, b) ∈ s.pairs ∨ (b, a) ∈ s.pairs)))
section
variable {P : Program} {w : World} {K : PySem.W.Frag} {mg : Str → Option Value} {base : Heap}
theorem ok_m_Stand_are_tied {f : Addr} {fd : FuncData} {C_Stand : Addr} (cf_Stand : CF K C_Stand ks_Stand) {C_Member : Addr} (cf_Member : CF K C_Member ks_Member) (F : Fun K "are_tied" "Stand.are_tied" st_m_Stand_are_tied f fd)  :
    FnOk P w K mg base CX0 1 f fd ["self", "one", "other"] (spOf K mg (S_m_Stand_are_tied C_Member C_Stand)) := by
  refine fn_ok F sc_m_Stand_are_tied ?len (fun cdv A outer s H E hr => s_one (s_ret (d_or (d_inD (room1 hr) (d_tup (a_cons (d_var 1) (a_cons (d_var 2) a_nil))) (d_fld 4 cf_Stand (d_var 0))) (d_one (d_inD (room1 hr) (d_tup (a_cons (d_var 2) (a_cons (d_var 1) a_nil))) (d_fld 4 cf_Stand (d_var 0))))))) ?spec ?nx
  case len =>
    rintro ds P x ⟨s, a, b, rfl, _⟩
    rfl
  case nx => exact fun _ _ _ h => h
  case spec =>
    rintro ds P ⟨s, a, b, rfl, h⟩
    walk_at "dd"
    refine ⟨by decide, fun c => ?_, fun c => ⟨by decide, ?_⟩⟩
    · simpa [c] using h
    · simpa [c] using h
end
theorem sc_m_Society_ties : FnScope ["self", "name", "other"] ["self", "name"] (defScope st_m_Society_ties) := ⟨rfl, rfl, rfl, by decide +kernel, rfl, by decide +kernel, by decide +kernel⟩
def Std.ties (s : Std) (n : Str) : List Str := (s.people.map (·.1)).filter fun o => decide ((n, o) ∈ s.pairs ∨ (o, n) ∈ s.pairs)
def S_m_Society_ties (CM CS CY : Addr) : Spec := fun ds P x => ∃ (y : Soc) (n : Str), ds = [socD CM CS CY y, .str n] ∧ y.cur.people.length < lim ∧ (∀ m, valG y.cur.people n = some m → P (.node ((strsD (y.cur.ties n)).map .leaf))) ∧ (valG y.cur.people n = none → x "NoMember" .none)
section
variable {P : Program} {w : World} {K : PySem.W.Frag} {mg : Str → Option Value} {base : Heap}
theorem ok_m_Society_ties {f : Addr} {fd : FuncData} {C_Society : Addr} (cf_Society : CF K C_Society ks_Society) {C_Stand : Addr} (cf_Stand : CF K C_Stand ks_Stand) {C_Member : Addr} (cf_Member : CF K C_Member ks_Member) (F : Fun K "ties" "Society.ties" st_m_Society_ties f fd) (M_Stand_member : MthP (L2.CX P w) P w K mg base C_Stand "member" ["self", "name"] 3 (S_m_Stand_member C_Member C_Stand)) (M_Society_now : MthP CX0 P w K mg base C_Society "now" ["self"] 1 (S_m_Society_now C_Member C_Stand C_Society)) (M_Stand_are_tied : MthP CX0 P w K mg base C_Stand "are_tied" ["self", "one", "other"] 1 (S_m_Stand_are_tied C_Member C_Stand)) :
    FnOk P w K mg base (L2.CX P w) 4 f fd ["self", "name"] (spOf K mg (S_m_Society_ties C_Member C_Stand C_Society)) := by
  refine fn_okX F sc_m_Society_ties ?len (fun cdv A outer s H E hr => s_cons (s_drop (d_meth (ks := ks_Stand) (.out (takes_of rfl rfl rfl rfl)) M_Stand_member hr (d_meth0 (ks := ks_Society) .calm M_Society_now hr (d_var 0)) (a_cons (d_var 1) a_nil)))
    (s_one (s_ret (d_lcK (own := [("other", 2)]) rfl sc_m_Society_ties.nd (d_fld 3 cf_Stand (d_meth0 (ks := ks_Society) .calm M_Society_now hr (d_var 0))) (blkOk_by (N := ["self", "name", "other"]) (sc := defScope st_m_Society_ties) (by decide +kernel)) (fun _ _ _ _ _ => g_name 2 sc_m_Society_ties.nd) (fun _ _ _ _ _ => ts_one (t_val (d_meth (ks := ks_Stand) .calm M_Stand_are_tied hr (d_meth0 (ks := ks_Society) .calm M_Society_now hr (d_var 0)) (a_cons (d_var 1) (a_cons (d_var 2) a_nil))))) (fun _ _ _ _ _ => d_var 2))))) ?spec
  case len =>
    rintro ds P x ⟨y, n, rfl, _⟩
    rfl
  case spec =>
    rintro ds P x ⟨y, n, rfl, hl, h1, h2⟩
    walk_at "dd"
    refine ⟨y, rfl, ?_⟩
    walk_at "dd"
    refine ⟨y.cur, n, rfl, fun m em => ?_, h2⟩
    walk_at "dd"
    refine lc_overF (fun o => .str o) (y.cur.people.map (·.1)) (fun o => decide ((n, o) ∈ y.cur.pairs ∨ (o, n) ∈ y.cur.pairs)) (fun o => .leaf (.str o)) (fun P h => ?_) (by rw [List.length_map]; exact hl) (fun o Q R ho q1 q2 => ?_) ?_
    · walk_at "dd"
      refine ⟨y, rfl, ?_⟩
      walk_at "dd"
      exact h
    · walk_at "dd"
      refine ⟨y, rfl, ?_⟩
      walk_at "dd"
      refine ⟨y.cur, n, o, rfl, ?_⟩
      walk_at "dd"
      exact ⟨fun z => q1 (decide_eq_true z), fun z => q2 (decide_eq_false z)⟩
    · have := h1 m em
      unfold strsD Std.ties at this
      rw [List.map_map] at this
      exact this
end
theorem sc_l_seen : FnScope ["_law_society", "_law_rows", "_law_name", "_law_found"] ["_law_society"] (defScope st_l_seen) := ⟨rfl, rfl, rfl, by decide +kernel, rfl, by decide +kernel, by decide +kernel⟩
def seenP (s : Std) (p : Str × Mem) : List PyData := [.tuple [.str p.1, .int p.2.years, .int p.2.purse], .tuple [.int p.2.purse, .int (s.tixM p.2), .list (strsD (s.ties p.1))]]
def seenR (s : Std) (ps : List (Str × Mem)) : List PyData := (ps.map (seenP s)).flatten
theorem seenR_len (s : Std) : ∀ ps : List (Str × Mem), (seenR s ps).length = 2 * ps.length
  | [] => rfl
  | p :: ps => by
    show (seenP s p ++ seenR s ps).length = _
    rw [List.length_append, seenR_len s ps, List.length_cons]
    show 2 + _ = _
    omega
theorem seenR_snoc (s : Std) (ps : List (Str × Mem)) (p : Str × Mem) : seenR s (ps ++ [p]) = seenR s ps ++ seenP s p := by
  unfold seenR
  rw [List.map_append, List.flatten_append]
  rfl
def seenL (y : Soc) : List PyData := [.list (strsD (y.cur.people.map (·.1))), .list (strsD (aliveN y.cur.people)), .bool y.cur.only, .list (intsD y.cur.byAge), .int y.cur.many, .int (y.cur.liveT.sum + y.cur.many), .list y.done, .list (betsD y.cur.hand), .list y.cur.history, .list (seenR y.cur y.cur.people)]
def S_l_seen (CM CS CY : Addr) : Spec := fun ds P _ => ∃ (y : Soc), ds = [socD CM CS CY y] ∧ (y.cur.people.map (·.1)).Nodup ∧ y.cur.people.length < 1000 ∧ y.cur.Yrs ∧ y.cur.hand = [] ∧ P (.node ((seenL y).map .leaf))
section
variable {P : Program} {w : World} {K : PySem.W.Frag} {mg : Str → Option Value} {base : Heap}
theorem ok_l_seen {f : Addr} {fd : FuncData} {C_Society : Addr} (cf_Society : CF K C_Society ks_Society) {C_Member : Addr} (cf_Member : CF K C_Member ks_Member) {C_Stand : Addr} (cf_Stand : CF K C_Stand ks_Stand) (F : Fun K "_law_seen" "_law_seen" st_l_seen f fd) (M_Society_names : MthP CX0 P w K mg base C_Society "names" ["self"] 2 (S_m_Society_names C_Member C_Stand C_Society)) (M_Society_living : MthP CX0 P w K mg base C_Society "living" ["self"] 2 (S_m_Society_living C_Member C_Stand C_Society)) (M_Society_is_tied : MthP CX0 P w K mg base C_Society "is_tied" ["self"] 2 (S_m_Society_is_tied C_Member C_Stand C_Society)) (M_Society_table : MthP CX0 P w K mg base C_Society "table" ["self"] 2 (S_m_Society_table C_Member C_Stand C_Society)) (M_Society_blanks : MthP CX0 P w K mg base C_Society "blanks" ["self"] 2 (S_m_Society_blanks C_Member C_Stand C_Society)) (M_Society_total : MthP CX0 P w K mg base C_Society "total" ["self"] 6 (S_m_Society_total C_Member C_Stand C_Society)) (M_Society_deeds : MthP CX0 P w K mg base C_Society "deeds" ["self"] 1 (S_m_Society_deeds C_Member C_Stand C_Society)) (M_Society_bets : MthP CX0 P w K mg base C_Society "bets" ["self"] 2 (S_m_Society_bets C_Member C_Stand C_Society)) (M_Society_strokes : MthP CX0 P w K mg base C_Society "strokes" ["self"] 2 (S_m_Society_strokes C_Member C_Stand C_Society)) (M_Society_age : MthP (L2.CX P w) P w K mg base C_Society "age" ["self", "name"] 4 (S_m_Society_age C_Member C_Stand C_Society)) (M_Society_coins : MthP (L2.CX P w) P w K mg base C_Society "coins" ["self", "name"] 4 (S_m_Society_coins C_Member C_Stand C_Society)) (M_Society_free : MthP (L2.CX P w) P w K mg base C_Society "free" ["self", "name"] 5 (S_m_Society_free C_Member C_Stand C_Society)) (M_Society_tickets : MthP (L2.CX P w) P w K mg base C_Society "tickets" ["self", "name"] 5 (S_m_Society_tickets C_Member C_Stand C_Society)) (M_Society_ties : MthP (L2.CX P w) P w K mg base C_Society "ties" ["self", "name"] 4 (S_m_Society_ties C_Member C_Stand C_Society)) :
    FnOk P w K mg base CX0 7 f fd ["_law_society"] (spOf K mg (S_l_seen C_Member C_Stand C_Society)) := by
  refine fn_ok F sc_l_seen ?len (fun cdv A outer s H E hr => s_cons (s_asg 1 sc_l_seen.nd (d_lst a_nil))
    (s_cons (s_for (ts := [2]) PassesOwn.never rfl (i_list (d_meth0 (ks := ks_Society) .calm M_Society_names hr (d_var 0))) (g_name 2 sc_l_seen.nd)
      (s_cons (s_app 1 (d_tup (a_cons (d_var 2) (a_cons (d_meth (ks := ks_Society) (.out takes0) M_Society_age hr (d_var 0) (a_cons (d_var 2) a_nil)) (a_cons (d_meth (ks := ks_Society) (.out takes0) M_Society_coins hr (d_var 0) (a_cons (d_var 2) a_nil)) a_nil)))))
    (s_one (s_app 1 (d_tup (a_cons (d_meth (ks := ks_Society) (.out takes0) M_Society_free hr (d_var 0) (a_cons (d_var 2) a_nil)) (a_cons (d_meth (ks := ks_Society) (.out takes0) M_Society_tickets hr (d_var 0) (a_cons (d_var 2) a_nil)) (a_cons (d_meth (ks := ks_Society) (.out takes0) M_Society_ties hr (d_var 0) (a_cons (d_var 2) a_nil)) a_nil))))))))
    (s_frz 1 (s_cons (s_asg 3 sc_l_seen.nd (d_fr (d_lst (a_cons (d_meth0 (ks := ks_Society) .calm M_Society_names hr (d_var 0)) (a_cons (d_meth0 (ks := ks_Society) .calm M_Society_living hr (d_var 0)) (a_cons (d_meth0 (ks := ks_Society) .calm M_Society_is_tied hr (d_var 0)) (a_cons (d_meth0 (ks := ks_Society) .calm M_Society_table hr (d_var 0)) (a_cons (d_meth0 (ks := ks_Society) .calm M_Society_blanks hr (d_var 0)) a_nil))))))))
    (s_one (s_ret (d_add (d_var 3) (d_lst (a_cons (d_meth0 (ks := ks_Society) .calm M_Society_total hr (d_var 0)) (a_cons (d_meth0 (ks := ks_Society) .calm M_Society_deeds hr (d_var 0)) (a_cons (d_meth0 (ks := ks_Society) .calm M_Society_bets hr (d_var 0)) (a_cons (d_meth0 (ks := ks_Society) .calm M_Society_strokes hr (d_var 0)) (a_cons (d_var 1) a_nil))))))))))))) ?spec ?nx
  case len =>
    rintro ds P x ⟨a, rfl, _⟩
    rfl
  case nx => exact fun _ _ _ h => h
  case spec =>
    rintro ds P ⟨y, rfl, nd, hl, yr, hh, h⟩
    have hl' : y.cur.people.length < lim := Nat.lt_trans hl (by decide)
    walk_at "dd"
    refine ⟨by decide, for_of (strsD (y.cur.people.map (·.1))) (fun i ρ' => ∃ y2, ρ' = [some (.leaf (socD C_Member C_Stand C_Society y)), some (.node ((seenR y.cur (y.cur.people.take i)).map .leaf)), y2, none]) (fun P h => ?_) ⟨none, rfl⟩ ?_ ?_⟩
    · walk_at "dd"
      refine ⟨y, rfl, ?_⟩
      walk_at "dd"
      exact h
    · rintro i d ρ' hd ⟨y2, rfl⟩
      unfold strsD at hd
      rw [List.getElem?_map, List.getElem?_map] at hd
      cases e : y.cur.people[i]? with
      | none => rw [e] at hd; cases hd
      | some p =>
        rw [e] at hd
        cases hd
        have hm : p ∈ y.cur.people := List.mem_of_getElem? e
        have vm := valG_mem nd hm
        have al : (seenR y.cur (y.cur.people.take i)).length ≤ 2 * 1000 := by
          rw [seenR_len, List.length_take]
          omega
        walk_at "dd"
        refine ⟨by rw [List.length_map]; exact Nat.lt_of_le_of_lt al (by decide), y, p.1, rfl, fun m em => ?_, fun z => (by rw [vm] at z; cases z)⟩
        rw [vm] at em
        cases em
        walk_at "dd"
        refine ⟨y, p.1, rfl, fun m em => ?_, fun z => (by rw [vm] at z; cases z)⟩
        rw [vm] at em
        cases em
        walk_at "dd"
        refine ⟨by decide, by rw [List.length_append, List.length_map]; exact Nat.lt_of_le_of_lt (Nat.succ_le_succ al) (by decide), y, p.1, rfl, hh, fun m em => ?_, fun z => (by rw [vm] at z; cases z)⟩
        rw [vm] at em
        cases em
        walk_at "dd"
        refine ⟨y, p.1, rfl, fun m em => ⟨yr.1, ?_⟩, fun z => (by rw [vm] at z; cases z)⟩
        rw [vm] at em
        cases em
        refine ⟨yr.2 p hm, ?_⟩
        walk_at "dd"
        refine ⟨y, p.1, rfl, hl', fun m em => ?_, fun z => (by rw [vm] at z; cases z)⟩
        walk_at "dd"
        refine ⟨by decide, some (.leaf (.str p.1)), ?_⟩
        rw [List.take_add_one, e]
        show _ = [_, some (T.node ((seenR y.cur (y.cur.people.take i ++ [p])).map T.leaf)), _, _]
        rw [seenR_snoc, List.map_append, List.append_assoc]
        rfl
    · rintro ρ' ⟨y2, rfl⟩
      walk_at "dd"
      refine ⟨y, rfl, y, rfl, nd, hl', yr, y, rfl, y, rfl, y, rfl, by decide, y, rfl, nd, hl', yr, y, rfl, y, rfl, y, rfl, by decide, by decide, ?_⟩
      rw [strs_len, List.length_map, List.take_length]
      unfold seenL at h
      walk_at "dd"
      exact h
end
theorem sc_l_nearly : FnScope ["_law_name", "_law_one", "_law_some"] ["_law_name", "_law_one"] (defScope st_l_nearly) := ⟨rfl, rfl, rfl, by decide +kernel, rfl, by decide +kernel, by decide +kernel⟩
theorem nl_0 : (Str.ofString "").length = 0 := by decide +kernel
theorem nl_1 : (Str.ofString " ").length = 1 := by decide +kernel
theorem nl_2 : (Str.ofString "open").length = 4 := by decide +kernel
theorem nl_3 : (Str.ofString "open ").length = 5 := by decide +kernel
theorem ne_3 : Str.ofString "open " = Str.ofString "open" ++ (Str.ofString " ") := by decide +kernel
theorem nl_4 : (Str.ofString " free").length = 5 := by decide +kernel
theorem ne_4 : Str.ofString " free" = Str.ofString " " ++ (Str.ofString "free") := by decide +kernel
theorem nl_5 : (Str.ofString " free 0").length = 7 := by decide +kernel
theorem ne_5 : Str.ofString " free 0" = Str.ofString " " ++ (Str.ofString "free" ++ (Str.ofString " " ++ (Str.ofString "0"))) := by decide +kernel
theorem nl_6 : (Str.ofString "names ").length = 6 := by decide +kernel
theorem ne_6 : Str.ofString "names " = Str.ofString "names" ++ (Str.ofString " ") := by decide +kernel
theorem nl_7 : (Str.ofString " Free 0 5").length = 9 := by decide +kernel
theorem ne_7 : Str.ofString " Free 0 5" = Str.ofString " " ++ (Str.ofString "Free" ++ (Str.ofString " " ++ (Str.ofString "0" ++ (Str.ofString " " ++ (Str.ofString "5"))))) := by decide +kernel
theorem nl_8 : (Str.ofString " free 0 05").length = 10 := by decide +kernel
theorem ne_8 : Str.ofString " free 0 05" = Str.ofString " " ++ (Str.ofString "free" ++ (Str.ofString " " ++ (Str.ofString "0" ++ (Str.ofString " " ++ (Str.ofString "05"))))) := by decide +kernel
theorem nl_9 : (Str.ofString " free -1 5").length = 10 := by decide +kernel
theorem ne_9 : Str.ofString " free -1 5" = Str.ofString " " ++ (Str.ofString "free" ++ (Str.ofString " " ++ (Str.ofString "-1" ++ (Str.ofString " " ++ (Str.ofString "5"))))) := by decide +kernel
theorem nl_10 : (Str.ofString " tied 0 5 ").length = 10 := by decide +kernel
theorem ne_10 : Str.ofString " tied 0 5 " = Str.ofString " " ++ (Str.ofString "tied" ++ (Str.ofString " " ++ (Str.ofString "0" ++ (Str.ofString " " ++ (Str.ofString "5" ++ (Str.ofString " ")))))) := by decide +kernel
theorem nl_11 : (Str.ofString " tied 0  5").length = 10 := by decide +kernel
theorem ne_11 : Str.ofString " tied 0  5" = Str.ofString " " ++ (Str.ofString "tied" ++ (Str.ofString " " ++ (Str.ofString "0" ++ (Str.ofString " " ++ (Str.ofString " " ++ (Str.ofString "5")))))) := by decide +kernel
theorem nl_12 : (Str.ofString "open  free 0 5").length = 14 := by decide +kernel
theorem ne_12 : Str.ofString "open  free 0 5" = Str.ofString "open" ++ (Str.ofString " " ++ (Str.ofString " " ++ (Str.ofString "free" ++ (Str.ofString " " ++ (Str.ofString "0" ++ (Str.ofString " " ++ (Str.ofString "5"))))))) := by decide +kernel
theorem nl_13 : (Str.ofString "in").length = 2 := by decide +kernel
theorem nl_14 : (Str.ofString "in ").length = 3 := by decide +kernel
theorem ne_14 : Str.ofString "in " = Str.ofString "in" ++ (Str.ofString " ") := by decide +kernel
theorem nl_15 : (Str.ofString " pay ").length = 5 := by decide +kernel
theorem ne_15 : Str.ofString " pay " = Str.ofString " " ++ (Str.ofString "pay" ++ (Str.ofString " ")) := by decide +kernel
theorem nl_16 : (Str.ofString " 1 1").length = 4 := by decide +kernel
theorem ne_16 : Str.ofString " 1 1" = Str.ofString " " ++ (Str.ofString "1" ++ (Str.ofString " " ++ (Str.ofString "1"))) := by decide +kernel
theorem nl_17 : (Str.ofString " join A 3").length = 9 := by decide +kernel
theorem ne_17 : Str.ofString " join A 3" = Str.ofString " " ++ (Str.ofString "join" ++ (Str.ofString " " ++ (Str.ofString "A" ++ (Str.ofString " " ++ (Str.ofString "3"))))) := by decide +kernel
theorem nl_18 : (Str.ofString " names").length = 6 := by decide +kernel
theorem ne_18 : Str.ofString " names" = Str.ofString " " ++ (Str.ofString "names") := by decide +kernel
theorem nl_19 : (Str.ofString " strike").length = 7 := by decide +kernel
theorem ne_19 : Str.ofString " strike" = Str.ofString " " ++ (Str.ofString "strike") := by decide +kernel
theorem nl_20 : (Str.ofString " strike x").length = 9 := by decide +kernel
theorem ne_20 : Str.ofString " strike x" = Str.ofString " " ++ (Str.ofString "strike" ++ (Str.ofString " " ++ (Str.ofString "x"))) := by decide +kernel
theorem nl_21 : (Str.ofString "in  blanks 1").length = 12 := by decide +kernel
theorem ne_21 : Str.ofString "in  blanks 1" = Str.ofString "in" ++ (Str.ofString " " ++ (Str.ofString " " ++ (Str.ofString "blanks" ++ (Str.ofString " " ++ (Str.ofString "1"))))) := by decide +kernel
theorem nl_22 : (Str.ofString "copy").length = 4 := by decide +kernel
theorem nl_23 : (Str.ofString "copy ").length = 5 := by decide +kernel
theorem ne_23 : Str.ofString "copy " = Str.ofString "copy" ++ (Str.ofString " ") := by decide +kernel
theorem nl_24 : (Str.ofString "close").length = 5 := by decide +kernel
theorem nl_25 : (Str.ofString "close ").length = 6 := by decide +kernel
theorem ne_25 : Str.ofString "close " = Str.ofString "close" ++ (Str.ofString " ") := by decide +kernel
theorem nl_26 : (Str.ofString "move").length = 4 := by decide +kernel
theorem nl_27 : (Str.ofString "move ").length = 5 := by decide +kernel
theorem ne_27 : Str.ofString "move " = Str.ofString "move" ++ (Str.ofString " ") := by decide +kernel
theorem nl_28 : (Str.ofString "back").length = 4 := by decide +kernel
theorem nl_29 : (Str.ofString "again").length = 5 := by decide +kernel
theorem nl_30 : (Str.ofString "living").length = 6 := by decide +kernel
theorem nl_31 : (Str.ofString "coins").length = 5 := by decide +kernel
theorem nl_32 : (Str.ofString "coins ").length = 6 := by decide +kernel
theorem ne_32 : Str.ofString "coins " = Str.ofString "coins" ++ (Str.ofString " ") := by decide +kernel
theorem nl_33 : (Str.ofString "free ").length = 5 := by decide +kernel
theorem ne_33 : Str.ofString "free " = Str.ofString "free" ++ (Str.ofString " ") := by decide +kernel
theorem nl_34 : (Str.ofString "age ").length = 4 := by decide +kernel
theorem ne_34 : Str.ofString "age " = Str.ofString "age" ++ (Str.ofString " ") := by decide +kernel
theorem nl_35 : (Str.ofString "total").length = 5 := by decide +kernel
theorem nl_36 : (Str.ofString "total ").length = 6 := by decide +kernel
theorem ne_36 : Str.ofString "total " = Str.ofString "total" ++ (Str.ofString " ") := by decide +kernel
theorem nl_37 : (Str.ofString " 1").length = 2 := by decide +kernel
theorem ne_37 : Str.ofString " 1" = Str.ofString " " ++ (Str.ofString "1") := by decide +kernel
theorem nl_38 : (Str.ofString "who").length = 3 := by decide +kernel
theorem nl_39 : (Str.ofString "who ").length = 4 := by decide +kernel
theorem ne_39 : Str.ofString "who " = Str.ofString "who" ++ (Str.ofString " ") := by decide +kernel
theorem nl_40 : (Str.ofString "told").length = 4 := by decide +kernel
theorem nl_41 : (Str.ofString "bets").length = 4 := by decide +kernel
theorem nl_42 : (Str.ofString "shut").length = 4 := by decide +kernel
theorem nl_43 : (Str.ofString "odds ").length = 5 := by decide +kernel
theorem ne_43 : Str.ofString "odds " = Str.ofString "odds" ++ (Str.ofString " ") := by decide +kernel
theorem nl_44 : (Str.ofString " one").length = 4 := by decide +kernel
theorem ne_44 : Str.ofString " one" = Str.ofString " " ++ (Str.ofString "one") := by decide +kernel
theorem nl_45 : (Str.ofString "strike 0").length = 8 := by decide +kernel
theorem ne_45 : Str.ofString "strike 0" = Str.ofString "strike" ++ (Str.ofString " " ++ (Str.ofString "0")) := by decide +kernel
theorem nl_46 : (Str.ofString "pay ").length = 4 := by decide +kernel
theorem ne_46 : Str.ofString "pay " = Str.ofString "pay" ++ (Str.ofString " ") := by decide +kernel
theorem nl_47 : (Str.ofString "stakes ").length = 7 := by decide +kernel
theorem ne_47 : Str.ofString "stakes " = Str.ofString "stakes" ++ (Str.ofString " ") := by decide +kernel
theorem nl_48 : (Str.ofString "tree ").length = 5 := by decide +kernel
theorem ne_48 : Str.ofString "tree " = Str.ofString "tree" ++ (Str.ofString " ") := by decide +kernel
theorem nl_49 : (Str.ofString "page ").length = 5 := by decide +kernel
theorem ne_49 : Str.ofString "page " = Str.ofString "page" ++ (Str.ofString " ") := by decide +kernel
theorem nl_50 : (Str.ofString "no line").length = 7 := by decide +kernel
theorem ne_50 : Str.ofString "no line" = Str.ofString "no" ++ (Str.ofString " " ++ (Str.ofString "line")) := by decide +kernel
theorem nl_51 : (Str.ofString "deeds").length = 5 := by decide +kernel
def nearWs (n a : Str) : List (List Str) := [[("" : Str)], [("" : Str), ("" : Str)], [("open" : Str)], [("open" : Str), n], [("open" : Str), n, ("free" : Str)], [("open" : Str), n, ("free" : Str), ("0" : Str)], [("names" : Str), n], [("open" : Str), n, ("Free" : Str), ("0" : Str), ("5" : Str)], [("open" : Str), n, ("free" : Str), ("0" : Str), ("05" : Str)], [("open" : Str), n, ("free" : Str), ("-1" : Str), ("5" : Str)], [("open" : Str), n, ("tied" : Str), ("0" : Str), ("5" : Str), ("" : Str)], [("open" : Str), n, ("tied" : Str), ("0" : Str), ("" : Str), ("5" : Str)], [("open" : Str), ("" : Str), ("free" : Str), ("0" : Str), ("5" : Str)], [("in" : Str)], [("in" : Str), n], [("in" : Str), n, ("pay" : Str), a], [("in" : Str), n, ("pay" : Str), a, ("1" : Str), ("1" : Str)], [("in" : Str), n, ("join" : Str), ("A" : Str), ("3" : Str)], [("in" : Str), n, ("names" : Str)], [("in" : Str), n, ("strike" : Str)], [("in" : Str), n, ("strike" : Str), ("x" : Str)], [("in" : Str), ("" : Str), ("blanks" : Str), ("1" : Str)], [("copy" : Str)], [("copy" : Str), n], [("close" : Str)], [("close" : Str), n, a], [("move" : Str)], [("move" : Str), n, a], [("back" : Str)], [("again" : Str)], [("living" : Str)], [("coins" : Str)], [("coins" : Str), n], [("free" : Str), n], [("age" : Str), n], [("total" : Str)], [("total" : Str), n, ("1" : Str)], [("who" : Str)], [("who" : Str), n], [("who" : Str), n, a], [("told" : Str)], [("bets" : Str)], [("shut" : Str)], [("odds" : Str), n], [("odds" : Str), n, a], [("odds" : Str), n, a, ("one" : Str)], [("strike" : Str), ("0" : Str)], [("pay" : Str), a, ("1" : Str)], [("stakes" : Str), n], [("tree" : Str), n, ("1" : Str)], [("page" : Str), n], [("no" : Str), ("line" : Str)], [("deeds" : Str)]]
theorem near_eq (n a : Str) : [PyData.str (Str.ofString ""), PyData.str (Str.ofString " "), PyData.str (Str.ofString "open"), PyData.str (Str.ofString "open " ++ n), PyData.str (Str.ofString "open " ++ n ++ Str.ofString " free"), PyData.str (Str.ofString "open " ++ n ++ Str.ofString " free 0"), PyData.str (Str.ofString "names " ++ n), PyData.str (Str.ofString "open " ++ n ++ Str.ofString " Free 0 5"), PyData.str (Str.ofString "open " ++ n ++ Str.ofString " free 0 05"), PyData.str (Str.ofString "open " ++ n ++ Str.ofString " free -1 5"), PyData.str (Str.ofString "open " ++ n ++ Str.ofString " tied 0 5 "), PyData.str (Str.ofString "open " ++ n ++ Str.ofString " tied 0  5"), PyData.str (Str.ofString "open  free 0 5"), PyData.str (Str.ofString "in"), PyData.str (Str.ofString "in " ++ n), PyData.str (Str.ofString "in " ++ n ++ Str.ofString " pay " ++ a), PyData.str (Str.ofString "in " ++ n ++ Str.ofString " pay " ++ a ++ Str.ofString " 1 1"), PyData.str (Str.ofString "in " ++ n ++ Str.ofString " join A 3"), PyData.str (Str.ofString "in " ++ n ++ Str.ofString " names"), PyData.str (Str.ofString "in " ++ n ++ Str.ofString " strike"), PyData.str (Str.ofString "in " ++ n ++ Str.ofString " strike x"), PyData.str (Str.ofString "in  blanks 1"), PyData.str (Str.ofString "copy"), PyData.str (Str.ofString "copy " ++ n), PyData.str (Str.ofString "close"), PyData.str (Str.ofString "close " ++ n ++ Str.ofString " " ++ a), PyData.str (Str.ofString "move"), PyData.str (Str.ofString "move " ++ n ++ Str.ofString " " ++ a), PyData.str (Str.ofString "back"), PyData.str (Str.ofString "again"), PyData.str (Str.ofString "living"), PyData.str (Str.ofString "coins"), PyData.str (Str.ofString "coins " ++ n), PyData.str (Str.ofString "free " ++ n), PyData.str (Str.ofString "age " ++ n), PyData.str (Str.ofString "total"), PyData.str (Str.ofString "total " ++ n ++ Str.ofString " 1"), PyData.str (Str.ofString "who"), PyData.str (Str.ofString "who " ++ n), PyData.str (Str.ofString "who " ++ n ++ Str.ofString " " ++ a), PyData.str (Str.ofString "told"), PyData.str (Str.ofString "bets"), PyData.str (Str.ofString "shut"), PyData.str (Str.ofString "odds " ++ n), PyData.str (Str.ofString "odds " ++ n ++ Str.ofString " " ++ a), PyData.str (Str.ofString "odds " ++ n ++ Str.ofString " " ++ a ++ Str.ofString " one"), PyData.str (Str.ofString "strike 0"), PyData.str (Str.ofString "pay " ++ a ++ Str.ofString " 1"), PyData.str (Str.ofString "stakes " ++ n), PyData.str (Str.ofString "tree " ++ n ++ Str.ofString " 1"), PyData.str (Str.ofString "page " ++ n), PyData.str (Str.ofString "no line"), PyData.str (Str.ofString "deeds")] = (nearWs n a).map fun ws => .str (Txt.join " " ws) := by
  unfold nearWs
  simp only [List.map_cons, List.map_nil, jn2, jn1, str_assoc, str_nil, str_nilR, ne_3, ne_4, ne_5, ne_6, ne_7, ne_8, ne_9, ne_10, ne_11, ne_12, ne_14, ne_15, ne_16, ne_17, ne_18, ne_19, ne_20, ne_21, ne_23, ne_25, ne_27, ne_32, ne_33, ne_34, ne_36, ne_37, ne_39, ne_43, ne_44, ne_45, ne_46, ne_47, ne_48, ne_49, ne_50]
def S_l_nearly : Spec := fun ds P _ => ∃ (n a : Str), ds = [.str n, .str a] ∧ n.length ≤ 8 ∧ a.length ≤ 8 ∧ P (.node (((nearWs n a).map fun ws => PyData.str (Txt.join " " ws)).map .leaf))
section
variable {P : Program} {w : World} {K : PySem.W.Frag} {mg : Str → Option Value} {base : Heap}
theorem ok_l_nearly {f : Addr} {fd : FuncData} (F : Fun K "_law_nearly" "_law_nearly" st_l_nearly f fd)  :
    FnOk P w K mg base CX0 1 f fd ["_law_name", "_law_one"] (spOf K mg S_l_nearly) := by
  refine fn_ok F sc_l_nearly ?len (fun cdv A outer s H E hr => s_cons (s_asg 2 sc_l_nearly.nd (d_fr (d_lst (a_cons d_str (a_cons d_str (a_cons d_str (a_cons (d_addS d_str (d_var 0)) (a_cons (d_addS (d_addS d_str (d_var 0)) d_str) (a_cons (d_addS (d_addS d_str (d_var 0)) d_str) (a_cons (d_addS d_str (d_var 0)) a_nil))))))))))
    (s_cons (s_asg 2 sc_l_nearly.nd (d_fr (d_add (d_var 2) (d_lst (a_cons (d_addS (d_addS d_str (d_var 0)) d_str) (a_cons (d_addS (d_addS d_str (d_var 0)) d_str) (a_cons (d_addS (d_addS d_str (d_var 0)) d_str) a_nil)))))))
    (s_cons (s_asg 2 sc_l_nearly.nd (d_fr (d_add (d_var 2) (d_lst (a_cons (d_addS (d_addS d_str (d_var 0)) d_str) (a_cons (d_addS (d_addS d_str (d_var 0)) d_str) (a_cons d_str (a_cons d_str (a_cons (d_addS d_str (d_var 0)) a_nil)))))))))
    (s_cons (s_asg 2 sc_l_nearly.nd (d_fr (d_add (d_var 2) (d_lst (a_cons (d_addS (d_addS (d_addS d_str (d_var 0)) d_str) (d_var 1)) (a_cons (d_addS (d_addS (d_addS (d_addS d_str (d_var 0)) d_str) (d_var 1)) d_str) (a_cons (d_addS (d_addS d_str (d_var 0)) d_str) a_nil)))))))
    (s_cons (s_asg 2 sc_l_nearly.nd (d_fr (d_add (d_var 2) (d_lst (a_cons (d_addS (d_addS d_str (d_var 0)) d_str) (a_cons (d_addS (d_addS d_str (d_var 0)) d_str) (a_cons (d_addS (d_addS d_str (d_var 0)) d_str) (a_cons d_str a_nil))))))))
    (s_cons (s_asg 2 sc_l_nearly.nd (d_fr (d_add (d_var 2) (d_lst (a_cons d_str (a_cons (d_addS d_str (d_var 0)) (a_cons d_str (a_cons (d_addS (d_addS (d_addS d_str (d_var 0)) d_str) (d_var 1)) (a_cons d_str (a_cons (d_addS (d_addS (d_addS d_str (d_var 0)) d_str) (d_var 1)) a_nil))))))))))
    (s_cons (s_asg 2 sc_l_nearly.nd (d_fr (d_add (d_var 2) (d_lst (a_cons d_str (a_cons d_str (a_cons d_str (a_cons d_str (a_cons (d_addS d_str (d_var 0)) (a_cons (d_addS d_str (d_var 0)) (a_cons (d_addS d_str (d_var 0)) (a_cons d_str a_nil))))))))))))
    (s_cons (s_asg 2 sc_l_nearly.nd (d_fr (d_add (d_var 2) (d_lst (a_cons (d_addS (d_addS d_str (d_var 0)) d_str) (a_cons d_str (a_cons (d_addS d_str (d_var 0)) (a_cons (d_addS (d_addS (d_addS d_str (d_var 0)) d_str) (d_var 1)) (a_cons d_str (a_cons d_str (a_cons d_str a_nil)))))))))))
    (s_cons (s_asg 2 sc_l_nearly.nd (d_fr (d_add (d_var 2) (d_lst (a_cons (d_addS d_str (d_var 0)) (a_cons (d_addS (d_addS (d_addS d_str (d_var 0)) d_str) (d_var 1)) (a_cons (d_addS (d_addS (d_addS (d_addS d_str (d_var 0)) d_str) (d_var 1)) d_str) (a_cons d_str a_nil))))))))
    (s_one (s_ret (d_add (d_var 2) (d_lst (a_cons (d_addS (d_addS d_str (d_var 1)) d_str) (a_cons (d_addS d_str (d_var 0)) (a_cons (d_addS (d_addS d_str (d_var 0)) d_str) (a_cons (d_addS d_str (d_var 0)) (a_cons d_str (a_cons d_str a_nil))))))))))))))))))) ?spec ?nx
  case len =>
    rintro ds P x ⟨n, a, rfl, _⟩
    rfl
  case nx => exact fun _ _ _ h => h
  case spec =>
    rintro ds P ⟨n, a, rfl, ln, la, h⟩
    walk_at "dd"
    have bd : ∀ k : Nat, k ≤ 100 → k ≤ lim := fun k hk => Nat.le_trans hk (by decide)
    iterate 14 (
      try simp only [str_len, nl_0, nl_1, nl_2, nl_3, nl_4, nl_5, nl_6, nl_7, nl_8, nl_9, nl_10, nl_11, nl_12, nl_13, nl_14, nl_15, nl_16, nl_17, nl_18, nl_19, nl_20, nl_21, nl_22, nl_23, nl_24, nl_25, nl_26, nl_27, nl_28, nl_29, nl_30, nl_31, nl_32, nl_33, nl_34, nl_35, nl_36, nl_37, nl_38, nl_39, nl_40, nl_41, nl_42, nl_43, nl_44, nl_45, nl_46, nl_47, nl_48, nl_49, nl_50, nl_51]
      repeat (refine ⟨bd _ (by first | omega | decide), ?_⟩)
      try simp only [dat_eq, List.map_cons, List.map_nil, dat_leaf]
      walk_at "dd")
    rw [← near_eq] at h
    simp only [List.map_cons, List.map_nil] at h
    exact h
end
theorem sc_l_same : FnScope ["_law_found", "_law_due", "_law_one", "_law_other"] ["_law_found", "_law_due"] (defScope st_l_same) := ⟨rfl, rfl, rfl, by decide +kernel, rfl, by decide +kernel, by decide +kernel⟩
def S_same : Nat → Spec
  | 0 => fun _ _ _ => False
  | n + 1 => fun ds P _ => ∃ d, ds = [d, d] ∧ Sm n d ∧ P (boo true)
theorem zipD_same : ∀ (xs : List PyData) (i : Nat) (d : PyData), (zipD xs xs)[i]? = some d → ∃ x, x ∈ xs ∧ d = .tuple [x, x]
  | [], i, d, h => by simp [zipD] at h
  | x :: xs, 0, d, h => by
    simp [zipD] at h
    exact ⟨x, List.mem_cons_self .., h.symm⟩
  | x :: xs, i + 1, d, h => by
    obtain ⟨y, hy, e⟩ := zipD_same xs i d (by simpa [zipD] using h)
    exact ⟨y, List.mem_cons_of_mem _ hy, e⟩
section
variable {P : Program} {w : World} {K : PySem.W.Frag} {mg : Str → Option Value} {base : Heap}
theorem all_true {n : Nat} : (List.replicate n true).all id = true := by simp
theorem ok_same_all {f : Addr} {fd : FuncData} (hb : Binds K fd ["_law_found", "_law_due"] []) (hm : mg "_law_same" = some (.ref f)) (F : Fun K "_law_same" "_law_same" st_l_same f fd) (m_isinstance : mg "isinstance" = none) (m_list : mg "list" = none) (m_tuple : mg "tuple" = none) (m_all : mg "all" = none) (m_bool : mg "bool" = none) (m_int : mg "int" = none) (m_str : mg "str" = none) (m_len : mg "len" = none) (m_zip : mg "zip" = none) :
    ∀ n : Nat, n ≤ 30 → FnOk P w K mg base CX0 n f fd ["_law_found", "_law_due"] (spOf K mg (S_same n))
  | 0, _ => ⟨fun vs H Q E ⟨_, _, _, _, _, h, _⟩ => h.elim, fun A outer s H args us vs Q E _ _ _ _ ⟨_, _, _, _, _, h, _⟩ => h.elim⟩
  | n + 1, hn => by
    have C_l_same : Cal P w K mg base "_law_same" ["_law_found", "_law_due"] n (S_same n) := ⟨f, fd, ok_same_all hb hm F m_isinstance m_list m_tuple m_all m_bool m_int m_str m_len m_zip n (by omega), hm, F.kp, hb⟩
    refine fn_ok F sc_l_same ?len (fun cdv A outer s H E hr => s_cons (s_if (PW.pt (w_or (t_val (d_isi (n := "list") m_isinstance m_list (by decide +kernel) (d_var 1))) (w_or1 (t_val (d_isi (n := "tuple") m_isinstance m_tuple (by decide +kernel) (d_var 1)))))) (s_cons (s_if (PW.pt (w_or (t_ne hr.units (d_isi (n := "list") m_isinstance m_list (by decide +kernel) (d_var 0)) (d_isi (n := "list") m_isinstance m_list (by decide +kernel) (d_var 1))) (w_or1 (t_ne hr.units (d_isi (n := "tuple") m_isinstance m_tuple (by decide +kernel) (d_var 0)) (d_isi (n := "tuple") m_isinstance m_tuple (by decide +kernel) (d_var 1)))))) (s_one (s_ret d_bl))
      s_nil)
    (s_one (s_ret (d_and (d_eq hr.units (d_len m_len (a_cons (d_var 0) a_nil)) (d_len m_len (a_cons (d_var 1) a_nil))) (d_one (d_all rfl m_all (a_cons (d_lc (own := [("_law_one", 2), ("_law_other", 3)]) rfl sc_l_same.nd (i_zip m_zip (a_cons (d_var 0) (a_cons (d_var 1) a_nil))) (blkOk_by (N := ["_law_found", "_law_due", "_law_one", "_law_other"]) (sc := defScope st_l_same) (by decide +kernel)) (fun _ _ _ _ _ => g_tup (n := 2) rfl (gs_cons (g_name 2 sc_l_same.nd) (gs_cons (g_name 3 sc_l_same.nd) gs_nil))) (fun _ _ _ _ _ => ts_nil) (fun _ _ _ _ _ => d_callC C_l_same hr (a_cons (d_var 2) (a_cons (d_var 3) a_nil)) (hj := Nat.le_refl _))) a_nil)))))))
      s_nil)
    (s_cons (s_if (PW.pt (w_or (t_isN (d_var 0) d_non) (w_or1 (t_isN (d_var 1) d_non)))) (s_one (s_ret (d_and (d_isN (d_var 0) d_non) (d_one (d_isN (d_var 1) d_non)))))
      s_nil)
    (s_cons (s_if (PW.pt (w_or (t_ne hr.units (d_isi (n := "bool") m_isinstance m_bool (by decide +kernel) (d_var 0)) (d_isi (n := "bool") m_isinstance m_bool (by decide +kernel) (d_var 1))) (w_or1 (t_ne hr.units (d_isi (n := "int") m_isinstance m_int (by decide +kernel) (d_var 0)) (d_isi (n := "int") m_isinstance m_int (by decide +kernel) (d_var 1)))))) (s_one (s_ret d_bl))
      s_nil)
    (s_one (s_ret (d_and (d_eq hr.units (d_isi (n := "str") m_isinstance m_str (by decide +kernel) (d_var 0)) (d_isi (n := "str") m_isinstance m_str (by decide +kernel) (d_var 1))) (d_one (d_eq hr.units (d_var 0) (d_var 1))))))))) ?spec ?nx
    case len =>
      rintro ds P xp ⟨d, rfl, _⟩
      rfl
    case nx => exact fun _ _ _ h => h
    case spec =>
      rintro ds P ⟨d, rfl, hd, q⟩
      have hs := hd.shaped (by omega)
      have k1 : kitB "list" "list" = some true := by decide
      have k2 : kitB "tuple" "list" = some false := by decide
      have k3 : kitB "int" "list" = some false := by decide
      have k4 : kitB "bool" "list" = some false := by decide
      have k5 : kitB "str" "list" = some false := by decide
      have k6 : kitB "NoneType" "list" = some false := by decide
      have t1 : kitB "list" "tuple" = some false := by decide
      have t2 : kitB "tuple" "tuple" = some true := by decide
      have t3 : kitB "int" "tuple" = some false := by decide
      have t4 : kitB "bool" "tuple" = some false := by decide
      have t5 : kitB "str" "tuple" = some false := by decide
      have t6 : kitB "NoneType" "tuple" = some false := by decide
      have b3 : kitB "int" "bool" = some false := by decide
      have b4 : kitB "bool" "bool" = some true := by decide
      have b5 : kitB "str" "bool" = some false := by decide
      have i3 : kitB "int" "int" = some true := by decide
      have i4 : kitB "bool" "int" = some true := by decide
      have i5 : kitB "str" "int" = some false := by decide
      have s3 : kitB "int" "str" = some false := by decide
      have s4 : kitB "bool" "str" = some false := by decide
      have s5 : kitB "str" "str" = some true := by decide
      have seq : ∀ (m : Nat) (xs : List PyData) (v : PyData) (xp : XP), n = m + 1 → (v = .list xs ∨ v = .tuple xs) → xs.length < 1000 → (∀ x ∈ xs, Sm m x) → dLc (iZi (aCons (dVar 0) (aCons (dVar 1) aNil))) (gT 2 (gsC (gN 2) (gsC (gN 3) gs0))) dYes (dCall (S_same n) (aCons (dVar 2) (aCons (dVar 3) aNil))) [2, 3] xp [some (.leaf v), some (.leaf v), none, none] (fun t => cAll [t.dat] P) := fun m xs v xp hn2 hv hx hxs => by
        subst hn2
        refine lc_map (zipD xs xs) (fun _ => boo true) (fun P h => ?_) (by rw [zipD_len]; exact lt_lim (by omega)) (fun i d Q R e hQ => ?_) ?_
        · rcases hv with hv | hv <;> subst hv <;> walk_at "dd" <;> exact h
        · obtain ⟨x, hx, rfl⟩ := zipD_same xs i d e
          walk_at "dd"
          exact ⟨x, rfl, hxs x hx, hQ⟩
        · refine ⟨List.replicate (zipD xs xs).length true, ?_, ?_⟩
          · rw [dat_eq, List.map_map, List.map_replicate]
            rw [show (T.dat ∘ fun _ => boo true) = Function.const PyData (PyData.bool true) from rfl, List.map_const]
          · rw [all_true]
            exact q
      cases d with
      | none =>
        walk_at "dd"
        simp only [tyN, k6, t6, Option.some.injEq, exists_eq_left', asB_b, reduceCtorEq]
        walk_at "dd"
        exact q
      | bool b =>
        walk_at "dd"
        simp only [tyN, k4, t4, b4, i4, s4, Option.some.injEq, exists_eq_left', asB_b, reduceCtorEq]
        walk_at "dd"
        simpa using q
      | int i =>
        walk_at "dd"
        simp only [tyN, k3, t3, b3, i3, s3, Option.some.injEq, exists_eq_left', asB_b, reduceCtorEq]
        walk_at "dd"
        simpa using q
      | str x =>
        walk_at "dd"
        simp only [tyN, k5, t5, b5, i5, s5, Option.some.injEq, exists_eq_left', asB_b, reduceCtorEq]
        walk_at "dd"
        simpa using q
      | list xs =>
        cases n with
        | zero => exact hd.elim
        | succ m =>
          have sq := seq m xs (.list xs) noX rfl (.inl rfl) hd.1 hd.2
          walk_at "dd"
          simp only [tyN, k1, t1, Option.some.injEq, exists_eq_left', asB_b, reduceCtorEq]
          walk_at "dd"
          simpa using sq
      | tuple xs =>
        cases n with
        | zero => exact hd.elim
        | succ m =>
          have sq := seq m xs (.tuple xs) noX rfl (.inr rfl) hd.1 hd.2
          walk_at "dd"
          simp only [tyN, k2, t2, Option.some.injEq, exists_eq_left', asB_b, reduceCtorEq]
          walk_at "dd"
          simpa using sq
      | dict kvs => cases n <;> exact hd.elim
theorem ok_l_same {f : Addr} {fd : FuncData} (hb : Binds K fd ["_law_found", "_law_due"] []) (hm : mg "_law_same" = some (.ref f)) (F : Fun K "_law_same" "_law_same" st_l_same f fd) (m_isinstance : mg "isinstance" = none) (m_list : mg "list" = none) (m_tuple : mg "tuple" = none) (m_all : mg "all" = none) (m_bool : mg "bool" = none) (m_int : mg "int" = none) (m_str : mg "str" = none) (m_len : mg "len" = none) (m_zip : mg "zip" = none) :
    FnOk P w K mg base CX0 8 f fd ["_law_found", "_law_due"] (spOf K mg (S_same 8)) := ok_same_all hb hm F m_isinstance m_list m_tuple m_all m_bool m_int m_str m_len m_zip 8 (by decide)
end
theorem sc_l_no_form : FnScope ["_law_box_here", "_law_line_here", "_law_words", "_law_way", "_law_at", "_law_bad"] ["_law_box_here", "_law_line_here"] (defScope st_l_no_form) := ⟨rfl, rfl, rfl, by decide +kernel, rfl, by decide +kernel, by decide +kernel⟩
theorem mem_dl {α : Type} {w : α} {ws : List α} (h : w ∈ ws.dropLast) : w ∈ ws := List.mem_of_mem_take (by rw [← List.dropLast_eq_take]; exact h)
def badsOf (w : Str) : List Str := ["0" ++ w, "-1", "+1", "1.0", "10000000000", "one", "00"]
/-- a line's words, bent -/
inductive Bent (ws : List Str) : List Str → Prop
  | behind : Bent ws (ws ++ [("" : Str)])
  | ahead : Bent ws (("" : Str) :: ws)
  | more : Bent ws (ws ++ [("x" : Str)])
  | less : 1 < ws.length → Bent ws ws.dropLast
  | gap (k : Nat) : 1 ≤ k → k < ws.length → Bent ws (ws.take k ++ ("" : Str) :: ws.drop k)
  | bad (u v : Str) : ws.getLast? = some u → (∃ c, u.cps.toList.head? = some c ∧ c ∈ (Str.ofString "0123456789").cps.toList) → v ∈ badsOf u → Bent ws (ws.dropLast ++ [v])
  | first (u v : Str) : ws.head? = some u → v ∈ ([Txt.upper u, u ++ "s", "to"] : List Str) → Bent ws (v :: ws.drop 1 ++ [("1" : Str)])
def S_l_no_form : Spec := fun ds P _ => ∃ (ws : List Str), ds = [.dict [], .str (Txt.join " " ws)] ∧ ws ≠ [] ∧ ws.length ≤ 10 ∧ (∀ w ∈ ws, 32 ∉ TL.tl w ∧ w ≠ "" ∧ w.length ≤ 10) ∧ (∀ u, ws.head? = some u → (Txt.upper u).length ≤ 100) ∧ ∀ vs, Bent ws vs → P (.leaf (.str (Txt.join " " vs)))
section
variable {P : Program} {w : World} {K : PySem.W.Frag} {mg : Str → Option Value} {base : Heap}
theorem ok_l_no_form {f : Addr} {fd : FuncData} (F : Fun K "_law_no_form" "_law_no_form" st_l_no_form f fd) (C_l_take : Cal P w K mg base "_law_take" ["_law_box_here", "_law_many"] 1 S_l_take) (m_len : mg "len" = none) :
    FnOk P w K mg base CX0 2 f fd ["_law_box_here", "_law_line_here"] (spOf K mg S_l_no_form) := by
  refine fn_ok F sc_l_no_form ?len (fun cdv A outer s H E hr => s_cons (s_asg 2 sc_l_no_form.nd (d_fr (d_split (d_var 1) d_str)))
    (s_cons (s_asg 3 sc_l_no_form.nd (d_fr (d_callC C_l_take hr (a_cons (d_var 0) (a_cons d_int a_nil)))))
    (s_cons (s_if (t_eq hr.units (d_var 3) d_int) (s_one (s_ret (d_at (d_lst (a_cons (d_addS (d_var 1) d_str) (a_cons (d_addS d_str (d_var 1)) a_nil))) (d_callC C_l_take hr (a_cons (d_var 0) (a_cons d_int a_nil))))))
      s_nil)
    (s_cons (s_if (t_eq hr.units (d_var 3) d_int) (s_one (s_ret (d_addS (d_var 1) d_str)))
      s_nil)
    (s_cons (s_if (PW.pt (w_and (t_eq hr.units (d_var 3) d_int) (w_and1 (t_gt (d_len m_len (a_cons (d_var 2) a_nil)) d_int)))) (s_one (s_ret (d_join d_str (d_sl (d_var 2) o_none (o_some (d_neg d_int))))))
      s_nil)
    (s_cons (s_if (PW.pt (w_and (t_eq hr.units (d_var 3) d_int) (w_and1 (t_gt (d_len m_len (a_cons (d_var 2) a_nil)) d_int)))) (s_cons (s_asg 4 sc_l_no_form.nd (d_fr (d_add d_int (d_callC C_l_take hr (a_cons (d_var 0) (a_cons (d_sub (d_len m_len (a_cons (d_var 2) a_nil)) d_int) a_nil))))))
    (s_one (s_ret (d_join d_str (d_add (d_add (d_sl (d_var 2) o_none (o_some (d_var 4))) (d_lst (a_cons d_str a_nil))) (d_sl (d_var 2) (o_some (d_var 4)) o_none))))))
      s_nil)
    (s_cons (s_if (PW.pt (w_and (t_eq hr.units (d_var 3) d_int) (w_and1 (t_inS (d_ats (d_at (d_var 2) (d_neg d_int)) d_int) d_str)))) (s_cons (s_asg 5 sc_l_no_form.nd (d_at (d_lst (a_cons (d_addS d_str (d_at (d_var 2) (d_neg d_int))) (a_cons d_str (a_cons d_str (a_cons d_str (a_cons d_str (a_cons d_str (a_cons d_str a_nil)))))))) (d_callC C_l_take hr (a_cons (d_var 0) (a_cons d_int a_nil)))))
    (s_one (s_ret (d_join d_str (d_add (d_sl (d_var 2) o_none (o_some (d_neg d_int))) (d_lst (a_cons (d_var 5) a_nil)))))))
      s_nil)
    (s_one (s_ret (d_join d_str (d_add (d_add (d_lst (a_cons (d_at (d_lst (a_cons (d_upper (d_at (d_var 2) d_int)) (a_cons (d_addS (d_at (d_var 2) d_int) d_str) (a_cons d_str a_nil)))) (d_callC C_l_take hr (a_cons (d_var 0) (a_cons d_int a_nil)))) a_nil)) (d_sl (d_var 2) (o_some d_int) o_none)) (d_lst (a_cons d_str a_nil))))))))))))) ?spec ?nx
  case len =>
    rintro ds P x ⟨z, rfl, _⟩
    rfl
  case nx => exact fun _ _ _ h => h
  case spec =>
    rintro ds P ⟨ws, rfl, hne, hl, hw, hup, h⟩
    have sp : Txt.split (Txt.join " " ws) " " = ws := TL.split_join (y := " ") (s := 32) (S := []) rfl (by decide +kernel) hne fun p hp => (hw p hp).1
    have sl : (ws.map (·.length)).sum ≤ ws.length * 10 := sum_leW fun w hm => (hw w hm).2.2
    have jl : (Txt.join " " ws).length ≤ 110 := Nat.le_trans (join_lenW ws) (by omega)
    have bd : ∀ k : Nat, k ≤ 1000 → k ≤ lim := fun k hk => Nat.le_trans hk (by decide)
    walk_at "dd"
    rw [sp]
    refine ⟨by decide +kernel, bd _ (by omega), by decide, by decide, fun r r0 r1 => ⟨fun w0 => ?_, fun w0 => ⟨fun w1 => ?_, fun w1 => ⟨fun w2 => ?_, fun w2 => ?_⟩⟩⟩⟩
    · have l1 : (Str.ofString " ").length = 1 := by decide +kernel
      refine ⟨bd _ (by omega), bd _ (by omega), by decide, by decide, by decide, fun k k0 k1 => ?_⟩
      have ea : Txt.join (Str.ofString " ") ws ++ Str.ofString " " = Txt.join " " (ws ++ [("" : Str)]) := by
        rw [← jn_snoc "" ws hne, str_nilR]
      have eb : Str.ofString " " ++ Txt.join (Str.ofString " ") ws = Txt.join " " (("" : Str) :: ws) := by
        obtain ⟨w, rest, rfl⟩ := List.exists_cons_of_ne_nil hne
        rw [jn2, str_nil]
      rw [ea, eb]
      rcases (by omega : k = 0 ∨ k = 1) with rfl | rfl
      · exact ⟨_, rfl, h _ .behind⟩
      · exact ⟨_, rfl, h _ .ahead⟩
    · refine ⟨bd _ (by rw [show (Str.ofString " x").length = 2 from by decide +kernel]; omega), ?_⟩
      have e := jn_snoc "x" ws hne
      rw [show (Str.ofString " x") = " " ++ "x" from by decide +kernel, e]
      exact h _ .more
    · rw [cut_last hne]
      refine ⟨fun h1 => asX_n.mpr ⟨?_, h _ (.less ?_)⟩, fun h1 => ⟨fun z => by omega, fun _ => ⟨fun z => by omega, fun _ => ?_⟩⟩⟩
      · have sd := sum_leW (ws := ws.dropLast) (M := 10) fun w hm => (hw w (List.mem_of_mem_take (by rw [← List.dropLast_eq_take]; exact hm))).2.2
        rw [List.length_dropLast] at sd ⊢
        show _ + _ * 1 ≤ _
        omega
      · rw [strs_len] at h1
        omega
      · obtain ⟨w, rest, rfl⟩ := List.exists_cons_of_ne_nil hne
        refine ⟨_, at_st (k := 0) (z := w) rfl, ?_⟩
        walk_at "dd"
        have wl := (hw w (List.mem_cons_self ..)).2.2
        refine ⟨by omega, _, at_st (k := 0) (z := w) rfl, ?_⟩
        walk_at "dd"
        have key : ∀ v : Str, v ∈ ([Txt.upper w, w ++ "s", "to"] : List Str) → v.length ≤ 120 → (1 ≤ lim ∧ 1 + (cutD (strsD (w :: rest)) (some 1) none).length ≤ lim ∧ 1 ≤ lim ∧ rdAdd (T.node (T.leaf (.str v) :: List.map T.leaf (cutD (strsD (w :: rest)) (some 1) none))).dat (.list [.str (Str.ofString "1")]) (asX fun ys => (List.map (fun x => x.length) ys).sum + ys.length * (Str.ofString " ").length ≤ 1000000 ∧ P (T.leaf (.str (Txt.join (Str.ofString " ") ys))))) := fun v hv lv => by
          have sd := sum_leW (ws := rest) (M := 10) fun w hm => (hw w (List.mem_cons_of_mem _ hm)).2.2
          have rl : rest.length + 1 ≤ 10 := hl
          rw [show cutD (strsD (w :: rest)) (some 1) none = strsD rest from cut_st 1 (w :: rest), strs_len, show T.leaf (.str v) :: List.map T.leaf (strsD rest) = (strsD (v :: rest)).map T.leaf from rfl, leaves_dat, show [PyData.str (Str.ofString "1")] = strsD [("1" : Str)] from rfl, e_addL, strs_len, strs_len, show strsD (v :: rest) ++ strsD [("1" : Str)] = strsD (v :: rest ++ [("1" : Str)]) from (List.map_append ..).symm]
          refine ⟨by decide, bd _ (by omega), by decide, bd _ (by simp; omega), asX_n.mpr ⟨?_, h _ (.first w v rfl hv)⟩⟩
          rw [List.map_append, List.map_cons, List.sum_append, List.sum_cons, List.length_append, List.length_cons, show (Str.ofString " ").length = 1 from by decide +kernel, show (List.map (fun x : Str => x.length) [("1" : Str)]).sum = 1 from by decide +kernel]
          simp only [List.length_cons, List.length_nil]
          omega
        have s1 : (Str.ofString "s").length = 1 := by decide +kernel
        refine ⟨by rw [s1]; exact bd _ (by omega), by decide, by decide, by decide, fun k k0 k1 => ?_⟩
        rcases (by omega : k = 0 ∨ k = 1 ∨ k = 2) with rfl | rfl | rfl
        · exact ⟨_, rfl, key _ (by simp) (Nat.le_trans (hup w rfl) (by decide))⟩
        · exact ⟨_, rfl, key _ (by simp) (by rw [str_len, show ("s" : Str).length = 1 from s1]; omega)⟩
        · exact ⟨_, rfl, key _ (by simp) (by decide +kernel)⟩
    · refine ⟨fun w3 => ⟨fun h1 => ?_, fun h1 => ⟨fun z => by omega, fun _ => ?_⟩⟩, fun w3 => ⟨fun w4 => ?_, fun w4 => ?_⟩⟩
      · rw [strs_len] at h1 ⊢
        refine ⟨by omega, by omega, fun k k0 k1 => ?_⟩
        obtain ⟨n, rfl⟩ : ∃ n : Nat, k = (n : Int) := ⟨k.toNat, by omega⟩
        have en : (1 : Int) + (n : Int) = ((n + 1 : Nat) : Int) := by omega
        rw [en, cut_all, cut_st, strs_len, show [PyData.str (Str.ofString "")] = strsD [("" : Str)] from rfl, show strsD (ws.take (n + 1)) ++ strsD [("" : Str)] ++ strsD (ws.drop (n + 1)) = strsD (ws.take (n + 1) ++ ("" : Str) :: ws.drop (n + 1)) by unfold strsD; rw [List.map_append, List.append_assoc]; rfl]
        have e2 : (ws.map (·.length)).sum = ((ws.take (n + 1)).map (·.length)).sum + ((ws.drop (n + 1)).map (·.length)).sum := by rw [← List.sum_append, ← List.map_append, List.take_append_drop]
        refine ⟨by decide, bd _ (by rw [List.length_take]; omega), bd _ (by rw [List.length_append, strs_len, strs_len, strs_len, List.length_take, List.length_drop]; simp; omega), asX_n.mpr ⟨?_, h _ (.gap (n + 1) (by omega) (by omega))⟩⟩
        rw [List.map_append, List.map_cons, List.sum_append, List.sum_cons, List.length_append, List.length_cons, List.length_take, List.length_drop, show (Str.ofString " ").length = 1 from by decide +kernel, show ("" : Str).length = 0 from by decide +kernel]
        omega
      · rw [strs_len] at h1
        obtain ⟨w, rest, rfl⟩ := List.exists_cons_of_ne_nil hne
        refine ⟨_, at_st (k := 0) (z := w) rfl, ?_⟩
        walk_at "dd"
        have wl := (hw w (List.mem_cons_self ..)).2.2
        refine ⟨by omega, _, at_st (k := 0) (z := w) rfl, ?_⟩
        walk_at "dd"
        have key : ∀ v : Str, v ∈ ([Txt.upper w, w ++ "s", "to"] : List Str) → v.length ≤ 120 → (1 ≤ lim ∧ 1 + (cutD (strsD (w :: rest)) (some 1) none).length ≤ lim ∧ 1 ≤ lim ∧ rdAdd (T.node (T.leaf (.str v) :: List.map T.leaf (cutD (strsD (w :: rest)) (some 1) none))).dat (.list [.str (Str.ofString "1")]) (asX fun ys => (List.map (fun x => x.length) ys).sum + ys.length * (Str.ofString " ").length ≤ 1000000 ∧ P (T.leaf (.str (Txt.join (Str.ofString " ") ys))))) := fun v hv lv => by
          have sd := sum_leW (ws := rest) (M := 10) fun w hm => (hw w (List.mem_cons_of_mem _ hm)).2.2
          have rl : rest.length + 1 ≤ 10 := hl
          rw [show cutD (strsD (w :: rest)) (some 1) none = strsD rest from cut_st 1 (w :: rest), strs_len, show T.leaf (.str v) :: List.map T.leaf (strsD rest) = (strsD (v :: rest)).map T.leaf from rfl, leaves_dat, show [PyData.str (Str.ofString "1")] = strsD [("1" : Str)] from rfl, e_addL, strs_len, strs_len, show strsD (v :: rest) ++ strsD [("1" : Str)] = strsD (v :: rest ++ [("1" : Str)]) from (List.map_append ..).symm]
          refine ⟨by decide, bd _ (by omega), by decide, bd _ (by simp; omega), asX_n.mpr ⟨?_, h _ (.first w v rfl hv)⟩⟩
          rw [List.map_append, List.map_cons, List.sum_append, List.sum_cons, List.length_append, List.length_cons, show (Str.ofString " ").length = 1 from by decide +kernel, show (List.map (fun x : Str => x.length) [("1" : Str)]).sum = 1 from by decide +kernel]
          simp only [List.length_cons, List.length_nil]
          omega
        have s1 : (Str.ofString "s").length = 1 := by decide +kernel
        refine ⟨by rw [s1]; exact bd _ (by omega), by decide, by decide, by decide, fun k k0 k1 => ?_⟩
        rcases (by omega : k = 0 ∨ k = 1 ∨ k = 2) with rfl | rfl | rfl
        · exact ⟨_, rfl, key _ (by simp) (Nat.le_trans (hup w rfl) (by decide))⟩
        · exact ⟨_, rfl, key _ (by simp) (by rw [str_len, show ("s" : Str).length = 1 from s1]; omega)⟩
        · exact ⟨_, rfl, key _ (by simp) (by decide +kernel)⟩
      · obtain ⟨ys, u, ew⟩ : ∃ ys u, ws = ys ++ [u] := ⟨_, _, (List.dropLast_concat_getLast hne).symm⟩
        have au : atI (strsD ws) (-1) = some (.str u) := by rw [ew]; exact at_last PyData.str ys u
        obtain ⟨_, une, ul⟩ := hw u (by rw [ew]; simp)
        obtain ⟨c, r', ec⟩ := List.exists_cons_of_ne_nil (fun z : u.cps.toList = [] => une (TL.ext_tl z))
        refine ⟨_, au, ?_⟩
        walk_at "dd"
        refine ⟨bd _ (by omega), c, by rw [ec]; exact atI_nat (j := 0) rfl, fun hc => ⟨_, au, ?_⟩, fun _ => ?_⟩
        · walk_at "dd"
          have l0 : (Str.ofString "0").length = 1 := by decide +kernel
          refine ⟨bd _ (by rw [l0]; omega), by decide, by decide, by decide, fun k k0 k1 => ?_⟩
          rw [cut_last hne]
          have key : ∀ v : Str, v ∈ badsOf u → v.length ≤ 20 → (1 ≤ lim ∧ (strsD ws.dropLast).length + 1 ≤ lim ∧ asX (fun ys => (List.map (fun x => x.length) ys).sum + ys.length * (Str.ofString " ").length ≤ 1000000 ∧ P (T.leaf (.str (Txt.join (Str.ofString " ") ys)))) (T.node (List.map T.leaf (strsD ws.dropLast ++ [.str v])))) := fun v hv lv => by
            have sd := sum_leW (ws := ws.dropLast) (M := 10) fun w hm => (hw w (mem_dl hm)).2.2
            rw [List.length_dropLast] at sd
            rw [show strsD ws.dropLast ++ [.str v] = strsD (ws.dropLast ++ [v]) by unfold strsD; rw [List.map_append]; rfl, strs_len, List.length_dropLast]
            refine ⟨by decide, bd _ (by omega), asX_n.mpr ⟨?_, h _ (.bad u v (by rw [ew, List.getLast?_concat]) ⟨c, by rw [ec]; rfl, hc⟩ hv)⟩⟩
            rw [List.map_append, List.sum_append, List.length_append, List.length_dropLast, show (Str.ofString " ").length = 1 from by decide +kernel]
            simp only [List.map_cons, List.map_nil, List.sum_cons, List.sum_nil, List.length_cons, List.length_nil]
            omega
          unfold badsOf at key
          rcases (by omega : k = 0 ∨ k = 1 ∨ k = 2 ∨ k = 3 ∨ k = 4 ∨ k = 5 ∨ k = 6) with rfl | rfl | rfl | rfl | rfl | rfl | rfl
          · exact ⟨_, rfl, key _ (by simp) (by rw [str_len, show ("0" : Str).length = 1 from l0]; omega)⟩
          all_goals exact ⟨_, rfl, key _ (by simp) (by decide +kernel)⟩
        · obtain ⟨w, rest, rfl⟩ := List.exists_cons_of_ne_nil hne
          refine ⟨_, at_st (k := 0) (z := w) rfl, ?_⟩
          walk_at "dd"
          have wl := (hw w (List.mem_cons_self ..)).2.2
          refine ⟨by omega, _, at_st (k := 0) (z := w) rfl, ?_⟩
          walk_at "dd"
          have key : ∀ v : Str, v ∈ ([Txt.upper w, w ++ "s", "to"] : List Str) → v.length ≤ 120 → (1 ≤ lim ∧ 1 + (cutD (strsD (w :: rest)) (some 1) none).length ≤ lim ∧ 1 ≤ lim ∧ rdAdd (T.node (T.leaf (.str v) :: List.map T.leaf (cutD (strsD (w :: rest)) (some 1) none))).dat (.list [.str (Str.ofString "1")]) (asX fun ys => (List.map (fun x => x.length) ys).sum + ys.length * (Str.ofString " ").length ≤ 1000000 ∧ P (T.leaf (.str (Txt.join (Str.ofString " ") ys))))) := fun v hv lv => by
            have sd := sum_leW (ws := rest) (M := 10) fun w hm => (hw w (List.mem_cons_of_mem _ hm)).2.2
            have rl : rest.length + 1 ≤ 10 := hl
            rw [show cutD (strsD (w :: rest)) (some 1) none = strsD rest from cut_st 1 (w :: rest), strs_len, show T.leaf (.str v) :: List.map T.leaf (strsD rest) = (strsD (v :: rest)).map T.leaf from rfl, leaves_dat, show [PyData.str (Str.ofString "1")] = strsD [("1" : Str)] from rfl, e_addL, strs_len, strs_len, show strsD (v :: rest) ++ strsD [("1" : Str)] = strsD (v :: rest ++ [("1" : Str)]) from (List.map_append ..).symm]
            refine ⟨by decide, bd _ (by omega), by decide, bd _ (by simp; omega), asX_n.mpr ⟨?_, h _ (.first w v rfl hv)⟩⟩
            rw [List.map_append, List.map_cons, List.sum_append, List.sum_cons, List.length_append, List.length_cons, show (Str.ofString " ").length = 1 from by decide +kernel, show (List.map (fun x : Str => x.length) [("1" : Str)]).sum = 1 from by decide +kernel]
            simp only [List.length_cons, List.length_nil]
            omega
          have s1 : (Str.ofString "s").length = 1 := by decide +kernel
          refine ⟨by rw [s1]; exact bd _ (by omega), by decide, by decide, by decide, fun k k0 k1 => ?_⟩
          rcases (by omega : k = 0 ∨ k = 1 ∨ k = 2) with rfl | rfl | rfl
          · exact ⟨_, rfl, key _ (by simp) (Nat.le_trans (hup w rfl) (by decide))⟩
          · exact ⟨_, rfl, key _ (by simp) (by rw [str_len, show ("s" : Str).length = 1 from s1]; omega)⟩
          · exact ⟨_, rfl, key _ (by simp) (by decide +kernel)⟩
      · obtain ⟨w, rest, rfl⟩ := List.exists_cons_of_ne_nil hne
        refine ⟨_, at_st (k := 0) (z := w) rfl, ?_⟩
        walk_at "dd"
        have wl := (hw w (List.mem_cons_self ..)).2.2
        refine ⟨by omega, _, at_st (k := 0) (z := w) rfl, ?_⟩
        walk_at "dd"
        have key : ∀ v : Str, v ∈ ([Txt.upper w, w ++ "s", "to"] : List Str) → v.length ≤ 120 → (1 ≤ lim ∧ 1 + (cutD (strsD (w :: rest)) (some 1) none).length ≤ lim ∧ 1 ≤ lim ∧ rdAdd (T.node (T.leaf (.str v) :: List.map T.leaf (cutD (strsD (w :: rest)) (some 1) none))).dat (.list [.str (Str.ofString "1")]) (asX fun ys => (List.map (fun x => x.length) ys).sum + ys.length * (Str.ofString " ").length ≤ 1000000 ∧ P (T.leaf (.str (Txt.join (Str.ofString " ") ys))))) := fun v hv lv => by
          have sd := sum_leW (ws := rest) (M := 10) fun w hm => (hw w (List.mem_cons_of_mem _ hm)).2.2
          have rl : rest.length + 1 ≤ 10 := hl
          rw [show cutD (strsD (w :: rest)) (some 1) none = strsD rest from cut_st 1 (w :: rest), strs_len, show T.leaf (.str v) :: List.map T.leaf (strsD rest) = (strsD (v :: rest)).map T.leaf from rfl, leaves_dat, show [PyData.str (Str.ofString "1")] = strsD [("1" : Str)] from rfl, e_addL, strs_len, strs_len, show strsD (v :: rest) ++ strsD [("1" : Str)] = strsD (v :: rest ++ [("1" : Str)]) from (List.map_append ..).symm]
          refine ⟨by decide, bd _ (by omega), by decide, bd _ (by simp; omega), asX_n.mpr ⟨?_, h _ (.first w v rfl hv)⟩⟩
          rw [List.map_append, List.map_cons, List.sum_append, List.sum_cons, List.length_append, List.length_cons, show (Str.ofString " ").length = 1 from by decide +kernel, show (List.map (fun x : Str => x.length) [("1" : Str)]).sum = 1 from by decide +kernel]
          simp only [List.length_cons, List.length_nil]
          omega
        have s1 : (Str.ofString "s").length = 1 := by decide +kernel
        refine ⟨by rw [s1]; exact bd _ (by omega), by decide, by decide, by decide, fun k k0 k1 => ?_⟩
        rcases (by omega : k = 0 ∨ k = 1 ∨ k = 2) with rfl | rfl | rfl
        · exact ⟨_, rfl, key _ (by simp) (Nat.le_trans (hup w rfl) (by decide))⟩
        · exact ⟨_, rfl, key _ (by simp) (by rw [str_len, show ("s" : Str).length = 1 from s1]; omega)⟩
        · exact ⟨_, rfl, key _ (by simp) (by decide +kernel)⟩
end
theorem sc_l_line : FnScope ["_law_box_here", "_law_name", "_law_one", "_law_two", "_law_number", "_law_some"] ["_law_box_here", "_law_name", "_law_one", "_law_two"] (defScope st_l_line) := ⟨rfl, rfl, rfl, by decide +kernel, rfl, by decide +kernel, by decide +kernel⟩
theorem ll_0 : (Str.ofString "copy ").length = 5 := by decide +kernel
theorem ll_1 : (Str.ofString "close ").length = 6 := by decide +kernel
theorem ll_2 : (Str.ofString "move ").length = 5 := by decide +kernel
theorem ll_3 : (Str.ofString "names").length = 5 := by decide +kernel
theorem ll_4 : (Str.ofString "back ").length = 5 := by decide +kernel
theorem ll_5 : (Str.ofString "again ").length = 6 := by decide +kernel
theorem ll_6 : (Str.ofString "living ").length = 7 := by decide +kernel
theorem ll_7 : (Str.ofString "coins ").length = 6 := by decide +kernel
theorem ll_8 : (Str.ofString "free ").length = 5 := by decide +kernel
theorem ll_9 : (Str.ofString "age ").length = 4 := by decide +kernel
theorem ll_10 : (Str.ofString "total ").length = 6 := by decide +kernel
theorem ll_11 : (Str.ofString "who ").length = 4 := by decide +kernel
theorem ll_12 : (Str.ofString "told ").length = 5 := by decide +kernel
theorem ll_13 : (Str.ofString "bets ").length = 5 := by decide +kernel
theorem ll_14 : (Str.ofString "shut ").length = 5 := by decide +kernel
theorem ll_15 : (Str.ofString "odds ").length = 5 := by decide +kernel
theorem ll_16 : (Str.ofString " 1").length = 2 := by decide +kernel
theorem ll_17 : (Str.ofString "in ").length = 3 := by decide +kernel
theorem ll_18 : (Str.ofString " pay ").length = 5 := by decide +kernel
theorem ll_19 : (Str.ofString " tie ").length = 5 := by decide +kernel
theorem ll_20 : (Str.ofString " blanks ").length = 8 := by decide +kernel
theorem ll_21 : (Str.ofString " ").length = 1 := by decide +kernel
theorem ls_0 : Str.ofString "copy " = Str.ofString "copy" ++ Str.ofString " " := by decide +kernel
theorem ls_1 : Str.ofString "close " = Str.ofString "close" ++ Str.ofString " " := by decide +kernel
theorem ls_2 : Str.ofString "move " = Str.ofString "move" ++ Str.ofString " " := by decide +kernel
theorem ls_3 : Str.ofString "back " = Str.ofString "back" ++ Str.ofString " " := by decide +kernel
theorem ls_4 : Str.ofString "again " = Str.ofString "again" ++ Str.ofString " " := by decide +kernel
theorem ls_5 : Str.ofString "living " = Str.ofString "living" ++ Str.ofString " " := by decide +kernel
theorem ls_6 : Str.ofString "coins " = Str.ofString "coins" ++ Str.ofString " " := by decide +kernel
theorem ls_7 : Str.ofString "free " = Str.ofString "free" ++ Str.ofString " " := by decide +kernel
theorem ls_8 : Str.ofString "age " = Str.ofString "age" ++ Str.ofString " " := by decide +kernel
theorem ls_9 : Str.ofString "total " = Str.ofString "total" ++ Str.ofString " " := by decide +kernel
theorem ls_10 : Str.ofString "who " = Str.ofString "who" ++ Str.ofString " " := by decide +kernel
theorem ls_11 : Str.ofString "told " = Str.ofString "told" ++ Str.ofString " " := by decide +kernel
theorem ls_12 : Str.ofString "bets " = Str.ofString "bets" ++ Str.ofString " " := by decide +kernel
theorem ls_13 : Str.ofString "shut " = Str.ofString "shut" ++ Str.ofString " " := by decide +kernel
theorem ls_14 : Str.ofString "odds " = Str.ofString "odds" ++ Str.ofString " " := by decide +kernel
theorem ls_15 : Str.ofString "in " = Str.ofString "in" ++ Str.ofString " " := by decide +kernel
theorem ls_16 : Str.ofString " 1" = Str.ofString " " ++ Str.ofString "1" := by decide +kernel
theorem ls_17 : Str.ofString " pay " = Str.ofString " " ++ (Str.ofString "pay" ++ Str.ofString " ") := by decide +kernel
theorem ls_18 : Str.ofString " tie " = Str.ofString " " ++ (Str.ofString "tie" ++ Str.ofString " ") := by decide +kernel
theorem ls_19 : Str.ofString " blanks " = Str.ofString " " ++ (Str.ofString "blanks" ++ Str.ofString " ") := by decide +kernel
theorem lines_eq (n a b k : Str) : [PyData.str (Str.ofString "copy " ++ n ++ Str.ofString " " ++ b), .str (Str.ofString "close " ++ n), .str (Str.ofString "move " ++ n ++ Str.ofString " " ++ b ++ Str.ofString " " ++ a ++ Str.ofString " " ++ k), .str (Str.ofString "names"), .str (Str.ofString "back " ++ n), .str (Str.ofString "again " ++ n), .str (Str.ofString "living " ++ n), .str (Str.ofString "coins " ++ n ++ Str.ofString " " ++ a), .str (Str.ofString "free " ++ n ++ Str.ofString " " ++ a), .str (Str.ofString "age " ++ n ++ Str.ofString " " ++ a), .str (Str.ofString "total " ++ n), .str (Str.ofString "who " ++ n ++ Str.ofString " " ++ k), .str (Str.ofString "told " ++ n), .str (Str.ofString "bets " ++ n), .str (Str.ofString "shut " ++ n), .str (Str.ofString "odds " ++ n ++ Str.ofString " " ++ a ++ Str.ofString " 1"), .str (Str.ofString "in " ++ n ++ Str.ofString " pay " ++ a ++ Str.ofString " " ++ k), .str (Str.ofString "in " ++ n ++ Str.ofString " tie " ++ a ++ Str.ofString " " ++ b), .str (Str.ofString "in " ++ n ++ Str.ofString " blanks " ++ k)] = (lineWs n a b k).map fun ws => .str (Txt.join " " ws) := by
  unfold lineWs
  simp only [List.map_cons, List.map_nil, jn2, jn1, str_assoc, ls_0, ls_1, ls_2, ls_3, ls_4, ls_5, ls_6, ls_7, ls_8, ls_9, ls_10, ls_11, ls_12, ls_13, ls_14, ls_15, ls_16, ls_17, ls_18, ls_19]
theorem num_len {r : Int} (h0 : 0 ≤ r) (h1 : r < 60) : (Str.ofString (toString r)).length ≤ 2 := by
  have h : ∀ r : Fin 60, (Str.ofString (toString ((r.val : Nat) : Int))).length ≤ 2 := by decide +kernel
  have := h ⟨r.toNat, by omega⟩
  rwa [Int.toNat_of_nonneg h0] at this
def S_l_line : Spec := fun ds P _ => ∃ (n a b : Str), ds = [.dict [], .str n, .str a, .str b] ∧ n.length ≤ 8 ∧ a.length ≤ 8 ∧ b.length ≤ 8 ∧ ∀ (r : Int) (ws : List Str), 0 ≤ r → r < 60 → ws ∈ lineWs n a b (toString r) → P (.leaf (.str (Txt.join " " ws)))
section
variable {P : Program} {w : World} {K : PySem.W.Frag} {mg : Str → Option Value} {base : Heap}
theorem ok_l_line {f : Addr} {fd : FuncData} (F : Fun K "_law_line" "_law_line" st_l_line f fd) (C_l_take : Cal P w K mg base "_law_take" ["_law_box_here", "_law_many"] 1 S_l_take) (m_str : mg "str" = none) (m_len : mg "len" = none) :
    FnOk P w K mg base CX0 2 f fd ["_law_box_here", "_law_name", "_law_one", "_law_two"] (spOf K mg S_l_line) := by
  refine fn_ok F sc_l_line ?len (fun cdv A outer s H E hr => s_cons (s_asg 4 sc_l_line.nd (d_fr (d_strC m_str (a_cons (d_callC C_l_take hr (a_cons (d_var 0) (a_cons d_int a_nil))) a_nil))))
    (s_cons (s_asg 5 sc_l_line.nd (d_fr (d_lst (a_cons (d_addS (d_addS (d_addS d_str (d_var 1)) d_str) (d_var 3)) (a_cons (d_addS d_str (d_var 1)) (a_cons (d_addS (d_addS (d_addS (d_addS (d_addS (d_addS (d_addS d_str (d_var 1)) d_str) (d_var 3)) d_str) (d_var 2)) d_str) (d_var 4)) a_nil))))))
    (s_cons (s_asg 5 sc_l_line.nd (d_fr (d_add (d_var 5) (d_lst (a_cons d_str (a_cons (d_addS d_str (d_var 1)) (a_cons (d_addS d_str (d_var 1)) (a_cons (d_addS d_str (d_var 1)) (a_cons (d_addS (d_addS (d_addS d_str (d_var 1)) d_str) (d_var 2)) a_nil)))))))))
    (s_cons (s_asg 5 sc_l_line.nd (d_fr (d_add (d_var 5) (d_lst (a_cons (d_addS (d_addS (d_addS d_str (d_var 1)) d_str) (d_var 2)) (a_cons (d_addS (d_addS (d_addS d_str (d_var 1)) d_str) (d_var 2)) (a_cons (d_addS d_str (d_var 1)) a_nil)))))))
    (s_cons (s_asg 5 sc_l_line.nd (d_fr (d_add (d_var 5) (d_lst (a_cons (d_addS (d_addS (d_addS d_str (d_var 1)) d_str) (d_var 4)) (a_cons (d_addS d_str (d_var 1)) (a_cons (d_addS d_str (d_var 1)) (a_cons (d_addS d_str (d_var 1)) a_nil))))))))
    (s_cons (s_asg 5 sc_l_line.nd (d_fr (d_add (d_var 5) (d_lst (a_cons (d_addS (d_addS (d_addS (d_addS d_str (d_var 1)) d_str) (d_var 2)) d_str) (a_cons (d_addS (d_addS (d_addS (d_addS (d_addS d_str (d_var 1)) d_str) (d_var 2)) d_str) (d_var 4)) a_nil))))))
    (s_cons (s_asg 5 sc_l_line.nd (d_fr (d_add (d_var 5) (d_lst (a_cons (d_addS (d_addS (d_addS (d_addS (d_addS d_str (d_var 1)) d_str) (d_var 2)) d_str) (d_var 3)) (a_cons (d_addS (d_addS (d_addS d_str (d_var 1)) d_str) (d_var 4)) a_nil))))))
    (s_one (s_ret (d_at (d_var 5) (d_callC C_l_take hr (a_cons (d_var 0) (a_cons (d_len m_len (a_cons (d_var 5) a_nil)) a_nil))))))))))))) ?spec ?nx
  case len =>
    rintro ds P x ⟨n, a, b, rfl, _⟩
    rfl
  case nx => exact fun _ _ _ h => h
  case spec =>
    rintro ds P ⟨n, a, b, rfl, ln, la, lb, h⟩
    walk_at "dd"
    refine ⟨by decide, by decide, fun r r0 r1 => ?_⟩
    have nl := num_len r0 r1
    have bd : ∀ k : Nat, k ≤ 100 → k ≤ lim := fun k hk => Nat.le_trans hk (by decide)
    try simp only [str_len, ll_0, ll_1, ll_2, ll_3, ll_4, ll_5, ll_6, ll_7, ll_8, ll_9, ll_10, ll_11, ll_12, ll_13, ll_14, ll_15, ll_16, ll_17, ll_18, ll_19, ll_20, ll_21]
    refine ⟨Nat.lt_of_lt_of_le (show r.natAbs < 60 by omega) (by decide), ?_⟩
    repeat (refine ⟨bd _ (by omega), ?_⟩)
    try simp only [dat_eq, List.map_cons, List.map_nil, dat_leaf]
    walk_at "dd"
    try simp only [str_len, ll_0, ll_1, ll_2, ll_3, ll_4, ll_5, ll_6, ll_7, ll_8, ll_9, ll_10, ll_11, ll_12, ll_13, ll_14, ll_15, ll_16, ll_17, ll_18, ll_19, ll_20, ll_21]
    repeat (refine ⟨bd _ (by omega), ?_⟩)
    try simp only [dat_eq, List.map_cons, List.map_nil, dat_leaf]
    walk_at "dd"
    try simp only [str_len, ll_0, ll_1, ll_2, ll_3, ll_4, ll_5, ll_6, ll_7, ll_8, ll_9, ll_10, ll_11, ll_12, ll_13, ll_14, ll_15, ll_16, ll_17, ll_18, ll_19, ll_20, ll_21]
    repeat (refine ⟨bd _ (by omega), ?_⟩)
    try simp only [dat_eq, List.map_cons, List.map_nil, dat_leaf]
    walk_at "dd"
    repeat (refine ⟨bd _ (by first | omega | decide), ?_⟩)
    try simp only [dat_eq, List.map_cons, List.map_nil, dat_leaf]
    walk_at "dd"
    rw [lines_eq]
    refine ⟨by decide, by decide, fun k k0 k1 => ?_⟩
    obtain ⟨j, rfl⟩ : ∃ j : Nat, k = (j : Int) := ⟨k.toNat, (Int.toNat_of_nonneg k0).symm⟩
    have k1' : j < (lineWs n a b (toString r)).length := by
      show j < 19
      omega
    exact ⟨_, atI_nat (by rw [List.getElem?_map, List.getElem?_eq_getElem k1']; rfl), h r _ r0 r1 (List.getElem_mem k1')⟩
end
theorem sc_p_is_name : FnScope ["word", "sign"] ["word"] (defScope st_p_is_name) := ⟨rfl, rfl, rfl, by decide +kernel, rfl, by decide +kernel, by decide +kernel⟩
/-- whether a text is a name -/
def nameB (z : Str) : Bool := decide (1 ≤ z.length ∧ z.length ≤ 8) && z.cps.toList.all fun c => decide (c ∈ ("abcdefghijklmnopqrstuvwxyz" : Str).cps.toList)
theorem for_signs {z L : Str} {C : Ctl} (h1 : (z.cps.toList.all fun c => decide (c ∈ L.cps.toList)) = true → ∀ y, C.nx [some (.leaf (.str z)), y]) (h2 : (z.cps.toList.all fun c => decide (c ∈ L.cps.toList)) = false → C.rt (boo false)) :
    dFor (iStrD (dVar 0)) (gN 1) (dIf (dTst (dOp rdNotInS (dVar 1) (dC (.str L)))) (dRet (dC (.bool false))) dNext) C [some (.leaf (.str z)), none] := by
  refine for_of (z.cps.toList.map fun c => .str ⟨#[c]⟩) (fun i ρ' => (∃ y, ρ' = [some (.leaf (.str z)), y]) ∧ ∀ j c, j < i → z.cps.toList[j]? = some c → c ∈ L.cps.toList) (fun P h => by walk_at "dd"; exact h) ⟨⟨none, rfl⟩, fun j c hj => absurd hj (Nat.not_lt_zero _)⟩ ?_ ?_
  · rintro i d ρ' hd ⟨⟨y, rfl⟩, hi⟩
    rw [List.getElem?_map] at hd
    cases hc : z.cps.toList[i]? with
    | none =>
      rw [hc] at hd
      cases hd
    | some c =>
      rw [hc] at hd
      cases hd
      walk_at "dd"
      refine ⟨fun h => ?_, fun h => ⟨⟨_, rfl⟩, fun j c' hj e => ?_⟩⟩
      · refine h2 ?_
        rw [List.all_eq_false]
        exact ⟨c, List.mem_of_getElem? hc, by simpa using h⟩
      · by_cases e2 : j = i
        · subst e2
          rw [hc] at e
          cases e
          simpa using h
        · exact hi j c' (by omega) e
  · rintro ρ' ⟨⟨y, rfl⟩, hi⟩
    rw [List.length_map] at hi
    refine h1 ?_ y
    rw [List.all_eq_true]
    intro c hc
    obtain ⟨j, hj⟩ := List.mem_iff_getElem?.mp hc
    exact decide_eq_true (hi j c (List.getElem?_eq_some_iff.mp hj).1 hj)
def S_p_is_name : Spec := fun ds P _ => ∃ z : Str, ds = [.str z] ∧ z.length ≤ lim ∧ P (boo (nameB z))
section
variable {P : Program} {w : World} {K : PySem.W.Frag} {mg : Str → Option Value} {base : Heap}
theorem ok_p_is_name {f : Addr} {fd : FuncData} (F : Fun K "is_name" "is_name" st_p_is_name f fd) (m_len : mg "len" = none) (m_LONGEST_names : ConI K mg "LONGEST_names" 8) (m_LETTERS : ConS mg "LETTERS" "abcdefghijklmnopqrstuvwxyz") :
    FnOk P w K mg base CX0 1 f fd ["word"] (spOf K mg S_p_is_name) := by
  refine fn_ok F sc_p_is_name ?len (fun cdv A outer s H E hr => s_cons (s_if (t_not (t_chain (rd := rdLe) (rd' := rdLe) op_le op_le (ok_I0 fun _ _ => rfl) (ok_I0 fun _ _ => rfl) d_int (d_len m_len (a_cons (d_var 0) a_nil)) (d_con m_LONGEST_names))) (s_one (s_ret d_bl))
      s_nil)
    (s_cons (s_for (ts := [1]) PassesOwn.never rfl (i_strD (d_var 0)) (g_name 1 sc_p_is_name.nd)
      (s_one (s_if (t_notInS (d_var 1) (d_conS m_LETTERS)) (s_one (s_ret d_bl))
      s_nil)))
    (s_one (s_ret d_bl)))) ?spec ?nx
  case len =>
    rintro ds P xp ⟨z, rfl, _⟩
    rfl
  case nx => exact fun _ _ _ h => h
  case spec =>
    rintro ds P ⟨z, rfl, hz, q⟩
    walk_at "dd"
    have no : ¬ (1 ≤ z.length ∧ z.length ≤ 8) → nameB z = false := fun h => by unfold nameB; rw [decide_eq_false h]; rfl
    refine ⟨hz, fun h1 => ⟨fun h2 => ?_, fun h2 => ?_⟩, fun h1 => ?_⟩
    · rw [no (by omega)] at q
      exact q
    · have yes : nameB z = z.cps.toList.all fun c => decide (c ∈ ("abcdefghijklmnopqrstuvwxyz" : Str).cps.toList) := by unfold nameB; rw [decide_eq_true (show 1 ≤ z.length ∧ z.length ≤ 8 by omega)]; rfl
      rw [yes] at q
      refine for_signs (fun h y => ?_) fun h => ?_
      · rw [h] at q
        exact q
      · rw [h] at q
        exact q
    · rw [no (by omega)] at q
      exact q
end
theorem sc_p_look_at_name : FnScope ["word"] ["word"] (defScope st_p_look_at_name) := ⟨rfl, rfl, rfl, by decide +kernel, rfl, by decide +kernel, by decide +kernel⟩
def S_p_look_at_name : Spec := fun ds P x => ∃ z : Str, ds = [.str z] ∧ z.length ≤ lim ∧ (nameB z = true → P non) ∧ (nameB z = false → x "BadName" .none)
section
variable {P : Program} {w : World} {K : PySem.W.Frag} {mg : Str → Option Value} {base : Heap}
theorem ok_p_look_at_name {f : Addr} {fd : FuncData} (F : Fun K "look_at_name" "look_at_name" st_p_look_at_name f fd) (C_p_is_name : Cal P w K mg base "is_name" ["word"] 1 S_p_is_name) (X_BadName : ExcF P w K mg base "BadName") :
    FnOk P w K mg base (L2.CX P w) 3 f fd ["word"] (spOf K mg S_p_look_at_name) := by
  refine fn_okX F sc_p_look_at_name ?len (fun cdv A outer s H E hr => s_one (s_if (t_not (t_val (d_callC C_p_is_name hr (a_cons (d_var 0) a_nil)))) (s_one (s_raise X_BadName hr rfl (takes_of rfl rfl rfl rfl)))
      s_nil)) ?spec
  case len =>
    rintro ds P x ⟨z, rfl, _⟩
    rfl
  case spec =>
    rintro ds P x ⟨z, rfl, hz, h1, h2⟩
    walk_at "dd"
    refine ⟨z, rfl, hz, ?_⟩
    walk_at "dd"
    exact ⟨h2, h1⟩
end
theorem sc_m_House_look_at_new : FnScope ["self", "name"] ["self", "name"] (defScope st_m_House_look_at_new) := ⟨rfl, rfl, rfl, by decide +kernel, rfl, by decide +kernel, by decide +kernel⟩
def S_m_House_look_at_new (CH : Addr) : Spec := fun ds P x => ∃ (ks : List (Str × Addr)) (n : Str), ds = [houD CH ks, .str n] ∧ n.length ≤ lim ∧ (nameB n = false → x "BadName" .none) ∧ (nameB n = true → valG ks n = none → P non) ∧ (nameB n = true → (valG ks n).isSome = true → x "Known" .none)
section
variable {P : Program} {w : World} {K : PySem.W.Frag} {mg : Str → Option Value} {base : Heap}
theorem ok_m_House_look_at_new {f : Addr} {fd : FuncData} {C_House : Addr} (cf_House : CF K C_House ks_House) (F : Fun K "look_at_new" "House.look_at_new" st_m_House_look_at_new f fd) (C_p_look_at_name : CalX P w K mg base "look_at_name" ["word"] 3 S_p_look_at_name) (X_Known : ExcF P w K mg base "Known") :
    FnOk P w K mg base (L2.CX P w) 4 f fd ["self", "name"] (spOf K mg (S_m_House_look_at_new C_House)) := by
  refine fn_okX F sc_m_House_look_at_new ?len (fun cdv A outer s H E hr => s_cons (s_drop (d_callX C_p_look_at_name hr (takes_of rfl rfl rfl rfl) (a_cons (d_var 1) a_nil)))
    (s_one (s_if (t_inD (room1 hr) (d_var 1) (d_fld 0 cf_House (d_var 0))) (s_one (s_raise X_Known hr rfl (takes_of rfl rfl rfl rfl)))
      s_nil))) ?spec
  case len =>
    rintro ds P x ⟨s, n, rfl, _⟩
    rfl
  case spec =>
    rintro ds P x ⟨ks, n, rfl, hz, h1, h2, h3⟩
    walk_at "dd"
    refine ⟨n, rfl, hz, fun hn => ?_, h1⟩
    walk_at "dd"
    exact ⟨fun h => h3 hn h, fun h => h2 hn (by simpa using h)⟩
end
theorem sc_p_look_at_table : FnScope ["table", "many"] ["table"] (defScope st_p_look_at_table) := ⟨rfl, rfl, rfl, by decide +kernel, rfl, by decide +kernel, by decide +kernel⟩
def okTab (t : List Int) : Bool := decide (1 ≤ t.length ∧ t.length ≤ 60) && t.all fun k => decide (1 ≤ k ∧ k ≤ 1000)
def S_p_look_at_table : Spec := fun ds P x => ∃ t : List Int, ds = [.list (intsD t)] ∧ (okTab t = true → P non) ∧ (okTab t = false → x "BadTable" .none)
section
variable {P : Program} {w : World} {K : PySem.W.Frag} {mg : Str → Option Value} {base : Heap}
theorem ok_p_look_at_table {f : Addr} {fd : FuncData} (F : Fun K "look_at_table" "look_at_table" st_p_look_at_table f fd) (X_BadTable : ExcF P w K mg base "BadTable") (m_len : mg "len" = none) (m_LONGEST_tickets : ConI K mg "LONGEST_tickets" 60) (m_MOST : ConI K mg "MOST" 1000) :
    FnOk P w K mg base (L2.CX P w) 3 f fd ["table"] (spOf K mg S_p_look_at_table) := by
  refine fn_okX F sc_p_look_at_table ?len (fun cdv A outer s H E hr => s_cons (s_if (t_not (t_chain (rd := rdLe) (rd' := rdLe) op_le op_le (ok_I0 fun _ _ => rfl) (ok_I0 fun _ _ => rfl) d_int (d_len m_len (a_cons (d_var 0) a_nil)) (d_con m_LONGEST_tickets))) (s_one (s_raise X_BadTable hr rfl (takes_of rfl rfl rfl rfl)))
      s_nil)
    (s_one (s_for (ts := [1]) (passes_of rfl) rfl (i_list (d_var 0)) (g_name 1 sc_p_look_at_table.nd)
      (s_one (s_if (t_not (t_chain (rd := rdLe) (rd' := rdLe) op_le op_le (ok_I0 fun _ _ => rfl) (ok_I0 fun _ _ => rfl) d_int (d_var 1) (d_con m_MOST))) (s_one (s_raise X_BadTable hr rfl (takes_of rfl rfl rfl rfl)))
      s_nil))))) ?spec
  case len =>
    rintro ds P x ⟨z, rfl, _⟩
    rfl
  case spec =>
    rintro ds P x ⟨t, rfl, h1, h2⟩
    walk_at "dd"
    have no : ¬ (1 ≤ t.length ∧ t.length ≤ 60) → okTab t = false := fun h => by
      unfold okTab
      rw [decide_eq_false h]
      rfl
    refine ⟨fun ha => ⟨fun hb => h2 (no (by omega)), fun hb => ?_⟩, fun ha => h2 (no (by omega))⟩
    refine for_of (intsD t) (fun i ρ' => (∃ y, ρ' = [some (.leaf (.list (intsD t))), y]) ∧ ∀ k, k ∈ t.take i → 1 ≤ k ∧ k ≤ 1000) (fun P h => by walk_at "dd"; exact h) ⟨⟨none, rfl⟩, fun k hk => by rw [List.take_zero] at hk; exact nomatch hk⟩ ?_ ?_
    · rintro i d ρ' hd ⟨⟨y, rfl⟩, hi⟩
      obtain ⟨hl, rfl⟩ := get_intsD hd
      have bad : ¬ (1 ≤ t[i] ∧ t[i] ≤ 1000) → okTab t = false := fun h => by
        unfold okTab
        rw [Bool.and_eq_false_iff]
        right
        rw [List.all_eq_false]
        exact ⟨t[i], List.getElem_mem hl, by simpa using h⟩
      have good : (1 ≤ t[i] ∧ t[i] ≤ 1000) → ∀ k, k ∈ t.take (i + 1) → 1 ≤ k ∧ k ≤ 1000 := fun h k hk => by
        rw [List.take_succ_eq_append_getElem hl] at hk
        rcases List.mem_append.mp hk with z | z
        · exact hi k z
        · rw [List.mem_singleton.mp z]
          exact h
      walk_at "dd"
      exact ⟨fun u => ⟨fun v => h2 (bad fun z => v z.2), fun v => ⟨⟨_, rfl⟩, good ⟨u, v⟩⟩⟩, fun u => h2 (bad fun z => u z.1)⟩
    · rintro ρ' ⟨⟨y, rfl⟩, hi⟩
      refine h1 ?_
      unfold okTab
      rw [decide_eq_true (by omega), Bool.true_and, List.all_eq_true]
      intro k hk
      rw [len_intsD, List.take_length] at hi
      exact decide_eq_true (hi k hk)
end
theorem sc_p_look_at_blanks : FnScope ["blanks"] ["blanks"] (defScope st_p_look_at_blanks) := ⟨rfl, rfl, rfl, by decide +kernel, rfl, by decide +kernel, by decide +kernel⟩
def S_p_look_at_blanks : Spec := fun ds P x => ∃ b : Int, ds = [.int b] ∧ ((0 ≤ b ∧ b ≤ 1000) → P non) ∧ (¬ (0 ≤ b ∧ b ≤ 1000) → x "BadBlanks" .none)
section
variable {P : Program} {w : World} {K : PySem.W.Frag} {mg : Str → Option Value} {base : Heap}
theorem ok_p_look_at_blanks {f : Addr} {fd : FuncData} (F : Fun K "look_at_blanks" "look_at_blanks" st_p_look_at_blanks f fd) (X_BadBlanks : ExcF P w K mg base "BadBlanks") (m_MOST : ConI K mg "MOST" 1000) :
    FnOk P w K mg base (L2.CX P w) 3 f fd ["blanks"] (spOf K mg S_p_look_at_blanks) := by
  refine fn_okX F sc_p_look_at_blanks ?len (fun cdv A outer s H E hr => s_one (s_if (t_not (t_chain (rd := rdLe) (rd' := rdLe) op_le op_le (ok_I0 fun _ _ => rfl) (ok_I0 fun _ _ => rfl) d_int (d_var 0) (d_con m_MOST))) (s_one (s_raise X_BadBlanks hr rfl (takes_of rfl rfl rfl rfl)))
      s_nil)) ?spec
  case len =>
    rintro ds P x ⟨z, rfl, _⟩
    rfl
  case spec =>
    rintro ds P x ⟨b, rfl, h1, h2⟩
    walk_at "dd"
    exact ⟨fun h => ⟨fun h' => h2 (by omega), fun h' => h1 ⟨h, h'⟩⟩, fun h => h2 (by omega)⟩
end
theorem sc_m_Stand_init : FnScope ["self", "by_age", "only_tied", "many", "%"] ["self", "by_age", "only_tied", "many"] (defScope st_m_Stand_init) := ⟨rfl, rfl, rfl, by decide +kernel, rfl, by decide +kernel, by decide +kernel⟩
def newS (b : List Int) (o : Bool) (n : Int) : Std := ⟨b, o, n, [], [], [], []⟩
def S_m_Stand_init (CM CS : Addr) : SpecX := fun ds m P _ => ∃ (p : Addr) (m0 : Sto) (b : List Int) (o : Bool) (n : Int), ds = [objD p, .list (intsD b), .bool o, .int n] ∧ m = stput m0 p (.ins CS [] []) ∧ P non (stput m0 p (standT CM CS (newS b o n)))
section
variable {P : Program} {w : World} {K : PySem.W.Frag} {mg : Str → Option Value} {base : Heap}
theorem ok_m_Stand_init {f : Addr} {fd : FuncData} {C_Stand : Addr} (cf_Stand : CF K C_Stand ks_Stand) {C_Member : Addr} (cf_Member : CF K C_Member ks_Member) (F : Fun K "__init__" "Stand.__init__" st_m_Stand_init f fd) (m_list : mg "list" = none) :
    FnOk P w K mg base CX0 1 f fd ["self", "by_age", "only_tied", "many"] (spOfX K mg (S_m_Stand_init C_Member C_Stand)) := by
  refine fn_okS (k := 4) (dn := "%") F sc_m_Stand_init rfl (by decide +kernel) (by decide) ?len (fun cdv A outer s H E hr => s_cons (s_setN (k := 4) [] ["by_age"] cf_Stand (p_var 0) (x_pu (d_list m_list (a_cons (d_var 1) a_nil))))
    (s_cons (s_setN (k := 4) ["by_age"] ["by_age", "only_tied"] cf_Stand (p_var 0) (x_pu (d_var 2)))
    (s_cons (s_setN (k := 4) ["by_age", "only_tied"] ["by_age", "only_tied", "many"] cf_Stand (p_var 0) (x_pu (d_var 3)))
    (s_cons (s_setN (k := 4) ["by_age", "only_tied", "many"] ["by_age", "only_tied", "many", "people"] cf_Stand (p_var 0) (x_pu d_dic0))
    (s_cons (s_setN (k := 4) ["by_age", "only_tied", "many", "people"] ["by_age", "only_tied", "many", "people", "pairs"] cf_Stand (p_var 0) (x_pu d_diT0))
    (s_cons (s_setN (k := 4) ["by_age", "only_tied", "many", "people", "pairs"] ["by_age", "only_tied", "many", "people", "pairs", "hand"] cf_Stand (p_var 0) (x_pu (d_lst a_nil)))
    (s_one (s_setN (k := 4) ["by_age", "only_tied", "many", "people", "pairs", "hand"] ["by_age", "only_tied", "many", "people", "pairs", "hand", "history"] cf_Stand (p_var 0) (x_pu (d_lst a_nil)))))))))) ?spec ?nx
  case len =>
    rintro ds m P xp ⟨p, m0, b, o, n, rfl, _⟩
    rfl
  case nx => exact fun _ _ _ _ h => h
  case spec =>
    rintro ds m P ⟨p, m0, b, o, n, rfl, rfl, fin⟩
    walk_at "ds"
    refine ⟨by decide, by decide, _, SLe.rfl' _, ?_⟩
    unfold standT newS at fin
    rw [nodeI_eq] at fin
    exact fin
end
theorem sc_m_Society_init : FnScope ["self", "table", "blanks", "tied", "%"] ["self", "table", "blanks", "tied"] (defScope st_m_Society_init) := ⟨rfl, rfl, rfl, by decide +kernel, rfl, by decide +kernel, by decide +kernel⟩
def newY (t : List Int) (b : Int) (o : Bool) : Soc := ⟨[], newS t o b, [], []⟩
def S_m_Society_init (CM CS CY : Addr) : SpecX := fun ds m P x => ∃ (p : Addr) (m0 : Sto) (t : List Int) (b : Int) (o : Bool), ds = [objD p, .list (intsD t), .int b, .bool o] ∧ m = stput m0 p (.ins CY [] []) ∧ (okTab t = true → (0 ≤ b ∧ b ≤ 1000) → P non (stput m0 p (socT CM CS CY (newY t b o)))) ∧ (okTab t = false → x "BadTable" .none m) ∧ (okTab t = true → ¬ (0 ≤ b ∧ b ≤ 1000) → x "BadBlanks" .none m)
section
variable {P : Program} {w : World} {K : PySem.W.Frag} {mg : Str → Option Value} {base : Heap}
theorem ok_m_Society_init {f : Addr} {fd : FuncData} {C_Society : Addr} (cf_Society : CF K C_Society ks_Society) {C_Stand : Addr} (cf_Stand : CF K C_Stand ks_Stand) {C_Member : Addr} (cf_Member : CF K C_Member ks_Member) (F : Fun K "__init__" "Society.__init__" st_m_Society_init f fd) (C_p_look_at_table : CalX P w K mg base "look_at_table" ["table"] 3 S_p_look_at_table) (C_p_look_at_blanks : CalX P w K mg base "look_at_blanks" ["blanks"] 3 S_p_look_at_blanks) (MK_Stand : MkS CX0 P w K mg base "Stand" C_Stand ["self", "by_age", "only_tied", "many"] 1 (S_m_Stand_init C_Member C_Stand)) :
    FnOk P w K mg base (L2.CX P w) 4 f fd ["self", "table", "blanks", "tied"] (spOfX K mg (S_m_Society_init C_Member C_Stand C_Society)) := by
  refine fn_okSX (k := 4) (dn := "%") F sc_m_Society_init rfl (by decide +kernel) (by decide) ?len (fun cdv A outer s H E hr => s_cons (s_drop (d_callX C_p_look_at_table hr (takes_of rfl rfl rfl rfl) (a_cons (d_var 1) a_nil)))
    (s_cons (s_drop (d_callX C_p_look_at_blanks hr (takes_of rfl rfl rfl rfl) (a_cons (d_var 2) a_nil)))
    (s_cons (s_setN (k := 4) [] ["stands"] cf_Society (p_var 0) (x_pu (d_lst (a_cons (d_make .calm MK_Stand hr (a_cons (d_var 1) (a_cons (d_var 3) (a_cons (d_var 2) a_nil)))) a_nil))))
    (s_cons (s_setN (k := 4) ["stands"] ["stands", "done"] cf_Society (p_var 0) (x_pu (d_lst a_nil)))
    (s_one (s_setN (k := 4) ["stands", "done"] ["stands", "done", "undone"] cf_Society (p_var 0) (x_pu (d_lst a_nil)))))))) ?spec
  case len =>
    rintro ds m P xp ⟨p, m0, t, b, o, rfl, _⟩
    rfl
  case spec =>
    rintro ds m P xp ⟨p, m0, t, b, o, rfl, rfl, h1, h2, h3⟩
    walk_at "ds"
    refine ⟨t, rfl, fun ht => ?_, fun ht => by walk_at "ds"; exact ⟨_, SLe.rfl' _, h2 ht⟩⟩
    walk_at "ds"
    refine ⟨b, rfl, fun hb => ?_, fun hb => by walk_at "ds"; exact ⟨_, SLe.rfl' _, h3 ht hb⟩⟩
    walk_at "ds"
    refine fun q => ⟨q, noS, t, o, b, rfl, rfl, rfl, _, rfl, ?_⟩
    walk_at "ds"
    exact ⟨by decide, by decide, by decide, _, SLe.rfl' _, h1 ht hb⟩
end
theorem sc_m_House_open_one : FnScope ["self", "name", "table", "blanks", "tied", "%"] ["self", "name", "table", "blanks", "tied"] (defScope st_m_House_open_one) := ⟨rfl, rfl, rfl, by decide +kernel, rfl, by decide +kernel, by decide +kernel⟩
def S_m_House_open_one (CM CS CY CH : Addr) : SpecX := fun ds m P x => ∃ (p : Addr) (m0 : Sto) (ks : List (Str × Addr)) (n : Str) (t : List Int) (b : Int) (o : Bool), ds = [objD p, .str n, .list (intsD t), .int b, .bool o] ∧ m = stput m0 p (houT CH ks) ∧ n.length ≤ lim ∧ nameB n = true ∧ valG ks n = none ∧ ks.length < lim ∧ okTab t = true ∧ (0 ≤ b ∧ b ≤ 1000) ∧
  ∀ q, m q = none → P non (stput (stput m0 q (socT CM CS CY (newY t b o))) p (houT CH (ks ++ [(n, q)])))
section
variable {P : Program} {w : World} {K : PySem.W.Frag} {mg : Str → Option Value} {base : Heap}
theorem ok_m_House_open_one {f : Addr} {fd : FuncData} {C_House : Addr} (cf_House : CF K C_House ks_House) {C_Society : Addr} (cf_Society : CF K C_Society ks_Society) {C_Member : Addr} (cf_Member : CF K C_Member ks_Member) {C_Stand : Addr} (cf_Stand : CF K C_Stand ks_Stand) (F : Fun K "open_one" "House.open_one" st_m_House_open_one f fd) (M_House_look_at_new : MthP (L2.CX P w) P w K mg base C_House "look_at_new" ["self", "name"] 4 (S_m_House_look_at_new C_House)) (MK_Society : MkS (L2.CX P w) P w K mg base "Society" C_Society ["self", "table", "blanks", "tied"] 4 (S_m_Society_init C_Member C_Stand C_Society)) :
    FnOk P w K mg base (L2.CX P w) 6 f fd ["self", "name", "table", "blanks", "tied"] (spOfX K mg (S_m_House_open_one C_Member C_Stand C_Society C_House)) := by
  refine fn_okSX (k := 5) (dn := "%") F sc_m_House_open_one rfl (by decide +kernel) (by decide) ?len (fun cdv A outer s H E hr => s_cons (s_drop (d_bor2 (d_meth (ks := ks_House) (.out (takes_of rfl rfl rfl rfl)) M_House_look_at_new hr (d_res (k := 5) (d_var 0)) (a_cons (d_var 1) a_nil))))
    (s_one (s_setD (k := 5) (room1 hr) (p_fld (k := 5) 0 cf_House (p_var 0)) (d_var 1) (x_make (k := 5) (.out (takes_of rfl rfl rfl rfl)) MK_Society hr (xa_pu (a_cons (d_var 2) (a_cons (d_var 3) (a_cons (d_var 4) a_nil)))))))) ?spec
  case len =>
    rintro ds m P xp ⟨p, m0, ks, n, t, b, o, rfl, _⟩
    rfl
  case spec =>
    rintro ds m P xp ⟨p, m0, ks, n, t, b, o, rfl, rfl, hz, hn, hv, hl, ht, hb, fin⟩
    walk_at "ds"
    refine ⟨ks, n, rfl, hz, fun z => (by rw [hn] at z; cases z), fun _ _ => ?_, fun _ z => (by rw [hv] at z; cases z)⟩
    refine ⟨rfl, fun q hq => ⟨q, _, t, b, o, rfl, rfl, fun _ _ => ?_, fun z => (by rw [ht] at z; cases z), fun _ z => absurd hb z⟩⟩
    have hqp : q ≠ p := fun z => by rw [z, stput_same] at hq; cases hq
    simp only [stput_ne (Ne.symm hqp)]
    walk_at "ds"
    refine ⟨_, _, ⟨rfl, rfl⟩, ?_, ?_, _, SLe.rfl' _, ?_⟩
    · intro z
      obtain ⟨k, hk, e⟩ := List.mem_map.mp z
      exact valG_none hv (List.mem_map.mpr ⟨k, hk, Sum.inr.inj e⟩)
    · rw [List.length_map]
      exact hl
    · rw [fold_kept, fold_hou, stput_comm (Ne.symm hqp), stput_put]
      exact fin q hq
end
theorem sc_m_Member_init : FnScope ["self", "years", "%"] ["self", "years"] (defScope st_m_Member_init) := ⟨rfl, rfl, rfl, by decide +kernel, rfl, by decide +kernel, by decide +kernel⟩
def S_m_Member_init (C : Addr) : SpecX := fun ds m P _ => ∃ (p : Addr) (m0 : Sto) (y : Int), ds = [objD p, .int y] ∧ m = stput m0 p (.ins C [] []) ∧ P non (stput m0 p (memT C ⟨y, 0, true⟩))
section
variable {P : Program} {w : World} {K : PySem.W.Frag} {mg : Str → Option Value} {base : Heap}
theorem ok_m_Member_init {f : Addr} {fd : FuncData} {C_Member : Addr} (cf_Member : CF K C_Member ks_Member) (F : Fun K "__init__" "Member.__init__" st_m_Member_init f fd)  :
    FnOk P w K mg base CX0 1 f fd ["self", "years"] (spOfX K mg (S_m_Member_init C_Member)) := by
  refine fn_okS (k := 2) (dn := "%") F sc_m_Member_init rfl (by decide +kernel) (by decide) ?len (fun cdv A outer s H E hr => s_cons (s_setN (k := 2) [] ["years"] cf_Member (p_var 0) (x_pu (d_var 1)))
    (s_cons (s_setN (k := 2) ["years"] ["years", "purse"] cf_Member (p_var 0) (x_pu d_int))
    (s_one (s_setN (k := 2) ["years", "purse"] ["years", "purse", "alive"] cf_Member (p_var 0) (x_pu d_bl))))) ?spec ?nx
  case len =>
    rintro ds m P xp ⟨p, m0, y, rfl, _⟩
    rfl
  case nx => exact fun _ _ _ _ h => h
  case spec =>
    rintro ds m P ⟨p, m0, y, rfl, rfl, fin⟩
    walk_at "ds"
    exact ⟨_, SLe.rfl' _, fin⟩
end
theorem sc_m_Stand_put_member : FnScope ["self", "name", "years", "%"] ["self", "name", "years"] (defScope st_m_Stand_put_member) := ⟨rfl, rfl, rfl, by decide +kernel, rfl, by decide +kernel, by decide +kernel⟩
def Std.joinR (s : Std) (n : Str) (y : Int) : Option Str := if nameB n = false then some ("BadName" : Str) else if (valG s.people n).isSome then some ("Taken" : Str) else if 12 ≤ (aliveN s.people).length then some ("Full" : Str) else if ¬ (0 ≤ y ∧ y ≤ 99) then some ("BadAge" : Str) else none
def Std.joined (s : Std) (n : Str) (y : Int) : Std := { s with people := s.people ++ [(n, ⟨y, 0, true⟩)] }
def S_m_Stand_put_member (CM CS : Addr) : SpecX := fun ds m P x => ∃ (p : Addr) (m0 : Sto) (s : Std) (n : Str) (y : Int), ds = [objD p, .str n, .int y] ∧ m = stput m0 p (standT CM CS s) ∧ n.length ≤ lim ∧ (s.people.map (·.1)).Nodup ∧ s.people.length < lim ∧ (s.joinR n y = none → P non (stput m0 p (standT CM CS (s.joined n y)))) ∧ (∀ e, s.joinR n y = some e → x e .none m)
section
variable {P : Program} {w : World} {K : PySem.W.Frag} {mg : Str → Option Value} {base : Heap}
theorem ok_m_Stand_put_member {f : Addr} {fd : FuncData} {C_Stand : Addr} (cf_Stand : CF K C_Stand ks_Stand) {C_Member : Addr} (cf_Member : CF K C_Member ks_Member) (F : Fun K "put_member" "Stand.put_member" st_m_Stand_put_member f fd) (C_p_look_at_name : CalX P w K mg base "look_at_name" ["word"] 3 S_p_look_at_name) (M_Stand_alive_names : MthP CX0 P w K mg base C_Stand "alive_names" ["self"] 1 (S_m_Stand_alive_names C_Member C_Stand)) (MK_Member : MkS CX0 P w K mg base "Member" C_Member ["self", "years"] 1 (S_m_Member_init C_Member)) (X_Taken : ExcF P w K mg base "Taken") (X_Full : ExcF P w K mg base "Full") (X_BadAge : ExcF P w K mg base "BadAge") (m_len : mg "len" = none) (m_MOST_LIVING : ConI K mg "MOST_LIVING" 12) (m_MOST_AGE : ConI K mg "MOST_AGE" 99) :
    FnOk P w K mg base (L2.CX P w) 4 f fd ["self", "name", "years"] (spOfX K mg (S_m_Stand_put_member C_Member C_Stand)) := by
  refine fn_okSX (k := 3) (dn := "%") F sc_m_Stand_put_member rfl (by decide +kernel) (by decide) ?len (fun cdv A outer s H E hr => s_cons (s_drop (d_callX C_p_look_at_name hr (takes_of rfl rfl rfl rfl) (a_cons (d_var 1) a_nil)))
    (s_cons (s_if (t_bor2 (t_inD (room1 hr) (d_var 1) (d_fld 3 cf_Stand (d_res (k := 3) (d_var 0))))) (s_one (s_raise X_Taken hr rfl (takes_of rfl rfl rfl rfl)))
      s_nil)
    (s_cons (s_if (t_bor2 (t_ge (d_len m_len (a_cons (d_meth0 (ks := ks_Stand) .calm M_Stand_alive_names hr (d_res (k := 3) (d_var 0))) a_nil)) (d_con m_MOST_LIVING))) (s_one (s_raise X_Full hr rfl (takes_of rfl rfl rfl rfl)))
      s_nil)
    (s_cons (s_if (t_not (t_chain (rd := rdLe) (rd' := rdLe) op_le op_le (ok_I0 fun _ _ => rfl) (ok_I0 fun _ _ => rfl) d_int (d_var 2) (d_con m_MOST_AGE))) (s_one (s_raise X_BadAge hr rfl (takes_of rfl rfl rfl rfl)))
      s_nil)
    (s_one (s_setD (k := 3) (room1 hr) (p_fld (k := 3) 3 cf_Stand (p_var 0)) (d_var 1) (x_pu (d_make .calm MK_Member hr (a_cons (d_var 2) a_nil))))))))) ?spec
  case len =>
    rintro ds m P xp ⟨p, m0, s, n, y, rfl, _⟩
    rfl
  case spec =>
    rintro ds m P xp ⟨p, m0, s, n, y, rfl, rfl, hz, nd, hl, h1, h2⟩
    walk_at "ds"
    have xc : ∀ e : Str, s.joinR n y = some e → ∃ m', SLe m' (stput m0 p (standT C_Member C_Stand s)) ∧ xp e .none m' := fun e he => ⟨_, SLe.rfl' _, h2 e he⟩
    refine ⟨n, rfl, hz, fun hn => ?_, fun hn => ?_⟩
    · walk_at "ds"
      refine ⟨fun ht => ?_, fun ht => ?_⟩
      · exact xc _ (by unfold Std.joinR; rw [if_neg (by rw [hn]; exact fun z => nomatch z), if_pos ht])
      · have j0 : s.joinR n y = if 12 ≤ (aliveN s.people).length then some ("Full" : Str) else if ¬ (0 ≤ y ∧ y ≤ 99) then some ("BadAge" : Str) else none := by
          unfold Std.joinR
          rw [if_neg (by rw [hn]; exact fun z => nomatch z), if_neg (by rw [ht]; exact fun z => nomatch z)]
        have hv : valG s.people n = none := by
          cases e : valG s.people n with
          | none => rfl
          | some m => rw [e] at ht; cases ht
        refine ⟨s, rfl, nd, hl, ?_⟩
        walk_at "ds"
        have ef : (12 ≤ ((aliveN s.people).length : Int)) = (12 ≤ (aliveN s.people).length) := propext ⟨fun h => by omega, fun h => by omega⟩
        refine ⟨fun h12 => xc _ (by rw [j0, if_pos (by omega)]), fun h12 => ?_⟩
        have hk : ¬ 12 ≤ (aliveN s.people).length := by omega
        rw [if_neg hk] at j0
        refine ⟨fun hy => ⟨fun hy2 => xc _ (by rw [j0, if_pos (by omega)]), fun hy2 => fun q => ⟨q, noS, y, rfl, rfl, rfl, _, rfl, _, _, ⟨rfl, rfl⟩, ?_, ?_, _, SLe.rfl' _, ?_⟩⟩, fun hy => xc _ (by rw [j0, if_pos (by omega)])⟩
        · rw [inr_notin]
          exact valG_none hv
        · rw [List.length_map]
          exact hl
        · rw [fold_ppl, fold_stand]
          exact h1 (by rw [j0, if_neg (by omega)])
    · walk_at "ds"
      exact xc _ (by unfold Std.joinR; rw [if_pos hn])
end
theorem sc_m_Stand_check_living : FnScope ["self", "name"] ["self", "name"] (defScope st_m_Stand_check_living) := ⟨rfl, rfl, rfl, by decide +kernel, rfl, by decide +kernel, by decide +kernel⟩
def S_m_Stand_check_living (CM CS : Addr) : Spec := fun ds P x => ∃ (s : Std) (n : Str), ds = [standD CM CS s, .str n] ∧ (∀ m, valG s.people n = some m → (m.alive = true → P non) ∧ (m.alive = false → x "Dead" .none)) ∧ (valG s.people n = none → x "NoMember" .none)
section
variable {P : Program} {w : World} {K : PySem.W.Frag} {mg : Str → Option Value} {base : Heap}
theorem ok_m_Stand_check_living {f : Addr} {fd : FuncData} {C_Stand : Addr} (cf_Stand : CF K C_Stand ks_Stand) {C_Member : Addr} (cf_Member : CF K C_Member ks_Member) (F : Fun K "check_living" "Stand.check_living" st_m_Stand_check_living f fd) (M_Stand_member : MthP (L2.CX P w) P w K mg base C_Stand "member" ["self", "name"] 3 (S_m_Stand_member C_Member C_Stand)) (X_Dead : ExcF P w K mg base "Dead") :
    FnOk P w K mg base (L2.CX P w) 4 f fd ["self", "name"] (spOf K mg (S_m_Stand_check_living C_Member C_Stand)) := by
  refine fn_okX F sc_m_Stand_check_living ?len (fun cdv A outer s H E hr => s_one (s_if (t_not (t_val (d_fld 2 cf_Member (d_meth (ks := ks_Stand) (.out (takes_of rfl rfl rfl rfl)) M_Stand_member hr (d_var 0) (a_cons (d_var 1) a_nil))))) (s_one (s_raise X_Dead hr rfl (takes_of rfl rfl rfl rfl)))
      s_nil)) ?spec
  case len =>
    rintro ds P x ⟨s, n, rfl, _⟩
    rfl
  case spec =>
    rintro ds P x ⟨s, n, rfl, h1, h2⟩
    walk_at "dd"
    refine ⟨s, n, rfl, fun m e => ?_, h2⟩
    walk_at "dd"
    exact ⟨fun h => (h1 m e).2 h, fun h => (h1 m e).1 h⟩
end
theorem sc_m_Stand_put_coins : FnScope ["self", "name", "coins", "%"] ["self", "name", "coins"] (defScope st_m_Stand_put_coins) := ⟨rfl, rfl, rfl, by decide +kernel, rfl, by decide +kernel, by decide +kernel⟩
def Std.payR (s : Std) (n : Str) (c : Int) : Option Str := match valG s.people n with | none => some ("NoMember" : Str) | some m => if m.alive = false then some ("Dead" : Str) else if ¬ (1 ≤ c ∧ c ≤ 1000000) then some ("BadCoins" : Str) else none
def addC (c : Int) (m : Mem) : Mem := { m with purse := m.purse + c }
def Std.paid (s : Std) (n : Str) (c : Int) : Std := { s with people := s.people.map (updM n (addC c)) }
def S_m_Stand_put_coins (CM CS : Addr) : SpecX := fun ds m P x => ∃ (p : Addr) (m0 : Sto) (s : Std) (n : Str) (c : Int), ds = [objD p, .str n, .int c] ∧ m = stput m0 p (standT CM CS s) ∧ (s.people.map (·.1)).Nodup ∧ (s.payR n c = none → P non (stput m0 p (standT CM CS (s.paid n c)))) ∧ (∀ e, s.payR n c = some e → x e .none m)
section
variable {P : Program} {w : World} {K : PySem.W.Frag} {mg : Str → Option Value} {base : Heap}
theorem ok_m_Stand_put_coins {f : Addr} {fd : FuncData} {C_Stand : Addr} (cf_Stand : CF K C_Stand ks_Stand) {C_Member : Addr} (cf_Member : CF K C_Member ks_Member) (F : Fun K "put_coins" "Stand.put_coins" st_m_Stand_put_coins f fd) (M_Stand_check_living : MthP (L2.CX P w) P w K mg base C_Stand "check_living" ["self", "name"] 4 (S_m_Stand_check_living C_Member C_Stand)) (X_BadCoins : ExcF P w K mg base "BadCoins") (m_MOST_PAID : ConI K mg "MOST_PAID" 1000000) :
    FnOk P w K mg base (L2.CX P w) 5 f fd ["self", "name", "coins"] (spOfX K mg (S_m_Stand_put_coins C_Member C_Stand)) := by
  refine fn_okSX (k := 3) (dn := "%") F sc_m_Stand_put_coins rfl (by decide +kernel) (by decide) ?len (fun cdv A outer s H E hr => s_cons (s_drop (d_bor2 (d_meth (ks := ks_Stand) (.out (takes_of rfl rfl rfl rfl)) M_Stand_check_living hr (d_res (k := 3) (d_var 0)) (a_cons (d_var 1) a_nil))))
    (s_cons (s_if (t_not (t_chain (rd := rdLe) (rd' := rdLe) op_le op_le (ok_I0 fun _ _ => rfl) (ok_I0 fun _ _ => rfl) d_int (d_var 2) (d_con m_MOST_PAID))) (s_one (s_raise X_BadCoins hr rfl (takes_of rfl rfl rfl rfl)))
      s_nil)
    (s_one (s_augF (k := 3) ip_add 1 cf_Member (p_key (k := 3) (room1 hr) (p_fld (k := 3) 3 cf_Stand (p_var 0)) (d_var 1)) (d_var 2))))) ?spec
  case len =>
    rintro ds m P xp ⟨p, m0, s, n, c, rfl, _⟩
    rfl
  case spec =>
    rintro ds m P xp ⟨p, m0, s, n, c, rfl, rfl, nd, h1, h2⟩
    walk_at "ds"
    have xc : ∀ e : Str, s.payR n c = some e → ∃ m', SLe m' (stput m0 p (standT C_Member C_Stand s)) ∧ xp e .none m' := fun e he => ⟨_, SLe.rfl' _, h2 e he⟩
    refine ⟨s, n, rfl, fun m em => ⟨fun ha => ?_, fun ha => ?_⟩, fun em => ?_⟩
    · have j0 : s.payR n c = if ¬ (1 ≤ c ∧ c ≤ 1000000) then some ("BadCoins" : Str) else none := by
        unfold Std.payR
        rw [em]
        dsimp only
        rw [if_neg (by rw [ha]; exact fun z => nomatch z)]
      walk_at "ds"
      refine ⟨fun hc => ⟨fun hc2 => xc _ (by rw [j0, if_pos (by omega)]), fun hc2 => ?_⟩, fun hc => xc _ (by rw [j0, if_pos (by omega)])⟩
      obtain ⟨i, e1, e2⟩ := fixK_at (C := C_Member) em
      refine ⟨_, _, ⟨rfl, rfl⟩, i, e1, [int m.years, int m.purse, boo m.alive], by rw [e2]; rfl, m.purse, rfl, _, SLe.rfl' _, ?_⟩
      have e3 := put_ppl (C := C_Member) (r := []) (u := T.ins C_Member ks_Member [int m.years, int (m.purse + c), boo m.alive]) (m := addC c m) (n, m) e2 (by rw [put_nil]; rfl)
      rw [show ([int m.years, int m.purse, boo m.alive].set 1 (int (m.purse + c))) = [int m.years, int (m.purse + c), boo m.alive] from rfl, e3, ← updM_set nd e2, fold_stand]
      exact h1 (by rw [j0, if_neg (by omega)])
    · walk_at "ds"
      exact xc _ (by unfold Std.payR; rw [em]; dsimp only; rw [if_pos ha])
    · walk_at "ds"
      exact xc _ (by unfold Std.payR; rw [em])
end
theorem sc_p_done_by : FnScope ["stand", "row", "word", "%"] ["stand", "row"] (defScope st_p_done_by) := ⟨rfl, rfl, rfl, by decide +kernel, rfl, by decide +kernel, by decide +kernel⟩
def Deed.res (s : Std) : Deed → Option Str
  | .join n y => s.joinR n y
  | .pay n c => s.payR n c
  | _ => none
def Deed.next (s : Std) : Deed → Std
  | .join n y => s.joined n y
  | .pay n c => s.paid n c
  | _ => s
def Deed.jp : Deed → Bool
  | .join n _ => decide (n.length ≤ lim)
  | .pay _ _ => true
  | _ => false
def S_p_done_by (CM CS : Addr) : SpecX := fun ds m P x => ∃ (p : Addr) (m0 : Sto) (s : Std) (d : Deed), ds = [objD p, d.row] ∧ m = stput m0 p (standT CM CS s) ∧ d.jp = true ∧ (s.people.map (·.1)).Nodup ∧ s.people.length < lim ∧ (d.res s = none → P non (stput m0 p (standT CM CS (d.next s)))) ∧ (∀ e, d.res s = some e → x e .none m)
section
variable {P : Program} {w : World} {K : PySem.W.Frag} {mg : Str → Option Value} {base : Heap}
theorem ok_p_done_by {f : Addr} {fd : FuncData} {C_Stand : Addr} (cf_Stand : CF K C_Stand ks_Stand) {C_Member : Addr} (cf_Member : CF K C_Member ks_Member) (F : Fun K "done_by" "done_by" st_p_done_by f fd) (M_Stand_put_member : MthS (L2.CX P w) P w K mg base C_Stand "put_member" ["self", "name", "years"] 4 (S_m_Stand_put_member C_Member C_Stand)) (M_Stand_put_coins : MthS (L2.CX P w) P w K mg base C_Stand "put_coins" ["self", "name", "coins"] 5 (S_m_Stand_put_coins C_Member C_Stand)) :
    FnOk P w K mg base (L2.CX P w) 6 f fd ["stand", "row"] (spOfX K mg (S_p_done_by C_Member C_Stand)) := by
  refine fn_okSX (k := 3) (dn := "%") F sc_p_done_by rfl (by decide +kernel) (by decide) ?len (fun cdv A outer s H E hr => s_cons (s_asg 2 sc_p_done_by.nd (d_at (d_var 1) d_int))
    (s_cons (s_if (t_eq hr.units (d_var 2) d_str) (s_one (s_retX 3 (x_meth (k := 3) (ks := ks_Stand) (.out (takes_of rfl rfl rfl rfl)) M_Stand_put_member hr (x_pu (d_var 0)) (xa_pu (a_cons (d_at (d_var 1) d_int) (a_cons (d_at (d_var 1) d_int) a_nil))))))
      s_nil)
    (s_cons (s_if (t_eq hr.units (d_var 2) d_str) (s_one (s_retX 3 (x_meth (k := 3) (ks := ks_Stand) (.out (takes_of rfl rfl rfl rfl)) M_Stand_put_coins hr (x_pu (d_var 0)) (xa_pu (a_cons (d_at (d_var 1) d_int) (a_cons (d_at (d_var 1) d_int) a_nil))))))
      s_nil)
    (s_cons s_never
    (s_cons s_never
    (s_cons s_never
    (s_cons s_never
    (s_cons s_never
    (s_cons s_never
    (s_one s_never)))))))))) ?spec
  case len =>
    rintro ds m P xp ⟨p, m0, s, d, rfl, _⟩
    rfl
  case spec =>
    rintro ds m P xp ⟨p, m0, s, d, rfl, rfl, jp, nd, hl, h1, h2⟩
    cases d with
    | join n y =>
      unfold Deed.row
      walk_at "ds"
      refine ⟨_, rfl, ?_⟩
      walk_at "ds"
      exact ⟨⟨_, rfl, _, rfl, p, m0, s, n, y, rfl, rfl, of_decide_eq_true jp, nd, hl, fun hn => ⟨_, SLe.rfl' _, h1 hn⟩, fun e he => ⟨_, SLe.rfl' _, h2 e he⟩⟩, fun z => absurd trivial z⟩
    | pay n c =>
      unfold Deed.row
      walk_at "ds"
      refine ⟨_, rfl, ?_⟩
      walk_at "ds"
      exact ⟨fun z => absurd z (by decide), fun _ => ⟨⟨_, rfl, _, rfl, p, m0, s, n, c, rfl, rfl, nd, fun hn => ⟨_, SLe.rfl' _, h1 hn⟩, fun e he => ⟨_, SLe.rfl' _, h2 e he⟩⟩, fun z => absurd trivial z⟩⟩
    | _ => cases jp
end
theorem sc_m_Member_like : FnScope ["self", "other", "%"] ["self"] (defScope st_m_Member_like) := ⟨rfl, rfl, rfl, by decide +kernel, rfl, by decide +kernel, by decide +kernel⟩
def S_m_Member_like (C : Addr) : Spec := fun ds P _ => ∃ (m : Mem), ds = [memD C m] ∧ P (memT C m)
section
variable {P : Program} {w : World} {K : PySem.W.Frag} {mg : Str → Option Value} {base : Heap}
theorem ok_m_Member_like {f : Addr} {fd : FuncData} {C_Member : Addr} (cf_Member : CF K C_Member ks_Member) (F : Fun K "like" "Member.like" st_m_Member_like f fd) (MK_Member : MkS CX0 P w K mg base "Member" C_Member ["self", "years"] 1 (S_m_Member_init C_Member)) :
    FnOk P w K mg base CX0 3 f fd ["self"] (spOf K mg (S_m_Member_like C_Member)) := by
  refine fn_okO (k := 2) (dn := "%") F sc_m_Member_like rfl (by decide +kernel) (by decide) ?len (fun cdv A outer s H E hr => s_cons (s_asgX 1 sc_m_Member_like.nd (x_make (k := 2) .calm MK_Member hr (xa_pu (a_cons (d_fld 0 cf_Member (d_var 0)) a_nil))))
    (s_cons (s_setF (k := 2) 1 cf_Member (p_var 1) (x_pu (d_fld 1 cf_Member (d_var 0))))
    (s_cons (s_setF (k := 2) 2 cf_Member (p_var 1) (x_pu (d_fld 2 cf_Member (d_var 0))))
    (s_one (s_retO 2 1))))) ?spec ?nx
  case len =>
    rintro ds P x ⟨m, rfl, _⟩
    rfl
  case nx => exact fun _ _ _ h => h
  case spec =>
    rintro ds P ⟨m, rfl, fin⟩
    walk_at "ds"
    refine fun q => ⟨q, noS, m.years, rfl, rfl, rfl, ?_⟩
    walk_at "ds"
    exact fin
end
theorem sc_m_Stand_like : FnScope ["self", "other", "name", "one", "%"] ["self"] (defScope st_m_Stand_like) := ⟨rfl, rfl, rfl, by decide +kernel, rfl, by decide +kernel, by decide +kernel⟩
def S_m_Stand_like (CM CS : Addr) : Spec := fun ds P _ => ∃ (s : Std), ds = [standD CM CS s] ∧ (s.people.map (·.1)).Nodup ∧ s.people.length < lim ∧ s.pairs.length ≤ 1 ∧ P (standT CM CS s)
theorem nd_take {α : Type} {l : List α} (nd : l.Nodup) {i : Nat} {x : α} (e : l[i]? = some x) : x ∉ l.take i := fun h => by
  obtain ⟨j, hj, ej⟩ := List.getElem_of_mem h
  rw [List.length_take] at hj
  rw [List.getElem_take] at ej
  obtain ⟨hi, ei⟩ := List.getElem?_eq_some_iff.mp e
  have := (List.getElem_inj nd (h₀ := by omega) (h₁ := hi)).mp (ej.trans ei.symm)
  omega
section
variable {P : Program} {w : World} {K : PySem.W.Frag} {mg : Str → Option Value} {base : Heap}
theorem ok_m_Stand_like {f : Addr} {fd : FuncData} {C_Stand : Addr} (cf_Stand : CF K C_Stand ks_Stand) {C_Member : Addr} (cf_Member : CF K C_Member ks_Member) (F : Fun K "like" "Stand.like" st_m_Stand_like f fd) (M_Member_like : MthP CX0 P w K mg base C_Member "like" ["self"] 3 (S_m_Member_like C_Member)) (MK_Stand : MkS CX0 P w K mg base "Stand" C_Stand ["self", "by_age", "only_tied", "many"] 1 (S_m_Stand_init C_Member C_Stand)) (m_dict : mg "dict" = none) (m_list : mg "list" = none) :
    FnOk P w K mg base CX0 4 f fd ["self"] (spOf K mg (S_m_Stand_like C_Member C_Stand)) := by
  refine fn_okO (k := 4) (dn := "%") F sc_m_Stand_like rfl (by decide +kernel) (by decide) ?len (fun cdv A outer s H E hr => s_cons (s_asgX 1 sc_m_Stand_like.nd (x_make (k := 4) .calm MK_Stand hr (xa_pu (a_cons (d_fld 0 cf_Stand (d_var 0)) (a_cons (d_fld 1 cf_Stand (d_var 0)) (a_cons (d_fld 2 cf_Stand (d_var 0)) a_nil))))))
    (s_cons (s_forI (ts := [2, 3]) PassesOwn.never rfl (d_fld 3 cf_Stand (d_var 0)) (g_tup (n := 2) rfl (gs_cons (g_name 2 sc_m_Stand_like.nd) (gs_cons (g_name 3 sc_m_Stand_like.nd) gs_nil)))
      (s_one (s_setD (k := 4) (room1 hr) (p_fld (k := 4) 3 cf_Stand (p_var 1)) (d_var 2) (x_pu (d_meth0 (ks := ks_Member) .calm M_Member_like hr (d_var 3))))))
    (s_cons (s_setF (k := 4) 4 cf_Stand (p_var 1) (x_pu (d_dict (room65 hr) m_dict (a_cons (d_fld 4 cf_Stand (d_var 0)) a_nil))))
    (s_cons (s_setF (k := 4) 5 cf_Stand (p_var 1) (x_pu (d_list m_list (a_cons (d_fld 5 cf_Stand (d_var 0)) a_nil))))
    (s_cons (s_setF (k := 4) 6 cf_Stand (p_var 1) (x_pu (d_list m_list (a_cons (d_fld 6 cf_Stand (d_var 0)) a_nil))))
    (s_one (s_retO 4 1))))))) ?spec ?nx
  case len =>
    rintro ds P x ⟨m, rfl, _⟩
    rfl
  case nx => exact fun _ _ _ h => h
  case spec =>
    rintro ds P ⟨s, rfl, nd, hl, pr, fin⟩
    walk_at "ds"
    refine fun q => ⟨q, noS, s.byAge, s.only, s.many, rfl, rfl, rfl, ?_⟩
    refine forK_of (s.people.map fun p => .tuple [.str p.1, memD C_Member p.2]) (fun i ρ' => ∃ y2 y3, ρ' = [some (.leaf (standD C_Member C_Stand s)), some (.leaf (objD q)), y2, y3, some (.sto (stput noS q (standT C_Member C_Stand ⟨s.byAge, s.only, s.many, s.people.take i, [], [], []⟩)))]) (fun P h => by walk_at "ds"; exact h) ⟨none, none, rfl⟩ ?_ ?_
    · rintro i d ρ' hd ⟨y2, y3, rfl⟩
      rw [List.getElem?_map] at hd
      cases e : s.people[i]? with
      | none => rw [e] at hd; cases hd
      | some p =>
        rw [e] at hd
        cases hd
        walk_at "ds"
        have hi := (List.getElem?_eq_some_iff.mp e).1
        refine ⟨p.2, rfl, _, _, ⟨rfl, rfl⟩, ?_, ?_, some (.leaf (.str p.1)), some (.leaf (memD C_Member p.2)), ?_⟩
        · rw [inr_notin, List.map_take]
          exact nd_take nd (by rw [List.getElem?_map, e]; rfl)
        · rw [List.length_map, List.length_take]
          omega
        · rw [fold_ppl, List.take_add_one, e]
          rfl
    · rintro ρ' ⟨y2, y3, rfl⟩
      walk_at "ds"
      refine .inr ⟨s.pairs.map fun p => (pairK p, .bool true), rfl, by rw [List.length_map]; exact pr, ?_⟩
      rw [List.length_map, List.take_length]
      have e1 : T.diT ((s.pairs.map fun p => (pairK p, PyData.bool true)).map (·.1)) ((s.pairs.map fun p => (pairK p, PyData.bool true)).map fun p => .leaf p.2) = prsT s.pairs := by
        unfold prsT
        rw [List.map_map, List.map_map]
        rfl
      rw [e1]
      unfold betsD
      rw [List.map_map]
      exact fin
end
theorem sc_m_Society_deed : FnScope ["self", "row", "later", "told", "%"] ["self", "row"] (defScope st_m_Society_deed) := ⟨rfl, rfl, rfl, by decide +kernel, rfl, by decide +kernel, by decide +kernel⟩
def Soc.did (y : Soc) (d : Deed) : Soc := ⟨y.stands, d.next y.cur, y.done ++ [d.row], []⟩
def Std.Ok (s : Std) : Prop := (s.people.map (·.1)).Nodup ∧ s.people.length < lim ∧ s.pairs.length ≤ 1 ∧ s.Flat
def S_m_Society_deed (CM CS CY : Addr) : SpecX := fun ds m P x => ∃ (p : Addr) (m0 : Sto) (y : Soc) (d : Deed), ds = [objD p, d.row] ∧ m = stput m0 p (socT CM CS CY y) ∧ d.jp = true ∧ y.cur.Ok ∧ y.stands.length < lim ∧ y.done.length < lim ∧ (d.res y.cur = none → P non (stput m0 p (socT CM CS CY (y.did d)))) ∧ (∀ e, d.res y.cur = some e → x e .none m)
section
variable {P : Program} {w : World} {K : PySem.W.Frag} {mg : Str → Option Value} {base : Heap}
theorem ok_m_Society_deed {f : Addr} {fd : FuncData} {C_Society : Addr} (cf_Society : CF K C_Society ks_Society) {C_Stand : Addr} (cf_Stand : CF K C_Stand ks_Stand) {C_Member : Addr} (cf_Member : CF K C_Member ks_Member) (F : Fun K "deed" "Society.deed" st_m_Society_deed f fd) (C_p_done_by : CalS (L2.CX P w) P w K mg base "done_by" ["stand", "row"] 6 (S_p_done_by C_Member C_Stand)) (M_Stand_like : MthP CX0 P w K mg base C_Stand "like" ["self"] 4 (S_m_Stand_like C_Member C_Stand)) (M_Society_now : MthP CX0 P w K mg base C_Society "now" ["self"] 1 (S_m_Society_now C_Member C_Stand C_Society)) :
    FnOk P w K mg base (L2.CX P w) 7 f fd ["self", "row"] (spOfX K mg (S_m_Society_deed C_Member C_Stand C_Society)) := by
  refine fn_okSX (k := 4) (dn := "%") F sc_m_Society_deed rfl (by decide +kernel) (by decide) ?len (fun cdv A outer s H E hr => s_cons (s_asg 2 sc_m_Society_deed.nd (d_bor2 (d_meth0 (ks := ks_Stand) .calm M_Stand_like hr (d_meth0 (ks := ks_Society) .calm M_Society_now hr (d_res (k := 4) (d_var 0))))))
    (s_prom 4 2 (s_cons (s_asgX 3 sc_m_Society_deed.nd (x_callX (k := 4) C_p_done_by hr (takes_of rfl rfl rfl rfl) (xa_pu (a_cons (d_var 2) (a_cons (d_var 1) a_nil)))))
    (s_frz 3 (s_fix 4 2 (s_cons (s_appP (k := 4) (p_fld (k := 4) 0 cf_Society (p_var 0)) (d_var 2))
    (s_cons (s_appP (k := 4) (p_fld (k := 4) 1 cf_Society (p_var 0)) (d_var 1))
    (s_cons (s_setF (k := 4) 2 cf_Society (p_var 0) (x_pu (d_lst a_nil)))
    (s_one (s_retX 4 (x_pu (d_var 3)))))))))))) ?spec
  case len =>
    rintro ds m P xp ⟨p, m0, y, d, rfl, _⟩
    rfl
  case spec =>
    rintro ds m P xp ⟨p, m0, y, d, rfl, rfl, jp, ⟨nd, hl, pr, fl⟩, l1, l2, h1, h2⟩
    walk_at "ds"
    refine ⟨y, rfl, ?_⟩
    walk_at "ds"
    refine ⟨y.cur, rfl, nd, hl, pr, tl2_stand fl, by decide, rfl, fun q hq => ?_⟩
    refine ⟨q, _, y.cur, d, rfl, rfl, jp, nd, hl, fun hn => ?_, fun e he => ⟨_, sle_put hq, h2 e he⟩⟩
    refine ⟨by decide, _, stput_same, ?_⟩
    simp only [stdel_put hq]
    walk_at "ds"
    have e : socT C_Member C_Stand C_Society (y.did d) = T.ins C_Society ks_Society [T.node (List.map T.leaf (stdsD C_Member C_Stand y.stands) ++ [T.leaf (standD C_Member C_Stand (d.next y.cur))]), T.node (List.map T.leaf y.done ++ [T.leaf d.row]), T.node []] := by
      unfold socT
      have e1 : (y.did d).stands = y.stands ++ [d.next y.cur] := rfl
      have e2 : (y.did d).done = y.done ++ [d.row] := rfl
      rw [e1, e2]
      unfold stdsD
      rw [List.map_append, List.map_append, List.map_append]
      rfl
    refine ⟨by unfold stdsD; rw [List.length_map, List.length_map]; exact l1, by rw [List.length_map]; exact l2, by decide, _, SLe.rfl' _, ?_⟩
    rw [← e]
    exact h1 hn
end
theorem sc_m_House_one : FnScope ["self", "name"] ["self", "name"] (defScope st_m_House_one) := ⟨rfl, rfl, rfl, by decide +kernel, rfl, by decide +kernel, by decide +kernel⟩
def S_m_House_one (CH : Addr) : Spec := fun ds P x => ∃ (ks : List (Str × Addr)) (n : Str), ds = [houD CH ks, .str n] ∧ (∀ a, valG ks n = some a → P (.leaf (objD a))) ∧ (valG ks n = none → x "NoSociety" .none)
section
variable {P : Program} {w : World} {K : PySem.W.Frag} {mg : Str → Option Value} {base : Heap}
theorem ok_m_House_one {f : Addr} {fd : FuncData} {C_House : Addr} (cf_House : CF K C_House ks_House) (F : Fun K "one" "House.one" st_m_House_one f fd) (X_NoSociety : ExcF P w K mg base "NoSociety") :
    FnOk P w K mg base (L2.CX P w) 3 f fd ["self", "name"] (spOf K mg (S_m_House_one C_House)) := by
  refine fn_okX F sc_m_House_one ?len (fun cdv A outer s H E hr => s_cons (s_if (t_notInD (room1 hr) (d_var 1) (d_fld 0 cf_House (d_var 0))) (s_one (s_raise X_NoSociety hr rfl (takes_of rfl rfl rfl rfl)))
      s_nil)
    (s_one (s_ret (d_dget (room1 hr) (d_fld 0 cf_House (d_var 0)) (d_var 1))))) ?spec
  case len =>
    rintro ds P x ⟨s, n, rfl, _⟩
    rfl
  case spec =>
    rintro ds P x ⟨ks, n, rfl, h1, h2⟩
    walk_at "dd"
    refine ⟨fun h => h2 ?_, fun h => ?_⟩
    · simpa using h
    · cases e : valG ks n with
      | none => rw [e] at h; simp at h
      | some a => exact ⟨objD a, by rw [valP_map (fun a => objD a), e]; rfl, h1 a e⟩
end
theorem sc_m_House_deed : FnScope ["self", "name", "row", "%"] ["self", "name", "row"] (defScope st_m_House_deed) := ⟨rfl, rfl, rfl, by decide +kernel, rfl, by decide +kernel, by decide +kernel⟩
def S_m_House_deed (CM CS CY CH : Addr) : SpecX := fun ds m P x => ∃ (p : Addr) (m0 : Sto) (ks : List (Str × Addr)) (n : Str) (a : Addr) (y : Soc) (d : Deed), ds = [objD p, .str n, d.row] ∧ m = stput m0 p (houT CH ks) ∧ valG ks n = some a ∧ a ≠ p ∧ m0 a = some (socT CM CS CY y) ∧ d.jp = true ∧ y.cur.Ok ∧ y.stands.length < lim ∧ y.done.length < lim ∧ (d.res y.cur = none → P non (stput m a (socT CM CS CY (y.did d)))) ∧ (∀ e, d.res y.cur = some e → x e .none m)
section
variable {P : Program} {w : World} {K : PySem.W.Frag} {mg : Str → Option Value} {base : Heap}
theorem ok_m_House_deed {f : Addr} {fd : FuncData} {C_House : Addr} (cf_House : CF K C_House ks_House) {C_Society : Addr} (cf_Society : CF K C_Society ks_Society) {C_Member : Addr} (cf_Member : CF K C_Member ks_Member) {C_Stand : Addr} (cf_Stand : CF K C_Stand ks_Stand) (F : Fun K "deed" "House.deed" st_m_House_deed f fd) (M_Society_deed : MthS (L2.CX P w) P w K mg base C_Society "deed" ["self", "row"] 7 (S_m_Society_deed C_Member C_Stand C_Society)) (M_House_one : MthP (L2.CX P w) P w K mg base C_House "one" ["self", "name"] 3 (S_m_House_one C_House)) :
    FnOk P w K mg base (L2.CX P w) 8 f fd ["self", "name", "row"] (spOfX K mg (S_m_House_deed C_Member C_Stand C_Society C_House)) := by
  refine fn_okSX (k := 3) (dn := "%") F sc_m_House_deed rfl (by decide +kernel) (by decide) ?len (fun cdv A outer s H E hr => s_one (s_retX 3 (x_meth (k := 3) (ks := ks_Society) (.out (takes_of rfl rfl rfl rfl)) M_Society_deed hr (x_pu (d_bor2 (d_meth (ks := ks_House) (.out (takes_of rfl rfl rfl rfl)) M_House_one hr (d_res (k := 3) (d_var 0)) (a_cons (d_var 1) a_nil)))) (xa_pu (a_cons (d_var 2) a_nil))))) ?spec
  case len =>
    rintro ds m P xp ⟨p, m0, ks, n, a, y, d, rfl, _⟩
    rfl
  case spec =>
    rintro ds m P xp ⟨p, m0, ks, n, a, y, d, rfl, rfl, hv, hap, ha, jp, ok, l1, l2, h1, h2⟩
    walk_at "ds"
    refine ⟨ks, n, rfl, fun a' ha' => ?_, fun z => by rw [hv] at z; cases z⟩
    rw [hv] at ha'
    cases ha'
    have em : stput m0 p (houT C_House ks) a = some (socT C_Member C_Stand C_Society y) := by rw [stput_ne hap]; exact ha
    exact ⟨rfl, a, rfl, _, em, a, _, y, d, rfl, (stput_get em).symm, jp, ok, l1, l2, fun hn => ⟨_, SLe.rfl' _, h1 hn⟩, fun e he => ⟨_, SLe.rfl' _, h2 e he⟩⟩
end
theorem sc_m_Society_nowS : FnScope ["self", "%"] ["self"] (defScope st_m_Society_nowS) := ⟨rfl, rfl, rfl, by decide +kernel, rfl, by decide +kernel, by decide +kernel⟩
def S_m_Society_nowS (CM CS CY : Addr) : SpecX := fun ds m P _ => ∃ (p : Addr) (m0 : Sto) (y : Soc), ds = [objD p] ∧ m = stput m0 p (socT CM CS CY y) ∧ P (.leaf (standD CM CS y.cur)) m
section
variable {P : Program} {w : World} {K : PySem.W.Frag} {mg : Str → Option Value} {base : Heap}
theorem ok_m_Society_nowS {f : Addr} {fd : FuncData} {C_Society : Addr} (cf_Society : CF K C_Society ks_Society) {C_Member : Addr} (cf_Member : CF K C_Member ks_Member) {C_Stand : Addr} (cf_Stand : CF K C_Stand ks_Stand) (F : Fun K "now" "Society.now" st_m_Society_nowS f fd)  :
    FnOk P w K mg base CX0 1 f fd ["self"] (spOfX K mg (S_m_Society_nowS C_Member C_Stand C_Society)) := by
  refine fn_okS (k := 1) (dn := "%") F sc_m_Society_nowS rfl (by decide +kernel) (by decide) ?len (fun cdv A outer s H E hr => s_one (s_retX 1 (x_pu (d_pl (k := 1) (p_ix (k := 1) (p_fld (k := 1) 0 cf_Society (p_var 0)) (d_neg d_int)))))) ?spec ?nx
  case len =>
    rintro ds m P xp ⟨p, m0, y, rfl, _⟩
    rfl
  case nx => exact fun _ _ _ _ h => h
  case spec =>
    rintro ds m P ⟨p, m0, y, rfl, rfl, h⟩
    walk_at "ds"
    exact ⟨_, SLe.rfl' _, h⟩
end
theorem sc_m_Society_twin : FnScope ["self", "other", "%"] ["self"] (defScope st_m_Society_twin) := ⟨rfl, rfl, rfl, by decide +kernel, rfl, by decide +kernel, by decide +kernel⟩
def S_m_Society_twin (CM CS CY : Addr) : SpecX := fun ds m P _ => ∃ (p : Addr) (m0 : Sto) (y : Soc), ds = [objD p] ∧ m = stput m0 p (socT CM CS CY y) ∧ okTab y.cur.byAge = true ∧ ∀ q, m q = none → P (.leaf (objD q)) (stput m q (socT CM CS CY y))
section
variable {P : Program} {w : World} {K : PySem.W.Frag} {mg : Str → Option Value} {base : Heap}
theorem ok_m_Society_twin {f : Addr} {fd : FuncData} {C_Society : Addr} (cf_Society : CF K C_Society ks_Society) {C_Stand : Addr} (cf_Stand : CF K C_Stand ks_Stand) {C_Member : Addr} (cf_Member : CF K C_Member ks_Member) (F : Fun K "twin" "Society.twin" st_m_Society_twin f fd) (M_Society_nowS : MthS CX0 P w K mg base C_Society "now" ["self"] 1 (S_m_Society_nowS C_Member C_Stand C_Society)) (MK_Society : MkS (L2.CX P w) P w K mg base "Society" C_Society ["self", "table", "blanks", "tied"] 4 (S_m_Society_init C_Member C_Stand C_Society)) (m_list : mg "list" = none) :
    FnOk P w K mg base CX0 6 f fd ["self"] (spOfX K mg (S_m_Society_twin C_Member C_Stand C_Society)) := by
  refine fn_okS (k := 2) (dn := "%") F sc_m_Society_twin rfl (by decide +kernel) (by decide) ?len (fun cdv A outer s H E hr => s_cons (s_asgX 1 sc_m_Society_twin.nd (x_make (k := 2) (.out takes0) MK_Society hr (xa_cons (x_fld 0 cf_Stand (x_meth0 (k := 2) (ks := ks_Society) .calm M_Society_nowS hr (x_pu (d_var 0)))) (xa_cons (x_pu d_int) (xa_cons (x_fld 1 cf_Stand (x_meth0 (k := 2) (ks := ks_Society) .calm M_Society_nowS hr (x_pu (d_var 0)))) xa_nil)))))
    (s_cons (s_setF (k := 2) 0 cf_Society (p_var 1) (x_pu (d_listP (k := 2) m_list (p_fld (k := 2) 0 cf_Society (p_var 0)))))
    (s_cons (s_setF (k := 2) 1 cf_Society (p_var 1) (x_pu (d_listP (k := 2) m_list (p_fld (k := 2) 1 cf_Society (p_var 0)))))
    (s_cons (s_setF (k := 2) 2 cf_Society (p_var 1) (x_pu (d_listP (k := 2) m_list (p_fld (k := 2) 2 cf_Society (p_var 0)))))
    (s_one (s_retX 2 (x_pu (d_var 1)))))))) ?spec ?nx
  case len =>
    rintro ds m P xp ⟨p, m0, y, rfl, _⟩
    rfl
  case nx => exact fun _ _ _ _ h => h
  case spec =>
    rintro ds m P ⟨p, m0, y, rfl, rfl, ok, h⟩
    walk_at "ds"
    refine ⟨p, m0, y, rfl, rfl, ?_⟩
    walk_at "ds"
    refine ⟨p, m0, y, rfl, rfl, ?_⟩
    walk_at "ds"
    intro q hq
    have hqp : q ≠ p := fun z => by rw [z, stput_same] at hq; cases hq
    refine ⟨q, _, y.cur.byAge, 0, y.cur.only, rfl, rfl, fun _ _ => ?_, fun z => ?_, fun _ z => absurd ⟨by decide, by decide⟩ z⟩
    · simp only [stput_ne (Ne.symm hqp)]
      walk_at "ds"
      exact ⟨_, rfl, _, rfl, _, rfl, _, SLe.rfl' _, h q hq⟩
    · rw [ok] at z
      cases z
end
theorem sc_m_House_view : FnScope ["self", "name", "%"] ["self", "name"] (defScope st_m_House_view) := ⟨rfl, rfl, rfl, by decide +kernel, rfl, by decide +kernel, by decide +kernel⟩
def S_m_House_view (CM CS CY CH : Addr) : SpecX := fun ds m P x => ∃ (p : Addr) (m0 : Sto) (ks : List (Str × Addr)) (n : Str) (a : Addr) (y : Soc), ds = [objD p, .str n] ∧ m = stput m0 p (houT CH ks) ∧ valG ks n = some a ∧ a ≠ p ∧ m0 a = some (socT CM CS CY y) ∧ okTab y.cur.byAge = true ∧
  ∀ q, m q = none → P (.leaf (objD q)) (stput m q (socT CM CS CY y))
section
variable {P : Program} {w : World} {K : PySem.W.Frag} {mg : Str → Option Value} {base : Heap}
theorem ok_m_House_view {f : Addr} {fd : FuncData} {C_House : Addr} (cf_House : CF K C_House ks_House) {C_Society : Addr} (cf_Society : CF K C_Society ks_Society) {C_Member : Addr} (cf_Member : CF K C_Member ks_Member) {C_Stand : Addr} (cf_Stand : CF K C_Stand ks_Stand) (F : Fun K "view" "House.view" st_m_House_view f fd) (M_Society_twin : MthS CX0 P w K mg base C_Society "twin" ["self"] 6 (S_m_Society_twin C_Member C_Stand C_Society)) (M_House_one : MthP (L2.CX P w) P w K mg base C_House "one" ["self", "name"] 3 (S_m_House_one C_House)) :
    FnOk P w K mg base (L2.CX P w) 7 f fd ["self", "name"] (spOfX K mg (S_m_House_view C_Member C_Stand C_Society C_House)) := by
  refine fn_okSX (k := 2) (dn := "%") F sc_m_House_view rfl (by decide +kernel) (by decide) ?len (fun cdv A outer s H E hr => s_one (s_retX 2 (x_meth0 (k := 2) (ks := ks_Society) .calm M_Society_twin hr (x_pu (d_bor2 (d_meth (ks := ks_House) (.out (takes_of rfl rfl rfl rfl)) M_House_one hr (d_res (k := 2) (d_var 0)) (a_cons (d_var 1) a_nil))))))) ?spec
  case len =>
    rintro ds m P xp ⟨p, m0, ks, n, a, y, rfl, _⟩
    rfl
  case spec =>
    rintro ds m P xp ⟨p, m0, ks, n, a, y, rfl, rfl, hv, hap, ha, ok, fin⟩
    walk_at "ds"
    refine ⟨ks, n, rfl, fun a' ha' => ?_, fun z => by rw [hv] at z; cases z⟩
    rw [hv] at ha'
    cases ha'
    have em : stput m0 p (houT C_House ks) a = some (socT C_Member C_Stand C_Society y) := by rw [stput_ne hap]; exact ha
    exact ⟨rfl, a, rfl, _, em, a, _, y, rfl, (stput_get em).symm, ok, fun q hq => ⟨_, SLe.rfl' _, fin q hq⟩⟩
end
theorem sc_p_is_number : FnScope ["word", "sign"] ["word"] (defScope st_p_is_number) := ⟨rfl, rfl, rfl, by decide +kernel, rfl, by decide +kernel, by decide +kernel⟩
def numB (z : Str) : Bool := decide (1 ≤ z.length ∧ z.length ≤ 10) && (z.cps.toList.all fun c => decide (c ∈ ("0123456789" : Str).cps.toList)) && (decide (z = "0") || decide (z.cps.toList[0]? ≠ some 48))
theorem numB_len {z : Str} (h : numB z = true) : z.length ≤ 10 := by
  unfold numB at h
  rw [Bool.and_eq_true, Bool.and_eq_true, decide_eq_true_eq] at h
  exact h.1.1.2
theorem numB_int {z : Str} (h : numB z = true) : PySem.intText? z = some ((NumText.digitsVal z.cps.toList : Nat) : Int) := by
  have hl := numB_len h
  unfold numB at h
  rw [Bool.and_eq_true, Bool.and_eq_true, decide_eq_true_eq, List.all_eq_true] at h
  refine intText_digits (fun c hc => ?_) (fun e => ?_) (by omega)
  · have m : c ∈ (Str.ofString "0123456789").cps.toList := of_decide_eq_true (h.1.2 c hc)
    have all : ∀ c ∈ (Str.ofString "0123456789").cps.toList, 48 ≤ c ∧ c ≤ 57 := by decide +kernel
    exact all c m
  · have e2 : z.length = 0 := by
      show z.cps.size = 0
      rw [← Array.length_toList, e]
      rfl
    omega
def S_p_is_number : Spec := fun ds P _ => ∃ z : Str, ds = [.str z] ∧ z.length ≤ lim ∧ P (boo (numB z))
section
variable {P : Program} {w : World} {K : PySem.W.Frag} {mg : Str → Option Value} {base : Heap}
theorem ok_p_is_number {f : Addr} {fd : FuncData} (F : Fun K "is_number" "is_number" st_p_is_number f fd) (m_len : mg "len" = none) (m_MOST_FIGURES : ConI K mg "MOST_FIGURES" 10) (m_FIGURES : ConS mg "FIGURES" "0123456789") :
    FnOk P w K mg base CX0 1 f fd ["word"] (spOf K mg S_p_is_number) := by
  refine fn_ok F sc_p_is_number ?len (fun cdv A outer s H E hr => s_cons (s_if (t_not (t_chain (rd := rdLe) (rd' := rdLe) op_le op_le (ok_I0 fun _ _ => rfl) (ok_I0 fun _ _ => rfl) d_int (d_len m_len (a_cons (d_var 0) a_nil)) (d_con m_MOST_FIGURES))) (s_one (s_ret d_bl))
      s_nil)
    (s_cons (s_for (ts := [1]) PassesOwn.never rfl (i_strD (d_var 0)) (g_name 1 sc_p_is_number.nd)
      (s_one (s_if (t_notInS (d_var 1) (d_conS m_FIGURES)) (s_one (s_ret d_bl))
      s_nil)))
    (s_one (s_ret (d_or (d_eq hr.units (d_var 0) d_str) (d_one (d_ne hr.units (d_ats (d_var 0) d_int) d_str))))))) ?spec ?nx
  case len =>
    rintro ds P xp ⟨z, rfl, _⟩
    rfl
  case nx => exact fun _ _ _ h => h
  case spec =>
    rintro ds P ⟨z, rfl, hz, q⟩
    walk_at "dd"
    have no : ¬ (1 ≤ z.length ∧ z.length ≤ 10) → numB z = false := fun h => by unfold numB; rw [decide_eq_false h]; rfl
    refine ⟨hz, fun h1 => ⟨fun h2 => ?_, fun h2 => ?_⟩, fun h1 => ?_⟩
    · rw [no (by omega)] at q
      exact q
    · have yes : numB z = ((z.cps.toList.all fun c => decide (c ∈ ("0123456789" : Str).cps.toList)) && (decide (z = "0") || decide (z.cps.toList[0]? ≠ some 48))) := by unfold numB; rw [decide_eq_true (show 1 ≤ z.length ∧ z.length ≤ 10 by omega)]; rfl
      rw [yes] at q
      refine for_signs (fun h y => ?_) fun h => ?_
      · rw [h] at q
        walk_at "dd"
        have hne : z.cps.toList ≠ [] := fun e => by
          have e2 : z.length = 0 := by
            show z.cps.size = 0
            rw [← Array.length_toList, e]
            rfl
          omega
        obtain ⟨c, r, hcr⟩ := List.exists_cons_of_ne_nil hne
        rw [hcr] at q ⊢
        refine ⟨fun e => ?_, fun e => ⟨hz, c, ?_, ?_⟩⟩
        · rw [decide_eq_true e] at q
          exact q
        · unfold L2.atI
          rw [ixN_of (by omega) (by simp)] <;> rfl
        · rw [decide_eq_false e] at q
          have e2 : decide ((⟨#[c]⟩ : Str) ≠ Str.ofString "0") = decide ((c :: r)[0]? ≠ some 48) := by
            refine decide_eq_decide.mpr ⟨fun h k => h ?_, fun h k => h ?_⟩
            · have k : c = 48 := by simpa using k
              rw [k] <;> rfl
            · have k2 : (⟨#[c]⟩ : Str) = ⟨#[48]⟩ := k
              have k3 : c = 48 := by simpa using k2
              rw [k3] <;> rfl
          rw [e2]
          exact q
      · rw [h] at q
        exact q
    · rw [no (by omega)] at q
      exact q
end
theorem sc_p_parts_of : FnScope ["words", "shape", "parts", "kind", "word"] ["words"] (defScope st_p_parts_of) := ⟨rfl, rfl, rfl, by decide +kernel, rfl, by decide +kernel, by decide +kernel⟩
/-- the parts of a line by its shape -/
def lpD (k : Nat) (w : Str) : Option PyData := if k = 99 then (if numB w then (PySem.intText? w).map .int else none) else some (.str w)
def lpsD : List Nat → List Str → Option (List PyData)
  | k :: ks, w :: ws => (lpD k w).bind fun d => (lpsD ks ws).map (d :: ·)
  | _, _ => some []
def lineW : List Str → Option (List PyData)
  | [] => none
  | w :: ws => match tab_SHAPES_lines.lookup w with
    | none => none
    | some sh => if ("" : Str) ∈ w :: ws then none else if ws.length = sh.cps.toList.length then lpsD sh.cps.toList ws else none
theorem lpsD_step : ∀ (i : Nat) (ks : List Nat) (ws : List Str), lpsD ks ws = (lpsD (ks.take i) (ws.take i)).bind fun a => (lpsD (ks.drop i) (ws.drop i)).map (a ++ ·)
  | 0, ks, ws => by
    show _ = (some ([] : List PyData)).bind _
    simp
  | i + 1, [], ws => by
    simp [lpsD]
  | i + 1, k :: ks, [] => by
    simp [lpsD]
  | i + 1, k :: ks, w :: ws => by
    show (lpD k w).bind (fun d => (lpsD ks ws).map (d :: ·)) = ((lpD k w).bind fun d => (lpsD (ks.take i) (ws.take i)).map (d :: ·)).bind fun a => (lpsD (ks.drop i) (ws.drop i)).map (a ++ ·)
    rw [lpsD_step i ks ws]
    cases lpD k w with
    | none => rfl
    | some d =>
      cases lpsD (ks.take i) (ws.take i) with
      | none => rfl
      | some a =>
        show Option.map _ (Option.map _ _) = Option.map _ _
        rw [Option.map_map]
        rfl
theorem lpsD_ok {i : Nat} {ks : List Nat} {ws : List Str} {k : Nat} {w : Str} {a : List PyData} {d : PyData} (hk : ks[i]? = some k) (hw : ws[i]? = some w) (h : lpsD (ks.take i) (ws.take i) = some a) (hd : lpD k w = some d) : lpsD (ks.take (i + 1)) (ws.take (i + 1)) = some (a ++ [d]) := by
  obtain ⟨i1, e1⟩ := List.getElem?_eq_some_iff.mp hk
  obtain ⟨i2, e2⟩ := List.getElem?_eq_some_iff.mp hw
  rw [lpsD_step i, List.take_take, List.take_take, Nat.min_eq_left (Nat.le_succ i), h, List.drop_take, List.drop_take, List.drop_eq_getElem_cons i1, List.drop_eq_getElem_cons i2, e1, e2, show i + 1 - i = 1 by omega, List.take_succ_cons, List.take_succ_cons]
  show Option.map _ ((lpD k w).bind _) = _
  rw [hd]
  rfl
theorem lpsD_no {i : Nat} {ks : List Nat} {ws : List Str} {k : Nat} {w : Str} (hk : ks[i]? = some k) (hw : ws[i]? = some w) (hd : lpD k w = none) : lpsD ks ws = none := by
  obtain ⟨i1, e1⟩ := List.getElem?_eq_some_iff.mp hk
  obtain ⟨i2, e2⟩ := List.getElem?_eq_some_iff.mp hw
  rw [lpsD_step i, List.drop_eq_getElem_cons i1, List.drop_eq_getElem_cons i2, e1, e2]
  have e : lpsD (k :: ks.drop (i + 1)) (w :: ws.drop (i + 1)) = none := by
    show (lpD k w).bind _ = _
    rw [hd]
    rfl
  rw [e]
  cases lpsD (ks.take i) (ws.take i) <;> rfl
theorem lpsD_len : ∀ {ks : List Nat} {ws : List Str} {a : List PyData}, lpsD ks ws = some a → a.length ≤ ks.length
  | [], _, _, h => by
    cases h
    exact Nat.zero_le _
  | _ :: _, [], _, h => by
    cases h
    exact Nat.zero_le _
  | k :: ks, w :: ws, a, h => by
    have h : (lpD k w).bind (fun d => (lpsD ks ws).map (d :: ·)) = some a := h
    cases e : lpD k w with
    | none =>
      rw [e] at h
      cases h
    | some d =>
      rw [e] at h
      cases e2 : lpsD ks ws with
      | none =>
        have h : Option.map (d :: ·) (lpsD ks ws) = some a := h
        rw [e2] at h
        cases h
      | some b =>
        have h : Option.map (d :: ·) (lpsD ks ws) = some a := h
        rw [e2] at h
        cases h
        have := lpsD_len e2
        show b.length + 1 ≤ ks.length + 1
        omega
theorem tab_shL {w v : Str} (h : tab_SHAPES_lines.lookup w = some v) : v.cps.all (· < 128) = true ∧ v.length ≤ 4 := by
  have all : ∀ kv ∈ tab_SHAPES_lines, (kv.2.cps.all (· < 128) = true ∧ kv.2.length ≤ 4) := by decide +kernel
  have key : ∀ (tab : List (Str × Str)), tab.lookup w = some v → ∃ kv ∈ tab, kv.2 = v := fun tab => by
    induction tab with
    | nil => intro h; cases h
    | cons kv tab ih =>
      intro h
      rw [List.lookup_cons] at h
      split at h
      · cases h
        exact ⟨kv, List.mem_cons_self .., rfl⟩
      · obtain ⟨x, hx, e⟩ := ih h
        exact ⟨x, List.mem_cons_of_mem _ hx, e⟩
  obtain ⟨kv, hm, rfl⟩ := key _ h
  exact all kv hm
theorem cutL (x : Str) (xs : List Str) : cutD (strsD (x :: xs)) (some 1) none = strsD xs := by
  unfold cutD
  rw [show ((1 : Int)) = ((1 : Nat) : Int) from rfl, HT.sIx_nat, HT.sIx_none, strs_len, List.length_cons, Nat.min_eq_left (by omega)]
  show ((PyData.str x :: strsD xs).drop 1).take _ = _
  rw [List.drop_succ_cons, List.drop_zero]
  exact List.take_of_length_le (by rw [strs_len]; omega)
def S_p_parts_of : Spec := fun ds P _ => ∃ (ws : List Str), ds = [.list (strsD ws)] ∧ ws ≠ [] ∧ ws.length < 1000 ∧ (∀ w ∈ ws, w.length ≤ 10000) ∧ (lineW ws = none → P non) ∧ (∀ ds, lineW ws = some ds → P (.node (ds.map .leaf)))
section
variable {P : Program} {w : World} {K : PySem.W.Frag} {mg : Str → Option Value} {base : Heap}
theorem ok_p_parts_of {f : Addr} {fd : FuncData} (F : Fun K "parts_of" "parts_of" st_p_parts_of f fd) (C_p_is_number : Cal P w K mg base "is_number" ["word"] 1 S_p_is_number) (m_zip : mg "zip" = none) (m_len : mg "len" = none) (m_int : mg "int" = none) (m_SHAPES_lines : ConD K w mg "SHAPES_lines" tab_SHAPES_lines) :
    FnOk P w K mg base CX0 2 f fd ["words"] (spOf K mg S_p_parts_of) := by
  refine fn_ok F sc_p_parts_of ?len (fun cdv A outer s H E hr => s_cons (s_if (PW.pt (w_or (t_notInTab m_SHAPES_lines (d_at (d_var 0) d_int)) (w_or1 (t_inLF d_str (d_var 0))))) (s_one (s_ret d_non))
      s_nil)
    (s_cons (s_asg 1 sc_p_parts_of.nd (d_atTab m_SHAPES_lines (d_at (d_var 0) d_int)))
    (s_cons (s_if (t_ne hr.units (d_len m_len (a_cons (d_var 0) a_nil)) (d_add (d_len m_len (a_cons (d_var 1) a_nil)) d_int)) (s_one (s_ret d_non))
      s_nil)
    (s_cons (s_asg 2 sc_p_parts_of.nd (d_lst a_nil))
    (s_cons (s_for (ts := [3, 4]) PassesOwn.never rfl (i_zipS m_zip (a_cons (d_var 1) (a_cons (d_sl (d_var 0) (o_some d_int) o_none) a_nil))) (g_tup (n := 2) rfl (gs_cons (g_name 3 sc_p_parts_of.nd) (gs_cons (g_name 4 sc_p_parts_of.nd) gs_nil)))
      (s_cons (s_if (PW.pt (w_and (t_eq hr.units (d_var 3) d_str) (w_and1 (t_not (t_val (d_callC C_p_is_number hr (a_cons (d_var 4) a_nil))))))) (s_one (s_ret d_non))
      s_nil)
    (s_one (s_if (t_eq hr.units (d_var 3) d_str) (s_one (s_app 2 (d_intS m_int (a_cons (d_var 4) a_nil))))
      (s_one (s_app 2 (d_var 4)))))))
    (s_one (s_retV 2))))))) ?spec ?nx
  case len =>
    rintro ds P xp ⟨z, rfl, _⟩
    rfl
  case nx => exact fun _ _ _ h => h
  case spec =>
    rintro ds P ⟨ws, rfl, hne, hl, hw, q2, q1⟩
    obtain ⟨w, rest, rfl⟩ := List.exists_cons_of_ne_nil hne
    have at0 : atI (strsD (w :: rest)) 0 = some (.str w) := by
      unfold L2.atI
      rw [ixN_of (by omega) (by show (0 : Int) < ((strsD (w :: rest)).length : Nat); rw [strs_len, List.length_cons]; omega)] <;> rfl
    walk_at "dd"
    refine ⟨_, at0, ?_⟩
    walk_at "dd"
    cases ht : tab_SHAPES_lines.lookup w with
    | none =>
      refine ⟨fun _ => q2 ?_, fun h => (by cases h)⟩
      show (match tab_SHAPES_lines.lookup w with
        | none => none
        | some sh => _) = none
      rw [ht]
    | some v =>
      have ed : lineW (w :: rest) = if ("" : Str) ∈ w :: rest then none else if rest.length = v.cps.toList.length then lpsD v.cps.toList rest else none := by
        show (match tab_SHAPES_lines.lookup w with
          | none => none
          | some sh => _) = _
        rw [ht]
      obtain ⟨va, vl⟩ := tab_shL ht
      have vl2 : v.cps.toList.length = v.length := Array.length_toList
      refine ⟨fun h => (by cases h), fun _ => ?_⟩
      refine ⟨fun he => q2 (by rw [ed, if_pos (he)]), fun he => ⟨_, at0, ?_⟩⟩
      have he' := he
      rw [if_neg he'] at ed
      walk_at "dd"
      refine ⟨v, ht, Nat.le_trans vl (by decide), fun h => q2 ?_, fun h => ⟨by decide, ?_⟩⟩
      · rw [ed, if_neg]
        rw [strs_len, List.length_cons] at h
        omega
      · rw [strs_len, List.length_cons] at h
        have hr : rest.length = v.cps.toList.length := by omega
        rw [if_pos hr] at ed
        rw [ed] at q1 q2
        refine for_of (zipSD v.cps.toList (strsD rest)) (fun i ρ' => ∃ (acc : List PyData) (y4 y5 : Option T), ρ' = [some (.leaf (.list (strsD (w :: rest)))), some (.leaf (.str v)), some (.node (acc.map .leaf)), y4, y5] ∧ lpsD (v.cps.toList.take i) (rest.take i) = some acc) (fun P h => ?_) ⟨[], none, none, rfl, rfl⟩ ?_ ?_
        · walk_at "dd"
          refine ⟨v, strsD rest, ?_, va, h⟩
          rw [show cutD (strsD (w :: rest)) (some 1) none = strsD rest from cutL _ _]
        · rintro i d ρ' hd ⟨acc, y4, y5, rfl, hp⟩
          have hi : i < (zipSD v.cps.toList (strsD rest)).length := (List.getElem?_eq_some_iff.mp hd).1
          rw [zipSD_len, strs_len] at hi
          have i1 : i < v.cps.toList.length := by omega
          have i2 : i < rest.length := by omega
          have g1 := List.getElem?_eq_getElem i1
          have g2 := List.getElem?_eq_getElem i2
          generalize v.cps.toList[i] = k at g1
          generalize hw' : rest[i] = w' at g2
          have hd2 := zipSD_get v.cps.toList (strsD rest) i k (.str w') g1 (by unfold strsD; rw [List.getElem?_map, g2]; rfl)
          rw [hd] at hd2
          cases hd2
          have wl : w'.length ≤ lim := Nat.le_trans (hw w' (List.mem_cons_of_mem _ (List.mem_of_getElem? g2))) (by decide)
          have al := lpsD_len hp
          rw [List.length_take] at al
          have none_of : lpD k w' = none → P non := fun h => q2 (by rw [lpsD_no g1 g2 h])
          walk_at "dd"
          have lm : (List.map T.leaf acc).length + 1 < lim := by
            rw [List.length_map]
            exact Nat.lt_of_le_of_lt (show acc.length + 1 ≤ 10 by omega) (by decide)
          have c99 : (⟨#[k]⟩ : Str) = Str.ofString "c" → k = 99 := fun e => by
            have e : (⟨#[k]⟩ : Str) = ⟨#[99]⟩ := e
            simpa using e
          refine ⟨fun e => ⟨w', rfl, wl, ?_⟩, fun e => ⟨fun e' => absurd e' e, fun _ => ⟨by omega, acc ++ [.str w'], some (.leaf (.str ⟨#[k]⟩)), some (.leaf (.str w')), ?_, lpsD_ok g1 g2 hp ?_⟩⟩⟩
          · walk_at "dd"
            refine ⟨fun hn => none_of ?_, fun hn => ⟨fun _ => ⟨by omega, w', _, rfl, numB_int hn, ?_, acc ++ [.int ((NumText.digitsVal w'.cps.toList : Nat) : Int)], some (.leaf (.str ⟨#[k]⟩)), some (.leaf (.str w')), ?_, lpsD_ok g1 g2 hp ?_⟩, fun z => absurd e z⟩⟩
            · unfold lpD
              rw [if_pos (c99 e), hn] <;> rfl
            · have := numB_len hn
              omega
            · rw [List.map_append]
              rfl
            · unfold lpD
              rw [if_pos (c99 e), if_pos hn, numB_int hn] <;> rfl
          · rw [List.map_append]
            rfl
          · have k99 : k ≠ 99 := fun z => e (by rw [z] <;> rfl)
            unfold lpD
            rw [if_neg k99]
        · rintro ρ' ⟨acc, y4, y5, rfl, hp⟩
          rw [zipSD_len, strs_len, hr, Nat.min_self, List.take_length, ← hr, List.take_length] at hp
          rw [hp] at q1
          walk_at "dd"
          exact q1 _ rfl
end
theorem sc_p_changed : FnScope ["house", "word", "parts"] ["house", "word", "parts"] (defScope st_p_changed) := ⟨rfl, rfl, rfl, by decide +kernel, rfl, by decide +kernel, by decide +kernel⟩
def S_p_changed : Spec := fun ds P _ => ∃ (a : PyData) (w : Str) (b : PyData), ds = [a, .str w, b] ∧ w ∉ (["copy", "close", "move", "back", "again"] : List Str) ∧ P non
section
variable {P : Program} {w : World} {K : PySem.W.Frag} {mg : Str → Option Value} {base : Heap}
theorem ok_p_changed {f : Addr} {fd : FuncData} (F : Fun K "changed" "changed" st_p_changed f fd)  :
    FnOk P w K mg base CX0 1 f fd ["house", "word", "parts"] (spOf K mg S_p_changed) := by
  refine fn_ok F sc_p_changed ?len (fun cdv A outer s H E hr => s_cons (s_if (t_eq hr.units (d_var 1) d_str) (s_cons s_never
    (s_one s_never))
      s_nil)
    (s_cons (s_if (t_eq hr.units (d_var 1) d_str) (s_cons s_never
    (s_one s_never))
      s_nil)
    (s_cons (s_if (t_eq hr.units (d_var 1) d_str) (s_cons s_never
    (s_one s_never))
      s_nil)
    (s_cons (s_if (t_eq hr.units (d_var 1) d_str) (s_cons s_never
    (s_one s_never))
      s_nil)
    (s_cons (s_if (t_eq hr.units (d_var 1) d_str) (s_cons s_never
    (s_one s_never))
      s_nil)
    (s_one (s_ret d_non))))))) ?spec ?nx
  case len =>
    rintro ds P x ⟨a, w, b, rfl, _⟩
    rfl
  case nx => exact fun _ _ _ h => h
  case spec =>
    rintro ds P ⟨a, w, b, rfl, nw, h⟩
    simp only [List.mem_cons, List.not_mem_nil, or_false, not_or] at nw
    obtain ⟨n1, n2, n3, n4, n5⟩ := nw
    walk_at "dd"
    exact ⟨fun z => absurd z n1, fun _ => ⟨fun z => absurd z n2, fun _ => ⟨fun z => absurd z n3, fun _ => ⟨fun z => absurd z n4, fun _ => ⟨fun z => absurd z n5, fun _ => h⟩⟩⟩⟩⟩
end
theorem sc_p_listed : FnScope ["words"] ["words"] (defScope st_p_listed) := ⟨rfl, rfl, rfl, by decide +kernel, rfl, by decide +kernel, by decide +kernel⟩
def S_p_listed : Spec := fun ds P _ => ds = [.list []] ∧ P (.leaf (.str "none"))
section
variable {P : Program} {w : World} {K : PySem.W.Frag} {mg : Str → Option Value} {base : Heap}
theorem ok_p_listed {f : Addr} {fd : FuncData} (F : Fun K "listed" "listed" st_p_listed f fd) (m_len : mg "len" = none) :
    FnOk P w K mg base CX0 1 f fd ["words"] (spOf K mg S_p_listed) := by
  refine fn_ok F sc_p_listed ?len (fun cdv A outer s H E hr => s_cons (s_if (t_eq hr.units (d_len m_len (a_cons (d_var 0) a_nil)) d_int) (s_one (s_ret d_str))
      s_nil)
    (s_one s_never)) ?spec ?nx
  case len =>
    rintro ds P x ⟨rfl, _⟩
    rfl
  case nx => exact fun _ _ _ h => h
  case spec =>
    rintro ds P ⟨rfl, h⟩
    walk_at "dd"
    exact ⟨fun _ => h, fun z => z rfl⟩
end
theorem sc_p_rows_text : FnScope ["rows", "row", "part"] ["rows"] (defScope st_p_rows_text) := ⟨rfl, rfl, rfl, by decide +kernel, rfl, by decide +kernel, by decide +kernel⟩
def S_p_rows_text : Spec := fun ds P _ => ds = [.list []] ∧ P (.leaf (.str "none"))
section
variable {P : Program} {w : World} {K : PySem.W.Frag} {mg : Str → Option Value} {base : Heap}
theorem ok_p_rows_text {f : Addr} {fd : FuncData} (F : Fun K "rows_text" "rows_text" st_p_rows_text f fd) (m_len : mg "len" = none) :
    FnOk P w K mg base CX0 1 f fd ["rows"] (spOf K mg S_p_rows_text) := by
  refine fn_ok F sc_p_rows_text ?len (fun cdv A outer s H E hr => s_cons (s_if (t_eq hr.units (d_len m_len (a_cons (d_var 0) a_nil)) d_int) (s_one (s_ret d_str))
      s_nil)
    (s_one s_never)) ?spec ?nx
  case len =>
    rintro ds P x ⟨rfl, _⟩
    rfl
  case nx => exact fun _ _ _ h => h
  case spec =>
    rintro ds P ⟨rfl, h⟩
    walk_at "dd"
    exact ⟨fun _ => h, fun z => z rfl⟩
end
theorem sc_p_of_society : FnScope ["society", "word", "parts", "share", "found"] ["society", "word", "parts"] (defScope st_p_of_society) := ⟨rfl, rfl, rfl, by decide +kernel, rfl, by decide +kernel, by decide +kernel⟩
def askEmpty (w : Str) (y : Soc) : Prop := (w = "living" ∧ y.cur.people = [] ∧ y.cur.Yrs) ∨ (w = "bets" ∧ y.cur.hand = [])
def S_p_of_society (CM CS CY : Addr) : Spec := fun ds P _ => ∃ (y : Soc) (w : Str) (b : PyData), ds = [socD CM CS CY y, .str w, b] ∧ askEmpty w y ∧ P (.leaf (.str "none"))
section
variable {P : Program} {w : World} {K : PySem.W.Frag} {mg : Str → Option Value} {base : Heap}
theorem ok_p_of_society {f : Addr} {fd : FuncData} {C_Society : Addr} (cf_Society : CF K C_Society ks_Society) {C_Member : Addr} (cf_Member : CF K C_Member ks_Member) {C_Stand : Addr} (cf_Stand : CF K C_Stand ks_Stand) (F : Fun K "of_society" "of_society" st_p_of_society f fd) (C_p_listed : Cal P w K mg base "listed" ["words"] 1 S_p_listed) (C_p_rows_text : Cal P w K mg base "rows_text" ["rows"] 1 S_p_rows_text) (M_Society_living : MthP CX0 P w K mg base C_Society "living" ["self"] 2 (S_m_Society_living C_Member C_Stand C_Society)) (M_Society_bets : MthP CX0 P w K mg base C_Society "bets" ["self"] 2 (S_m_Society_bets C_Member C_Stand C_Society)) :
    FnOk P w K mg base CX0 3 f fd ["society", "word", "parts"] (spOf K mg (S_p_of_society C_Member C_Stand C_Society)) := by
  refine fn_ok F sc_p_of_society ?len (fun cdv A outer s H E hr => s_cons (s_if (t_eq hr.units (d_var 1) d_str) (s_one (s_ret (d_callC C_p_listed hr (a_cons (d_meth0 (ks := ks_Society) .calm M_Society_living hr (d_var 0)) a_nil))))
      s_nil)
    (s_cons (s_if (t_eq hr.units (d_var 1) d_str) (s_one s_never)
      s_nil)
    (s_cons (s_if (t_eq hr.units (d_var 1) d_str) (s_one s_never)
      s_nil)
    (s_cons (s_if (t_eq hr.units (d_var 1) d_str) (s_one s_never)
      s_nil)
    (s_cons (s_if (t_eq hr.units (d_var 1) d_str) (s_one s_never)
      s_nil)
    (s_cons (s_if (t_eq hr.units (d_var 1) d_str) (s_one s_never)
      s_nil)
    (s_cons (s_if (t_eq hr.units (d_var 1) d_str) (s_one s_never)
      s_nil)
    (s_cons (s_if (t_eq hr.units (d_var 1) d_str) (s_one (s_ret (d_callC C_p_rows_text hr (a_cons (d_meth0 (ks := ks_Society) .calm M_Society_bets hr (d_var 0)) a_nil))))
      s_nil)
    (s_cons s_never
    (s_cons s_never
    (s_cons s_never
    (s_one s_never)))))))))))) ?spec ?nx
  case len =>
    rintro ds P x ⟨y, w, b, rfl, _⟩
    rfl
  case nx => exact fun _ _ _ h => h
  case spec =>
    rintro ds P ⟨y, w, b, rfl, ⟨hw, hp, yr⟩ | ⟨hw, hh⟩, h⟩
    · subst hw
      walk_at "dd"
      refine ⟨⟨y, rfl, by rw [hp]; exact List.nodup_nil, by rw [hp]; decide, yr, ?_⟩, fun z => absurd trivial z⟩
      walk_at "dd"
      refine ⟨?_, h⟩
      rw [hp]
      rfl
    · subst hw
      walk_at "dd"
      have nn : ∀ v : Str, v ∈ (["living", "coins", "free", "age", "total", "who", "told"] : List Str) → ¬ (("bets" : Str) = v) := by decide +kernel
      refine ⟨fun z => absurd z (nn _ (by decide +kernel)), fun _ => ⟨fun z => absurd z (nn _ (by decide +kernel)), fun _ => ⟨fun z => absurd z (nn _ (by decide +kernel)), fun _ => ⟨fun z => absurd z (nn _ (by decide +kernel)), fun _ => ⟨fun z => absurd z (nn _ (by decide +kernel)), fun _ => ⟨fun z => absurd z (nn _ (by decide +kernel)), fun _ => ⟨fun z => absurd z (nn _ (by decide +kernel)), fun _ => ⟨⟨y, rfl, ?_⟩, fun z => absurd trivial z⟩⟩⟩⟩⟩⟩⟩⟩
      walk_at "dd"
      refine ⟨?_, h⟩
      rw [hh]
      rfl
end
theorem sc_p_opened_line : FnScope ["house", "words", "word", "numbers"] ["house", "words"] (defScope st_p_opened_line) := ⟨rfl, rfl, rfl, by decide +kernel, rfl, by decide +kernel, by decide +kernel⟩
/-- a line that opens nothing -/
def openNo (ws : List Str) : Prop := ws.length < 5 ∨ ("" : Str) ∈ ws ∨ (∃ w, ws[2]? = some w ∧ w ∉ (["free", "tied"] : List Str)) ∨ ∃ w, w ∈ ws.drop 3 ∧ numB w = false
def S_p_opened_line : Spec := fun ds P _ => ∃ (a : PyData) (ws : List Str), ds = [a, .list (strsD ws)] ∧ ws.length < 1000 ∧ (∀ w ∈ ws, w.length ≤ 10000) ∧ openNo ws ∧ P non
section
variable {P : Program} {w : World} {K : PySem.W.Frag} {mg : Str → Option Value} {base : Heap}
theorem ok_p_opened_line {f : Addr} {fd : FuncData} (F : Fun K "opened_line" "opened_line" st_p_opened_line f fd) (C_p_is_number : Cal P w K mg base "is_number" ["word"] 1 S_p_is_number) (m_len : mg "len" = none) (m_KINDS : ConT K mg "KINDS" ["free", "tied"]) :
    FnOk P w K mg base CX0 2 f fd ["house", "words"] (spOf K mg S_p_opened_line) := by
  refine fn_ok F sc_p_opened_line ?len (fun cdv A outer s H E hr => s_cons (s_if (PW.pt (w_or (t_lt (d_len m_len (a_cons (d_var 1) a_nil)) d_int) (w_or (t_inLF d_str (d_var 1)) (w_or1 (t_notInTc m_KINDS (d_at (d_var 1) d_int)))))) (s_one (s_ret d_non))
      s_nil)
    (s_cons (s_for (ts := [2]) PassesOwn.never rfl (i_list (d_sl (d_var 1) (o_some d_int) o_none)) (g_name 2 sc_p_opened_line.nd)
      (s_one (s_if (t_not (t_val (d_callC C_p_is_number hr (a_cons (d_var 2) a_nil)))) (s_one (s_ret d_non))
      s_nil)))
    (s_cons s_never
    (s_frz 3 (s_cons s_never
    (s_one s_never)))))) ?spec ?nx
  case len =>
    rintro ds P x ⟨a, ws, rfl, _⟩
    rfl
  case nx => exact fun _ _ _ h => h
  case spec =>
    rintro ds P ⟨a, ws, rfl, hl, hw, no, h⟩
    walk_at "dd"
    rw [strs_len]
    refine ⟨fun _ => h, fun h5 => ⟨fun _ => h, fun he => ?_⟩⟩
    have g2 : ws[2]? = some ws[2] := List.getElem?_eq_getElem (by omega)
    generalize ws[2] = w2 at g2
    refine ⟨.str w2, at_st g2, ?_⟩
    walk_at "dd"
    refine ⟨fun _ => h, fun hk => ?_⟩
    have ex : ∃ w, w ∈ ws.drop 3 ∧ numB w = false := by
      rcases no with z | z | ⟨w, e, z⟩ | z
      · omega
      · exact absurd z he
      · rw [g2] at e
        cases e
        exact absurd hk z
      · exact z
    refine for_of (strsD (ws.drop 3)) (fun i ρ' => (∃ y, ρ' = [some (.leaf a), some (.leaf (.list (strsD ws))), y, none]) ∧ ∀ w, w ∈ (ws.drop 3).take i → numB w = true) (fun P h => ?_) ⟨⟨none, rfl⟩, fun w hw => by rw [List.take_zero] at hw; exact nomatch hw⟩ ?_ ?_
    · walk_at "dd"
      rw [show cutD (strsD ws) (some 3) none = strsD (ws.drop 3) from cut_st 3 ws]
      walk_at "dd"
      exact h
    · rintro i d ρ' hd ⟨⟨y, rfl⟩, hi⟩
      unfold strsD at hd
      rw [List.getElem?_map] at hd
      cases e : (ws.drop 3)[i]? with
      | none => rw [e] at hd; cases hd
      | some w =>
        rw [e] at hd
        cases hd
        have hm : w ∈ ws := List.mem_of_mem_drop (List.mem_of_getElem? e)
        walk_at "dd"
        refine ⟨w, rfl, Nat.le_trans (hw w hm) (by decide), ?_⟩
        walk_at "dd"
        refine ⟨fun _ => h, fun hn => ⟨⟨_, rfl⟩, fun w' hw' => ?_⟩⟩
        rw [List.take_add_one, e] at hw'
        rcases List.mem_append.mp hw' with z | z
        · exact hi w' z
        · rw [List.mem_singleton.mp z]
          exact hn
    · rintro ρ' ⟨⟨y, rfl⟩, hi⟩
      obtain ⟨w, hm, hn⟩ := ex
      rw [strs_len, List.take_length] at hi
      rw [hi w hm] at hn
      cases hn
end
theorem sc_p_number_in : FnScope ["word"] ["word"] (defScope st_p_number_in) := ⟨rfl, rfl, rfl, by decide +kernel, rfl, by decide +kernel, by decide +kernel⟩
def S_p_number_in : Spec := fun ds P xp => ∃ z : Str, ds = [.str z] ∧ z.length ≤ lim ∧ (numB z = true → ∃ n, PySem.intText? z = some n ∧ P (int n)) ∧ (numB z = false → xp "NoDeed" .none)
section
variable {P : Program} {w : World} {K : PySem.W.Frag} {mg : Str → Option Value} {base : Heap}
theorem ok_p_number_in {f : Addr} {fd : FuncData} (F : Fun K "number_in" "number_in" st_p_number_in f fd) (C_p_is_number : Cal P w K mg base "is_number" ["word"] 1 S_p_is_number) (X_NoDeed : ExcF P w K mg base "NoDeed") (m_int : mg "int" = none) :
    FnOk P w K mg base (L2.CX P w) 3 f fd ["word"] (spOf K mg S_p_number_in) := by
  refine fn_okX F sc_p_number_in ?len (fun cdv A outer s H E hr => s_cons (s_if (t_not (t_val (d_callC C_p_is_number hr (a_cons (d_var 0) a_nil)))) (s_one (s_raise X_NoDeed hr rfl (takes_of rfl rfl rfl rfl)))
      s_nil)
    (s_one (s_ret (d_intS m_int (a_cons (d_var 0) a_nil))))) ?spec
  case len =>
    rintro ds P xp ⟨z, rfl, _⟩
    rfl
  case spec =>
    rintro ds P xp ⟨z, rfl, hz, q1, q2⟩
    walk_at "dd"
    refine ⟨z, rfl, hz, ?_⟩
    walk_at "dd"
    refine ⟨fun h => q2 h, fun h => ?_⟩
    obtain ⟨n, hn, p⟩ := q1 h
    refine ⟨z, n, rfl, hn, ?_, p⟩
    have := numB_len h
    omega
end
theorem sc_p_deed_of : FnScope ["text", "words", "shape", "parts", "kind", "word"] ["text"] (defScope st_p_deed_of) := ⟨rfl, rfl, rfl, by decide +kernel, rfl, by decide +kernel, by decide +kernel⟩
def partD (k : Nat) (w : Str) : Option PyData := if k = 99 then (if numB w then (PySem.intText? w).map .int else none) else if nameB w then some (.str w) else none
def partsD : List Nat → List Str → Option (List PyData)
  | k :: ks, w :: ws => (partD k w).bind fun d => (partsD ks ws).map (d :: ·)
  | _, _ => some []
def deedW : List Str → Option PyData
  | [] => none
  | w :: ws => match tab_SHAPES.lookup w with
    | none => none
    | some sh => if ws.length = sh.cps.toList.length then (partsD sh.cps.toList ws).map fun ds => .tuple (.str w :: ds) else none
theorem partsD_step : ∀ (i : Nat) (ks : List Nat) (ws : List Str), partsD ks ws = (partsD (ks.take i) (ws.take i)).bind fun a => (partsD (ks.drop i) (ws.drop i)).map (a ++ ·)
  | 0, ks, ws => by
    show _ = (some ([] : List PyData)).bind _
    simp
  | i + 1, [], ws => by
    simp [partsD]
  | i + 1, k :: ks, [] => by
    simp [partsD]
  | i + 1, k :: ks, w :: ws => by
    show (partD k w).bind (fun d => (partsD ks ws).map (d :: ·)) = ((partD k w).bind fun d => (partsD (ks.take i) (ws.take i)).map (d :: ·)).bind fun a => (partsD (ks.drop i) (ws.drop i)).map (a ++ ·)
    rw [partsD_step i ks ws]
    cases partD k w with
    | none => rfl
    | some d =>
      cases partsD (ks.take i) (ws.take i) with
      | none => rfl
      | some a =>
        show Option.map _ (Option.map _ _) = Option.map _ _
        rw [Option.map_map]
        rfl
theorem partsD_ok {i : Nat} {ks : List Nat} {ws : List Str} {k : Nat} {w : Str} {a : List PyData} {d : PyData} (hk : ks[i]? = some k) (hw : ws[i]? = some w) (h : partsD (ks.take i) (ws.take i) = some a) (hd : partD k w = some d) : partsD (ks.take (i + 1)) (ws.take (i + 1)) = some (a ++ [d]) := by
  obtain ⟨i1, e1⟩ := List.getElem?_eq_some_iff.mp hk
  obtain ⟨i2, e2⟩ := List.getElem?_eq_some_iff.mp hw
  rw [partsD_step i, List.take_take, List.take_take, Nat.min_eq_left (Nat.le_succ i), h, List.drop_take, List.drop_take, List.drop_eq_getElem_cons i1, List.drop_eq_getElem_cons i2, e1, e2, show i + 1 - i = 1 by omega, List.take_succ_cons, List.take_succ_cons]
  show Option.map _ ((partD k w).bind _) = _
  rw [hd]
  rfl
theorem partsD_no {i : Nat} {ks : List Nat} {ws : List Str} {k : Nat} {w : Str} (hk : ks[i]? = some k) (hw : ws[i]? = some w) (hd : partD k w = none) : partsD ks ws = none := by
  obtain ⟨i1, e1⟩ := List.getElem?_eq_some_iff.mp hk
  obtain ⟨i2, e2⟩ := List.getElem?_eq_some_iff.mp hw
  rw [partsD_step i, List.drop_eq_getElem_cons i1, List.drop_eq_getElem_cons i2, e1, e2]
  have e : partsD (k :: ks.drop (i + 1)) (w :: ws.drop (i + 1)) = none := by
    show (partD k w).bind _ = _
    rw [hd]
    rfl
  rw [e]
  cases partsD (ks.take i) (ws.take i) <;> rfl
theorem partsD_len : ∀ {ks : List Nat} {ws : List Str} {a : List PyData}, partsD ks ws = some a → a.length ≤ ks.length
  | [], _, _, h => by
    cases h
    exact Nat.zero_le _
  | _ :: _, [], _, h => by
    cases h
    exact Nat.zero_le _
  | k :: ks, w :: ws, a, h => by
    have h : (partD k w).bind (fun d => (partsD ks ws).map (d :: ·)) = some a := h
    cases e : partD k w with
    | none =>
      rw [e] at h
      cases h
    | some d =>
      rw [e] at h
      cases e2 : partsD ks ws with
      | none =>
        have h : Option.map (d :: ·) (partsD ks ws) = some a := h
        rw [e2] at h
        cases h
      | some b =>
        have h : Option.map (d :: ·) (partsD ks ws) = some a := h
        rw [e2] at h
        cases h
        have := partsD_len e2
        show b.length + 1 ≤ ks.length + 1
        omega
theorem cut1 (x : Str) (xs : List Str) : cutD (strsD (x :: xs)) (some 1) none = strsD xs := by
  unfold cutD
  rw [show ((1 : Int)) = ((1 : Nat) : Int) from rfl, HT.sIx_nat, HT.sIx_none, strs_len, List.length_cons, Nat.min_eq_left (by omega)]
  show ((PyData.str x :: strsD xs).drop 1).take _ = _
  rw [List.drop_succ_cons, List.drop_zero]
  exact List.take_of_length_le (by rw [strs_len]; omega)
def S_p_deed_of : Spec := fun ds P xp => ∃ ws : List Str, ds = [.str (Txt.join " " ws)] ∧ ws ≠ [] ∧ ws.length < 1000 ∧ (∀ w ∈ ws, 32 ∉ TL.tl w ∧ w.length ≤ 10000) ∧ (Txt.join " " ws).length ≤ 10000 ∧ (∀ d, deedW ws = some d → P (.leaf d)) ∧ (deedW ws = none → xp "NoDeed" .none)
theorem tab_sh {w v : Str} (h : tab_SHAPES.lookup w = some v) : v.cps.all (· < 128) = true ∧ v.length ≤ 3 := by
  have all : ∀ kv ∈ tab_SHAPES, (kv.2.cps.all (· < 128) = true ∧ kv.2.length ≤ 3) := by decide +kernel
  have key : ∀ (tab : List (Str × Str)), tab.lookup w = some v → ∃ kv ∈ tab, kv.2 = v := fun tab => by
    induction tab with
    | nil => intro h; cases h
    | cons kv tab ih =>
      intro h
      rw [List.lookup_cons] at h
      split at h
      · cases h
        exact ⟨kv, List.mem_cons_self .., rfl⟩
      · obtain ⟨x, hx, e⟩ := ih h
        exact ⟨x, List.mem_cons_of_mem _ hx, e⟩
  obtain ⟨kv, hm, rfl⟩ := key _ h
  exact all kv hm
section
variable {P : Program} {w : World} {K : PySem.W.Frag} {mg : Str → Option Value} {base : Heap}
theorem ok_p_deed_of {f : Addr} {fd : FuncData} (F : Fun K "deed_of" "deed_of" st_p_deed_of f fd) (C_p_is_name : Cal P w K mg base "is_name" ["word"] 1 S_p_is_name) (C_p_number_in : CalX P w K mg base "number_in" ["word"] 3 S_p_number_in) (X_NoDeed : ExcF P w K mg base "NoDeed") (m_zip : mg "zip" = none) (m_tuple : mg "tuple" = none) (m_len : mg "len" = none) (m_SHAPES_pages : ConD K w mg "SHAPES_pages" tab_SHAPES_pages) :
    FnOk P w K mg base (L2.CX P w) 4 f fd ["text"] (spOf K mg S_p_deed_of) := by
  refine fn_okX F sc_p_deed_of ?len (fun cdv A outer s H E hr => s_cons (s_asg 1 sc_p_deed_of.nd (d_fr (d_split (d_var 0) d_str)))
    (s_cons (s_if (t_notInTab m_SHAPES_pages (d_at (d_var 1) d_int)) (s_one (s_raise X_NoDeed hr rfl (takes_of rfl rfl rfl rfl)))
      s_nil)
    (s_cons (s_asg 2 sc_p_deed_of.nd (d_atTab m_SHAPES_pages (d_at (d_var 1) d_int)))
    (s_cons (s_if (t_ne hr.units (d_len m_len (a_cons (d_var 1) a_nil)) (d_add (d_len m_len (a_cons (d_var 2) a_nil)) d_int)) (s_one (s_raise X_NoDeed hr rfl (takes_of rfl rfl rfl rfl)))
      s_nil)
    (s_cons (s_asg 3 sc_p_deed_of.nd (d_lst (a_cons (d_at (d_var 1) d_int) a_nil)))
    (s_cons (s_for (ts := [4, 5]) (passes_of rfl) rfl (i_zipS m_zip (a_cons (d_var 2) (a_cons (d_sl (d_var 1) (o_some d_int) o_none) a_nil))) (g_tup (n := 2) rfl (gs_cons (g_name 4 sc_p_deed_of.nd) (gs_cons (g_name 5 sc_p_deed_of.nd) gs_nil)))
      (s_one (s_if (t_eq hr.units (d_var 4) d_str) (s_one (s_app 3 (d_callX C_p_number_in hr (takes_of rfl rfl rfl rfl) (a_cons (d_var 5) a_nil))))
      (s_one (s_if (t_val (d_callC C_p_is_name hr (a_cons (d_var 5) a_nil))) (s_one (s_app 3 (d_var 5)))
      (s_one (s_raise X_NoDeed hr rfl (takes_of rfl rfl rfl rfl))))))))
    (s_frz 3 (s_one (s_ret (d_tuple m_tuple (a_cons (d_var 3) a_nil))))))))))) ?spec
  case len =>
    rintro ds P xp ⟨z, rfl, _⟩
    rfl
  case spec =>
    rintro ds P xp ⟨ws, rfl, hne, hl, hw, hz, q1, q2⟩
    have sp : Txt.split (Txt.join " " ws) " " = ws := TL.split_join (y := " ") (s := 32) (S := []) rfl (by decide +kernel) hne fun p hp => (hw p hp).1
    walk_at "dd"
    rw [sp]
    obtain ⟨w, rest, rfl⟩ := List.exists_cons_of_ne_nil hne
    have at0 : atI (strsD (w :: rest)) 0 = some (.str w) := by
      unfold L2.atI
      rw [ixN_of (by omega) (by show (0 : Int) < ((strsD (w :: rest)).length : Nat); rw [strs_len, List.length_cons]; omega)] <;> rfl
    refine ⟨by decide, Nat.le_trans hz (by decide), _, at0, ?_⟩
    walk_at "dd"
    cases ht : tab_SHAPES.lookup w with
    | none =>
      refine ⟨fun _ => q2 ?_, fun h => (by cases h)⟩
      show (match tab_SHAPES.lookup w with
        | none => none
        | some sh => _) = none
      rw [ht]
    | some v =>
      have ed : deedW (w :: rest) = if rest.length = v.cps.toList.length then (partsD v.cps.toList rest).map fun ds => .tuple (.str w :: ds) else none := by
        show (match tab_SHAPES.lookup w with
          | none => none
          | some sh => _) = _
        rw [ht]
      obtain ⟨va, vl⟩ := tab_sh ht
      have vl2 : v.cps.toList.length = v.length := Array.length_toList
      refine ⟨fun h => (by cases h), fun _ => ⟨_, at0, ?_⟩⟩
      walk_at "dd"
      refine ⟨v, ht, Nat.le_trans vl (by decide), fun h => q2 ?_, fun h => ⟨_, at0, by decide, ?_⟩⟩
      · rw [ed, if_neg]
        rw [strs_len, List.length_cons] at h
        omega
      · rw [strs_len, List.length_cons] at h
        have hr : rest.length = v.cps.toList.length := by omega
        rw [if_pos hr] at ed
        rw [ed] at q1 q2
        refine for_of (zipSD v.cps.toList (strsD rest)) (fun i ρ' => ∃ (acc : List PyData) (y4 y5 : Option T), ρ' = [some (.leaf (.str (Txt.join " " (w :: rest)))), some (.leaf (.list (strsD (w :: rest)))), some (.leaf (.str v)), some (.node ((PyData.str w :: acc).map .leaf)), y4, y5] ∧ partsD (v.cps.toList.take i) (rest.take i) = some acc) (fun P h => ?_) ⟨[], none, none, rfl, rfl⟩ ?_ ?_
        · skip
          walk_at "dd"
          refine ⟨v, strsD rest, ?_, va, h⟩
          rw [show cutD (strsD (w :: rest)) (some 1) none = strsD rest from cut1 _ _]
        · rintro i d ρ' hd ⟨acc, y4, y5, rfl, hp⟩
          have hi : i < (zipSD v.cps.toList (strsD rest)).length := (List.getElem?_eq_some_iff.mp hd).1
          rw [zipSD_len, strs_len] at hi
          have i1 : i < v.cps.toList.length := by omega
          have i2 : i < rest.length := by omega
          have g1 := List.getElem?_eq_getElem i1
          have g2 := List.getElem?_eq_getElem i2
          generalize v.cps.toList[i] = k at g1
          generalize hw' : rest[i] = w' at g2
          have hd2 := zipSD_get v.cps.toList (strsD rest) i k (.str w') g1 (by unfold strsD; rw [List.getElem?_map, g2]; rfl)
          rw [hd] at hd2
          cases hd2
          have wl : w'.length ≤ lim := Nat.le_trans (hw w' (List.mem_cons_of_mem _ (List.mem_of_getElem? g2))).2 (by decide)
          have al := partsD_len hp
          rw [List.length_take] at al
          have none_of : partD k w' = none → xp "NoDeed" .none := fun h => q2 (by rw [partsD_no g1 g2 h]; rfl)
          walk_at "dd"
          have lm : (List.map T.leaf acc).length + 1 < lim := by
            rw [List.length_map]
            exact Nat.lt_of_le_of_lt (show acc.length + 1 ≤ 10 by omega) (by decide)
          have c99 : (⟨#[k]⟩ : Str) = Str.ofString "c" → k = 99 := fun e => by
            have e : (⟨#[k]⟩ : Str) = ⟨#[99]⟩ := e
            simpa using e
          refine ⟨fun e => ⟨lm, w', rfl, wl, fun hn => ⟨_, numB_int hn, acc ++ [.int ((NumText.digitsVal w'.cps.toList : Nat) : Int)], some (.leaf (.str ⟨#[k]⟩)), some (.leaf (.str w')), ?_, partsD_ok g1 g2 hp ?_⟩, fun hn => none_of ?_⟩, fun e => ⟨w', rfl, wl, ?_⟩⟩
          · rw [List.map_append]
            rfl
          · unfold partD
            rw [if_pos (c99 e), if_pos hn, numB_int hn] <;> rfl
          · unfold partD
            rw [if_pos (c99 e), hn] <;> rfl
          · have k99 : k ≠ 99 := fun z => e (by rw [z] <;> rfl)
            walk_at "dd"
            refine ⟨fun hn => ⟨lm, acc ++ [.str w'], some (.leaf (.str ⟨#[k]⟩)), some (.leaf (.str w')), ?_, partsD_ok g1 g2 hp ?_⟩, fun hn => none_of ?_⟩
            · rw [List.map_append]
              rfl
            · unfold partD
              rw [if_neg k99, if_pos hn]
            · unfold partD
              rw [if_neg k99, hn] <;> rfl
        · rintro ρ' ⟨acc, y4, y5, rfl, hp⟩
          rw [zipSD_len, strs_len, hr, Nat.min_self, List.take_length, ← hr, List.take_length] at hp
          rw [hp] at q1
          walk_at "dd"
          rw [show (T.node (T.leaf (.str w) :: List.map T.leaf acc)).dat = .list (.str w :: acc) from dat_leaves0 (.str w :: acc)]
          walk_at "dd"
          exact q1 _ rfl
end
theorem sc_p_deed_line : FnScope ["house", "words", "deed", "told"] ["house", "words"] (defScope st_p_deed_line) := ⟨rfl, rfl, rfl, by decide +kernel, rfl, by decide +kernel, by decide +kernel⟩
/-- a line that is no deed -/
def deedNo (ws : List Str) : Prop := ws.length < 3 ∨ ws[1]? = some ("" : Str) ∨ (3 ≤ ws.length ∧ deedW (ws.drop 2) = none)
def S_p_deed_line : Spec := fun ds P _ => ∃ (a : PyData) (ws : List Str), ds = [a, .list (strsD ws)] ∧ ws.length < 1000 ∧ (∀ w ∈ ws, 32 ∉ TL.tl w ∧ w.length ≤ 10000) ∧ (ws.map (·.length)).sum + ws.length ≤ 10000 ∧ deedNo ws ∧ P non
section
variable {P : Program} {w : World} {K : PySem.W.Frag} {mg : Str → Option Value} {base : Heap}
theorem ok_p_deed_line {f : Addr} {fd : FuncData} (F : Fun K "deed_line" "deed_line" st_p_deed_line f fd) (C_p_deed_of : CalX P w K mg base "deed_of" ["text"] 4 S_p_deed_of) (E_NoDeed : ∃ C, mg "NoDeed" = some (.ref C) ∧ ExTab K mg ["NoDeed"] (.ref C)) (m_len : mg "len" = none) :
    FnOk P w K mg base CX0 5 f fd ["house", "words"] (spOf K mg S_p_deed_line) := by
  refine fn_ok F sc_p_deed_line ?len (fun cdv A outer s H E hr => s_cons (s_if (PW.pt (w_or (t_lt (d_len m_len (a_cons (d_var 1) a_nil)) d_int) (w_or1 (t_eq hr.units (d_at (d_var 1) d_int) d_str)))) (s_one (s_ret d_non))
      s_nil)
    (s_cons (s_asg 2 sc_p_deed_line.nd d_non)
    (s_cut (s_tryN ["NoDeed"] E_NoDeed takes0 (fun E' pn xe tk ps => s_one (s_asg 2 sc_p_deed_line.nd (d_fr (d_callX C_p_deed_of hr tk (a_cons (d_join d_str (d_sl (d_var 1) (o_some d_int) o_none)) a_nil)))))
      (fun a oe pn => s_one (s_ret d_non)))
    (s_cons s_never
    (s_cons s_never
    (s_cons s_never
    (s_one s_never))))))) ?spec ?nx
  case len =>
    rintro ds P x ⟨a, ws, rfl, _⟩
    rfl
  case nx => exact fun _ _ _ h => h
  case spec =>
    rintro ds P ⟨a, ws, rfl, hl, hw, hj, no, h⟩
    walk_at "dd"
    rw [strs_len]
    refine ⟨fun _ => h, fun h3 => ?_⟩
    have g1 : ws[1]? = some ws[1] := List.getElem?_eq_getElem (by omega)
    generalize ws[1] = w1 at g1
    refine ⟨.str w1, at_st g1, ?_⟩
    walk_at "dd"
    refine ⟨fun _ => h, fun hk => ?_⟩
    have dn : deedW (ws.drop 2) = none := by
      rcases no with z | z | z
      · omega
      · rw [g1] at z
        cases z
        exact absurd rfl hk
      · exact z.2
    unfold dCut
    walk_at "dd"
    have sd : ((ws.drop 2).map (·.length)).sum + (ws.drop 2).length ≤ 10000 := by
      have e := congrArg List.sum (congrArg (List.map (·.length)) (List.take_append_drop 2 ws))
      rw [List.map_append, List.sum_append] at e
      rw [List.length_drop]
      omega
    rw [show cutD (strsD ws) (some 2) none = strsD (ws.drop 2) from cut_st 2 ws]
    refine ⟨fun _ => False, asX_n.mpr ⟨by show _ + _ * 1 ≤ _; omega, ws.drop 2, rfl, fun z => ?_, by rw [List.length_drop]; omega, fun w hm => hw w (List.mem_of_mem_drop hm), Nat.le_trans (join_lenW _) sd, fun d hd => (by rw [dn] at hd; cases hd), fun _ => ⟨List.mem_cons_self .., h⟩⟩, fun _ z => z⟩
    have := congrArg List.length z
    rw [List.length_drop, List.length_nil] at this
    omega
end
theorem sc_m_House_names : FnScope ["self"] ["self"] (defScope st_m_House_names) := ⟨rfl, rfl, rfl, by decide +kernel, rfl, by decide +kernel, by decide +kernel⟩
def S_m_House_names (CH : Addr) : Spec := fun ds P x => ∃ (ks : List (Str × Addr)), ds = [houD CH ks] ∧ P (.node ((strsD (ks.map (·.1))).map .leaf))
section
variable {P : Program} {w : World} {K : PySem.W.Frag} {mg : Str → Option Value} {base : Heap}
theorem ok_m_House_names {f : Addr} {fd : FuncData} {C_House : Addr} (cf_House : CF K C_House ks_House) (F : Fun K "names" "House.names" st_m_House_names f fd) (m_list : mg "list" = none) :
    FnOk P w K mg base CX0 1 f fd ["self"] (spOf K mg (S_m_House_names C_House)) := by
  refine fn_ok F sc_m_House_names ?len (fun cdv A outer s H E hr => s_one (s_ret (d_listD rfl m_list (a_cons (d_fld 0 cf_House (d_var 0)) a_nil)))) ?spec ?nx
  case len =>
    rintro ds P x ⟨s, rfl, _⟩
    rfl
  case nx => exact fun _ _ _ h => h
  case spec =>
    rintro ds P ⟨ks, rfl, h1⟩
    walk_at "dd"
    exact h1
end
theorem sc_p_answered : FnScope ["house", "words", "parts", "told", "%"] ["house", "words"] (defScope st_p_answered) := ⟨rfl, rfl, rfl, by decide +kernel, rfl, by decide +kernel, by decide +kernel⟩
/-- a line of no form -/
def noLine (ws : List Str) : Prop := ∃ w r, ws = w :: r ∧ (w = "open" → openNo ws) ∧ (w = "in" → deedNo ws) ∧ (w ≠ "open" → w ≠ "in" → lineW ws = none)
def wsOk (ws : List Str) : Prop := ws ≠ [] ∧ ws.length < 1000 ∧ (∀ w ∈ ws, 32 ∉ TL.tl w ∧ w.length ≤ 10000) ∧ (ws.map (·.length)).sum + ws.length ≤ 10000
def lineA (CM CS CY : Addr) (m0 : Sto) (ks : List (Str × Addr)) (ws : List Str) (r : PyData) : Prop := (noLine ws ∧ r = .none) ∨ (ws = [("names" : Str)] ∧ ks = [] ∧ r = .str "none") ∨
  ∃ n a y, (∃ q : Str, ws = [q, n] ∧ askEmpty q y) ∧ n ≠ "" ∧ valG ks n = some a ∧ m0 a = some (socT CM CS CY y) ∧ okTab y.cur.byAge = true ∧ r = .str "none"
theorem ask_or {w : Str} {y : Soc} (h : askEmpty w y) : w = "living" ∨ w = "bets" := h.elim (fun z => .inl z.1) fun z => .inr z.1
theorem line_eq {w v : Str} {rest : List Str} (ht : tab_SHAPES_lines.lookup w = some v) : lineW (w :: rest) = if ("" : Str) ∈ w :: rest then none else if rest.length = v.cps.toList.length then lpsD v.cps.toList rest else none := by
  show (match tab_SHAPES_lines.lookup w with
    | none => none
    | some sh => _) = _
  rw [ht]
theorem line_names : lineW [("names" : Str)] = some [] := by
  rw [line_eq (v := "") (by decide +kernel), if_neg (by decide +kernel), if_pos (by decide +kernel)]
  rfl
theorem line_ask {w n : Str} (hw : w = "living" ∨ w = "bets") (h : n ≠ "") : lineW [w, n] = some [.str n] := by
  have e : w ≠ "" := by
    rcases hw with z | z <;> rw [z] <;> decide +kernel
  rw [line_eq (v := "w") (by rcases hw with z | z <;> rw [z] <;> decide +kernel), if_neg, if_pos (by rfl)]
  · rfl
  · intro z
    rcases List.mem_cons.mp z with y | y
    · exact e y.symm
    · exact h (List.mem_singleton.mp y).symm
def S_p_answered (CM CS CY CH : Addr) : SpecX := fun ds m P x => ∃ (p : Addr) (m0 : Sto) (ks : List (Str × Addr)) (ws : List Str) (r : PyData), ds = [objD p, .list (strsD ws)] ∧ m = stput m0 p (houT CH ks) ∧ m0 p = none ∧ wsOk ws ∧ lineA CM CS CY m0 ks ws r ∧ P (.leaf r) m
section
variable {P : Program} {w : World} {K : PySem.W.Frag} {mg : Str → Option Value} {base : Heap}
theorem ok_p_answered {f : Addr} {fd : FuncData} {C_House : Addr} (cf_House : CF K C_House ks_House) {C_Member : Addr} (cf_Member : CF K C_Member ks_Member) {C_Stand : Addr} (cf_Stand : CF K C_Stand ks_Stand) {C_Society : Addr} (cf_Society : CF K C_Society ks_Society) (F : Fun K "answered" "answered" st_p_answered f fd) (C_p_parts_of : Cal P w K mg base "parts_of" ["words"] 2 S_p_parts_of) (C_p_changed : Cal P w K mg base "changed" ["house", "word", "parts"] 1 S_p_changed) (C_p_of_society : Cal P w K mg base "of_society" ["society", "word", "parts"] 3 (S_p_of_society C_Member C_Stand C_Society)) (C_p_opened_line : Cal P w K mg base "opened_line" ["house", "words"] 2 S_p_opened_line) (C_p_deed_line : Cal P w K mg base "deed_line" ["house", "words"] 5 S_p_deed_line) (C_p_listed : Cal P w K mg base "listed" ["words"] 1 S_p_listed) (M_House_view : MthS (L2.CX P w) P w K mg base C_House "view" ["self", "name"] 7 (S_m_House_view C_Member C_Stand C_Society C_House)) (M_House_names : MthP CX0 P w K mg base C_House "names" ["self"] 1 (S_m_House_names C_House)) :
    FnOk P w K mg base (L2.CX P w) 8 f fd ["house", "words"] (spOfX K mg (S_p_answered C_Member C_Stand C_Society C_House)) := by
  refine fn_okSX (k := 4) (dn := "%") F sc_p_answered rfl (by decide +kernel) (by decide) ?len (fun cdv A outer s H E hr => s_cons (s_if (t_eq hr.units (d_at (d_var 1) d_int) d_str) (s_one (s_retX 4 (x_pu (d_bor2 (d_callC C_p_opened_line hr (a_cons (d_res (k := 4) (d_var 0)) (a_cons (d_var 1) a_nil)))))))
      s_nil)
    (s_cons (s_if (t_eq hr.units (d_at (d_var 1) d_int) d_str) (s_one (s_retX 4 (x_pu (d_bor2 (d_callC C_p_deed_line hr (a_cons (d_res (k := 4) (d_var 0)) (a_cons (d_var 1) a_nil)))))))
      s_nil)
    (s_cons (s_asg 2 sc_p_answered.nd (d_fr (d_callC C_p_parts_of hr (a_cons (d_var 1) a_nil))))
    (s_cons (s_if (t_isN (d_var 2) d_non) (s_one (s_retX 4 (x_pu d_non)))
      s_nil)
    (s_cons (s_if (t_eq hr.units (d_at (d_var 1) d_int) d_str) (s_one (s_retX 4 (x_pu (d_bor2 (d_callC C_p_listed hr (a_cons (d_meth0 (ks := ks_House) .calm M_House_names hr (d_res (k := 4) (d_var 0))) a_nil))))))
      s_nil)
    (s_cons (s_asg 3 sc_p_answered.nd (d_fr (d_bor2 (d_callC C_p_changed hr (a_cons (d_res (k := 4) (d_var 0)) (a_cons (d_at (d_var 1) d_int) (a_cons (d_var 2) a_nil)))))))
    (s_cons (s_if (t_notN (d_var 3) d_non) (s_one (s_retX 4 (x_pu (d_var 3))))
      s_nil)
    (s_one (s_retX 4 (x_callP C_p_of_society hr (xa_cons (x_fix 4 (x_meth (k := 4) (ks := ks_House) (.out (takes_of rfl rfl rfl rfl)) M_House_view hr (x_pu (d_var 0)) (xa_pu (a_cons (d_at (d_var 2) d_int) a_nil)))) (xa_cons (x_pu (d_at (d_var 1) d_int)) (xa_cons (x_pu (d_var 2)) xa_nil))))))))))))) ?spec
  case len =>
    rintro ds m P xp ⟨p, m0, ks, ws, r, rfl, _⟩
    rfl
  case spec =>
    rintro ds m P xp ⟨p, m0, ks, ws, r, rfl, rfl, hp0, ⟨hne, hl, hw, hs⟩, la, h⟩
    obtain ⟨w, rest, rfl⟩ := List.exists_cons_of_ne_nil hne
    walk_at "ds"
    refine ⟨_, at_st (k := 0) (z := w) rfl, ?_⟩
    walk_at "ds"
    have hw2 : ∀ x, x ∈ w :: rest → x.length ≤ 10000 := fun x hx => (hw x hx).2
    have no_open : w = "open" → noLine (w :: rest) ∧ r = .none := fun e => by
      rcases la with z | ⟨z, _⟩ | ⟨n, a, y, ⟨q, z, zq⟩, _⟩
      · exact z
      · rw [e] at z
        exact absurd (List.cons.inj z).1 (by decide +kernel)
      · rw [e] at z
        have := (List.cons.inj z).1
        rcases ask_or zq with u | u
        · exact absurd (this.trans u) (by decide +kernel)
        · exact absurd (this.trans u) (by decide +kernel)
    have no_in : w = "in" → noLine (w :: rest) ∧ r = .none := fun e => by
      rcases la with z | ⟨z, _⟩ | ⟨n, a, y, ⟨q, z, zq⟩, _⟩
      · exact z
      · rw [e] at z
        exact absurd (List.cons.inj z).1 (by decide +kernel)
      · rw [e] at z
        have := (List.cons.inj z).1
        rcases ask_or zq with u | u
        · exact absurd (this.trans u) (by decide +kernel)
        · exact absurd (this.trans u) (by decide +kernel)
    refine ⟨fun ho => ?_, fun ho => ⟨_, at_st (k := 0) (z := w) rfl, ?_⟩⟩
    · obtain ⟨⟨w', r', e, n1, n2, n3⟩, rfl⟩ := no_open ho
      cases e
      exact ⟨_, _, rfl, hl, hw2, n1 ho, rfl, _, SLe.rfl' _, h⟩
    walk_at "ds"
    refine ⟨fun hi => ?_, fun hi => ⟨_, rfl, hne, hl, hw2, fun hn => ?_, fun ds hd => ?_⟩⟩
    · obtain ⟨⟨w', r', e, n1, n2, n3⟩, rfl⟩ := no_in hi
      cases e
      exact ⟨_, _, rfl, hl, hw, hs, n2 hi, rfl, _, SLe.rfl' _, h⟩
    · walk_at "ds"
      rcases la with ⟨_, rfl⟩ | ⟨z, _⟩ | ⟨n, a, y, ⟨q, z, zq⟩, zn, _⟩
      · exact ⟨_, SLe.rfl' _, h⟩
      · rw [z, line_names] at hn
        cases hn
      · rw [z, line_ask (ask_or zq) zn] at hn
        cases hn
    · walk_at "ds"
      refine ⟨_, at_st (k := 0) (z := w) rfl, ?_⟩
      walk_at "ds"
      refine ⟨fun hnm => ?_, fun hnm => ?_⟩
      · rcases la with ⟨⟨w', r', e, n1, n2, n3⟩, _⟩ | ⟨z, rfl, rfl⟩ | ⟨n, a, y, ⟨q, z, zq⟩, _⟩
        · cases e
          rw [n3 ho hi] at hd
          cases hd
        · refine ⟨[], rfl, ?_⟩
          walk_at "ds"
          exact ⟨rfl, rfl, _, SLe.rfl' _, h⟩
        · rw [hnm] at z
          have := (List.cons.inj z).1
          rcases ask_or zq with u | u
          · exact absurd (this.trans u) (by decide +kernel)
          · exact absurd (this.trans u) (by decide +kernel)
      · rcases la with ⟨⟨w', r', e, n1, n2, n3⟩, _⟩ | ⟨z, rfl, rfl⟩ | ⟨n, a, y, ⟨w0, z, zq⟩, zn, hv, ha, ok, rfl⟩
        · cases e
          rw [n3 ho hi] at hd
          cases hd
        · exact absurd (List.cons.inj z).1 hnm
        · cases z
          rw [line_ask (ask_or zq) zn] at hd
          cases hd
          have hap : a ≠ p := fun z => by rw [z, hp0] at ha; cases ha
          refine ⟨_, at_st (k := 0) rfl, _, _, _, rfl, by rcases ask_or zq with u | u <;> rw [u] <;> decide +kernel, rfl, ?_⟩
          walk_at "ds"
          refine ⟨.str n, at_st (ys := [n]) (k := 0) rfl, p, m0, ks, n, a, y, rfl, rfl, hv, hap, ha, ok, fun q hq => ?_⟩
          refine ⟨q, rfl, _, stput_same, _, at_st (k := 0) rfl, y, _, _, rfl, zq, ?_⟩
          rw [stdel_put hq]
          exact ⟨_, SLe.rfl' _, h⟩
end
theorem sc_m_House_say : FnScope ["self", "line", "words", "told", "e", "%"] ["self", "line"] (defScope st_m_House_say) := ⟨rfl, rfl, rfl, by decide +kernel, rfl, by decide +kernel, by decide +kernel⟩
def toldW (r : PyData) : PyData := match r with | .none => .str "no line" | d => d
def S_m_House_say (CM CS CY CH : Addr) : SpecX := fun ds m P x => ∃ (p : Addr) (m0 : Sto) (ks : List (Str × Addr)) (ws : List Str) (r : PyData), ds = [objD p, .str (Txt.join " " ws)] ∧ m = stput m0 p (houT CH ks) ∧ m0 p = none ∧ wsOk ws ∧ lineA CM CS CY m0 ks ws r ∧ P (.leaf (toldW r)) m
section
variable {P : Program} {w : World} {K : PySem.W.Frag} {mg : Str → Option Value} {base : Heap}
theorem ok_m_House_say {f : Addr} {fd : FuncData} {C_House : Addr} (cf_House : CF K C_House ks_House) {C_Member : Addr} (cf_Member : CF K C_Member ks_Member) {C_Stand : Addr} (cf_Stand : CF K C_Stand ks_Stand) {C_Society : Addr} (cf_Society : CF K C_Society ks_Society) (F : Fun K "say" "House.say" st_m_House_say f fd) (C_p_answered : CalS (L2.CX P w) P w K mg base "answered" ["house", "words"] 8 (S_p_answered C_Member C_Stand C_Society C_House)) (E_OutError : ∃ C, mg "OutError" = some (.ref C) ∧ ExTab K mg ["BadAge", "BadBlanks", "BadCoins", "BadName", "BadTable", "Dead", "Full", "Known", "NoDeed", "NoMember", "NoSociety", "Taken"] (.ref C)) :
    FnOk P w K mg base CX0 9 f fd ["self", "line"] (spOfX K mg (S_m_House_say C_Member C_Stand C_Society C_House)) := by
  refine fn_okS (k := 5) (dn := "%") F sc_m_House_say rfl (by decide +kernel) (by decide) ?len (fun cdv A outer s H E hr => s_cons (s_asg 2 sc_m_House_say.nd (d_fr (d_split (d_var 1) d_str)))
    (s_cut (s_tryO (i := 4) ["BadAge", "BadBlanks", "BadCoins", "BadName", "BadTable", "Dead", "Full", "Known", "NoDeed", "NoMember", "NoSociety", "Taken"] E_OutError sc_m_House_say.nd takes0 (fun E' pn xe tk ps => s_one (s_asgX 3 sc_m_House_say.nd (x_callX (k := 5) C_p_answered hr tk (xa_pu (a_cons (d_var 0) (a_cons (d_var 2) a_nil))))))
      (fun a d C n pl oe pn hx hm hz hf => s_one s_never))
    (s_cons (s_if (t_isN (d_var 3) d_non) (s_one (s_retX 5 (x_pu d_str)))
      s_nil)
    (s_one (s_retX 5 (x_pu (d_var 3))))))) ?spec ?nx
  case len =>
    rintro ds m P xp ⟨p, m0, ks, ws, r, rfl, _⟩
    rfl
  case nx => exact fun _ _ _ _ h => h
  case spec =>
    rintro ds m P ⟨p, m0, ks, ws, r, rfl, rfl, hp0, ok, la, h⟩
    have ok' := ok
    obtain ⟨hne, hl, hw, hs⟩ := ok'
    have sp : Txt.split (Txt.join " " ws) " " = ws := TL.split_join (y := " ") (s := 32) (S := []) rfl (by decide +kernel) hne fun p hp => (hw p hp).1
    walk_at "ds"
    rw [sp]
    refine ⟨by decide +kernel, Nat.le_trans (Nat.le_trans (join_lenW _) hs) (by decide), fun ρ' => ρ' = [some (.leaf (objD p)), some (.leaf (.str (Txt.join " " ws))), some (.leaf (.list (strsD ws))), some (.leaf r), none, some (.sto (stput m0 p (houT C_House ks)))], ?_, fun ρ' e => ?_⟩
    · walk_at "ds"
      exact ⟨p, m0, ks, ws, r, rfl, rfl, hp0, ok, la, rfl⟩
    · subst e
      walk_at "ds"
      have rr : r = .none ∨ r = .str "none" := by
        rcases la with ⟨_, z⟩ | ⟨_, _, z⟩ | ⟨n, a, y, _, _, _, _, _, z⟩
        · exact .inl z
        · exact .inr z
        · exact .inr z
      rcases rr with rfl | rfl
      · walk_at "ds"
        exact ⟨_, SLe.rfl' _, h⟩
      · walk_at "ds"
        exact ⟨_, SLe.rfl' _, h⟩
end
theorem sc_m_House_init : FnScope ["self", "%"] ["self"] (defScope st_m_House_init) := ⟨rfl, rfl, rfl, by decide +kernel, rfl, by decide +kernel, by decide +kernel⟩
def S_m_House_init (CH : Addr) : SpecX := fun ds m P _ => ∃ (p : Addr) (m0 : Sto), ds = [objD p] ∧ m = stput m0 p (.ins CH [] []) ∧ P non (stput m0 p (houT CH []))
section
variable {P : Program} {w : World} {K : PySem.W.Frag} {mg : Str → Option Value} {base : Heap}
theorem ok_m_House_init {f : Addr} {fd : FuncData} {C_House : Addr} (cf_House : CF K C_House ks_House) (F : Fun K "__init__" "House.__init__" st_m_House_init f fd)  :
    FnOk P w K mg base CX0 1 f fd ["self"] (spOfX K mg (S_m_House_init C_House)) := by
  refine fn_okS (k := 1) (dn := "%") F sc_m_House_init rfl (by decide +kernel) (by decide) ?len (fun cdv A outer s H E hr => s_one (s_setN (k := 1) [] ["kept"] cf_House (p_var 0) (x_pu d_dic0))) ?spec ?nx
  case len =>
    rintro ds m P xp ⟨p, m0, rfl, _⟩
    rfl
  case nx => exact fun _ _ _ _ h => h
  case spec =>
    rintro ds m P ⟨p, m0, rfl, rfl, h⟩
    walk_at "ds"
    exact ⟨_, SLe.rfl' _, h⟩
end
theorem sc_law : FnScope ["_law_script", "_law_box_here", "_law_house", "_law_names_here", "_law_deed", "_law_kept", "_law_k", "_law_line_here", "%"] ["_law_script"] (defScope st_law) := ⟨rfl, rfl, rfl, by decide +kernel, rfl, by decide +kernel, by decide +kernel⟩
/-! ### lines of no form: the plain law -/
def Fig (u : Str) : Prop := ∃ c, u.cps.toList.head? = some c ∧ c ∈ (Str.ofString "0123456789").cps.toList
theorem line_unk {w : Str} {rest : List Str} (h : tab_SHAPES_lines.lookup w = none) : lineW (w :: rest) = none := by
  show (match tab_SHAPES_lines.lookup w with
    | none => none
    | some sh => _) = _
  rw [h]
theorem no_unk {w : Str} {rest : List Str} (h : tab_SHAPES_lines.lookup w = none) (h1 : w ≠ "open") (h2 : w ≠ "in") : noLine (w :: rest) :=
  ⟨w, rest, rfl, fun e => absurd e h1, fun e => absurd e h2, fun _ _ => line_unk h⟩
theorem line_blank {w : Str} {rest : List Str} (h : ("" : Str) ∈ w :: rest) : lineW (w :: rest) = none := by
  cases ht : tab_SHAPES_lines.lookup w with
  | none => exact line_unk ht
  | some v => rw [line_eq ht, if_pos h]
theorem no_blank {w : Str} {rest : List Str} (h : ("" : Str) ∈ rest) (h1 : w ≠ "open") (h2 : w ≠ "in") : noLine (w :: rest) :=
  ⟨w, rest, rfl, fun e => absurd e h1, fun e => absurd e h2, fun _ _ => line_blank (List.mem_cons_of_mem _ h)⟩
theorem no_len {w v : Str} {rest : List Str} (ht : tab_SHAPES_lines.lookup w = some v) (hl : ¬ rest.length = v.cps.toList.length) (h1 : w ≠ "open") (h2 : w ≠ "in") : noLine (w :: rest) :=
  ⟨w, rest, rfl, fun e => absurd e h1, fun e => absurd e h2, fun _ _ => by
    rw [line_eq ht, if_neg hl]
    split
    · rfl
    · first | rfl | rw [if_neg hl]⟩
theorem no_bad {w v u : Str} {rest : List Str} {i : Nat} (ht : tab_SHAPES_lines.lookup w = some v) (hk : v.cps.toList[i]? = some 99) (hr : rest[i]? = some u) (hu : numB u = false) (h1 : w ≠ "open") (h2 : w ≠ "in") : noLine (w :: rest) :=
  ⟨w, rest, rfl, fun e => absurd e h1, fun e => absurd e h2, fun _ _ => by
    rw [line_eq ht]
    split
    · rfl
    · split
      · refine lpsD_no hk hr ?_
        show (if 99 = 99 then (if numB u then (PySem.intText? u).map PyData.int else none) else _) = none
        rw [if_pos rfl, hu]
        rfl
      · rfl⟩
theorem no_open {rest : List Str} (h : openNo ("open" :: rest)) : noLine ("open" :: rest) := ⟨"open", rest, rfl, fun _ => h, fun e => absurd e (by decide +kernel), fun e => absurd rfl e⟩
theorem no_in {rest : List Str} (h : deedNo ("in" :: rest)) : noLine ("in" :: rest) := ⟨"in", rest, rfl, fun e => absurd e (by decide +kernel), fun _ => h, fun _ e => absurd rfl e⟩
theorem no_deed {n : Str} {ds : List Str} (h : deedW ds = none) : noLine ("in" :: n :: ds) := no_in (by
  cases ds with
  | nil => exact .inl (Nat.lt_succ_self 2)
  | cons d ds => exact .inr (.inr ⟨by simp, h⟩))
theorem deed_unk {w : Str} {rest : List Str} (h : tab_SHAPES.lookup w = none) : deedW (w :: rest) = none := by
  show (match tab_SHAPES.lookup w with
    | none => none
    | some sh => _) = _
  rw [h]
theorem deed_eq {w v : Str} {rest : List Str} (ht : tab_SHAPES.lookup w = some v) : deedW (w :: rest) = if rest.length = v.cps.toList.length then (partsD v.cps.toList rest).map fun ds => .tuple (.str w :: ds) else none := by
  show (match tab_SHAPES.lookup w with
    | none => none
    | some sh => _) = _
  rw [ht]
theorem deed_len {w v : Str} {rest : List Str} (ht : tab_SHAPES.lookup w = some v) (hl : ¬ rest.length = v.cps.toList.length) : deedW (w :: rest) = none := by
  rw [deed_eq ht, if_neg hl]
theorem deed_bad {w v u : Str} {rest : List Str} {i k : Nat} (ht : tab_SHAPES.lookup w = some v) (hk : v.cps.toList[i]? = some k) (hr : rest[i]? = some u) (hu : partD k u = none) : deedW (w :: rest) = none := by
  rw [deed_eq ht]
  split
  · rw [partsD_no hk hr hu]
    rfl
  · rfl
theorem bad_num {u v : Str} (hu : Fig u) (hv : v ∈ badsOf u) : numB v = false := by
  unfold badsOf at hv
  simp only [List.mem_cons, List.not_mem_nil, or_false] at hv
  rcases hv with rfl | rfl | rfl | rfl | rfl | rfl | rfl
  · obtain ⟨c, hc, _⟩ := hu
    have e : TL.tl (("0" : Str) ++ u) = 48 :: TL.tl u := by
      rw [TL.tl_append]
      rfl
    have e2 : (("0" : Str) ++ u).cps.toList = 48 :: u.cps.toList := e
    have n0 : ("0" : Str) ++ u ≠ "0" := fun z => by
      rw [z] at e2
      have hl1 := congrArg List.length e2
      have e3 : u.cps.toList ≠ [] := fun y => by rw [y] at hc; cases hc
      have hl2 := List.length_pos_iff.mpr e3
      rw [show (Str.ofString "0").cps.toList.length = 1 from rfl, List.length_cons] at hl1
      omega
    unfold numB
    rw [e2]
    rw [decide_eq_false n0]
    simp
  all_goals decide +kernel
theorem bent_line {w v : Str} {rest : List Str} (ht : tab_SHAPES_lines.lookup w = some v) (hl : rest.length = v.cps.toList.length) (h1 : w ≠ "open") (h2 : w ≠ "in") (hu : ∀ x ∈ [Txt.upper w, w ++ "s", "to"], tab_SHAPES_lines.lookup x = none ∧ x ≠ "open" ∧ x ≠ "in") (hlast : ∀ u, rest.getLast? = some u → Fig u → v.cps.toList.getLast? = some 99) (hw : ∀ c, w.cps.toList.head? = some c → c ∉ (Str.ofString "0123456789").cps.toList) {vs : List Str} (h : Bent (w :: rest) vs) : noLine vs := by
  cases h with
  | behind => exact no_blank (rest := rest ++ [("" : Str)]) (by simp) h1 h2
  | ahead => exact no_unk (by decide +kernel) (by decide +kernel) (by decide +kernel)
  | more => exact no_len (rest := rest ++ [("x" : Str)]) ht (by rw [List.length_append, List.length_singleton]; omega) h1 h2
  | less hm =>
    have hr : rest ≠ [] := fun z => by rw [z] at hm; exact absurd hm (Nat.lt_irrefl 1)
    rw [List.dropLast_cons_of_ne_nil hr]
    have := List.length_pos_iff.mpr hr
    exact no_len ht (by rw [List.length_dropLast]; omega) h1 h2
  | gap k k1 k2 =>
    obtain ⟨j, rfl⟩ : ∃ j, k = j + 1 := ⟨k - 1, by omega⟩
    exact no_blank (rest := rest.take j ++ ("" : Str) :: rest.drop j) (by simp) h1 h2
  | bad u x hul hf hx =>
    rcases List.eq_nil_or_concat rest with rfl | ⟨r0, z, rfl⟩
    · cases (show some w = some u from hul)
      obtain ⟨c, hc, hm⟩ := hf
      exact absurd hm (hw c hc)
    · have eu : z = u := by
        have : (w :: (r0 ++ [z])).getLast? = some z := by rw [← List.cons_append, List.getLast?_concat]
        rw [List.concat_eq_append] at hul
        rw [this] at hul
        exact Option.some.inj hul
      subst eu
      rw [List.concat_eq_append] at hl hlast ⊢
      rw [← List.cons_append, List.dropLast_concat]
      have l9 := hlast z (by rw [List.getLast?_concat]) hf
      rw [List.getLast?_eq_getElem?] at l9
      rw [List.length_append, List.length_singleton] at hl
      rw [← hl, Nat.add_sub_cancel] at l9
      exact no_bad (rest := r0 ++ [x]) ht l9 (by rw [List.getElem?_append_right (Nat.le_refl _), Nat.sub_self]; rfl) (bad_num hf hx) h1 h2
  | first u x hh hx =>
    cases (show some w = some u from hh)
    obtain ⟨e1, e2, e3⟩ := hu x hx
    exact no_unk e1 e2 e3
theorem bent_in {n w v : Str} {rest : List Str} (ht : tab_SHAPES.lookup w = some v) (hl : rest.length = v.cps.toList.length) (hr : rest ≠ []) (hlast : ∀ u, rest.getLast? = some u → Fig u → v.cps.toList.getLast? = some 99) {vs : List Str} (h : Bent ("in" :: n :: w :: rest) vs) : noLine vs := by
  have hp := List.length_pos_iff.mpr hr
  cases h with
  | behind => exact no_deed (ds := w :: (rest ++ [("" : Str)])) (deed_len ht (by rw [List.length_append, List.length_singleton]; omega))
  | ahead => exact no_unk (by decide +kernel) (by decide +kernel) (by decide +kernel)
  | more => exact no_deed (ds := w :: (rest ++ [("x" : Str)])) (deed_len ht (by rw [List.length_append, List.length_singleton]; omega))
  | less hm =>
    rw [List.dropLast_cons_of_ne_nil (by simp), List.dropLast_cons_of_ne_nil (by simp), List.dropLast_cons_of_ne_nil hr]
    exact no_deed (deed_len ht (by rw [List.length_dropLast]; omega))
  | gap k k1 k2 =>
    rcases (by omega : k = 1 ∨ k = 2 ∨ 3 ≤ k) with rfl | rfl | h3
    · exact no_in (.inr (.inl rfl))
    · exact no_deed (deed_unk (by decide +kernel))
    · obtain ⟨j, rfl⟩ : ∃ j, k = j + 3 := ⟨k - 3, by omega⟩
      refine no_deed (ds := w :: (rest.take j ++ ("" : Str) :: rest.drop j)) (deed_len ht ?_)
      rw [List.length_append, List.length_cons, List.length_take, List.length_drop]
      omega
  | bad u x hul hf hx =>
    rcases List.eq_nil_or_concat rest with rfl | ⟨r0, z, rfl⟩
    · exact absurd rfl hr
    · have eu : z = u := by
        have : (Str.ofString "in" :: n :: w :: (r0 ++ [z])).getLast? = some z := by rw [← List.cons_append, ← List.cons_append, ← List.cons_append, List.getLast?_concat]
        rw [List.concat_eq_append] at hul
        rw [this] at hul
        exact Option.some.inj hul
      subst eu
      rw [List.concat_eq_append] at hl hlast ⊢
      rw [← List.cons_append, ← List.cons_append, ← List.cons_append, List.dropLast_concat]
      have l9 := hlast z (by rw [List.getLast?_concat]) hf
      rw [List.getLast?_eq_getElem?] at l9
      rw [List.length_append, List.length_singleton] at hl
      rw [← hl, Nat.add_sub_cancel] at l9
      refine no_deed (ds := w :: (r0 ++ [x])) (deed_bad ht l9 (by rw [List.getElem?_append_right (Nat.le_refl _), Nat.sub_self]; rfl) ?_)
      show (if 99 = 99 then (if numB x then (PySem.intText? x).map PyData.int else none) else _) = none
      rw [if_pos rfl, bad_num hf hx]
      rfl
  | first u x hh hx =>
    cases (show some (Str.ofString "in") = some u from hh)
    have hu : ∀ x ∈ [Txt.upper (Str.ofString "in"), (Str.ofString "in") ++ "s", "to"], tab_SHAPES_lines.lookup x = none ∧ x ≠ "open" ∧ x ≠ "in" := by decide +kernel
    obtain ⟨e1, e2, e3⟩ := hu x hx
    exact no_unk e1 e2 e3
theorem nm_fig {z : Str} (h : IsName z) : ¬ Fig z := fun ⟨c, hc, hm⟩ => by
  have hm2 : c ∈ z.cps.toList := List.mem_of_head? hc
  have := h.2.2 c hm2
  have all : ∀ c ∈ (Str.ofString "0123456789").cps.toList, c < 97 := by decide +kernel
  have := all c hm
  omega
theorem nm_ne {z : Str} (h : IsName z) : z ≠ "" := fun e => by
  have := h.1
  rw [e] at this
  exact absurd this (by decide +kernel)
theorem nm_num {z : Str} (h : IsName z) : numB z = false := by
  have hl : z.cps.toList ≠ [] := fun e => by
    have := h.1
    rw [show z.length = z.cps.toList.length from (Array.length_toList).symm, e] at this
    exact absurd this (by decide)
  obtain ⟨c, r, e⟩ := List.exists_cons_of_ne_nil hl
  have hc := h.2.2 c (by rw [e]; exact List.mem_cons_self ..)
  have all : ∀ c ∈ (Str.ofString "0123456789").cps.toList, c < 97 := by decide +kernel
  have : (z.cps.toList.all fun c => decide (c ∈ ("0123456789" : Str).cps.toList)) = false := by
    rw [List.all_eq_false]
    refine ⟨c, by rw [e]; exact List.mem_cons_self .., fun hd => ?_⟩
    have := all c (of_decide_eq_true hd)
    omega
  unfold numB
  rw [this]
  simp
theorem nm_last {xs : List Str} {z : Str} {P : Prop} (h : IsName z) (he : xs.getLast? = some z := by rfl) : ∀ u, xs.getLast? = some u → Fig u → P := fun u e hf => by
  rw [he] at e
  cases e
  exact absurd hf (nm_fig h)
theorem fm_nil {α : Type} {Q : α → Prop} : ∀ w, w ∈ ([] : List α) → Q w := fun _ z => nomatch z
def okW (w : Str) : Prop := 32 ∉ TL.tl w ∧ w.length ≤ 30
theorem nm_ok {z : Str} (h : IsName z) : okW z := ⟨fun hm => by
  have := h.2.2 32 hm
  omega, Nat.le_trans h.2.1 (by decide)⟩
theorem wsOk_of {vs : List Str} (h : vs ≠ []) (hl : vs.length ≤ 20) (hw : ∀ w ∈ vs, okW w) : wsOk vs := by
  have := sum_leW (ws := vs) (M := 30) fun w hm => (hw w hm).2
  exact ⟨h, by omega, fun w hm => ⟨(hw w hm).1, Nat.le_trans (hw w hm).2 (by decide)⟩, by omega⟩
theorem near_ok {n a : Str} (hn : IsName n) (ha : IsName a) : ∀ ws ∈ nearWs n a, ws ≠ [] ∧ ws.length ≤ 20 ∧ ∀ w ∈ ws, okW w := by
  have on := nm_ok hn
  have oa := nm_ok ha
  unfold nearWs
  unfold okW at *
  repeat' (first | exact on | exact oa | exact fm_nil | (refine List.forall_mem_cons.mpr ⟨?_, ?_⟩) | decide +kernel | (refine ⟨by simp, by simp, ?_⟩))
theorem near_wsOk {n a : Str} (hn : IsName n) (ha : IsName a) {ws : List Str} (h : ws ∈ nearWs n a) : wsOk ws := by
  obtain ⟨h1, h2, h3⟩ := near_ok hn ha ws h
  exact wsOk_of h1 h2 h3
def okN (w : Str) : Prop := 32 ∉ TL.tl w ∧ w ≠ "" ∧ w.length ≤ 10
theorem nm_okN {z : Str} (h : IsName z) : okN z := ⟨(nm_ok h).1, nm_ne h, Nat.le_trans h.2.1 (by decide)⟩
theorem num_okN {r : Int} (h0 : 0 ≤ r) (h1 : r < 60) : okN (Str.ofString (toString r)) := by
  have h : ∀ r : Fin 60, okN (Str.ofString (toString ((r.val : Nat) : Int))) := by
    unfold okN
    decide +kernel
  have := h ⟨r.toNat, by omega⟩
  rwa [Int.toNat_of_nonneg h0] at this
theorem line_ok {n a b k : Str} (hn : IsName n) (ha : IsName a) (hb : IsName b) (hk : okN k) : ∀ ws ∈ lineWs n a b k, ws ≠ [] ∧ ws.length ≤ 10 ∧ ∀ w ∈ ws, okN w := by
  have on := nm_okN hn
  have oa := nm_okN ha
  have ob := nm_okN hb
  unfold lineWs
  unfold okN at *
  repeat' (first | exact on | exact oa | exact ob | exact hk | exact fm_nil | (refine List.forall_mem_cons.mpr ⟨?_, ?_⟩) | decide +kernel | (refine ⟨by simp, by simp, ?_⟩))
theorem line_first {n a b k : Str} : ∀ ws ∈ lineWs n a b k, ∀ u, ws.head? = some u → okW (Txt.upper u) ∧ okW (u ++ "s") := by
  unfold lineWs
  unfold okW
  repeat' (first | exact fm_nil | (refine List.forall_mem_cons.mpr ⟨?_, ?_⟩) | (intro u e; cases (Option.some.inj e); decide +kernel))
theorem bent_ok {ws vs : List Str} (hne : ws ≠ []) (hl : ws.length ≤ 10) (hw : ∀ w ∈ ws, 32 ∉ TL.tl w ∧ w.length ≤ 10) (hf : ∀ u, ws.head? = some u → okW (Txt.upper u) ∧ okW (u ++ "s")) (h : Bent ws vs) : wsOk vs := by
  have hw' : ∀ w ∈ ws, okW w := fun w hm => ⟨(hw w hm).1, Nat.le_trans (hw w hm).2 (by decide)⟩
  have o1 : okW "" := by unfold okW; decide +kernel
  have o2 : okW "x" := by unfold okW; decide +kernel
  have o3 : okW "1" := by unfold okW; decide +kernel
  have o4 : okW "to" := by unfold okW; decide +kernel
  cases h with
  | behind =>
    exact wsOk_of (by simp) (by simp; omega) fun w hm => by
      rcases List.mem_append.mp hm with z | z
      · exact hw' w z
      · rw [List.mem_singleton.mp z]; exact o1
  | ahead =>
    exact wsOk_of (by simp) (by simp; omega) fun w hm => by
      rcases List.mem_cons.mp hm with z | z
      · rw [z]; exact o1
      · exact hw' w z
  | more =>
    exact wsOk_of (by simp) (by simp; omega) fun w hm => by
      rcases List.mem_append.mp hm with z | z
      · exact hw' w z
      · rw [List.mem_singleton.mp z]; exact o2
  | less h1 =>
    exact wsOk_of (fun z => by have := congrArg List.length z; rw [List.length_dropLast, List.length_nil] at this; omega) (by rw [List.length_dropLast]; omega) fun w hm => hw' w (mem_dl hm)
  | gap k k1 k2 =>
    exact wsOk_of (by simp) (by rw [List.length_append, List.length_cons, List.length_take, List.length_drop]; omega) fun w hm => by
      rcases List.mem_append.mp hm with z | z
      · exact hw' w (List.mem_of_mem_take z)
      · rcases List.mem_cons.mp z with y | y
        · rw [y]; exact o1
        · exact hw' w (List.mem_of_mem_drop y)
  | bad u v hu hg hv =>
    exact wsOk_of (by simp) (by rw [List.length_append, List.length_dropLast, List.length_singleton]; omega) fun w hm => by
      rcases List.mem_append.mp hm with z | z
      · exact hw' w (mem_dl z)
      · rw [List.mem_singleton.mp z]
        unfold badsOf at hv
        simp only [List.mem_cons, List.not_mem_nil, or_false] at hv
        rcases hv with rfl | rfl | rfl | rfl | rfl | rfl | rfl
        · have hm2 : u ∈ ws := List.mem_of_getLast? hu
          refine ⟨fun y => ?_, ?_⟩
          · rw [TL.tl_append] at y
            rcases List.mem_append.mp y with y | y
            · exact absurd y (by decide +kernel)
            · exact (hw u hm2).1 y
          · rw [str_len]
            have := (hw u hm2).2
            have : ("0" : Str).length = 1 := by decide +kernel
            omega
        all_goals (unfold okW; decide +kernel)
  | first u v hu hv =>
    exact wsOk_of (by simp) (by simp; omega) fun w hm => by
      have hu2 := hf u hu
      rcases List.mem_append.mp hm with z | z
      · rcases List.mem_cons.mp z with y | y
        · rw [y]
          simp only [List.mem_cons, List.not_mem_nil, or_false] at hv
          rcases hv with rfl | rfl | rfl
          · exact hu2.1
          · exact hu2.2
          · exact o4
        · exact hw' w (List.mem_of_mem_drop y)
      · rw [List.mem_singleton.mp z]; exact o3
theorem near_no {n a : Str} (hn : IsName n) (ha : IsName a) : ∀ ws ∈ nearWs n a, noLine ws := by
  unfold nearWs
  refine List.forall_mem_cons.mpr ⟨no_unk (by decide +kernel) (by decide +kernel) (by decide +kernel), ?_⟩
  refine List.forall_mem_cons.mpr ⟨no_unk (by decide +kernel) (by decide +kernel) (by decide +kernel), ?_⟩
  refine List.forall_mem_cons.mpr ⟨no_open (.inl (show (1 : Nat) < 5 by decide)), ?_⟩
  refine List.forall_mem_cons.mpr ⟨no_open (.inl (show (2 : Nat) < 5 by decide)), ?_⟩
  refine List.forall_mem_cons.mpr ⟨no_open (.inl (show (3 : Nat) < 5 by decide)), ?_⟩
  refine List.forall_mem_cons.mpr ⟨no_open (.inl (show (4 : Nat) < 5 by decide)), ?_⟩
  refine List.forall_mem_cons.mpr ⟨no_len (v := "") (by decide +kernel) (show ¬ (1 : Nat) = 0 by decide) (by decide +kernel) (by decide +kernel), ?_⟩
  refine List.forall_mem_cons.mpr ⟨no_open (.inr (.inr (.inl ⟨_, rfl, by decide +kernel⟩))), ?_⟩
  refine List.forall_mem_cons.mpr ⟨no_open (.inr (.inr (.inr ⟨("05" : Str), by simp, by decide +kernel⟩))), ?_⟩
  refine List.forall_mem_cons.mpr ⟨no_open (.inr (.inr (.inr ⟨("-1" : Str), by simp, by decide +kernel⟩))), ?_⟩
  refine List.forall_mem_cons.mpr ⟨no_open (.inr (.inl (by simp))), ?_⟩
  refine List.forall_mem_cons.mpr ⟨no_open (.inr (.inl (by simp))), ?_⟩
  refine List.forall_mem_cons.mpr ⟨no_open (.inr (.inl (by simp))), ?_⟩
  refine List.forall_mem_cons.mpr ⟨no_in (.inl (show (1 : Nat) < 3 by decide)), ?_⟩
  refine List.forall_mem_cons.mpr ⟨no_in (.inl (show (2 : Nat) < 3 by decide)), ?_⟩
  refine List.forall_mem_cons.mpr ⟨no_deed (deed_len (v := "nc") (by decide +kernel) (show ¬ (1 : Nat) = 2 by decide)), ?_⟩
  refine List.forall_mem_cons.mpr ⟨no_deed (deed_len (v := "nc") (by decide +kernel) (show ¬ (3 : Nat) = 2 by decide)), ?_⟩
  refine List.forall_mem_cons.mpr ⟨no_deed (deed_bad (v := "nc") (i := 0) (k := 110) (by decide +kernel) rfl rfl (by decide +kernel)), ?_⟩
  refine List.forall_mem_cons.mpr ⟨no_deed (deed_unk (by decide +kernel)), ?_⟩
  refine List.forall_mem_cons.mpr ⟨no_deed (deed_len (v := "c") (by decide +kernel) (show ¬ (0 : Nat) = 1 by decide)), ?_⟩
  refine List.forall_mem_cons.mpr ⟨no_deed (deed_bad (v := "c") (i := 0) (k := 99) (by decide +kernel) rfl rfl (by decide +kernel)), ?_⟩
  refine List.forall_mem_cons.mpr ⟨no_in (.inr (.inl rfl)), ?_⟩
  refine List.forall_mem_cons.mpr ⟨no_len (v := "ww") (by decide +kernel) (show ¬ (0 : Nat) = 2 by decide) (by decide +kernel) (by decide +kernel), ?_⟩
  refine List.forall_mem_cons.mpr ⟨no_len (v := "ww") (by decide +kernel) (show ¬ (1 : Nat) = 2 by decide) (by decide +kernel) (by decide +kernel), ?_⟩
  refine List.forall_mem_cons.mpr ⟨no_len (v := "w") (by decide +kernel) (show ¬ (0 : Nat) = 1 by decide) (by decide +kernel) (by decide +kernel), ?_⟩
  refine List.forall_mem_cons.mpr ⟨no_len (v := "w") (by decide +kernel) (show ¬ (2 : Nat) = 1 by decide) (by decide +kernel) (by decide +kernel), ?_⟩
  refine List.forall_mem_cons.mpr ⟨no_len (v := "wwwc") (by decide +kernel) (show ¬ (0 : Nat) = 4 by decide) (by decide +kernel) (by decide +kernel), ?_⟩
  refine List.forall_mem_cons.mpr ⟨no_len (v := "wwwc") (by decide +kernel) (show ¬ (2 : Nat) = 4 by decide) (by decide +kernel) (by decide +kernel), ?_⟩
  refine List.forall_mem_cons.mpr ⟨no_len (v := "w") (by decide +kernel) (show ¬ (0 : Nat) = 1 by decide) (by decide +kernel) (by decide +kernel), ?_⟩
  refine List.forall_mem_cons.mpr ⟨no_len (v := "w") (by decide +kernel) (show ¬ (0 : Nat) = 1 by decide) (by decide +kernel) (by decide +kernel), ?_⟩
  refine List.forall_mem_cons.mpr ⟨no_len (v := "w") (by decide +kernel) (show ¬ (0 : Nat) = 1 by decide) (by decide +kernel) (by decide +kernel), ?_⟩
  refine List.forall_mem_cons.mpr ⟨no_len (v := "ww") (by decide +kernel) (show ¬ (0 : Nat) = 2 by decide) (by decide +kernel) (by decide +kernel), ?_⟩
  refine List.forall_mem_cons.mpr ⟨no_len (v := "ww") (by decide +kernel) (show ¬ (1 : Nat) = 2 by decide) (by decide +kernel) (by decide +kernel), ?_⟩
  refine List.forall_mem_cons.mpr ⟨no_len (v := "ww") (by decide +kernel) (show ¬ (1 : Nat) = 2 by decide) (by decide +kernel) (by decide +kernel), ?_⟩
  refine List.forall_mem_cons.mpr ⟨no_len (v := "ww") (by decide +kernel) (show ¬ (1 : Nat) = 2 by decide) (by decide +kernel) (by decide +kernel), ?_⟩
  refine List.forall_mem_cons.mpr ⟨no_len (v := "w") (by decide +kernel) (show ¬ (0 : Nat) = 1 by decide) (by decide +kernel) (by decide +kernel), ?_⟩
  refine List.forall_mem_cons.mpr ⟨no_len (v := "w") (by decide +kernel) (show ¬ (2 : Nat) = 1 by decide) (by decide +kernel) (by decide +kernel), ?_⟩
  refine List.forall_mem_cons.mpr ⟨no_len (v := "wc") (by decide +kernel) (show ¬ (0 : Nat) = 2 by decide) (by decide +kernel) (by decide +kernel), ?_⟩
  refine List.forall_mem_cons.mpr ⟨no_len (v := "wc") (by decide +kernel) (show ¬ (1 : Nat) = 2 by decide) (by decide +kernel) (by decide +kernel), ?_⟩
  refine List.forall_mem_cons.mpr ⟨no_bad (v := "wc") (i := 1) (by decide +kernel) rfl rfl (nm_num ha) (by decide +kernel) (by decide +kernel), ?_⟩
  refine List.forall_mem_cons.mpr ⟨no_len (v := "w") (by decide +kernel) (show ¬ (0 : Nat) = 1 by decide) (by decide +kernel) (by decide +kernel), ?_⟩
  refine List.forall_mem_cons.mpr ⟨no_len (v := "w") (by decide +kernel) (show ¬ (0 : Nat) = 1 by decide) (by decide +kernel) (by decide +kernel), ?_⟩
  refine List.forall_mem_cons.mpr ⟨no_len (v := "w") (by decide +kernel) (show ¬ (0 : Nat) = 1 by decide) (by decide +kernel) (by decide +kernel), ?_⟩
  refine List.forall_mem_cons.mpr ⟨no_len (v := "wwc") (by decide +kernel) (show ¬ (1 : Nat) = 3 by decide) (by decide +kernel) (by decide +kernel), ?_⟩
  refine List.forall_mem_cons.mpr ⟨no_len (v := "wwc") (by decide +kernel) (show ¬ (2 : Nat) = 3 by decide) (by decide +kernel) (by decide +kernel), ?_⟩
  refine List.forall_mem_cons.mpr ⟨no_bad (v := "wwc") (i := 2) (by decide +kernel) rfl rfl (by decide +kernel) (by decide +kernel) (by decide +kernel), ?_⟩
  refine List.forall_mem_cons.mpr ⟨no_unk (by decide +kernel) (by decide +kernel) (by decide +kernel), ?_⟩
  refine List.forall_mem_cons.mpr ⟨no_unk (by decide +kernel) (by decide +kernel) (by decide +kernel), ?_⟩
  refine List.forall_mem_cons.mpr ⟨no_unk (by decide +kernel) (by decide +kernel) (by decide +kernel), ?_⟩
  refine List.forall_mem_cons.mpr ⟨no_unk (by decide +kernel) (by decide +kernel) (by decide +kernel), ?_⟩
  refine List.forall_mem_cons.mpr ⟨no_unk (by decide +kernel) (by decide +kernel) (by decide +kernel), ?_⟩
  refine List.forall_mem_cons.mpr ⟨no_unk (by decide +kernel) (by decide +kernel) (by decide +kernel), ?_⟩
  refine List.forall_mem_cons.mpr ⟨no_unk (by decide +kernel) (by decide +kernel) (by decide +kernel), ?_⟩
  exact fun _ z => absurd z (by simp)
theorem bent_no {n a b k : Str} (hn : IsName n) (ha : IsName a) (hb : IsName b) : ∀ ws ∈ lineWs n a b k, ∀ vs, Bent ws vs → noLine vs := by
  unfold lineWs
  refine List.forall_mem_cons.mpr ⟨fun vs h => bent_line (v := "ww") (by decide +kernel) rfl (by decide +kernel) (by decide +kernel) (by decide +kernel) (nm_last (xs := [n, b]) hb) (by decide +kernel) h, ?_⟩
  refine List.forall_mem_cons.mpr ⟨fun vs h => bent_line (v := "w") (by decide +kernel) rfl (by decide +kernel) (by decide +kernel) (by decide +kernel) (nm_last (xs := [n]) hn) (by decide +kernel) h, ?_⟩
  refine List.forall_mem_cons.mpr ⟨fun vs h => bent_line (v := "wwwc") (by decide +kernel) rfl (by decide +kernel) (by decide +kernel) (by decide +kernel) (fun _ _ _ => rfl) (by decide +kernel) h, ?_⟩
  refine List.forall_mem_cons.mpr ⟨fun vs h => bent_line (rest := []) (v := "") (by decide +kernel) rfl (by decide +kernel) (by decide +kernel) (by decide +kernel) (fun u e => nomatch (show none = some u from e)) (by decide +kernel) h, ?_⟩
  refine List.forall_mem_cons.mpr ⟨fun vs h => bent_line (v := "w") (by decide +kernel) rfl (by decide +kernel) (by decide +kernel) (by decide +kernel) (nm_last (xs := [n]) hn) (by decide +kernel) h, ?_⟩
  refine List.forall_mem_cons.mpr ⟨fun vs h => bent_line (v := "w") (by decide +kernel) rfl (by decide +kernel) (by decide +kernel) (by decide +kernel) (nm_last (xs := [n]) hn) (by decide +kernel) h, ?_⟩
  refine List.forall_mem_cons.mpr ⟨fun vs h => bent_line (v := "w") (by decide +kernel) rfl (by decide +kernel) (by decide +kernel) (by decide +kernel) (nm_last (xs := [n]) hn) (by decide +kernel) h, ?_⟩
  refine List.forall_mem_cons.mpr ⟨fun vs h => bent_line (v := "ww") (by decide +kernel) rfl (by decide +kernel) (by decide +kernel) (by decide +kernel) (nm_last (xs := [n, a]) ha) (by decide +kernel) h, ?_⟩
  refine List.forall_mem_cons.mpr ⟨fun vs h => bent_line (v := "ww") (by decide +kernel) rfl (by decide +kernel) (by decide +kernel) (by decide +kernel) (nm_last (xs := [n, a]) ha) (by decide +kernel) h, ?_⟩
  refine List.forall_mem_cons.mpr ⟨fun vs h => bent_line (v := "ww") (by decide +kernel) rfl (by decide +kernel) (by decide +kernel) (by decide +kernel) (nm_last (xs := [n, a]) ha) (by decide +kernel) h, ?_⟩
  refine List.forall_mem_cons.mpr ⟨fun vs h => bent_line (v := "w") (by decide +kernel) rfl (by decide +kernel) (by decide +kernel) (by decide +kernel) (nm_last (xs := [n]) hn) (by decide +kernel) h, ?_⟩
  refine List.forall_mem_cons.mpr ⟨fun vs h => bent_line (v := "wc") (by decide +kernel) rfl (by decide +kernel) (by decide +kernel) (by decide +kernel) (fun _ _ _ => rfl) (by decide +kernel) h, ?_⟩
  refine List.forall_mem_cons.mpr ⟨fun vs h => bent_line (v := "w") (by decide +kernel) rfl (by decide +kernel) (by decide +kernel) (by decide +kernel) (nm_last (xs := [n]) hn) (by decide +kernel) h, ?_⟩
  refine List.forall_mem_cons.mpr ⟨fun vs h => bent_line (v := "w") (by decide +kernel) rfl (by decide +kernel) (by decide +kernel) (by decide +kernel) (nm_last (xs := [n]) hn) (by decide +kernel) h, ?_⟩
  refine List.forall_mem_cons.mpr ⟨fun vs h => bent_line (v := "w") (by decide +kernel) rfl (by decide +kernel) (by decide +kernel) (by decide +kernel) (nm_last (xs := [n]) hn) (by decide +kernel) h, ?_⟩
  refine List.forall_mem_cons.mpr ⟨fun vs h => bent_line (v := "wwc") (by decide +kernel) rfl (by decide +kernel) (by decide +kernel) (by decide +kernel) (fun _ _ _ => rfl) (by decide +kernel) h, ?_⟩
  refine List.forall_mem_cons.mpr ⟨fun vs h => bent_in (v := "nc") (by decide +kernel) rfl (by simp) (fun _ _ _ => rfl) h, ?_⟩
  refine List.forall_mem_cons.mpr ⟨fun vs h => bent_in (v := "nn") (by decide +kernel) rfl (by simp) (nm_last (xs := [a, b]) hb) h, ?_⟩
  refine List.forall_mem_cons.mpr ⟨fun vs h => bent_in (v := "c") (by decide +kernel) rfl (by simp) (fun _ _ _ => rfl) h, ?_⟩
  exact fun _ z => absurd z (by simp)
theorem stput_over {m : Sto} {p q : Addr} {a s b : T} (h : q ≠ p) : stput (stput (stput m p a) q s) p b = stput (stput m q s) p b := by rw [stput_comm (Ne.symm h), stput_put]
theorem stput_up {m : Sto} {p q : Addr} {s a s' : T} (h : q ≠ p) : stput (stput (stput m q s) p a) q s' = stput (stput m q s') p a := by rw [stput_comm h, stput_put, stput_comm (Ne.symm h)]
theorem nm_nameB {z : Str} (h : IsName z) : nameB z = true := by
  have all : ∀ k : Fin 123, 97 ≤ k.val → k.val ∈ (Str.ofString "abcdefghijklmnopqrstuvwxyz").cps.toList := by decide +kernel
  unfold nameB
  rw [Bool.and_eq_true, decide_eq_true_eq, List.all_eq_true]
  refine ⟨⟨h.1, h.2.1⟩, fun c hc => ?_⟩
  have := h.2.2 c hc
  exact decide_eq_true (all ⟨c, by omega⟩ this.1)
theorem nm_lim {z : Str} (h : IsName z) : z.length ≤ lim := Nat.le_trans h.2.1 (by decide)
theorem lq_0 (n : Str) : Str.ofString "living " ++ n = Txt.join (Str.ofString " ") [Str.ofString "living", n] := by
  rw [jn2, jn1, ls_5, str_assoc]
theorem lq_1 (n : Str) : Str.ofString "bets " ++ n = Txt.join (Str.ofString " ") [Str.ofString "bets", n] := by
  rw [jn2, jn1, ls_12, str_assoc]
theorem ask_ok {w n : Str} (hw : w = "living" ∨ w = "bets") (hn : IsName n) : wsOk [w, n] := wsOk_of (by simp) (by simp) fun v hv => by
  rcases List.mem_cons.mp hv with rfl | z
  · rcases hw with rfl | rfl <;> (unfold okW; decide +kernel)
  · rw [List.mem_singleton.mp z]
    exact nm_ok hn
theorem new_yrs {t : List Int} {b : Int} {o : Bool} (h : okTab t = true) : (newS t o b).Yrs := ⟨fun z => (by
  have z : t = [] := z
  rw [z] at h
  exact absurd h (by decide)), fun p hp => nomatch (show p ∈ ([] : List (Str × Mem)) from hp)⟩
theorem sm_two {a b : Str} (ha : ∀ c ∈ a.cps.toList, c < 1114112) (hb : ∀ c ∈ b.cps.toList, c < 1114112) : Sm 7 (.list [.str a, .str b]) := ⟨Nat.lt_trans (show (2 : Nat) < 3 by decide) (by decide), fun x hx => by
  rcases List.mem_cons.mp hx with z | z
  · rw [z]; exact sm_str ha
  · rw [List.mem_singleton.mp z]; exact sm_str hb⟩
def k60D (n1 n2 : Str) (c : Int) : List Deed := [.join n1 0, .join n2 1, .pay n1 c]
def k60Y (n1 n2 : Str) (c b : Int) (o : Bool) (i : Nat) : Soc := ((k60D n1 n2 c).take i).foldl Soc.did (newY [4, 6] b o)
theorem k60_y1 {n1 n2 : Str} {c b : Int} {o : Bool} : (k60Y n1 n2 c b o 1).cur = ⟨[4, 6], o, b, [(n1, ⟨0, 0, true⟩)], [], [], []⟩ := rfl
theorem k60_y2 {n1 n2 : Str} {c b : Int} {o : Bool} : (k60Y n1 n2 c b o 2).cur = ⟨[4, 6], o, b, [(n1, ⟨0, 0, true⟩), (n2, ⟨1, 0, true⟩)], [], [], []⟩ := rfl
theorem k60_y3 {n1 n2 : Str} {c b : Int} {o : Bool} (h : n1 ≠ n2) : (k60Y n1 n2 c b o 3).cur = ⟨[4, 6], o, b, [(n1, ⟨0, 0 + c, true⟩), (n2, ⟨1, 0, true⟩)], [], [], []⟩ := by
  show (Std.paid (k60Y n1 n2 c b o 2).cur n1 c) = _
  rw [k60_y2]
  unfold Std.paid
  show (⟨_, _, _, [updM n1 (addC c) (n1, _), updM n1 (addC c) (n2, _)], _, _, _⟩ : Std) = _
  rw [show updM n1 (addC c) (n1, (⟨0, 0, true⟩ : Mem)) = (n1, ⟨0, 0 + c, true⟩) from if_pos rfl, show updM n1 (addC c) (n2, (⟨1, 0, true⟩ : Mem)) = (n2, ⟨1, 0, true⟩) from if_neg (Ne.symm h)]
theorem k60_step {n1 n2 : Str} {c b : Int} {o : Bool} (h1 : IsName n1) (h2 : IsName n2) (hne : n1 ≠ n2) (c0 : 1 ≤ c) (c1 : c ≤ 1000000) : ∀ i d, (k60D n1 n2 c)[i]? = some d → d.jp = true ∧ (k60Y n1 n2 c b o i).cur.Ok ∧ (k60Y n1 n2 c b o i).stands.length < lim ∧ (k60Y n1 n2 c b o i).done.length < lim ∧ d.res (k60Y n1 n2 c b o i).cur = none ∧ k60Y n1 n2 c b o (i + 1) = (k60Y n1 n2 c b o i).did d
  | 0, d, e => by
    cases (show some (Deed.join n1 0) = some d from e)
    refine ⟨decide_eq_true (nm_lim h1), ⟨List.nodup_nil, show (0 : Nat) < lim by decide, show (0 : Nat) ≤ 1 by decide, fun h m => nomatch (show h ∈ ([] : List PyData) from m)⟩, show (1 : Nat) < lim by decide, show (0 : Nat) < lim by decide, ?_, rfl⟩
    show Std.joinR ⟨[4, 6], o, b, [], [], [], []⟩ n1 0 = none
    simp [Std.joinR, nm_nameB h1, valG_nil, aliveN, aliveP]
  | 1, d, e => by
    cases (show some (Deed.join n2 1) = some d from e)
    refine ⟨decide_eq_true (nm_lim h2), ?_, show (2 : Nat) < lim by decide, show (1 : Nat) < lim by decide, ?_, rfl⟩
    · rw [k60_y1]
      exact ⟨by simp, by simp; decide, by simp, fun h m => nomatch (show h ∈ ([] : List PyData) from m)⟩
    · rw [k60_y1]
      show Std.joinR _ n2 1 = none
      simp [Std.joinR, nm_nameB h2, valG_nil, valG_cons, aliveN, aliveP, hne]
  | 2, d, e => by
    cases (show some (Deed.pay n1 c) = some d from e)
    refine ⟨rfl, ?_, show (3 : Nat) < lim by decide, show (2 : Nat) < lim by decide, ?_, rfl⟩
    · rw [k60_y2]
      exact ⟨by simp [hne], by simp; decide, by simp, fun h m => nomatch (show h ∈ ([] : List PyData) from m)⟩
    · rw [k60_y2]
      show Std.payR _ n1 c = none
      simp [Std.payR, valG_cons, c0, c1]
  | i + 3, d, e => nomatch (show none = some d from e)
theorem sm_l {n : Nat} {xs : List PyData} (hl : xs.length < 1000) (h : ∀ x ∈ xs, Sm n x) : Sm (n + 1) (.list xs) := ⟨hl, h⟩
theorem sm_t {n : Nat} {xs : List PyData} (hl : xs.length < 1000) (h : ∀ x ∈ xs, Sm n x) : Sm (n + 1) (.tuple xs) := ⟨hl, h⟩
theorem k60_sm {n1 n2 : Str} {c b t : Int} {o : Bool} {a1 a2 : Int} (h1 : IsName n1) (h2 : IsName n2) : Sm 7 (.list [.list [.str n1, .str n2], .list [.str n1, .str n2], .bool o, .list [.int 4, .int 6], .int b, .int t, .list [.tuple [.str "join", .str n1, .int 0], .tuple [.str "join", .str n2, .int 1], .tuple [.str "pay", .str n1, .int c]], .list [], .list [], .list [.tuple [.str n1, .int 0, .int (0 + c)], .tuple [.int (0 + c), .int a1, .list []], .tuple [.str n2, .int 1, .int 0], .tuple [.int 0, .int a2, .list []]]]) := by
  have j1 : ∀ c ∈ (Str.ofString "join").cps.toList, c < 1114112 := by decide +kernel
  have j2 : ∀ c ∈ (Str.ofString "pay").cps.toList, c < 1114112 := by decide +kernel
  repeat' (first | exact sm_int | exact sm_bool | exact sm_name h1 | exact sm_name h2 | exact sm_str j1 | exact sm_str j2 | exact fm_nil | (refine List.forall_mem_cons.mpr ⟨?_, ?_⟩) | (refine sm_l (by simp) ?_) | (refine sm_t (by simp) ?_))
theorem k60_seen {n1 n2 : Str} {c b : Int} {o : Bool} {Y : Soc} (h1 : IsName n1) (h2 : IsName n2) (y3 : Y.cur = ⟨[4, 6], o, b, [(n1, ⟨0, 0 + c, true⟩), (n2, ⟨1, 0, true⟩)], [], [], []⟩) (yd : Y.done = (k60D n1 n2 c).map Deed.row) : Sm 7 (.list (seenL Y)) := by
  unfold seenL
  rw [y3, yd]
  exact k60_sm h1 h2
section
variable {P : Program} {w : World} {K : PySem.W.Frag} {mg : Str → Option Value} {base : Heap}
theorem ok_law {f fb : Addr} {fd fdb : FuncData} {C_House : Addr} (cf_House : CF K C_House ks_House) {C_Member : Addr} (cf_Member : CF K C_Member ks_Member) {C_Stand : Addr} (cf_Stand : CF K C_Stand ks_Stand) {C_Society : Addr} (cf_Society : CF K C_Society ks_Society) (F : Fun K "law" "law" st_law f fd) (B : FnOk P w K mg base CX0 1 fb fdb ["_law_script"] (spBox K)) (mB : mg "_law_box" = some (.ref fb)) (kB : PySem.W.keepIn K (.ref fb) = true) (bB : Binds K fdb ["_law_script"] []) (C_l_names : Cal P w K mg base "_law_names" ["_law_box_here", "_law_many"] 2 S_l_names) (C_l_seen : Cal P w K mg base "_law_seen" ["_law_society"] 7 (S_l_seen C_Member C_Stand C_Society)) (C_l_nearly : Cal P w K mg base "_law_nearly" ["_law_name", "_law_one"] 1 S_l_nearly) (C_l_same : Cal P w K mg base "_law_same" ["_law_found", "_law_due"] 8 (S_same 8)) (C_l_take : Cal P w K mg base "_law_take" ["_law_box_here", "_law_many"] 1 S_l_take) (C_l_no_form : Cal P w K mg base "_law_no_form" ["_law_box_here", "_law_line_here"] 2 S_l_no_form) (C_l_line : Cal P w K mg base "_law_line" ["_law_box_here", "_law_name", "_law_one", "_law_two"] 2 S_l_line) (M_House_open_one : MthS (L2.CX P w) P w K mg base C_House "open_one" ["self", "name", "table", "blanks", "tied"] 6 (S_m_House_open_one C_Member C_Stand C_Society C_House)) (M_House_deed : MthS (L2.CX P w) P w K mg base C_House "deed" ["self", "name", "row"] 8 (S_m_House_deed C_Member C_Stand C_Society C_House)) (M_House_view : MthS (L2.CX P w) P w K mg base C_House "view" ["self", "name"] 7 (S_m_House_view C_Member C_Stand C_Society C_House)) (M_House_say : MthS CX0 P w K mg base C_House "say" ["self", "line"] 9 (S_m_House_say C_Member C_Stand C_Society C_House)) (M_House_names : MthP CX0 P w K mg base C_House "names" ["self"] 1 (S_m_House_names C_House)) (MK_House : MkS CX0 P w K mg base "House" C_House ["self"] 1 (S_m_House_init C_House)) (m_range : mg "range" = none) :
    FnOk P w K mg base CX0 10 f fd ["_law_script"] (spOf0 K) := by
  refine law_okO (kk := 8) (dn := "%") F sc_law rfl B mB kB bB (by decide) rfl (by decide +kernel) (fun cdv A outer s H E hr => ps_set (i := 1) sc_law.nd rfl (by first | exact .inl rfl | exact .inr rfl) (pe_call B (hr.mono (by decide)) (by rfl) mB kB bB .nil pass0 (pa_cons (pv 0) pa_nil))) (fun cdv A outer s H E hr => s_cons (s_asgX 2 sc_law.nd (x_make0 (k := 8) .calm MK_House hr))
    (s_cons (s_asg 3 sc_law.nd (d_fr (d_callC C_l_names hr (a_cons (d_var 1) (a_cons d_int a_nil)))))
    (s_cons (s_ifX (xt_not (xt_val (x_callP C_l_same hr (xa_cons (x_meth (k := 8) (ks := ks_House) .calm M_House_say hr (x_pu (d_var 2)) (xa_pu (a_cons d_str a_nil))) (xa_cons (x_pu d_str) xa_nil))))) (s_one (s_retN (x_pu d_bl)))
      s_nil)
    (s_cons (s_dropX (x_meth (k := 8) (ks := ks_House) (.out takes0) M_House_open_one hr (x_pu (d_var 2)) (xa_pu (a_cons (d_at (d_var 3) d_int) (a_cons (d_lst (a_cons d_int (a_cons d_int a_nil))) (a_cons (d_callC C_l_take hr (a_cons (d_var 1) (a_cons d_int a_nil))) (a_cons (d_eq hr.units (d_callC C_l_take hr (a_cons (d_var 1) (a_cons d_int a_nil))) d_int) a_nil)))))))
    (s_cons (s_ifX (xt_not (xt_val (x_callP C_l_same hr (xa_cons (x_lst (xa_cons (x_meth (k := 8) (ks := ks_House) .calm M_House_say hr (x_pu (d_var 2)) (xa_pu (a_cons (d_addS d_str (d_at (d_var 3) d_int)) a_nil))) (xa_cons (x_meth (k := 8) (ks := ks_House) .calm M_House_say hr (x_pu (d_var 2)) (xa_pu (a_cons (d_addS d_str (d_at (d_var 3) d_int)) a_nil))) xa_nil))) (xa_cons (x_pu (d_lst (a_cons d_str (a_cons d_str a_nil)))) xa_nil))))) (s_one (s_retN (x_pu d_bl)))
      s_nil)
    (s_cons (s_for (ts := [4]) PassesOwn.never rfl (i_tup (d_tup (a_cons (d_tup (a_cons d_str (a_cons (d_at (d_var 3) d_int) (a_cons d_int a_nil)))) (a_cons (d_tup (a_cons d_str (a_cons (d_at (d_var 3) d_int) (a_cons d_int a_nil)))) (a_cons (d_tup (a_cons d_str (a_cons (d_at (d_var 3) d_int) (a_cons (d_add d_int (d_callC C_l_take hr (a_cons (d_var 1) (a_cons d_int a_nil)))) a_nil)))) a_nil))))) (g_name 4 sc_law.nd)
      (s_one (s_dropX (x_meth (k := 8) (ks := ks_House) (.out takes0) M_House_deed hr (x_pu (d_var 2)) (xa_pu (a_cons (d_at (d_var 3) d_int) (a_cons (d_var 4) a_nil)))))))
    (s_cons (s_asgX 5 sc_law.nd (x_callP C_l_seen hr (xa_cons (x_fix 8 (x_meth (k := 8) (ks := ks_House) (.out takes0) M_House_view hr (x_pu (d_var 2)) (xa_pu (a_cons (d_at (d_var 3) d_int) a_nil)))) xa_nil)))
    (s_frz 5 (s_cons (s_for (ts := [6]) PassesOwn.never rfl (i_rng1 m_range (a_cons (d_add d_int (d_callC C_l_take hr (a_cons (d_var 1) (a_cons d_int a_nil)))) a_nil)) (g_name 6 sc_law.nd)
      (s_cons (s_asg 7 sc_law.nd (d_fr (d_callC C_l_no_form hr (a_cons (d_var 1) (a_cons (d_callC C_l_line hr (a_cons (d_var 1) (a_cons (d_at (d_var 3) d_int) (a_cons (d_at (d_var 3) d_int) (a_cons (d_at (d_var 3) d_int) a_nil))))) a_nil)))))
    (s_one (s_ifX (xt_not (xt_val (x_callP C_l_same hr (xa_cons (x_meth (k := 8) (ks := ks_House) .calm M_House_say hr (x_pu (d_var 2)) (xa_pu (a_cons (d_var 7) a_nil))) (xa_cons (x_pu d_str) xa_nil))))) (s_one (s_retN (x_pu d_bl)))
      s_nil))))
    (s_cons (s_for (ts := [7]) PassesOwn.never rfl (i_list (d_callC C_l_nearly hr (a_cons (d_at (d_var 3) d_int) (a_cons (d_at (d_var 3) d_int) a_nil)))) (g_name 7 sc_law.nd)
      (s_one (s_ifX (xt_not (xt_val (x_callP C_l_same hr (xa_cons (x_meth (k := 8) (ks := ks_House) .calm M_House_say hr (x_pu (d_var 2)) (xa_pu (a_cons (d_var 7) a_nil))) (xa_cons (x_pu d_str) xa_nil))))) (s_one (s_retN (x_pu d_bl)))
      s_nil)))
    (s_one (s_retN (x_and (x_pu (d_bor2 (d_callC C_l_same hr (a_cons (d_meth0 (ks := ks_House) .calm M_House_names hr (d_res (k := 8) (d_var 2))) (a_cons (d_sl (d_var 3) o_none (o_some d_int)) a_nil))))) (x_one (x_callP C_l_same hr (xa_cons (x_callP C_l_seen hr (xa_cons (x_fix 8 (x_meth (k := 8) (ks := ks_House) (.out takes0) M_House_view hr (x_pu (d_var 2)) (xa_pu (a_cons (d_at (d_var 3) d_int) a_nil)))) xa_nil)) (xa_cons (x_pu (d_var 5)) xa_nil))))))))))))))))) ?spec
  case spec =>
    walk_at "ds"
    intro p
    refine ⟨p, _, rfl, rfl, rfl, 3, rfl, by decide, by decide, fun ns hl hn nd => ?_⟩
    obtain ⟨n0, n1, n2, rfl⟩ : ∃ n0 n1 n2, ns = [n0, n1, n2] := by
      match ns, hl with
      | [a, b, c], _ => exact ⟨a, b, c, rfl⟩
    have h0 : IsName n0 := hn _ (by simp)
    have h1 : IsName n1 := hn _ (by simp)
    have h2 : IsName n2 := hn _ (by simp)
    have ok1 : wsOk [("names" : Str)] := wsOk_of (by simp) (by simp) (by unfold okW; decide +kernel)
    refine ⟨_, stput_same, p, _, [], [("names" : Str)], .str "none", by rw [jn1], rfl, rfl, ok1, .inr (.inl ⟨rfl, rfl, rfl⟩), _, rfl, sm_str (by decide +kernel), ?_⟩
    walk_at "ds"
    refine ⟨_, at_st (k := 0) (z := n0) rfl, by decide, by decide, by decide, fun r r0 r1 => ⟨by decide, by decide, fun o o0 o1 => ?_⟩⟩
    refine ⟨p, _, [], n0, [4, 6], r, decide (o = 1), rfl, rfl, nm_lim h0, nm_nameB h0, rfl, by decide, by decide, ⟨r0, by omega⟩, fun q hq => ?_⟩
    have qp : q ≠ p := fun z => by rw [z, stput_same] at hq; cases hq
    have pq : p ≠ q := Ne.symm qp
    simp only [stput_over qp]
    have tk : okTab [4, 6] = true := by decide
    have vq : valG ([] ++ [(n0, q)]) n0 = some q := by
      show valG [(n0, q)] n0 = some q
      rw [valG_cons, if_pos rfl]
    have mp : ∀ t : T, stput (fun _ => none) q t p = none := fun t => by rw [stput_ne pq]
    have l2 : (Str.ofString "living ").length = 7 := by decide +kernel
    have l3 : (Str.ofString "bets ").length = 5 := by decide +kernel
    have n08 := h0.2.1
    refine ⟨_, stput_same, _, at_st (k := 0) (z := n0) rfl, ?_⟩
    walk_at "ds"
    refine ⟨Nat.le_trans (by rw [l2]; omega : _ ≤ 15) (by decide), p, _, _, _, .str "none", by rw [lq_0], rfl, mp _, ask_ok (.inl rfl) h0, .inr (.inr ⟨n0, q, _, ⟨_, rfl, .inl ⟨rfl, rfl, new_yrs tk⟩⟩, nm_ne h0, vq, stput_same, tk, rfl⟩), ?_⟩
    walk_at "ds"
    refine ⟨_, at_st (k := 0) (z := n0) rfl, ?_⟩
    walk_at "ds"
    refine ⟨Nat.le_trans (by rw [l3]; omega : _ ≤ 15) (by decide), p, _, _, _, .str "none", by rw [lq_1], rfl, mp _, ask_ok (.inr rfl) h0, .inr (.inr ⟨n0, q, _, ⟨_, rfl, .inr ⟨rfl, rfl⟩⟩, nm_ne h0, vq, stput_same, tk, rfl⟩), ?_⟩
    walk_at "ds"
    refine ⟨by decide, by decide, _, rfl, sm_two (by decide +kernel) (by decide +kernel), ?_⟩
    walk_at "ds"
    refine for_raw ?_
    walk_at "ds"
    have ne12 : n1 ≠ n2 := fun z => by rw [z] at nd; simp at nd
    refine ⟨_, at_st (k := 1) (z := n1) rfl, by decide, _, at_st (k := 2) (z := n2) rfl, by decide, _, at_st (k := 1) (z := n1) rfl, by decide, by decide, fun c c0 c1 => ⟨by decide, by decide, ?_⟩⟩
    refine ⟨fun i ρ' => ∃ x4, ρ' = [none, some (T.leaf bx), some (T.leaf (objD p)), some (T.leaf (.list (strsD [n0, n1, n2]))), x4, none, none, none, some (T.sto (stput (stput (fun _ => none) q (socT C_Member C_Stand C_Society (k60Y n1 n2 (1 + c) r (decide (o = 1)) i))) p (houT C_House [(n0, q)])))], ⟨none, rfl⟩, ?_, ?_⟩
    · rintro i d ρ' hd ⟨x4, rfl⟩
      have hd2 : ∃ e : Deed, d = e.row ∧ (k60D n1 n2 (1 + c))[i]? = some e := by
        match i, hd with
        | 0, hd => exact ⟨.join n1 0, (Option.some.inj hd).symm, rfl⟩
        | 1, hd => exact ⟨.join n2 1, (Option.some.inj hd).symm, rfl⟩
        | 2, hd => exact ⟨.pay n1 (1 + c), (Option.some.inj hd).symm, rfl⟩
      obtain ⟨e, rfl, he⟩ := hd2
      obtain ⟨s1, s2, s3, s4, s5, s6⟩ := k60_step (b := r) (o := decide (o = 1)) h1 h2 ne12 (by omega : 1 ≤ 1 + c) (by omega) i e he
      walk_at "ds"
      refine ⟨_, at_st (k := 0) (z := n0) rfl, p, _, [(n0, q)], n0, q, _, e, rfl, rfl, vq, qp, stput_same, s1, s2, s3, s4, fun _ => ?_, fun e2 z => (by rw [s5] at z; cases z)⟩
      rw [stput_up qp, ← s6]
      exact ⟨_, rfl⟩
    · rintro ρ' ⟨x4, rfl⟩
      have y3 := k60_y3 (c := 1 + c) (b := r) (o := decide (o = 1)) ne12
      have yd : (k60Y n1 n2 (1 + c) r (decide (o = 1)) 3).done = (k60D n1 n2 (1 + c)).map Deed.row := rfl
      generalize k60Y n1 n2 (1 + c) r (decide (o = 1)) 3 = Y at y3 yd
      walk_at "ds"
      have yt : okTab Y.cur.byAge = true := by rw [y3]; exact tk
      have ynd : (Y.cur.people.map (·.1)).Nodup := by rw [y3]; simp [ne12]
      have yl : Y.cur.people.length < 1000 := by rw [y3]; exact (show (2 : Nat) < 1000 by decide)
      have yh : Y.cur.hand = [] := by rw [y3]
      have yy : Y.cur.Yrs := by
        rw [y3]
        exact ⟨by simp, fun x hx => by simp at hx; rcases hx with rfl | rfl <;> simp⟩
      refine ⟨_, at_st (k := 0) (z := n0) rfl, p, _, [(n0, q)], n0, q, Y, rfl, rfl, vq, qp, stput_same, yt, fun q2 hq2 => ⟨q2, rfl, _, stput_same, ?_⟩⟩
      simp only [stdel_put hq2]
      refine ⟨Y, rfl, ynd, yl, yy, yh, ?_⟩
      refine for_raw ?_
      walk_at "ds"
      have snl : ∀ c ∈ (Str.ofString "no line").cps.toList, c < 1114112 := by decide +kernel
      have saying : ∀ (vs : List Str) (Q : T → Sto → Prop) (x : Str → PyData → Sto → Prop), wsOk vs → noLine vs → Q (.leaf (.str (Str.ofString "no line"))) (stput (stput (fun _ => none) q (socT C_Member C_Stand C_Society Y)) p (houT C_House [(n0, q)])) → S_m_House_say C_Member C_Stand C_Society C_House [objD p, .str (Txt.join (Str.ofString " ") vs)] (stput (stput (fun _ => none) q (socT C_Member C_Stand C_Society Y)) p (houT C_House [(n0, q)])) Q x := fun vs Q x w1 w2 hq => ⟨p, _, _, vs, .none, rfl, rfl, mp _, w1, .inl ⟨w2, rfl⟩, hq⟩
      refine ⟨by decide, by decide, fun m m0 m1 => ⟨⟨by omega, by omega⟩, fun i ρ' => ∃ x6 x7, ρ' = [none, some (T.leaf bx), some (T.leaf (objD p)), some (T.leaf (.list (strsD [n0, n1, n2]))), x4, some (T.leaf (.list (seenL Y))), x6, x7, some (T.sto (stput (stput (fun _ => none) q (socT C_Member C_Stand C_Society Y)) p (houT C_House [(n0, q)])))], ⟨none, none, rfl⟩, ?_, ?_⟩⟩
      · rintro i d ρ' hd ⟨x6, x7, rfl⟩
        walk_at "ds"
        refine ⟨_, at_st (k := 0) (z := n0) rfl, _, at_st (k := 1) (z := n1) rfl, _, at_st (k := 2) (z := n2) rfl, n0, n1, n2, rfl, h0.2.1, h1.2.1, h2.2.1, fun k ws k0 k1 hws => ?_⟩
        obtain ⟨w1, w2, w3⟩ := line_ok h0 h1 h2 (num_okN k0 k1) ws hws
        have w4 := line_first ws hws
        refine ⟨ws, rfl, w1, w2, w3, fun u hu => Nat.le_trans (w4 u hu).1.2 (by decide), fun vs hv => ?_⟩
        walk_at "ds"
        refine saying vs _ _ (bent_ok w1 w2 (fun w hm => ⟨(w3 w hm).1, (w3 w hm).2.2⟩) w4 hv) (bent_no h0 h1 h2 ws hws vs hv) ?_
        refine ⟨_, rfl, sm_str snl, ?_⟩
        walk_at "ds"
        exact ⟨_, _, rfl⟩
      · rintro ρ' ⟨x6, x7, rfl⟩
        refine for_raw ?_
        walk_at "ds"
        refine ⟨_, at_st (k := 0) (z := n0) rfl, _, at_st (k := 1) (z := n1) rfl, n0, n1, rfl, h0.2.1, h1.2.1, ?_⟩
        walk_at "ds"
        refine ⟨fun i ρ' => ∃ x7, ρ' = [none, some (T.leaf bx), some (T.leaf (objD p)), some (T.leaf (.list (strsD [n0, n1, n2]))), x4, some (T.leaf (.list (seenL Y))), x6, x7, some (T.sto (stput (stput (fun _ => none) q (socT C_Member C_Stand C_Society Y)) p (houT C_House [(n0, q)])))], ⟨_, rfl⟩, ?_, ?_⟩
        · rintro i d ρ' hd ⟨x7, rfl⟩
          rw [List.getElem?_map] at hd
          cases e : (nearWs n0 n1)[i]? with
          | none => rw [e] at hd; cases hd
          | some ws =>
            rw [e] at hd
            cases hd
            have hm := List.mem_of_getElem? e
            walk_at "ds"
            refine saying ws _ _ (near_wsOk h0 h1 hm) (near_no h0 h1 ws hm) ?_
            refine ⟨_, rfl, sm_str snl, ?_⟩
            walk_at "ds"
            exact ⟨_, rfl⟩
        · rintro ρ' ⟨x7, rfl⟩
          walk_at "ds"
          refine ⟨[(n0, q)], rfl, ?_⟩
          rw [show cutD (strsD [n0, n1, n2]) none (some 1) = strsD [n0] from cut_all 1 [n0, n1, n2]]
          refine ⟨.list (strsD [n0]), by rw [leaves_dat]; rfl, ⟨show (1 : Nat) < 1000 by decide, fun x hx => by rw [List.mem_singleton.mp (show x ∈ [PyData.str n0] from hx)]; exact sm_name h0⟩, rfl, true, rfl, fun _ => ?_, fun z => nomatch z⟩
          refine ⟨_, at_st (k := 0) (z := n0) rfl, p, _, [(n0, q)], n0, q, Y, rfl, rfl, vq, qp, stput_same, yt, fun q2 hq2 => ⟨q2, rfl, _, stput_same, ?_⟩⟩
          refine ⟨Y, rfl, ynd, yl, yy, yh, _, by rw [leaves_dat], k60_seen h1 h2 y3 yd, ?_⟩
          rfl
end
theorem all_mk {l : PySem.W.OpenLaw} {w : World} {K : PySem.W.Frag} {h : Heap} {mg : Str → Option Value} {fa : Addr} (X : K.In h) (G : h.Ns mainGlobals mg) (hfa : mg "law" = some (.ref fa))
    {C_Society : Addr} (aCSociety : PySem.W.nsIn K mainGlobals "Society" = some (some (.ref C_Society))) (pgSociety : PySem.W.plainGet K C_Society Str.empty = true) (hdSociety : PySem.W.hasDictIn K C_Society = true) (poSociety : PySem.W.plainOver K C_Society = true) (saSociety : PySem.W.findIn K (.ref C_Society) "__setattr__" = some (some (.builtin "object.__setattr__"))) (mkSociety : PySem.W.makesIn K C_Society = true) (kcSociety : PySem.W.keepIn K (.ref C_Society) = true)
    (nf0Society : PySem.W.findIn K (.ref C_Society) "stands" = some none)
    (nf1Society : PySem.W.findIn K (.ref C_Society) "done" = some none)
    (nf2Society : PySem.W.findIn K (.ref C_Society) "undone" = some none)
    {C_Member : Addr} (aCMember : PySem.W.nsIn K mainGlobals "Member" = some (some (.ref C_Member))) (pgMember : PySem.W.plainGet K C_Member Str.empty = true) (hdMember : PySem.W.hasDictIn K C_Member = true) (poMember : PySem.W.plainOver K C_Member = true) (saMember : PySem.W.findIn K (.ref C_Member) "__setattr__" = some (some (.builtin "object.__setattr__"))) (mkMember : PySem.W.makesIn K C_Member = true) (kcMember : PySem.W.keepIn K (.ref C_Member) = true)
    (nf0Member : PySem.W.findIn K (.ref C_Member) "years" = some none)
    (nf1Member : PySem.W.findIn K (.ref C_Member) "purse" = some none)
    (nf2Member : PySem.W.findIn K (.ref C_Member) "alive" = some none)
    {C_Stand : Addr} (aCStand : PySem.W.nsIn K mainGlobals "Stand" = some (some (.ref C_Stand))) (pgStand : PySem.W.plainGet K C_Stand Str.empty = true) (hdStand : PySem.W.hasDictIn K C_Stand = true) (poStand : PySem.W.plainOver K C_Stand = true) (saStand : PySem.W.findIn K (.ref C_Stand) "__setattr__" = some (some (.builtin "object.__setattr__"))) (mkStand : PySem.W.makesIn K C_Stand = true) (kcStand : PySem.W.keepIn K (.ref C_Stand) = true)
    (nf0Stand : PySem.W.findIn K (.ref C_Stand) "by_age" = some none)
    (nf1Stand : PySem.W.findIn K (.ref C_Stand) "only_tied" = some none)
    (nf2Stand : PySem.W.findIn K (.ref C_Stand) "many" = some none)
    (nf3Stand : PySem.W.findIn K (.ref C_Stand) "people" = some none)
    (nf4Stand : PySem.W.findIn K (.ref C_Stand) "pairs" = some none)
    (nf5Stand : PySem.W.findIn K (.ref C_Stand) "hand" = some none)
    (nf6Stand : PySem.W.findIn K (.ref C_Stand) "history" = some none)
    {C_House : Addr} (aCHouse : PySem.W.nsIn K mainGlobals "House" = some (some (.ref C_House))) (pgHouse : PySem.W.plainGet K C_House Str.empty = true) (hdHouse : PySem.W.hasDictIn K C_House = true) (poHouse : PySem.W.plainOver K C_House = true) (saHouse : PySem.W.findIn K (.ref C_House) "__setattr__" = some (some (.builtin "object.__setattr__"))) (mkHouse : PySem.W.makesIn K C_House = true) (kcHouse : PySem.W.keepIn K (.ref C_House) = true)
    (nf0House : PySem.W.findIn K (.ref C_House) "kept" = some none)
    {f1 : Addr} {od1 an1 : Option Addr} {sl1 : Array (Option Value)} {oc1 kV1 dc1 pm1 cd1 ct1 : Value}
    (a1 : PySem.W.nsIn K mainGlobals "_law_box" = some (some (.ref f1))) (l1 : K.lookup f1 = some ⟨oc1, od1, .func (PySem.W.fnOf "_law_box" "_law_box" (defArgs st_l_box) (defBody st_l_box) (defScope st_l_box) .none kV1 dc1 pm1 an1 cd1 ct1), sl1⟩) (c1 : PySem.W.codeIn K cd1 "_law_box" = true) (k1 : PySem.W.keepIn K (.ref f1) = true)
    {f2 : Addr} {od2 an2 : Option Addr} {sl2 : Array (Option Value)} {oc2 kV2 dc2 pm2 cd2 ct2 : Value}
    (a2 : PySem.W.nsIn K mainGlobals "_law_take" = some (some (.ref f2))) (l2 : K.lookup f2 = some ⟨oc2, od2, .func (PySem.W.fnOf "_law_take" "_law_take" (defArgs st_l_take) (defBody st_l_take) (defScope st_l_take) .none kV2 dc2 pm2 an2 cd2 ct2), sl2⟩) (c2 : PySem.W.codeIn K cd2 "_law_take" = true) (k2 : PySem.W.keepIn K (.ref f2) = true)
    {f3 : Addr} {od3 an3 : Option Addr} {sl3 : Array (Option Value)} {oc3 kV3 dc3 pm3 cd3 ct3 : Value}
    (a3 : PySem.W.nsIn K mainGlobals "_law_names" = some (some (.ref f3))) (l3 : K.lookup f3 = some ⟨oc3, od3, .func (PySem.W.fnOf "_law_names" "_law_names" (defArgs st_l_names) (defBody st_l_names) (defScope st_l_names) .none kV3 dc3 pm3 an3 cd3 ct3), sl3⟩) (c3 : PySem.W.codeIn K cd3 "_law_names" = true) (k3 : PySem.W.keepIn K (.ref f3) = true)
    {f4 : Addr} {od4 an4 : Option Addr} {sl4 : Array (Option Value)} {oc4 kV4 dc4 pm4 cd4 ct4 : Value}
    (a4 : PySem.W.findIn K (.ref C_Society) "now" = some (some (.ref f4))) (i4 : PySem.W.isFn K (.ref f4) = true) (l4 : K.lookup f4 = some ⟨oc4, od4, .func (PySem.W.fnOf "now" "Society.now" (defArgs st_m_Society_now) (defBody st_m_Society_now) (defScope st_m_Society_now) .none kV4 dc4 pm4 an4 cd4 ct4), sl4⟩) (c4 : PySem.W.codeIn K cd4 "Society.now" = true) (k4 : PySem.W.keepIn K (.ref f4) = true)
    {f5 : Addr} {od5 an5 : Option Addr} {sl5 : Array (Option Value)} {oc5 kV5 dc5 pm5 cd5 ct5 : Value}
    (a5 : PySem.W.findIn K (.ref C_Society) "names" = some (some (.ref f5))) (i5 : PySem.W.isFn K (.ref f5) = true) (l5 : K.lookup f5 = some ⟨oc5, od5, .func (PySem.W.fnOf "names" "Society.names" (defArgs st_m_Society_names) (defBody st_m_Society_names) (defScope st_m_Society_names) .none kV5 dc5 pm5 an5 cd5 ct5), sl5⟩) (c5 : PySem.W.codeIn K cd5 "Society.names" = true) (k5 : PySem.W.keepIn K (.ref f5) = true)
    {f6 : Addr} {od6 an6 : Option Addr} {sl6 : Array (Option Value)} {oc6 kV6 dc6 pm6 cd6 ct6 : Value}
    (a6 : PySem.W.findIn K (.ref C_Stand) "alive_names" = some (some (.ref f6))) (i6 : PySem.W.isFn K (.ref f6) = true) (l6 : K.lookup f6 = some ⟨oc6, od6, .func (PySem.W.fnOf "alive_names" "Stand.alive_names" (defArgs st_m_Stand_alive_names) (defBody st_m_Stand_alive_names) (defScope st_m_Stand_alive_names) .none kV6 dc6 pm6 an6 cd6 ct6), sl6⟩) (c6 : PySem.W.codeIn K cd6 "Stand.alive_names" = true) (k6 : PySem.W.keepIn K (.ref f6) = true)
    {f7 : Addr} {od7 an7 : Option Addr} {sl7 : Array (Option Value)} {oc7 kV7 dc7 pm7 cd7 ct7 : Value}
    (a7 : PySem.W.findIn K (.ref C_Society) "living" = some (some (.ref f7))) (i7 : PySem.W.isFn K (.ref f7) = true) (l7 : K.lookup f7 = some ⟨oc7, od7, .func (PySem.W.fnOf "living" "Society.living" (defArgs st_m_Society_living) (defBody st_m_Society_living) (defScope st_m_Society_living) .none kV7 dc7 pm7 an7 cd7 ct7), sl7⟩) (c7 : PySem.W.codeIn K cd7 "Society.living" = true) (k7 : PySem.W.keepIn K (.ref f7) = true)
    {f8 : Addr} {od8 an8 : Option Addr} {sl8 : Array (Option Value)} {oc8 kV8 dc8 pm8 cd8 ct8 : Value}
    (a8 : PySem.W.findIn K (.ref C_Society) "is_tied" = some (some (.ref f8))) (i8 : PySem.W.isFn K (.ref f8) = true) (l8 : K.lookup f8 = some ⟨oc8, od8, .func (PySem.W.fnOf "is_tied" "Society.is_tied" (defArgs st_m_Society_is_tied) (defBody st_m_Society_is_tied) (defScope st_m_Society_is_tied) .none kV8 dc8 pm8 an8 cd8 ct8), sl8⟩) (c8 : PySem.W.codeIn K cd8 "Society.is_tied" = true) (k8 : PySem.W.keepIn K (.ref f8) = true)
    {f9 : Addr} {od9 an9 : Option Addr} {sl9 : Array (Option Value)} {oc9 kV9 dc9 pm9 cd9 ct9 : Value}
    (a9 : PySem.W.findIn K (.ref C_Society) "table" = some (some (.ref f9))) (i9 : PySem.W.isFn K (.ref f9) = true) (l9 : K.lookup f9 = some ⟨oc9, od9, .func (PySem.W.fnOf "table" "Society.table" (defArgs st_m_Society_table) (defBody st_m_Society_table) (defScope st_m_Society_table) .none kV9 dc9 pm9 an9 cd9 ct9), sl9⟩) (c9 : PySem.W.codeIn K cd9 "Society.table" = true) (k9 : PySem.W.keepIn K (.ref f9) = true)
    {f10 : Addr} {od10 an10 : Option Addr} {sl10 : Array (Option Value)} {oc10 kV10 dc10 pm10 cd10 ct10 : Value}
    (a10 : PySem.W.findIn K (.ref C_Society) "blanks" = some (some (.ref f10))) (i10 : PySem.W.isFn K (.ref f10) = true) (l10 : K.lookup f10 = some ⟨oc10, od10, .func (PySem.W.fnOf "blanks" "Society.blanks" (defArgs st_m_Society_blanks) (defBody st_m_Society_blanks) (defScope st_m_Society_blanks) .none kV10 dc10 pm10 an10 cd10 ct10), sl10⟩) (c10 : PySem.W.codeIn K cd10 "Society.blanks" = true) (k10 : PySem.W.keepIn K (.ref f10) = true)
    {f11 : Addr} {od11 an11 : Option Addr} {sl11 : Array (Option Value)} {oc11 kV11 dc11 pm11 cd11 ct11 : Value}
    (a11 : PySem.W.nsIn K mainGlobals "total" = some (some (.ref f11))) (l11 : K.lookup f11 = some ⟨oc11, od11, .func (PySem.W.fnOf "total" "total" (defArgs st_p_total) (defBody st_p_total) (defScope st_p_total) .none kV11 dc11 pm11 an11 cd11 ct11), sl11⟩) (c11 : PySem.W.codeIn K cd11 "total" = true) (k11 : PySem.W.keepIn K (.ref f11) = true)
    {f12 : Addr} {od12 an12 : Option Addr} {sl12 : Array (Option Value)} {oc12 kV12 dc12 pm12 cd12 ct12 : Value}
    (a12 : PySem.W.nsIn K mainGlobals "tickets_at" = some (some (.ref f12))) (l12 : K.lookup f12 = some ⟨oc12, od12, .func (PySem.W.fnOf "tickets_at" "tickets_at" (defArgs st_p_tickets_at) (defBody st_p_tickets_at) (defScope st_p_tickets_at) .none kV12 dc12 pm12 an12 cd12 ct12), sl12⟩) (c12 : PySem.W.codeIn K cd12 "tickets_at" = true) (k12 : PySem.W.keepIn K (.ref f12) = true)
    {f13 : Addr} {od13 an13 : Option Addr} {sl13 : Array (Option Value)} {oc13 kV13 dc13 pm13 cd13 ct13 : Value}
    (a13 : PySem.W.findIn K (.ref C_Stand) "member" = some (some (.ref f13))) (i13 : PySem.W.isFn K (.ref f13) = true) (l13 : K.lookup f13 = some ⟨oc13, od13, .func (PySem.W.fnOf "member" "Stand.member" (defArgs st_m_Stand_member) (defBody st_m_Stand_member) (defScope st_m_Stand_member) .none kV13 dc13 pm13 an13 cd13 ct13), sl13⟩) (c13 : PySem.W.codeIn K cd13 "Stand.member" = true) (k13 : PySem.W.keepIn K (.ref f13) = true)
    {f14 : Addr} {od14 an14 : Option Addr} {sl14 : Array (Option Value)} {oc14 kV14 dc14 pm14 cd14 ct14 : Value}
    (a14 : PySem.W.findIn K (.ref C_Stand) "tickets_of" = some (some (.ref f14))) (i14 : PySem.W.isFn K (.ref f14) = true) (l14 : K.lookup f14 = some ⟨oc14, od14, .func (PySem.W.fnOf "tickets_of" "Stand.tickets_of" (defArgs st_m_Stand_tickets_of) (defBody st_m_Stand_tickets_of) (defScope st_m_Stand_tickets_of) .none kV14 dc14 pm14 an14 cd14 ct14), sl14⟩) (c14 : PySem.W.codeIn K cd14 "Stand.tickets_of" = true) (k14 : PySem.W.keepIn K (.ref f14) = true)
    {f15 : Addr} {od15 an15 : Option Addr} {sl15 : Array (Option Value)} {oc15 kV15 dc15 pm15 cd15 ct15 : Value}
    (a15 : PySem.W.findIn K (.ref C_Stand) "live_tickets" = some (some (.ref f15))) (i15 : PySem.W.isFn K (.ref f15) = true) (l15 : K.lookup f15 = some ⟨oc15, od15, .func (PySem.W.fnOf "live_tickets" "Stand.live_tickets" (defArgs st_m_Stand_live_tickets) (defBody st_m_Stand_live_tickets) (defScope st_m_Stand_live_tickets) .none kV15 dc15 pm15 an15 cd15 ct15), sl15⟩) (c15 : PySem.W.codeIn K cd15 "Stand.live_tickets" = true) (k15 : PySem.W.keepIn K (.ref f15) = true)
    {f16 : Addr} {od16 an16 : Option Addr} {sl16 : Array (Option Value)} {oc16 kV16 dc16 pm16 cd16 ct16 : Value}
    (a16 : PySem.W.findIn K (.ref C_Society) "total" = some (some (.ref f16))) (i16 : PySem.W.isFn K (.ref f16) = true) (l16 : K.lookup f16 = some ⟨oc16, od16, .func (PySem.W.fnOf "total" "Society.total" (defArgs st_m_Society_total) (defBody st_m_Society_total) (defScope st_m_Society_total) .none kV16 dc16 pm16 an16 cd16 ct16), sl16⟩) (c16 : PySem.W.codeIn K cd16 "Society.total" = true) (k16 : PySem.W.keepIn K (.ref f16) = true)
    {f17 : Addr} {od17 an17 : Option Addr} {sl17 : Array (Option Value)} {oc17 kV17 dc17 pm17 cd17 ct17 : Value}
    (a17 : PySem.W.findIn K (.ref C_Society) "deeds" = some (some (.ref f17))) (i17 : PySem.W.isFn K (.ref f17) = true) (l17 : K.lookup f17 = some ⟨oc17, od17, .func (PySem.W.fnOf "deeds" "Society.deeds" (defArgs st_m_Society_deeds) (defBody st_m_Society_deeds) (defScope st_m_Society_deeds) .none kV17 dc17 pm17 an17 cd17 ct17), sl17⟩) (c17 : PySem.W.codeIn K cd17 "Society.deeds" = true) (k17 : PySem.W.keepIn K (.ref f17) = true)
    {f18 : Addr} {od18 an18 : Option Addr} {sl18 : Array (Option Value)} {oc18 kV18 dc18 pm18 cd18 ct18 : Value}
    (a18 : PySem.W.findIn K (.ref C_Society) "bets" = some (some (.ref f18))) (i18 : PySem.W.isFn K (.ref f18) = true) (l18 : K.lookup f18 = some ⟨oc18, od18, .func (PySem.W.fnOf "bets" "Society.bets" (defArgs st_m_Society_bets) (defBody st_m_Society_bets) (defScope st_m_Society_bets) .none kV18 dc18 pm18 an18 cd18 ct18), sl18⟩) (c18 : PySem.W.codeIn K cd18 "Society.bets" = true) (k18 : PySem.W.keepIn K (.ref f18) = true)
    {f19 : Addr} {od19 an19 : Option Addr} {sl19 : Array (Option Value)} {oc19 kV19 dc19 pm19 cd19 ct19 : Value}
    (a19 : PySem.W.findIn K (.ref C_Society) "strokes" = some (some (.ref f19))) (i19 : PySem.W.isFn K (.ref f19) = true) (l19 : K.lookup f19 = some ⟨oc19, od19, .func (PySem.W.fnOf "strokes" "Society.strokes" (defArgs st_m_Society_strokes) (defBody st_m_Society_strokes) (defScope st_m_Society_strokes) .none kV19 dc19 pm19 an19 cd19 ct19), sl19⟩) (c19 : PySem.W.codeIn K cd19 "Society.strokes" = true) (k19 : PySem.W.keepIn K (.ref f19) = true)
    {f20 : Addr} {od20 an20 : Option Addr} {sl20 : Array (Option Value)} {oc20 kV20 dc20 pm20 cd20 ct20 : Value}
    (a20 : PySem.W.findIn K (.ref C_Society) "age" = some (some (.ref f20))) (i20 : PySem.W.isFn K (.ref f20) = true) (l20 : K.lookup f20 = some ⟨oc20, od20, .func (PySem.W.fnOf "age" "Society.age" (defArgs st_m_Society_age) (defBody st_m_Society_age) (defScope st_m_Society_age) .none kV20 dc20 pm20 an20 cd20 ct20), sl20⟩) (c20 : PySem.W.codeIn K cd20 "Society.age" = true) (k20 : PySem.W.keepIn K (.ref f20) = true)
    {f21 : Addr} {od21 an21 : Option Addr} {sl21 : Array (Option Value)} {oc21 kV21 dc21 pm21 cd21 ct21 : Value}
    (a21 : PySem.W.findIn K (.ref C_Society) "coins" = some (some (.ref f21))) (i21 : PySem.W.isFn K (.ref f21) = true) (l21 : K.lookup f21 = some ⟨oc21, od21, .func (PySem.W.fnOf "coins" "Society.coins" (defArgs st_m_Society_coins) (defBody st_m_Society_coins) (defScope st_m_Society_coins) .none kV21 dc21 pm21 an21 cd21 ct21), sl21⟩) (c21 : PySem.W.codeIn K cd21 "Society.coins" = true) (k21 : PySem.W.keepIn K (.ref f21) = true)
    {f22 : Addr} {od22 an22 : Option Addr} {sl22 : Array (Option Value)} {oc22 kV22 dc22 pm22 cd22 ct22 : Value}
    (a22 : PySem.W.findIn K (.ref C_Stand) "held_of" = some (some (.ref f22))) (i22 : PySem.W.isFn K (.ref f22) = true) (l22 : K.lookup f22 = some ⟨oc22, od22, .func (PySem.W.fnOf "held_of" "Stand.held_of" (defArgs st_m_Stand_held_of) (defBody st_m_Stand_held_of) (defScope st_m_Stand_held_of) .none kV22 dc22 pm22 an22 cd22 ct22), sl22⟩) (c22 : PySem.W.codeIn K cd22 "Stand.held_of" = true) (k22 : PySem.W.keepIn K (.ref f22) = true)
    {f23 : Addr} {od23 an23 : Option Addr} {sl23 : Array (Option Value)} {oc23 kV23 dc23 pm23 cd23 ct23 : Value}
    (a23 : PySem.W.findIn K (.ref C_Stand) "free_of" = some (some (.ref f23))) (i23 : PySem.W.isFn K (.ref f23) = true) (l23 : K.lookup f23 = some ⟨oc23, od23, .func (PySem.W.fnOf "free_of" "Stand.free_of" (defArgs st_m_Stand_free_of) (defBody st_m_Stand_free_of) (defScope st_m_Stand_free_of) .none kV23 dc23 pm23 an23 cd23 ct23), sl23⟩) (c23 : PySem.W.codeIn K cd23 "Stand.free_of" = true) (k23 : PySem.W.keepIn K (.ref f23) = true)
    {f24 : Addr} {od24 an24 : Option Addr} {sl24 : Array (Option Value)} {oc24 kV24 dc24 pm24 cd24 ct24 : Value}
    (a24 : PySem.W.findIn K (.ref C_Society) "free" = some (some (.ref f24))) (i24 : PySem.W.isFn K (.ref f24) = true) (l24 : K.lookup f24 = some ⟨oc24, od24, .func (PySem.W.fnOf "free" "Society.free" (defArgs st_m_Society_free) (defBody st_m_Society_free) (defScope st_m_Society_free) .none kV24 dc24 pm24 an24 cd24 ct24), sl24⟩) (c24 : PySem.W.codeIn K cd24 "Society.free" = true) (k24 : PySem.W.keepIn K (.ref f24) = true)
    {f25 : Addr} {od25 an25 : Option Addr} {sl25 : Array (Option Value)} {oc25 kV25 dc25 pm25 cd25 ct25 : Value}
    (a25 : PySem.W.findIn K (.ref C_Society) "tickets" = some (some (.ref f25))) (i25 : PySem.W.isFn K (.ref f25) = true) (l25 : K.lookup f25 = some ⟨oc25, od25, .func (PySem.W.fnOf "tickets" "Society.tickets" (defArgs st_m_Society_tickets) (defBody st_m_Society_tickets) (defScope st_m_Society_tickets) .none kV25 dc25 pm25 an25 cd25 ct25), sl25⟩) (c25 : PySem.W.codeIn K cd25 "Society.tickets" = true) (k25 : PySem.W.keepIn K (.ref f25) = true)
    {f26 : Addr} {od26 an26 : Option Addr} {sl26 : Array (Option Value)} {oc26 kV26 dc26 pm26 cd26 ct26 : Value}
    (a26 : PySem.W.findIn K (.ref C_Stand) "are_tied" = some (some (.ref f26))) (i26 : PySem.W.isFn K (.ref f26) = true) (l26 : K.lookup f26 = some ⟨oc26, od26, .func (PySem.W.fnOf "are_tied" "Stand.are_tied" (defArgs st_m_Stand_are_tied) (defBody st_m_Stand_are_tied) (defScope st_m_Stand_are_tied) .none kV26 dc26 pm26 an26 cd26 ct26), sl26⟩) (c26 : PySem.W.codeIn K cd26 "Stand.are_tied" = true) (k26 : PySem.W.keepIn K (.ref f26) = true)
    {f27 : Addr} {od27 an27 : Option Addr} {sl27 : Array (Option Value)} {oc27 kV27 dc27 pm27 cd27 ct27 : Value}
    (a27 : PySem.W.findIn K (.ref C_Society) "ties" = some (some (.ref f27))) (i27 : PySem.W.isFn K (.ref f27) = true) (l27 : K.lookup f27 = some ⟨oc27, od27, .func (PySem.W.fnOf "ties" "Society.ties" (defArgs st_m_Society_ties) (defBody st_m_Society_ties) (defScope st_m_Society_ties) .none kV27 dc27 pm27 an27 cd27 ct27), sl27⟩) (c27 : PySem.W.codeIn K cd27 "Society.ties" = true) (k27 : PySem.W.keepIn K (.ref f27) = true)
    {f28 : Addr} {od28 an28 : Option Addr} {sl28 : Array (Option Value)} {oc28 kV28 dc28 pm28 cd28 ct28 : Value}
    (a28 : PySem.W.nsIn K mainGlobals "_law_seen" = some (some (.ref f28))) (l28 : K.lookup f28 = some ⟨oc28, od28, .func (PySem.W.fnOf "_law_seen" "_law_seen" (defArgs st_l_seen) (defBody st_l_seen) (defScope st_l_seen) .none kV28 dc28 pm28 an28 cd28 ct28), sl28⟩) (c28 : PySem.W.codeIn K cd28 "_law_seen" = true) (k28 : PySem.W.keepIn K (.ref f28) = true)
    {f29 : Addr} {od29 an29 : Option Addr} {sl29 : Array (Option Value)} {oc29 kV29 dc29 pm29 cd29 ct29 : Value}
    (a29 : PySem.W.nsIn K mainGlobals "_law_nearly" = some (some (.ref f29))) (l29 : K.lookup f29 = some ⟨oc29, od29, .func (PySem.W.fnOf "_law_nearly" "_law_nearly" (defArgs st_l_nearly) (defBody st_l_nearly) (defScope st_l_nearly) .none kV29 dc29 pm29 an29 cd29 ct29), sl29⟩) (c29 : PySem.W.codeIn K cd29 "_law_nearly" = true) (k29 : PySem.W.keepIn K (.ref f29) = true)
    {f30 : Addr} {od30 an30 : Option Addr} {sl30 : Array (Option Value)} {oc30 kV30 dc30 pm30 cd30 ct30 : Value}
    (a30 : PySem.W.nsIn K mainGlobals "_law_same" = some (some (.ref f30))) (l30 : K.lookup f30 = some ⟨oc30, od30, .func (PySem.W.fnOf "_law_same" "_law_same" (defArgs st_l_same) (defBody st_l_same) (defScope st_l_same) .none kV30 dc30 pm30 an30 cd30 ct30), sl30⟩) (c30 : PySem.W.codeIn K cd30 "_law_same" = true) (k30 : PySem.W.keepIn K (.ref f30) = true)
    {f31 : Addr} {od31 an31 : Option Addr} {sl31 : Array (Option Value)} {oc31 kV31 dc31 pm31 cd31 ct31 : Value}
    (a31 : PySem.W.nsIn K mainGlobals "_law_no_form" = some (some (.ref f31))) (l31 : K.lookup f31 = some ⟨oc31, od31, .func (PySem.W.fnOf "_law_no_form" "_law_no_form" (defArgs st_l_no_form) (defBody st_l_no_form) (defScope st_l_no_form) .none kV31 dc31 pm31 an31 cd31 ct31), sl31⟩) (c31 : PySem.W.codeIn K cd31 "_law_no_form" = true) (k31 : PySem.W.keepIn K (.ref f31) = true)
    {f32 : Addr} {od32 an32 : Option Addr} {sl32 : Array (Option Value)} {oc32 kV32 dc32 pm32 cd32 ct32 : Value}
    (a32 : PySem.W.nsIn K mainGlobals "_law_line" = some (some (.ref f32))) (l32 : K.lookup f32 = some ⟨oc32, od32, .func (PySem.W.fnOf "_law_line" "_law_line" (defArgs st_l_line) (defBody st_l_line) (defScope st_l_line) .none kV32 dc32 pm32 an32 cd32 ct32), sl32⟩) (c32 : PySem.W.codeIn K cd32 "_law_line" = true) (k32 : PySem.W.keepIn K (.ref f32) = true)
    {f33 : Addr} {od33 an33 : Option Addr} {sl33 : Array (Option Value)} {oc33 kV33 dc33 pm33 cd33 ct33 : Value}
    (a33 : PySem.W.nsIn K mainGlobals "is_name" = some (some (.ref f33))) (l33 : K.lookup f33 = some ⟨oc33, od33, .func (PySem.W.fnOf "is_name" "is_name" (defArgs st_p_is_name) (defBody st_p_is_name) (defScope st_p_is_name) .none kV33 dc33 pm33 an33 cd33 ct33), sl33⟩) (c33 : PySem.W.codeIn K cd33 "is_name" = true) (k33 : PySem.W.keepIn K (.ref f33) = true)
    {f34 : Addr} {od34 an34 : Option Addr} {sl34 : Array (Option Value)} {oc34 kV34 dc34 pm34 cd34 ct34 : Value}
    (a34 : PySem.W.nsIn K mainGlobals "look_at_name" = some (some (.ref f34))) (l34 : K.lookup f34 = some ⟨oc34, od34, .func (PySem.W.fnOf "look_at_name" "look_at_name" (defArgs st_p_look_at_name) (defBody st_p_look_at_name) (defScope st_p_look_at_name) .none kV34 dc34 pm34 an34 cd34 ct34), sl34⟩) (c34 : PySem.W.codeIn K cd34 "look_at_name" = true) (k34 : PySem.W.keepIn K (.ref f34) = true)
    {f35 : Addr} {od35 an35 : Option Addr} {sl35 : Array (Option Value)} {oc35 kV35 dc35 pm35 cd35 ct35 : Value}
    (a35 : PySem.W.findIn K (.ref C_House) "look_at_new" = some (some (.ref f35))) (i35 : PySem.W.isFn K (.ref f35) = true) (l35 : K.lookup f35 = some ⟨oc35, od35, .func (PySem.W.fnOf "look_at_new" "House.look_at_new" (defArgs st_m_House_look_at_new) (defBody st_m_House_look_at_new) (defScope st_m_House_look_at_new) .none kV35 dc35 pm35 an35 cd35 ct35), sl35⟩) (c35 : PySem.W.codeIn K cd35 "House.look_at_new" = true) (k35 : PySem.W.keepIn K (.ref f35) = true)
    {f36 : Addr} {od36 an36 : Option Addr} {sl36 : Array (Option Value)} {oc36 kV36 dc36 pm36 cd36 ct36 : Value}
    (a36 : PySem.W.nsIn K mainGlobals "look_at_table" = some (some (.ref f36))) (l36 : K.lookup f36 = some ⟨oc36, od36, .func (PySem.W.fnOf "look_at_table" "look_at_table" (defArgs st_p_look_at_table) (defBody st_p_look_at_table) (defScope st_p_look_at_table) .none kV36 dc36 pm36 an36 cd36 ct36), sl36⟩) (c36 : PySem.W.codeIn K cd36 "look_at_table" = true) (k36 : PySem.W.keepIn K (.ref f36) = true)
    {f37 : Addr} {od37 an37 : Option Addr} {sl37 : Array (Option Value)} {oc37 kV37 dc37 pm37 cd37 ct37 : Value}
    (a37 : PySem.W.nsIn K mainGlobals "look_at_blanks" = some (some (.ref f37))) (l37 : K.lookup f37 = some ⟨oc37, od37, .func (PySem.W.fnOf "look_at_blanks" "look_at_blanks" (defArgs st_p_look_at_blanks) (defBody st_p_look_at_blanks) (defScope st_p_look_at_blanks) .none kV37 dc37 pm37 an37 cd37 ct37), sl37⟩) (c37 : PySem.W.codeIn K cd37 "look_at_blanks" = true) (k37 : PySem.W.keepIn K (.ref f37) = true)
    {f38 : Addr} {od38 an38 : Option Addr} {sl38 : Array (Option Value)} {oc38 kV38 dc38 pm38 cd38 ct38 : Value}
    (a38 : PySem.W.findIn K (.ref C_Stand) "__init__" = some (some (.ref f38))) (i38 : PySem.W.isFn K (.ref f38) = true) (l38 : K.lookup f38 = some ⟨oc38, od38, .func (PySem.W.fnOf "__init__" "Stand.__init__" (defArgs st_m_Stand_init) (defBody st_m_Stand_init) (defScope st_m_Stand_init) .none kV38 dc38 pm38 an38 cd38 ct38), sl38⟩) (c38 : PySem.W.codeIn K cd38 "Stand.__init__" = true) (k38 : PySem.W.keepIn K (.ref f38) = true)
    {f39 : Addr} {od39 an39 : Option Addr} {sl39 : Array (Option Value)} {oc39 kV39 dc39 pm39 cd39 ct39 : Value}
    (a39 : PySem.W.findIn K (.ref C_Society) "__init__" = some (some (.ref f39))) (i39 : PySem.W.isFn K (.ref f39) = true) (l39 : K.lookup f39 = some ⟨oc39, od39, .func (PySem.W.fnOf "__init__" "Society.__init__" (defArgs st_m_Society_init) (defBody st_m_Society_init) (defScope st_m_Society_init) .none kV39 dc39 pm39 an39 cd39 ct39), sl39⟩) (c39 : PySem.W.codeIn K cd39 "Society.__init__" = true) (k39 : PySem.W.keepIn K (.ref f39) = true)
    {f40 : Addr} {od40 an40 : Option Addr} {sl40 : Array (Option Value)} {oc40 kV40 dc40 pm40 cd40 ct40 : Value}
    (a40 : PySem.W.findIn K (.ref C_House) "open_one" = some (some (.ref f40))) (i40 : PySem.W.isFn K (.ref f40) = true) (l40 : K.lookup f40 = some ⟨oc40, od40, .func (PySem.W.fnOf "open_one" "House.open_one" (defArgs st_m_House_open_one) (defBody st_m_House_open_one) (defScope st_m_House_open_one) .none kV40 dc40 pm40 an40 cd40 ct40), sl40⟩) (c40 : PySem.W.codeIn K cd40 "House.open_one" = true) (k40 : PySem.W.keepIn K (.ref f40) = true)
    {f41 : Addr} {od41 an41 : Option Addr} {sl41 : Array (Option Value)} {oc41 kV41 dc41 pm41 cd41 ct41 : Value}
    (a41 : PySem.W.findIn K (.ref C_Member) "__init__" = some (some (.ref f41))) (i41 : PySem.W.isFn K (.ref f41) = true) (l41 : K.lookup f41 = some ⟨oc41, od41, .func (PySem.W.fnOf "__init__" "Member.__init__" (defArgs st_m_Member_init) (defBody st_m_Member_init) (defScope st_m_Member_init) .none kV41 dc41 pm41 an41 cd41 ct41), sl41⟩) (c41 : PySem.W.codeIn K cd41 "Member.__init__" = true) (k41 : PySem.W.keepIn K (.ref f41) = true)
    {f42 : Addr} {od42 an42 : Option Addr} {sl42 : Array (Option Value)} {oc42 kV42 dc42 pm42 cd42 ct42 : Value}
    (a42 : PySem.W.findIn K (.ref C_Stand) "put_member" = some (some (.ref f42))) (i42 : PySem.W.isFn K (.ref f42) = true) (l42 : K.lookup f42 = some ⟨oc42, od42, .func (PySem.W.fnOf "put_member" "Stand.put_member" (defArgs st_m_Stand_put_member) (defBody st_m_Stand_put_member) (defScope st_m_Stand_put_member) .none kV42 dc42 pm42 an42 cd42 ct42), sl42⟩) (c42 : PySem.W.codeIn K cd42 "Stand.put_member" = true) (k42 : PySem.W.keepIn K (.ref f42) = true)
    {f43 : Addr} {od43 an43 : Option Addr} {sl43 : Array (Option Value)} {oc43 kV43 dc43 pm43 cd43 ct43 : Value}
    (a43 : PySem.W.findIn K (.ref C_Stand) "check_living" = some (some (.ref f43))) (i43 : PySem.W.isFn K (.ref f43) = true) (l43 : K.lookup f43 = some ⟨oc43, od43, .func (PySem.W.fnOf "check_living" "Stand.check_living" (defArgs st_m_Stand_check_living) (defBody st_m_Stand_check_living) (defScope st_m_Stand_check_living) .none kV43 dc43 pm43 an43 cd43 ct43), sl43⟩) (c43 : PySem.W.codeIn K cd43 "Stand.check_living" = true) (k43 : PySem.W.keepIn K (.ref f43) = true)
    {f44 : Addr} {od44 an44 : Option Addr} {sl44 : Array (Option Value)} {oc44 kV44 dc44 pm44 cd44 ct44 : Value}
    (a44 : PySem.W.findIn K (.ref C_Stand) "put_coins" = some (some (.ref f44))) (i44 : PySem.W.isFn K (.ref f44) = true) (l44 : K.lookup f44 = some ⟨oc44, od44, .func (PySem.W.fnOf "put_coins" "Stand.put_coins" (defArgs st_m_Stand_put_coins) (defBody st_m_Stand_put_coins) (defScope st_m_Stand_put_coins) .none kV44 dc44 pm44 an44 cd44 ct44), sl44⟩) (c44 : PySem.W.codeIn K cd44 "Stand.put_coins" = true) (k44 : PySem.W.keepIn K (.ref f44) = true)
    {f45 : Addr} {od45 an45 : Option Addr} {sl45 : Array (Option Value)} {oc45 kV45 dc45 pm45 cd45 ct45 : Value}
    (a45 : PySem.W.nsIn K mainGlobals "done_by" = some (some (.ref f45))) (l45 : K.lookup f45 = some ⟨oc45, od45, .func (PySem.W.fnOf "done_by" "done_by" (defArgs st_p_done_by) (defBody st_p_done_by) (defScope st_p_done_by) .none kV45 dc45 pm45 an45 cd45 ct45), sl45⟩) (c45 : PySem.W.codeIn K cd45 "done_by" = true) (k45 : PySem.W.keepIn K (.ref f45) = true)
    {f46 : Addr} {od46 an46 : Option Addr} {sl46 : Array (Option Value)} {oc46 kV46 dc46 pm46 cd46 ct46 : Value}
    (a46 : PySem.W.findIn K (.ref C_Member) "like" = some (some (.ref f46))) (i46 : PySem.W.isFn K (.ref f46) = true) (l46 : K.lookup f46 = some ⟨oc46, od46, .func (PySem.W.fnOf "like" "Member.like" (defArgs st_m_Member_like) (defBody st_m_Member_like) (defScope st_m_Member_like) .none kV46 dc46 pm46 an46 cd46 ct46), sl46⟩) (c46 : PySem.W.codeIn K cd46 "Member.like" = true) (k46 : PySem.W.keepIn K (.ref f46) = true)
    {f47 : Addr} {od47 an47 : Option Addr} {sl47 : Array (Option Value)} {oc47 kV47 dc47 pm47 cd47 ct47 : Value}
    (a47 : PySem.W.findIn K (.ref C_Stand) "like" = some (some (.ref f47))) (i47 : PySem.W.isFn K (.ref f47) = true) (l47 : K.lookup f47 = some ⟨oc47, od47, .func (PySem.W.fnOf "like" "Stand.like" (defArgs st_m_Stand_like) (defBody st_m_Stand_like) (defScope st_m_Stand_like) .none kV47 dc47 pm47 an47 cd47 ct47), sl47⟩) (c47 : PySem.W.codeIn K cd47 "Stand.like" = true) (k47 : PySem.W.keepIn K (.ref f47) = true)
    {f48 : Addr} {od48 an48 : Option Addr} {sl48 : Array (Option Value)} {oc48 kV48 dc48 pm48 cd48 ct48 : Value}
    (a48 : PySem.W.findIn K (.ref C_Society) "deed" = some (some (.ref f48))) (i48 : PySem.W.isFn K (.ref f48) = true) (l48 : K.lookup f48 = some ⟨oc48, od48, .func (PySem.W.fnOf "deed" "Society.deed" (defArgs st_m_Society_deed) (defBody st_m_Society_deed) (defScope st_m_Society_deed) .none kV48 dc48 pm48 an48 cd48 ct48), sl48⟩) (c48 : PySem.W.codeIn K cd48 "Society.deed" = true) (k48 : PySem.W.keepIn K (.ref f48) = true)
    {f49 : Addr} {od49 an49 : Option Addr} {sl49 : Array (Option Value)} {oc49 kV49 dc49 pm49 cd49 ct49 : Value}
    (a49 : PySem.W.findIn K (.ref C_House) "one" = some (some (.ref f49))) (i49 : PySem.W.isFn K (.ref f49) = true) (l49 : K.lookup f49 = some ⟨oc49, od49, .func (PySem.W.fnOf "one" "House.one" (defArgs st_m_House_one) (defBody st_m_House_one) (defScope st_m_House_one) .none kV49 dc49 pm49 an49 cd49 ct49), sl49⟩) (c49 : PySem.W.codeIn K cd49 "House.one" = true) (k49 : PySem.W.keepIn K (.ref f49) = true)
    {f50 : Addr} {od50 an50 : Option Addr} {sl50 : Array (Option Value)} {oc50 kV50 dc50 pm50 cd50 ct50 : Value}
    (a50 : PySem.W.findIn K (.ref C_House) "deed" = some (some (.ref f50))) (i50 : PySem.W.isFn K (.ref f50) = true) (l50 : K.lookup f50 = some ⟨oc50, od50, .func (PySem.W.fnOf "deed" "House.deed" (defArgs st_m_House_deed) (defBody st_m_House_deed) (defScope st_m_House_deed) .none kV50 dc50 pm50 an50 cd50 ct50), sl50⟩) (c50 : PySem.W.codeIn K cd50 "House.deed" = true) (k50 : PySem.W.keepIn K (.ref f50) = true)
    {f51 : Addr} {od51 an51 : Option Addr} {sl51 : Array (Option Value)} {oc51 kV51 dc51 pm51 cd51 ct51 : Value}
    (a51 : PySem.W.findIn K (.ref C_Society) "now" = some (some (.ref f51))) (i51 : PySem.W.isFn K (.ref f51) = true) (l51 : K.lookup f51 = some ⟨oc51, od51, .func (PySem.W.fnOf "now" "Society.now" (defArgs st_m_Society_nowS) (defBody st_m_Society_nowS) (defScope st_m_Society_nowS) .none kV51 dc51 pm51 an51 cd51 ct51), sl51⟩) (c51 : PySem.W.codeIn K cd51 "Society.now" = true) (k51 : PySem.W.keepIn K (.ref f51) = true)
    {f52 : Addr} {od52 an52 : Option Addr} {sl52 : Array (Option Value)} {oc52 kV52 dc52 pm52 cd52 ct52 : Value}
    (a52 : PySem.W.findIn K (.ref C_Society) "twin" = some (some (.ref f52))) (i52 : PySem.W.isFn K (.ref f52) = true) (l52 : K.lookup f52 = some ⟨oc52, od52, .func (PySem.W.fnOf "twin" "Society.twin" (defArgs st_m_Society_twin) (defBody st_m_Society_twin) (defScope st_m_Society_twin) .none kV52 dc52 pm52 an52 cd52 ct52), sl52⟩) (c52 : PySem.W.codeIn K cd52 "Society.twin" = true) (k52 : PySem.W.keepIn K (.ref f52) = true)
    {f53 : Addr} {od53 an53 : Option Addr} {sl53 : Array (Option Value)} {oc53 kV53 dc53 pm53 cd53 ct53 : Value}
    (a53 : PySem.W.findIn K (.ref C_House) "view" = some (some (.ref f53))) (i53 : PySem.W.isFn K (.ref f53) = true) (l53 : K.lookup f53 = some ⟨oc53, od53, .func (PySem.W.fnOf "view" "House.view" (defArgs st_m_House_view) (defBody st_m_House_view) (defScope st_m_House_view) .none kV53 dc53 pm53 an53 cd53 ct53), sl53⟩) (c53 : PySem.W.codeIn K cd53 "House.view" = true) (k53 : PySem.W.keepIn K (.ref f53) = true)
    {f54 : Addr} {od54 an54 : Option Addr} {sl54 : Array (Option Value)} {oc54 kV54 dc54 pm54 cd54 ct54 : Value}
    (a54 : PySem.W.nsIn K mainGlobals "is_number" = some (some (.ref f54))) (l54 : K.lookup f54 = some ⟨oc54, od54, .func (PySem.W.fnOf "is_number" "is_number" (defArgs st_p_is_number) (defBody st_p_is_number) (defScope st_p_is_number) .none kV54 dc54 pm54 an54 cd54 ct54), sl54⟩) (c54 : PySem.W.codeIn K cd54 "is_number" = true) (k54 : PySem.W.keepIn K (.ref f54) = true)
    {f55 : Addr} {od55 an55 : Option Addr} {sl55 : Array (Option Value)} {oc55 kV55 dc55 pm55 cd55 ct55 : Value}
    (a55 : PySem.W.nsIn K mainGlobals "parts_of" = some (some (.ref f55))) (l55 : K.lookup f55 = some ⟨oc55, od55, .func (PySem.W.fnOf "parts_of" "parts_of" (defArgs st_p_parts_of) (defBody st_p_parts_of) (defScope st_p_parts_of) .none kV55 dc55 pm55 an55 cd55 ct55), sl55⟩) (c55 : PySem.W.codeIn K cd55 "parts_of" = true) (k55 : PySem.W.keepIn K (.ref f55) = true)
    {f56 : Addr} {od56 an56 : Option Addr} {sl56 : Array (Option Value)} {oc56 kV56 dc56 pm56 cd56 ct56 : Value}
    (a56 : PySem.W.nsIn K mainGlobals "changed" = some (some (.ref f56))) (l56 : K.lookup f56 = some ⟨oc56, od56, .func (PySem.W.fnOf "changed" "changed" (defArgs st_p_changed) (defBody st_p_changed) (defScope st_p_changed) .none kV56 dc56 pm56 an56 cd56 ct56), sl56⟩) (c56 : PySem.W.codeIn K cd56 "changed" = true) (k56 : PySem.W.keepIn K (.ref f56) = true)
    {f57 : Addr} {od57 an57 : Option Addr} {sl57 : Array (Option Value)} {oc57 kV57 dc57 pm57 cd57 ct57 : Value}
    (a57 : PySem.W.nsIn K mainGlobals "listed" = some (some (.ref f57))) (l57 : K.lookup f57 = some ⟨oc57, od57, .func (PySem.W.fnOf "listed" "listed" (defArgs st_p_listed) (defBody st_p_listed) (defScope st_p_listed) .none kV57 dc57 pm57 an57 cd57 ct57), sl57⟩) (c57 : PySem.W.codeIn K cd57 "listed" = true) (k57 : PySem.W.keepIn K (.ref f57) = true)
    {f58 : Addr} {od58 an58 : Option Addr} {sl58 : Array (Option Value)} {oc58 kV58 dc58 pm58 cd58 ct58 : Value}
    (a58 : PySem.W.nsIn K mainGlobals "rows_text" = some (some (.ref f58))) (l58 : K.lookup f58 = some ⟨oc58, od58, .func (PySem.W.fnOf "rows_text" "rows_text" (defArgs st_p_rows_text) (defBody st_p_rows_text) (defScope st_p_rows_text) .none kV58 dc58 pm58 an58 cd58 ct58), sl58⟩) (c58 : PySem.W.codeIn K cd58 "rows_text" = true) (k58 : PySem.W.keepIn K (.ref f58) = true)
    {f59 : Addr} {od59 an59 : Option Addr} {sl59 : Array (Option Value)} {oc59 kV59 dc59 pm59 cd59 ct59 : Value}
    (a59 : PySem.W.nsIn K mainGlobals "of_society" = some (some (.ref f59))) (l59 : K.lookup f59 = some ⟨oc59, od59, .func (PySem.W.fnOf "of_society" "of_society" (defArgs st_p_of_society) (defBody st_p_of_society) (defScope st_p_of_society) .none kV59 dc59 pm59 an59 cd59 ct59), sl59⟩) (c59 : PySem.W.codeIn K cd59 "of_society" = true) (k59 : PySem.W.keepIn K (.ref f59) = true)
    {f60 : Addr} {od60 an60 : Option Addr} {sl60 : Array (Option Value)} {oc60 kV60 dc60 pm60 cd60 ct60 : Value}
    (a60 : PySem.W.nsIn K mainGlobals "opened_line" = some (some (.ref f60))) (l60 : K.lookup f60 = some ⟨oc60, od60, .func (PySem.W.fnOf "opened_line" "opened_line" (defArgs st_p_opened_line) (defBody st_p_opened_line) (defScope st_p_opened_line) .none kV60 dc60 pm60 an60 cd60 ct60), sl60⟩) (c60 : PySem.W.codeIn K cd60 "opened_line" = true) (k60 : PySem.W.keepIn K (.ref f60) = true)
    {f61 : Addr} {od61 an61 : Option Addr} {sl61 : Array (Option Value)} {oc61 kV61 dc61 pm61 cd61 ct61 : Value}
    (a61 : PySem.W.nsIn K mainGlobals "number_in" = some (some (.ref f61))) (l61 : K.lookup f61 = some ⟨oc61, od61, .func (PySem.W.fnOf "number_in" "number_in" (defArgs st_p_number_in) (defBody st_p_number_in) (defScope st_p_number_in) .none kV61 dc61 pm61 an61 cd61 ct61), sl61⟩) (c61 : PySem.W.codeIn K cd61 "number_in" = true) (k61 : PySem.W.keepIn K (.ref f61) = true)
    {f62 : Addr} {od62 an62 : Option Addr} {sl62 : Array (Option Value)} {oc62 kV62 dc62 pm62 cd62 ct62 : Value}
    (a62 : PySem.W.nsIn K mainGlobals "deed_of" = some (some (.ref f62))) (l62 : K.lookup f62 = some ⟨oc62, od62, .func (PySem.W.fnOf "deed_of" "deed_of" (defArgs st_p_deed_of) (defBody st_p_deed_of) (defScope st_p_deed_of) .none kV62 dc62 pm62 an62 cd62 ct62), sl62⟩) (c62 : PySem.W.codeIn K cd62 "deed_of" = true) (k62 : PySem.W.keepIn K (.ref f62) = true)
    {f63 : Addr} {od63 an63 : Option Addr} {sl63 : Array (Option Value)} {oc63 kV63 dc63 pm63 cd63 ct63 : Value}
    (a63 : PySem.W.nsIn K mainGlobals "deed_line" = some (some (.ref f63))) (l63 : K.lookup f63 = some ⟨oc63, od63, .func (PySem.W.fnOf "deed_line" "deed_line" (defArgs st_p_deed_line) (defBody st_p_deed_line) (defScope st_p_deed_line) .none kV63 dc63 pm63 an63 cd63 ct63), sl63⟩) (c63 : PySem.W.codeIn K cd63 "deed_line" = true) (k63 : PySem.W.keepIn K (.ref f63) = true)
    {f64 : Addr} {od64 an64 : Option Addr} {sl64 : Array (Option Value)} {oc64 kV64 dc64 pm64 cd64 ct64 : Value}
    (a64 : PySem.W.findIn K (.ref C_House) "names" = some (some (.ref f64))) (i64 : PySem.W.isFn K (.ref f64) = true) (l64 : K.lookup f64 = some ⟨oc64, od64, .func (PySem.W.fnOf "names" "House.names" (defArgs st_m_House_names) (defBody st_m_House_names) (defScope st_m_House_names) .none kV64 dc64 pm64 an64 cd64 ct64), sl64⟩) (c64 : PySem.W.codeIn K cd64 "House.names" = true) (k64 : PySem.W.keepIn K (.ref f64) = true)
    {f65 : Addr} {od65 an65 : Option Addr} {sl65 : Array (Option Value)} {oc65 kV65 dc65 pm65 cd65 ct65 : Value}
    (a65 : PySem.W.nsIn K mainGlobals "answered" = some (some (.ref f65))) (l65 : K.lookup f65 = some ⟨oc65, od65, .func (PySem.W.fnOf "answered" "answered" (defArgs st_p_answered) (defBody st_p_answered) (defScope st_p_answered) .none kV65 dc65 pm65 an65 cd65 ct65), sl65⟩) (c65 : PySem.W.codeIn K cd65 "answered" = true) (k65 : PySem.W.keepIn K (.ref f65) = true)
    {f66 : Addr} {od66 an66 : Option Addr} {sl66 : Array (Option Value)} {oc66 kV66 dc66 pm66 cd66 ct66 : Value}
    (a66 : PySem.W.findIn K (.ref C_House) "say" = some (some (.ref f66))) (i66 : PySem.W.isFn K (.ref f66) = true) (l66 : K.lookup f66 = some ⟨oc66, od66, .func (PySem.W.fnOf "say" "House.say" (defArgs st_m_House_say) (defBody st_m_House_say) (defScope st_m_House_say) .none kV66 dc66 pm66 an66 cd66 ct66), sl66⟩) (c66 : PySem.W.codeIn K cd66 "House.say" = true) (k66 : PySem.W.keepIn K (.ref f66) = true)
    {f67 : Addr} {od67 an67 : Option Addr} {sl67 : Array (Option Value)} {oc67 kV67 dc67 pm67 cd67 ct67 : Value}
    (a67 : PySem.W.findIn K (.ref C_House) "__init__" = some (some (.ref f67))) (i67 : PySem.W.isFn K (.ref f67) = true) (l67 : K.lookup f67 = some ⟨oc67, od67, .func (PySem.W.fnOf "__init__" "House.__init__" (defArgs st_m_House_init) (defBody st_m_House_init) (defScope st_m_House_init) .none kV67 dc67 pm67 an67 cd67 ct67), sl67⟩) (c67 : PySem.W.codeIn K cd67 "House.__init__" = true) (k67 : PySem.W.keepIn K (.ref f67) = true)
    {f68 : Addr} {od68 an68 : Option Addr} {sl68 : Array (Option Value)} {oc68 kV68 dc68 pm68 cd68 ct68 : Value}
    (a68 : PySem.W.nsIn K mainGlobals "law" = some (some (.ref f68))) (l68 : K.lookup f68 = some ⟨oc68, od68, .func (PySem.W.fnOf "law" "law" (defArgs st_law) (defBody st_law) (defScope st_law) .none kV68 dc68 pm68 an68 cd68 ct68), sl68⟩) (c68 : PySem.W.codeIn K cd68 "law" = true) (k68 : PySem.W.keepIn K (.ref f68) = true)
    (aAtotal_tickets : PySem.W.nsIn K mainGlobals "total_tickets" = some (some (.ref f11)))
    (z0 : PySem.W.nsIn K mainGlobals "all" = some none)
    (z1 : PySem.W.nsIn K mainGlobals "bool" = some none)
    (z2 : PySem.W.nsIn K mainGlobals "dict" = some none)
    (z3 : PySem.W.nsIn K mainGlobals "int" = some none)
    (z4 : PySem.W.nsIn K mainGlobals "isinstance" = some none)
    (z5 : PySem.W.nsIn K mainGlobals "len" = some none)
    (z6 : PySem.W.nsIn K mainGlobals "list" = some none)
    (z7 : PySem.W.nsIn K mainGlobals "range" = some none)
    (z8 : PySem.W.nsIn K mainGlobals "str" = some none)
    (z9 : PySem.W.nsIn K mainGlobals "sum" = some none)
    (z10 : PySem.W.nsIn K mainGlobals "tuple" = some none)
    (z11 : PySem.W.nsIn K mainGlobals "zip" = some none)
    {t0 : Tok} (y0 : PySem.W.nsIn K mainGlobals "FIGURES" = some (some (.str "0123456789" t0)))
    {DKINDS : Addr} {oKINDS : Obj} {itsKINDS : Array Value} {nnKINDS : Nat} (y1 : PySem.W.nsIn K mainGlobals "KINDS" = some (some (.ref DKINDS))) (kLKINDS : K.lookup DKINDS = some oKINDS) (kcKINDS : oKINDS.cls = .type "tuple") (kdKINDS : oKINDS.data = .seq itsKINDS nnKINDS) (kzKINDS : itsKINDS.size ≤ sizeLine) (kvKINDS : Vals ((["free", "tied"] : List Str).map V.str) itsKINDS.toList)
    {t2 : Tok} (y2 : PySem.W.nsIn K mainGlobals "LETTERS" = some (some (.str "abcdefghijklmnopqrstuvwxyz" t2)))
    {t3 : Tok} (y3 : PySem.W.nsIn K mainGlobals "LONGEST_names" = some (some (.int 8 t3)))
    {t4 : Tok} (y4 : PySem.W.nsIn K mainGlobals "LONGEST_tickets" = some (some (.int 60 t4)))
    {t5 : Tok} (y5 : PySem.W.nsIn K mainGlobals "MOST" = some (some (.int 1000 t5)))
    {t6 : Tok} (y6 : PySem.W.nsIn K mainGlobals "MOST_AGE" = some (some (.int 99 t6)))
    {t7 : Tok} (y7 : PySem.W.nsIn K mainGlobals "MOST_FIGURES" = some (some (.int 10 t7)))
    {t8 : Tok} (y8 : PySem.W.nsIn K mainGlobals "MOST_LIVING" = some (some (.int 12 t8)))
    {t9 : Tok} (y9 : PySem.W.nsIn K mainGlobals "MOST_PAID" = some (some (.int 1000000 t9)))
    {DSHAPES_lines : Addr} {esSHAPES_lines : Array DictEntry} {nnSHAPES_lines : Nat} (y10 : PySem.W.nsIn K mainGlobals "SHAPES_lines" = some (some (.ref DSHAPES_lines))) (kLSHAPES_lines : K.lookup DSHAPES_lines = some ⟨.type "dict", none, .dict esSHAPES_lines nnSHAPES_lines, #[]⟩) (kKSHAPES_lines : PySem.W.KeysLit w.params esSHAPES_lines.toList) (klSHAPES_lines : (DSHAPES_lines == sysModules) = false) (kESHAPES_lines : esSHAPES_lines.toList.map entS = tab_SHAPES_lines.map some)
    {DSHAPES_pages : Addr} {esSHAPES_pages : Array DictEntry} {nnSHAPES_pages : Nat} (y11 : PySem.W.nsIn K mainGlobals "SHAPES_pages" = some (some (.ref DSHAPES_pages))) (kLSHAPES_pages : K.lookup DSHAPES_pages = some ⟨.type "dict", none, .dict esSHAPES_pages nnSHAPES_pages, #[]⟩) (kKSHAPES_pages : PySem.W.KeysLit w.params esSHAPES_pages.toList) (klSHAPES_pages : (DSHAPES_pages == sysModules) = false) (kESHAPES_pages : esSHAPES_pages.toList.map entS = tab_SHAPES_pages.map some)
    {XBadAge : Addr} (aXBadAge : PySem.W.nsIn K mainGlobals "BadAge" = some (some (.ref XBadAge)))
    {XBadBlanks : Addr} (aXBadBlanks : PySem.W.nsIn K mainGlobals "BadBlanks" = some (some (.ref XBadBlanks)))
    {XBadCoins : Addr} (aXBadCoins : PySem.W.nsIn K mainGlobals "BadCoins" = some (some (.ref XBadCoins)))
    {XBadName : Addr} (aXBadName : PySem.W.nsIn K mainGlobals "BadName" = some (some (.ref XBadName)))
    {XBadTable : Addr} (aXBadTable : PySem.W.nsIn K mainGlobals "BadTable" = some (some (.ref XBadTable)))
    {XDead : Addr} (aXDead : PySem.W.nsIn K mainGlobals "Dead" = some (some (.ref XDead)))
    {XFull : Addr} (aXFull : PySem.W.nsIn K mainGlobals "Full" = some (some (.ref XFull)))
    {XKnown : Addr} (aXKnown : PySem.W.nsIn K mainGlobals "Known" = some (some (.ref XKnown)))
    {XNoDeed : Addr} (aXNoDeed : PySem.W.nsIn K mainGlobals "NoDeed" = some (some (.ref XNoDeed)))
    {XNoMember : Addr} (aXNoMember : PySem.W.nsIn K mainGlobals "NoMember" = some (some (.ref XNoMember)))
    {XNoSociety : Addr} (aXNoSociety : PySem.W.nsIn K mainGlobals "NoSociety" = some (some (.ref XNoSociety)))
    {XOutError : Addr} (aXOutError : PySem.W.nsIn K mainGlobals "OutError" = some (some (.ref XOutError)))
    {XTaken : Addr} (aXTaken : PySem.W.nsIn K mainGlobals "Taken" = some (some (.ref XTaken)))
    {n1BadAge n2BadAge : Str} {NBadAge BBadAge IBadAge : Addr} {bsBadAge subBadAge : List Value} {snBadAge : List Str} {abBadAge : Bool} {coBadAge : Option Bool} {ddBadAge odBadAge anBadAge : Option Addr} {k0BadAge k1BadAge k2BadAge k3BadAge k5BadAge : Option Value} {ocBadAge kVBadAge dcBadAge pmBadAge cdBadAge ctBadAge : Value} {slBadAge : Array (Option Value)}
    (xLBadAge : K.lookup XBadAge = some (excClassObj n1BadAge n2BadAge XBadAge NBadAge bsBadAge [.ref BBadAge, .type "ValueError", .type "Exception", .type "BaseException", .type "object"] true snBadAge subBadAge abBadAge coBadAge ddBadAge k0BadAge k1BadAge k2BadAge k3BadAge k5BadAge "ValueError.__new__"))
    (saBadAge : PySem.W.findIn K (.ref XBadAge) "__setattr__" = some (some (.builtin "object.__setattr__")))
    (gaBadAge : PySem.W.findIn K (.ref XBadAge) "__getattribute__" = some (some (.builtin "BaseException.__getattribute__")))
    (ggBadAge : PySem.W.findIn K (.ref XBadAge) "__getattr__" = some none)
    (nwBadAge : PySem.W.findIn K (.ref XBadAge) "word" = some none)
    (iCBadAge : PySem.W.findIn K (.ref XBadAge) "__init__" = some (some (.ref IBadAge)))
    (tIBadAge : PySem.W.typeIn K (.ref IBadAge) = some (.type "function"))
    (lIBadAge : K.lookup IBadAge = some ⟨ocBadAge, odBadAge, .func (PySem.W.fnOf "__init__" "BadAge.__init__" (defArgs st_XBadAge) (defBody st_XBadAge) (defScope st_XBadAge) .none kVBadAge dcBadAge pmBadAge anBadAge cdBadAge ctBadAge), slBadAge⟩)
    (cIBadAge : PySem.W.codeIn K cdBadAge "BadAge.__init__" = true)
    (kIBadAge : PySem.W.keepIn K (.ref IBadAge) = true)
    (kCBadAge : PySem.W.keepIn K (.ref XBadAge) = true)
    (eCBadAge : PySem.W.subIn K (.ref XBadAge) (.type "BaseException") = some true)
    (tCBadAge : PySem.W.typeIn K (.ref XBadAge) = some (.type "type"))
    (cCBadAge : PySem.W.isClsIn K XBadAge = true)
    (sDBadAge : PySem.W.subIn K (.ref XBadAge) (.ref XBadAge) = some true)
    (haBadAge : PySem.W.findIn K (.ref XBadAge) "__class__" = some (some (.builtin "object.__class__")))
    (hmBadAge : PySem.W.mroIn K XBadAge (.type "object") = some true)
    {n1BadBlanks n2BadBlanks : Str} {NBadBlanks BBadBlanks IBadBlanks : Addr} {bsBadBlanks subBadBlanks : List Value} {snBadBlanks : List Str} {abBadBlanks : Bool} {coBadBlanks : Option Bool} {ddBadBlanks odBadBlanks anBadBlanks : Option Addr} {k0BadBlanks k1BadBlanks k2BadBlanks k3BadBlanks k5BadBlanks : Option Value} {ocBadBlanks kVBadBlanks dcBadBlanks pmBadBlanks cdBadBlanks ctBadBlanks : Value} {slBadBlanks : Array (Option Value)}
    (xLBadBlanks : K.lookup XBadBlanks = some (excClassObj n1BadBlanks n2BadBlanks XBadBlanks NBadBlanks bsBadBlanks [.ref BBadBlanks, .type "ValueError", .type "Exception", .type "BaseException", .type "object"] true snBadBlanks subBadBlanks abBadBlanks coBadBlanks ddBadBlanks k0BadBlanks k1BadBlanks k2BadBlanks k3BadBlanks k5BadBlanks "ValueError.__new__"))
    (saBadBlanks : PySem.W.findIn K (.ref XBadBlanks) "__setattr__" = some (some (.builtin "object.__setattr__")))
    (gaBadBlanks : PySem.W.findIn K (.ref XBadBlanks) "__getattribute__" = some (some (.builtin "BaseException.__getattribute__")))
    (ggBadBlanks : PySem.W.findIn K (.ref XBadBlanks) "__getattr__" = some none)
    (nwBadBlanks : PySem.W.findIn K (.ref XBadBlanks) "word" = some none)
    (iCBadBlanks : PySem.W.findIn K (.ref XBadBlanks) "__init__" = some (some (.ref IBadBlanks)))
    (tIBadBlanks : PySem.W.typeIn K (.ref IBadBlanks) = some (.type "function"))
    (lIBadBlanks : K.lookup IBadBlanks = some ⟨ocBadBlanks, odBadBlanks, .func (PySem.W.fnOf "__init__" "BadBlanks.__init__" (defArgs st_XBadBlanks) (defBody st_XBadBlanks) (defScope st_XBadBlanks) .none kVBadBlanks dcBadBlanks pmBadBlanks anBadBlanks cdBadBlanks ctBadBlanks), slBadBlanks⟩)
    (cIBadBlanks : PySem.W.codeIn K cdBadBlanks "BadBlanks.__init__" = true)
    (kIBadBlanks : PySem.W.keepIn K (.ref IBadBlanks) = true)
    (kCBadBlanks : PySem.W.keepIn K (.ref XBadBlanks) = true)
    (eCBadBlanks : PySem.W.subIn K (.ref XBadBlanks) (.type "BaseException") = some true)
    (tCBadBlanks : PySem.W.typeIn K (.ref XBadBlanks) = some (.type "type"))
    (cCBadBlanks : PySem.W.isClsIn K XBadBlanks = true)
    (sDBadBlanks : PySem.W.subIn K (.ref XBadBlanks) (.ref XBadBlanks) = some true)
    (haBadBlanks : PySem.W.findIn K (.ref XBadBlanks) "__class__" = some (some (.builtin "object.__class__")))
    (hmBadBlanks : PySem.W.mroIn K XBadBlanks (.type "object") = some true)
    {n1BadCoins n2BadCoins : Str} {NBadCoins BBadCoins IBadCoins : Addr} {bsBadCoins subBadCoins : List Value} {snBadCoins : List Str} {abBadCoins : Bool} {coBadCoins : Option Bool} {ddBadCoins odBadCoins anBadCoins : Option Addr} {k0BadCoins k1BadCoins k2BadCoins k3BadCoins k5BadCoins : Option Value} {ocBadCoins kVBadCoins dcBadCoins pmBadCoins cdBadCoins ctBadCoins : Value} {slBadCoins : Array (Option Value)}
    (xLBadCoins : K.lookup XBadCoins = some (excClassObj n1BadCoins n2BadCoins XBadCoins NBadCoins bsBadCoins [.ref BBadCoins, .type "ValueError", .type "Exception", .type "BaseException", .type "object"] true snBadCoins subBadCoins abBadCoins coBadCoins ddBadCoins k0BadCoins k1BadCoins k2BadCoins k3BadCoins k5BadCoins "ValueError.__new__"))
    (saBadCoins : PySem.W.findIn K (.ref XBadCoins) "__setattr__" = some (some (.builtin "object.__setattr__")))
    (gaBadCoins : PySem.W.findIn K (.ref XBadCoins) "__getattribute__" = some (some (.builtin "BaseException.__getattribute__")))
    (ggBadCoins : PySem.W.findIn K (.ref XBadCoins) "__getattr__" = some none)
    (nwBadCoins : PySem.W.findIn K (.ref XBadCoins) "word" = some none)
    (iCBadCoins : PySem.W.findIn K (.ref XBadCoins) "__init__" = some (some (.ref IBadCoins)))
    (tIBadCoins : PySem.W.typeIn K (.ref IBadCoins) = some (.type "function"))
    (lIBadCoins : K.lookup IBadCoins = some ⟨ocBadCoins, odBadCoins, .func (PySem.W.fnOf "__init__" "BadCoins.__init__" (defArgs st_XBadCoins) (defBody st_XBadCoins) (defScope st_XBadCoins) .none kVBadCoins dcBadCoins pmBadCoins anBadCoins cdBadCoins ctBadCoins), slBadCoins⟩)
    (cIBadCoins : PySem.W.codeIn K cdBadCoins "BadCoins.__init__" = true)
    (kIBadCoins : PySem.W.keepIn K (.ref IBadCoins) = true)
    (kCBadCoins : PySem.W.keepIn K (.ref XBadCoins) = true)
    (eCBadCoins : PySem.W.subIn K (.ref XBadCoins) (.type "BaseException") = some true)
    (tCBadCoins : PySem.W.typeIn K (.ref XBadCoins) = some (.type "type"))
    (cCBadCoins : PySem.W.isClsIn K XBadCoins = true)
    (sDBadCoins : PySem.W.subIn K (.ref XBadCoins) (.ref XBadCoins) = some true)
    (haBadCoins : PySem.W.findIn K (.ref XBadCoins) "__class__" = some (some (.builtin "object.__class__")))
    (hmBadCoins : PySem.W.mroIn K XBadCoins (.type "object") = some true)
    {n1BadName n2BadName : Str} {NBadName BBadName IBadName : Addr} {bsBadName subBadName : List Value} {snBadName : List Str} {abBadName : Bool} {coBadName : Option Bool} {ddBadName odBadName anBadName : Option Addr} {k0BadName k1BadName k2BadName k3BadName k5BadName : Option Value} {ocBadName kVBadName dcBadName pmBadName cdBadName ctBadName : Value} {slBadName : Array (Option Value)}
    (xLBadName : K.lookup XBadName = some (excClassObj n1BadName n2BadName XBadName NBadName bsBadName [.ref BBadName, .type "ValueError", .type "Exception", .type "BaseException", .type "object"] true snBadName subBadName abBadName coBadName ddBadName k0BadName k1BadName k2BadName k3BadName k5BadName "ValueError.__new__"))
    (saBadName : PySem.W.findIn K (.ref XBadName) "__setattr__" = some (some (.builtin "object.__setattr__")))
    (gaBadName : PySem.W.findIn K (.ref XBadName) "__getattribute__" = some (some (.builtin "BaseException.__getattribute__")))
    (ggBadName : PySem.W.findIn K (.ref XBadName) "__getattr__" = some none)
    (nwBadName : PySem.W.findIn K (.ref XBadName) "word" = some none)
    (iCBadName : PySem.W.findIn K (.ref XBadName) "__init__" = some (some (.ref IBadName)))
    (tIBadName : PySem.W.typeIn K (.ref IBadName) = some (.type "function"))
    (lIBadName : K.lookup IBadName = some ⟨ocBadName, odBadName, .func (PySem.W.fnOf "__init__" "BadName.__init__" (defArgs st_XBadName) (defBody st_XBadName) (defScope st_XBadName) .none kVBadName dcBadName pmBadName anBadName cdBadName ctBadName), slBadName⟩)
    (cIBadName : PySem.W.codeIn K cdBadName "BadName.__init__" = true)
    (kIBadName : PySem.W.keepIn K (.ref IBadName) = true)
    (kCBadName : PySem.W.keepIn K (.ref XBadName) = true)
    (eCBadName : PySem.W.subIn K (.ref XBadName) (.type "BaseException") = some true)
    (tCBadName : PySem.W.typeIn K (.ref XBadName) = some (.type "type"))
    (cCBadName : PySem.W.isClsIn K XBadName = true)
    (sDBadName : PySem.W.subIn K (.ref XBadName) (.ref XBadName) = some true)
    (haBadName : PySem.W.findIn K (.ref XBadName) "__class__" = some (some (.builtin "object.__class__")))
    (hmBadName : PySem.W.mroIn K XBadName (.type "object") = some true)
    {n1BadTable n2BadTable : Str} {NBadTable BBadTable IBadTable : Addr} {bsBadTable subBadTable : List Value} {snBadTable : List Str} {abBadTable : Bool} {coBadTable : Option Bool} {ddBadTable odBadTable anBadTable : Option Addr} {k0BadTable k1BadTable k2BadTable k3BadTable k5BadTable : Option Value} {ocBadTable kVBadTable dcBadTable pmBadTable cdBadTable ctBadTable : Value} {slBadTable : Array (Option Value)}
    (xLBadTable : K.lookup XBadTable = some (excClassObj n1BadTable n2BadTable XBadTable NBadTable bsBadTable [.ref BBadTable, .type "ValueError", .type "Exception", .type "BaseException", .type "object"] true snBadTable subBadTable abBadTable coBadTable ddBadTable k0BadTable k1BadTable k2BadTable k3BadTable k5BadTable "ValueError.__new__"))
    (saBadTable : PySem.W.findIn K (.ref XBadTable) "__setattr__" = some (some (.builtin "object.__setattr__")))
    (gaBadTable : PySem.W.findIn K (.ref XBadTable) "__getattribute__" = some (some (.builtin "BaseException.__getattribute__")))
    (ggBadTable : PySem.W.findIn K (.ref XBadTable) "__getattr__" = some none)
    (nwBadTable : PySem.W.findIn K (.ref XBadTable) "word" = some none)
    (iCBadTable : PySem.W.findIn K (.ref XBadTable) "__init__" = some (some (.ref IBadTable)))
    (tIBadTable : PySem.W.typeIn K (.ref IBadTable) = some (.type "function"))
    (lIBadTable : K.lookup IBadTable = some ⟨ocBadTable, odBadTable, .func (PySem.W.fnOf "__init__" "BadTable.__init__" (defArgs st_XBadTable) (defBody st_XBadTable) (defScope st_XBadTable) .none kVBadTable dcBadTable pmBadTable anBadTable cdBadTable ctBadTable), slBadTable⟩)
    (cIBadTable : PySem.W.codeIn K cdBadTable "BadTable.__init__" = true)
    (kIBadTable : PySem.W.keepIn K (.ref IBadTable) = true)
    (kCBadTable : PySem.W.keepIn K (.ref XBadTable) = true)
    (eCBadTable : PySem.W.subIn K (.ref XBadTable) (.type "BaseException") = some true)
    (tCBadTable : PySem.W.typeIn K (.ref XBadTable) = some (.type "type"))
    (cCBadTable : PySem.W.isClsIn K XBadTable = true)
    (sDBadTable : PySem.W.subIn K (.ref XBadTable) (.ref XBadTable) = some true)
    (haBadTable : PySem.W.findIn K (.ref XBadTable) "__class__" = some (some (.builtin "object.__class__")))
    (hmBadTable : PySem.W.mroIn K XBadTable (.type "object") = some true)
    {n1Dead n2Dead : Str} {NDead BDead IDead : Addr} {bsDead subDead : List Value} {snDead : List Str} {abDead : Bool} {coDead : Option Bool} {ddDead odDead anDead : Option Addr} {k0Dead k1Dead k2Dead k3Dead k5Dead : Option Value} {ocDead kVDead dcDead pmDead cdDead ctDead : Value} {slDead : Array (Option Value)}
    (xLDead : K.lookup XDead = some (excClassObj n1Dead n2Dead XDead NDead bsDead [.ref BDead, .type "ValueError", .type "Exception", .type "BaseException", .type "object"] true snDead subDead abDead coDead ddDead k0Dead k1Dead k2Dead k3Dead k5Dead "ValueError.__new__"))
    (saDead : PySem.W.findIn K (.ref XDead) "__setattr__" = some (some (.builtin "object.__setattr__")))
    (gaDead : PySem.W.findIn K (.ref XDead) "__getattribute__" = some (some (.builtin "BaseException.__getattribute__")))
    (ggDead : PySem.W.findIn K (.ref XDead) "__getattr__" = some none)
    (nwDead : PySem.W.findIn K (.ref XDead) "word" = some none)
    (iCDead : PySem.W.findIn K (.ref XDead) "__init__" = some (some (.ref IDead)))
    (tIDead : PySem.W.typeIn K (.ref IDead) = some (.type "function"))
    (lIDead : K.lookup IDead = some ⟨ocDead, odDead, .func (PySem.W.fnOf "__init__" "Dead.__init__" (defArgs st_XDead) (defBody st_XDead) (defScope st_XDead) .none kVDead dcDead pmDead anDead cdDead ctDead), slDead⟩)
    (cIDead : PySem.W.codeIn K cdDead "Dead.__init__" = true)
    (kIDead : PySem.W.keepIn K (.ref IDead) = true)
    (kCDead : PySem.W.keepIn K (.ref XDead) = true)
    (eCDead : PySem.W.subIn K (.ref XDead) (.type "BaseException") = some true)
    (tCDead : PySem.W.typeIn K (.ref XDead) = some (.type "type"))
    (cCDead : PySem.W.isClsIn K XDead = true)
    (sDDead : PySem.W.subIn K (.ref XDead) (.ref XDead) = some true)
    (haDead : PySem.W.findIn K (.ref XDead) "__class__" = some (some (.builtin "object.__class__")))
    (hmDead : PySem.W.mroIn K XDead (.type "object") = some true)
    {n1Full n2Full : Str} {NFull BFull IFull : Addr} {bsFull subFull : List Value} {snFull : List Str} {abFull : Bool} {coFull : Option Bool} {ddFull odFull anFull : Option Addr} {k0Full k1Full k2Full k3Full k5Full : Option Value} {ocFull kVFull dcFull pmFull cdFull ctFull : Value} {slFull : Array (Option Value)}
    (xLFull : K.lookup XFull = some (excClassObj n1Full n2Full XFull NFull bsFull [.ref BFull, .type "ValueError", .type "Exception", .type "BaseException", .type "object"] true snFull subFull abFull coFull ddFull k0Full k1Full k2Full k3Full k5Full "ValueError.__new__"))
    (saFull : PySem.W.findIn K (.ref XFull) "__setattr__" = some (some (.builtin "object.__setattr__")))
    (gaFull : PySem.W.findIn K (.ref XFull) "__getattribute__" = some (some (.builtin "BaseException.__getattribute__")))
    (ggFull : PySem.W.findIn K (.ref XFull) "__getattr__" = some none)
    (nwFull : PySem.W.findIn K (.ref XFull) "word" = some none)
    (iCFull : PySem.W.findIn K (.ref XFull) "__init__" = some (some (.ref IFull)))
    (tIFull : PySem.W.typeIn K (.ref IFull) = some (.type "function"))
    (lIFull : K.lookup IFull = some ⟨ocFull, odFull, .func (PySem.W.fnOf "__init__" "Full.__init__" (defArgs st_XFull) (defBody st_XFull) (defScope st_XFull) .none kVFull dcFull pmFull anFull cdFull ctFull), slFull⟩)
    (cIFull : PySem.W.codeIn K cdFull "Full.__init__" = true)
    (kIFull : PySem.W.keepIn K (.ref IFull) = true)
    (kCFull : PySem.W.keepIn K (.ref XFull) = true)
    (eCFull : PySem.W.subIn K (.ref XFull) (.type "BaseException") = some true)
    (tCFull : PySem.W.typeIn K (.ref XFull) = some (.type "type"))
    (cCFull : PySem.W.isClsIn K XFull = true)
    (sDFull : PySem.W.subIn K (.ref XFull) (.ref XFull) = some true)
    (haFull : PySem.W.findIn K (.ref XFull) "__class__" = some (some (.builtin "object.__class__")))
    (hmFull : PySem.W.mroIn K XFull (.type "object") = some true)
    {n1Known n2Known : Str} {NKnown BKnown IKnown : Addr} {bsKnown subKnown : List Value} {snKnown : List Str} {abKnown : Bool} {coKnown : Option Bool} {ddKnown odKnown anKnown : Option Addr} {k0Known k1Known k2Known k3Known k5Known : Option Value} {ocKnown kVKnown dcKnown pmKnown cdKnown ctKnown : Value} {slKnown : Array (Option Value)}
    (xLKnown : K.lookup XKnown = some (excClassObj n1Known n2Known XKnown NKnown bsKnown [.ref BKnown, .type "ValueError", .type "Exception", .type "BaseException", .type "object"] true snKnown subKnown abKnown coKnown ddKnown k0Known k1Known k2Known k3Known k5Known "ValueError.__new__"))
    (saKnown : PySem.W.findIn K (.ref XKnown) "__setattr__" = some (some (.builtin "object.__setattr__")))
    (gaKnown : PySem.W.findIn K (.ref XKnown) "__getattribute__" = some (some (.builtin "BaseException.__getattribute__")))
    (ggKnown : PySem.W.findIn K (.ref XKnown) "__getattr__" = some none)
    (nwKnown : PySem.W.findIn K (.ref XKnown) "word" = some none)
    (iCKnown : PySem.W.findIn K (.ref XKnown) "__init__" = some (some (.ref IKnown)))
    (tIKnown : PySem.W.typeIn K (.ref IKnown) = some (.type "function"))
    (lIKnown : K.lookup IKnown = some ⟨ocKnown, odKnown, .func (PySem.W.fnOf "__init__" "Known.__init__" (defArgs st_XKnown) (defBody st_XKnown) (defScope st_XKnown) .none kVKnown dcKnown pmKnown anKnown cdKnown ctKnown), slKnown⟩)
    (cIKnown : PySem.W.codeIn K cdKnown "Known.__init__" = true)
    (kIKnown : PySem.W.keepIn K (.ref IKnown) = true)
    (kCKnown : PySem.W.keepIn K (.ref XKnown) = true)
    (eCKnown : PySem.W.subIn K (.ref XKnown) (.type "BaseException") = some true)
    (tCKnown : PySem.W.typeIn K (.ref XKnown) = some (.type "type"))
    (cCKnown : PySem.W.isClsIn K XKnown = true)
    (sDKnown : PySem.W.subIn K (.ref XKnown) (.ref XKnown) = some true)
    (haKnown : PySem.W.findIn K (.ref XKnown) "__class__" = some (some (.builtin "object.__class__")))
    (hmKnown : PySem.W.mroIn K XKnown (.type "object") = some true)
    {n1NoDeed n2NoDeed : Str} {NNoDeed BNoDeed INoDeed : Addr} {bsNoDeed subNoDeed : List Value} {snNoDeed : List Str} {abNoDeed : Bool} {coNoDeed : Option Bool} {ddNoDeed odNoDeed anNoDeed : Option Addr} {k0NoDeed k1NoDeed k2NoDeed k3NoDeed k5NoDeed : Option Value} {ocNoDeed kVNoDeed dcNoDeed pmNoDeed cdNoDeed ctNoDeed : Value} {slNoDeed : Array (Option Value)}
    (xLNoDeed : K.lookup XNoDeed = some (excClassObj n1NoDeed n2NoDeed XNoDeed NNoDeed bsNoDeed [.ref BNoDeed, .type "ValueError", .type "Exception", .type "BaseException", .type "object"] true snNoDeed subNoDeed abNoDeed coNoDeed ddNoDeed k0NoDeed k1NoDeed k2NoDeed k3NoDeed k5NoDeed "ValueError.__new__"))
    (saNoDeed : PySem.W.findIn K (.ref XNoDeed) "__setattr__" = some (some (.builtin "object.__setattr__")))
    (gaNoDeed : PySem.W.findIn K (.ref XNoDeed) "__getattribute__" = some (some (.builtin "BaseException.__getattribute__")))
    (ggNoDeed : PySem.W.findIn K (.ref XNoDeed) "__getattr__" = some none)
    (nwNoDeed : PySem.W.findIn K (.ref XNoDeed) "word" = some none)
    (iCNoDeed : PySem.W.findIn K (.ref XNoDeed) "__init__" = some (some (.ref INoDeed)))
    (tINoDeed : PySem.W.typeIn K (.ref INoDeed) = some (.type "function"))
    (lINoDeed : K.lookup INoDeed = some ⟨ocNoDeed, odNoDeed, .func (PySem.W.fnOf "__init__" "NoDeed.__init__" (defArgs st_XNoDeed) (defBody st_XNoDeed) (defScope st_XNoDeed) .none kVNoDeed dcNoDeed pmNoDeed anNoDeed cdNoDeed ctNoDeed), slNoDeed⟩)
    (cINoDeed : PySem.W.codeIn K cdNoDeed "NoDeed.__init__" = true)
    (kINoDeed : PySem.W.keepIn K (.ref INoDeed) = true)
    (kCNoDeed : PySem.W.keepIn K (.ref XNoDeed) = true)
    (eCNoDeed : PySem.W.subIn K (.ref XNoDeed) (.type "BaseException") = some true)
    (tCNoDeed : PySem.W.typeIn K (.ref XNoDeed) = some (.type "type"))
    (cCNoDeed : PySem.W.isClsIn K XNoDeed = true)
    (sDNoDeed : PySem.W.subIn K (.ref XNoDeed) (.ref XNoDeed) = some true)
    (haNoDeed : PySem.W.findIn K (.ref XNoDeed) "__class__" = some (some (.builtin "object.__class__")))
    (hmNoDeed : PySem.W.mroIn K XNoDeed (.type "object") = some true)
    {n1NoMember n2NoMember : Str} {NNoMember BNoMember INoMember : Addr} {bsNoMember subNoMember : List Value} {snNoMember : List Str} {abNoMember : Bool} {coNoMember : Option Bool} {ddNoMember odNoMember anNoMember : Option Addr} {k0NoMember k1NoMember k2NoMember k3NoMember k5NoMember : Option Value} {ocNoMember kVNoMember dcNoMember pmNoMember cdNoMember ctNoMember : Value} {slNoMember : Array (Option Value)}
    (xLNoMember : K.lookup XNoMember = some (excClassObj n1NoMember n2NoMember XNoMember NNoMember bsNoMember [.ref BNoMember, .type "ValueError", .type "Exception", .type "BaseException", .type "object"] true snNoMember subNoMember abNoMember coNoMember ddNoMember k0NoMember k1NoMember k2NoMember k3NoMember k5NoMember "ValueError.__new__"))
    (saNoMember : PySem.W.findIn K (.ref XNoMember) "__setattr__" = some (some (.builtin "object.__setattr__")))
    (gaNoMember : PySem.W.findIn K (.ref XNoMember) "__getattribute__" = some (some (.builtin "BaseException.__getattribute__")))
    (ggNoMember : PySem.W.findIn K (.ref XNoMember) "__getattr__" = some none)
    (nwNoMember : PySem.W.findIn K (.ref XNoMember) "word" = some none)
    (iCNoMember : PySem.W.findIn K (.ref XNoMember) "__init__" = some (some (.ref INoMember)))
    (tINoMember : PySem.W.typeIn K (.ref INoMember) = some (.type "function"))
    (lINoMember : K.lookup INoMember = some ⟨ocNoMember, odNoMember, .func (PySem.W.fnOf "__init__" "NoMember.__init__" (defArgs st_XNoMember) (defBody st_XNoMember) (defScope st_XNoMember) .none kVNoMember dcNoMember pmNoMember anNoMember cdNoMember ctNoMember), slNoMember⟩)
    (cINoMember : PySem.W.codeIn K cdNoMember "NoMember.__init__" = true)
    (kINoMember : PySem.W.keepIn K (.ref INoMember) = true)
    (kCNoMember : PySem.W.keepIn K (.ref XNoMember) = true)
    (eCNoMember : PySem.W.subIn K (.ref XNoMember) (.type "BaseException") = some true)
    (tCNoMember : PySem.W.typeIn K (.ref XNoMember) = some (.type "type"))
    (cCNoMember : PySem.W.isClsIn K XNoMember = true)
    (sDNoMember : PySem.W.subIn K (.ref XNoMember) (.ref XNoMember) = some true)
    (haNoMember : PySem.W.findIn K (.ref XNoMember) "__class__" = some (some (.builtin "object.__class__")))
    (hmNoMember : PySem.W.mroIn K XNoMember (.type "object") = some true)
    {n1NoSociety n2NoSociety : Str} {NNoSociety BNoSociety INoSociety : Addr} {bsNoSociety subNoSociety : List Value} {snNoSociety : List Str} {abNoSociety : Bool} {coNoSociety : Option Bool} {ddNoSociety odNoSociety anNoSociety : Option Addr} {k0NoSociety k1NoSociety k2NoSociety k3NoSociety k5NoSociety : Option Value} {ocNoSociety kVNoSociety dcNoSociety pmNoSociety cdNoSociety ctNoSociety : Value} {slNoSociety : Array (Option Value)}
    (xLNoSociety : K.lookup XNoSociety = some (excClassObj n1NoSociety n2NoSociety XNoSociety NNoSociety bsNoSociety [.ref BNoSociety, .type "ValueError", .type "Exception", .type "BaseException", .type "object"] true snNoSociety subNoSociety abNoSociety coNoSociety ddNoSociety k0NoSociety k1NoSociety k2NoSociety k3NoSociety k5NoSociety "ValueError.__new__"))
    (saNoSociety : PySem.W.findIn K (.ref XNoSociety) "__setattr__" = some (some (.builtin "object.__setattr__")))
    (gaNoSociety : PySem.W.findIn K (.ref XNoSociety) "__getattribute__" = some (some (.builtin "BaseException.__getattribute__")))
    (ggNoSociety : PySem.W.findIn K (.ref XNoSociety) "__getattr__" = some none)
    (nwNoSociety : PySem.W.findIn K (.ref XNoSociety) "word" = some none)
    (iCNoSociety : PySem.W.findIn K (.ref XNoSociety) "__init__" = some (some (.ref INoSociety)))
    (tINoSociety : PySem.W.typeIn K (.ref INoSociety) = some (.type "function"))
    (lINoSociety : K.lookup INoSociety = some ⟨ocNoSociety, odNoSociety, .func (PySem.W.fnOf "__init__" "NoSociety.__init__" (defArgs st_XNoSociety) (defBody st_XNoSociety) (defScope st_XNoSociety) .none kVNoSociety dcNoSociety pmNoSociety anNoSociety cdNoSociety ctNoSociety), slNoSociety⟩)
    (cINoSociety : PySem.W.codeIn K cdNoSociety "NoSociety.__init__" = true)
    (kINoSociety : PySem.W.keepIn K (.ref INoSociety) = true)
    (kCNoSociety : PySem.W.keepIn K (.ref XNoSociety) = true)
    (eCNoSociety : PySem.W.subIn K (.ref XNoSociety) (.type "BaseException") = some true)
    (tCNoSociety : PySem.W.typeIn K (.ref XNoSociety) = some (.type "type"))
    (cCNoSociety : PySem.W.isClsIn K XNoSociety = true)
    (sDNoSociety : PySem.W.subIn K (.ref XNoSociety) (.ref XNoSociety) = some true)
    (haNoSociety : PySem.W.findIn K (.ref XNoSociety) "__class__" = some (some (.builtin "object.__class__")))
    (hmNoSociety : PySem.W.mroIn K XNoSociety (.type "object") = some true)
    {n1Taken n2Taken : Str} {NTaken BTaken ITaken : Addr} {bsTaken subTaken : List Value} {snTaken : List Str} {abTaken : Bool} {coTaken : Option Bool} {ddTaken odTaken anTaken : Option Addr} {k0Taken k1Taken k2Taken k3Taken k5Taken : Option Value} {ocTaken kVTaken dcTaken pmTaken cdTaken ctTaken : Value} {slTaken : Array (Option Value)}
    (xLTaken : K.lookup XTaken = some (excClassObj n1Taken n2Taken XTaken NTaken bsTaken [.ref BTaken, .type "ValueError", .type "Exception", .type "BaseException", .type "object"] true snTaken subTaken abTaken coTaken ddTaken k0Taken k1Taken k2Taken k3Taken k5Taken "ValueError.__new__"))
    (saTaken : PySem.W.findIn K (.ref XTaken) "__setattr__" = some (some (.builtin "object.__setattr__")))
    (gaTaken : PySem.W.findIn K (.ref XTaken) "__getattribute__" = some (some (.builtin "BaseException.__getattribute__")))
    (ggTaken : PySem.W.findIn K (.ref XTaken) "__getattr__" = some none)
    (nwTaken : PySem.W.findIn K (.ref XTaken) "word" = some none)
    (iCTaken : PySem.W.findIn K (.ref XTaken) "__init__" = some (some (.ref ITaken)))
    (tITaken : PySem.W.typeIn K (.ref ITaken) = some (.type "function"))
    (lITaken : K.lookup ITaken = some ⟨ocTaken, odTaken, .func (PySem.W.fnOf "__init__" "Taken.__init__" (defArgs st_XTaken) (defBody st_XTaken) (defScope st_XTaken) .none kVTaken dcTaken pmTaken anTaken cdTaken ctTaken), slTaken⟩)
    (cITaken : PySem.W.codeIn K cdTaken "Taken.__init__" = true)
    (kITaken : PySem.W.keepIn K (.ref ITaken) = true)
    (kCTaken : PySem.W.keepIn K (.ref XTaken) = true)
    (eCTaken : PySem.W.subIn K (.ref XTaken) (.type "BaseException") = some true)
    (tCTaken : PySem.W.typeIn K (.ref XTaken) = some (.type "type"))
    (cCTaken : PySem.W.isClsIn K XTaken = true)
    (sDTaken : PySem.W.subIn K (.ref XTaken) (.ref XTaken) = some true)
    (haTaken : PySem.W.findIn K (.ref XTaken) "__class__" = some (some (.builtin "object.__class__")))
    (hmTaken : PySem.W.mroIn K XTaken (.type "object") = some true)
    (hnX : PySem.W.specialIn K (.builtin "object.__class__") "__get__" = some (some (.builtin "getset_descriptor.__get__"))) (htX : PySem.W.takesIn K (.builtin "object.__class__") = some true)
    (dENoDeed : PySem.W.hasDictIn K XNoDeed = true) (eENoDeed : PySem.W.subIn K (.ref XNoDeed) (.type "BaseException") = some true) (tENoDeed : PySem.W.typeIn K (.ref XNoDeed) = some (.type "type"))
    (sENoDeedNoDeed : PySem.W.subIn K (.ref XNoDeed) (.ref XNoDeed) = some true)
    (dEOutError : PySem.W.hasDictIn K XOutError = true) (eEOutError : PySem.W.subIn K (.ref XOutError) (.type "BaseException") = some true) (tEOutError : PySem.W.typeIn K (.ref XOutError) = some (.type "type"))
    (sEOutErrorBadAge : PySem.W.subIn K (.ref XBadAge) (.ref XOutError) = some true)
    (sEOutErrorBadBlanks : PySem.W.subIn K (.ref XBadBlanks) (.ref XOutError) = some true)
    (sEOutErrorBadCoins : PySem.W.subIn K (.ref XBadCoins) (.ref XOutError) = some true)
    (sEOutErrorBadName : PySem.W.subIn K (.ref XBadName) (.ref XOutError) = some true)
    (sEOutErrorBadTable : PySem.W.subIn K (.ref XBadTable) (.ref XOutError) = some true)
    (sEOutErrorDead : PySem.W.subIn K (.ref XDead) (.ref XOutError) = some true)
    (sEOutErrorFull : PySem.W.subIn K (.ref XFull) (.ref XOutError) = some true)
    (sEOutErrorKnown : PySem.W.subIn K (.ref XKnown) (.ref XOutError) = some true)
    (sEOutErrorNoDeed : PySem.W.subIn K (.ref XNoDeed) (.ref XOutError) = some true)
    (sEOutErrorNoMember : PySem.W.subIn K (.ref XNoMember) (.ref XOutError) = some true)
    (sEOutErrorNoSociety : PySem.W.subIn K (.ref XNoSociety) (.ref XOutError) = some true)
    (sEOutErrorTaken : PySem.W.subIn K (.ref XTaken) (.ref XOutError) = some true)
    : ∃ fd : FuncData, (∀ (s : Shared) (v : Value), BindsTo s fd ⟨[v], []⟩ [("_law_script", v)]) ∧ ∀ base : Heap, K.In base → base.Ns mainGlobals mg → FnOk l.prog w K mg base CX0 10 fa fd ["_law_script"] (spOf0 K) := by
  have e := hfa.symm.trans (PySem.W.mg_of X G a68)
  cases e
  have F1 := fun_mk (st := st_l_box) l1 c1 k1
  have F2 := fun_mk (st := st_l_take) l2 c2 k2
  have F3 := fun_mk (st := st_l_names) l3 c3 k3
  have F4 := fun_mk (st := st_m_Society_now) l4 c4 k4
  have F5 := fun_mk (st := st_m_Society_names) l5 c5 k5
  have F6 := fun_mk (st := st_m_Stand_alive_names) l6 c6 k6
  have F7 := fun_mk (st := st_m_Society_living) l7 c7 k7
  have F8 := fun_mk (st := st_m_Society_is_tied) l8 c8 k8
  have F9 := fun_mk (st := st_m_Society_table) l9 c9 k9
  have F10 := fun_mk (st := st_m_Society_blanks) l10 c10 k10
  have F11 := fun_mk (st := st_p_total) l11 c11 k11
  have F12 := fun_mk (st := st_p_tickets_at) l12 c12 k12
  have F13 := fun_mk (st := st_m_Stand_member) l13 c13 k13
  have F14 := fun_mk (st := st_m_Stand_tickets_of) l14 c14 k14
  have F15 := fun_mk (st := st_m_Stand_live_tickets) l15 c15 k15
  have F16 := fun_mk (st := st_m_Society_total) l16 c16 k16
  have F17 := fun_mk (st := st_m_Society_deeds) l17 c17 k17
  have F18 := fun_mk (st := st_m_Society_bets) l18 c18 k18
  have F19 := fun_mk (st := st_m_Society_strokes) l19 c19 k19
  have F20 := fun_mk (st := st_m_Society_age) l20 c20 k20
  have F21 := fun_mk (st := st_m_Society_coins) l21 c21 k21
  have F22 := fun_mk (st := st_m_Stand_held_of) l22 c22 k22
  have F23 := fun_mk (st := st_m_Stand_free_of) l23 c23 k23
  have F24 := fun_mk (st := st_m_Society_free) l24 c24 k24
  have F25 := fun_mk (st := st_m_Society_tickets) l25 c25 k25
  have F26 := fun_mk (st := st_m_Stand_are_tied) l26 c26 k26
  have F27 := fun_mk (st := st_m_Society_ties) l27 c27 k27
  have F28 := fun_mk (st := st_l_seen) l28 c28 k28
  have F29 := fun_mk (st := st_l_nearly) l29 c29 k29
  have F30 := fun_mk (st := st_l_same) l30 c30 k30
  have F31 := fun_mk (st := st_l_no_form) l31 c31 k31
  have F32 := fun_mk (st := st_l_line) l32 c32 k32
  have F33 := fun_mk (st := st_p_is_name) l33 c33 k33
  have F34 := fun_mk (st := st_p_look_at_name) l34 c34 k34
  have F35 := fun_mk (st := st_m_House_look_at_new) l35 c35 k35
  have F36 := fun_mk (st := st_p_look_at_table) l36 c36 k36
  have F37 := fun_mk (st := st_p_look_at_blanks) l37 c37 k37
  have F38 := fun_mk (st := st_m_Stand_init) l38 c38 k38
  have F39 := fun_mk (st := st_m_Society_init) l39 c39 k39
  have F40 := fun_mk (st := st_m_House_open_one) l40 c40 k40
  have F41 := fun_mk (st := st_m_Member_init) l41 c41 k41
  have F42 := fun_mk (st := st_m_Stand_put_member) l42 c42 k42
  have F43 := fun_mk (st := st_m_Stand_check_living) l43 c43 k43
  have F44 := fun_mk (st := st_m_Stand_put_coins) l44 c44 k44
  have F45 := fun_mk (st := st_p_done_by) l45 c45 k45
  have F46 := fun_mk (st := st_m_Member_like) l46 c46 k46
  have F47 := fun_mk (st := st_m_Stand_like) l47 c47 k47
  have F48 := fun_mk (st := st_m_Society_deed) l48 c48 k48
  have F49 := fun_mk (st := st_m_House_one) l49 c49 k49
  have F50 := fun_mk (st := st_m_House_deed) l50 c50 k50
  have F51 := fun_mk (st := st_m_Society_nowS) l51 c51 k51
  have F52 := fun_mk (st := st_m_Society_twin) l52 c52 k52
  have F53 := fun_mk (st := st_m_House_view) l53 c53 k53
  have F54 := fun_mk (st := st_p_is_number) l54 c54 k54
  have F55 := fun_mk (st := st_p_parts_of) l55 c55 k55
  have F56 := fun_mk (st := st_p_changed) l56 c56 k56
  have F57 := fun_mk (st := st_p_listed) l57 c57 k57
  have F58 := fun_mk (st := st_p_rows_text) l58 c58 k58
  have F59 := fun_mk (st := st_p_of_society) l59 c59 k59
  have F60 := fun_mk (st := st_p_opened_line) l60 c60 k60
  have F61 := fun_mk (st := st_p_number_in) l61 c61 k61
  have F62 := fun_mk (st := st_p_deed_of) l62 c62 k62
  have F63 := fun_mk (st := st_p_deed_line) l63 c63 k63
  have F64 := fun_mk (st := st_m_House_names) l64 c64 k64
  have F65 := fun_mk (st := st_p_answered) l65 c65 k65
  have F66 := fun_mk (st := st_m_House_say) l66 c66 k66
  have F67 := fun_mk (st := st_m_House_init) l67 c67 k67
  have F68 := fun_mk (st := st_law) l68 c68 k68
  have b1 := F1.binds (ps := ["_law_script"]) fun _ _ _ _ _ _ us hl => match us, hl with | [_], _ => rfl
  have b2 := F2.binds (ps := ["_law_box_here", "_law_many"]) fun _ _ _ _ _ _ us hl => match us, hl with | [_, _], _ => rfl
  have b3 := F3.binds (ps := ["_law_box_here", "_law_many"]) fun _ _ _ _ _ _ us hl => match us, hl with | [_, _], _ => rfl
  have b4 := F4.binds (ps := ["self"]) fun _ _ _ _ _ _ us hl => match us, hl with | [_], _ => rfl
  have b5 := F5.binds (ps := ["self"]) fun _ _ _ _ _ _ us hl => match us, hl with | [_], _ => rfl
  have b6 := F6.binds (ps := ["self"]) fun _ _ _ _ _ _ us hl => match us, hl with | [_], _ => rfl
  have b7 := F7.binds (ps := ["self"]) fun _ _ _ _ _ _ us hl => match us, hl with | [_], _ => rfl
  have b8 := F8.binds (ps := ["self"]) fun _ _ _ _ _ _ us hl => match us, hl with | [_], _ => rfl
  have b9 := F9.binds (ps := ["self"]) fun _ _ _ _ _ _ us hl => match us, hl with | [_], _ => rfl
  have b10 := F10.binds (ps := ["self"]) fun _ _ _ _ _ _ us hl => match us, hl with | [_], _ => rfl
  have b11 := F11.binds (ps := ["tickets", "blanks"]) fun _ _ _ _ _ _ us hl => match us, hl with | [_, _], _ => rfl
  have b12 := F12.binds (ps := ["table", "age"]) fun _ _ _ _ _ _ us hl => match us, hl with | [_, _], _ => rfl
  have b13 := F13.binds (ps := ["self", "name"]) fun _ _ _ _ _ _ us hl => match us, hl with | [_, _], _ => rfl
  have b14 := F14.binds (ps := ["self", "name"]) fun _ _ _ _ _ _ us hl => match us, hl with | [_, _], _ => rfl
  have b15 := F15.binds (ps := ["self"]) fun _ _ _ _ _ _ us hl => match us, hl with | [_], _ => rfl
  have b16 := F16.binds (ps := ["self"]) fun _ _ _ _ _ _ us hl => match us, hl with | [_], _ => rfl
  have b17 := F17.binds (ps := ["self"]) fun _ _ _ _ _ _ us hl => match us, hl with | [_], _ => rfl
  have b18 := F18.binds (ps := ["self"]) fun _ _ _ _ _ _ us hl => match us, hl with | [_], _ => rfl
  have b19 := F19.binds (ps := ["self"]) fun _ _ _ _ _ _ us hl => match us, hl with | [_], _ => rfl
  have b20 := F20.binds (ps := ["self", "name"]) fun _ _ _ _ _ _ us hl => match us, hl with | [_, _], _ => rfl
  have b21 := F21.binds (ps := ["self", "name"]) fun _ _ _ _ _ _ us hl => match us, hl with | [_, _], _ => rfl
  have b22 := F22.binds (ps := ["self", "name"]) fun _ _ _ _ _ _ us hl => match us, hl with | [_, _], _ => rfl
  have b23 := F23.binds (ps := ["self", "name"]) fun _ _ _ _ _ _ us hl => match us, hl with | [_, _], _ => rfl
  have b24 := F24.binds (ps := ["self", "name"]) fun _ _ _ _ _ _ us hl => match us, hl with | [_, _], _ => rfl
  have b25 := F25.binds (ps := ["self", "name"]) fun _ _ _ _ _ _ us hl => match us, hl with | [_, _], _ => rfl
  have b26 := F26.binds (ps := ["self", "one", "other"]) fun _ _ _ _ _ _ us hl => match us, hl with | [_, _, _], _ => rfl
  have b27 := F27.binds (ps := ["self", "name"]) fun _ _ _ _ _ _ us hl => match us, hl with | [_, _], _ => rfl
  have b28 := F28.binds (ps := ["_law_society"]) fun _ _ _ _ _ _ us hl => match us, hl with | [_], _ => rfl
  have b29 := F29.binds (ps := ["_law_name", "_law_one"]) fun _ _ _ _ _ _ us hl => match us, hl with | [_, _], _ => rfl
  have b30 := F30.binds (ps := ["_law_found", "_law_due"]) fun _ _ _ _ _ _ us hl => match us, hl with | [_, _], _ => rfl
  have b31 := F31.binds (ps := ["_law_box_here", "_law_line_here"]) fun _ _ _ _ _ _ us hl => match us, hl with | [_, _], _ => rfl
  have b32 := F32.binds (ps := ["_law_box_here", "_law_name", "_law_one", "_law_two"]) fun _ _ _ _ _ _ us hl => match us, hl with | [_, _, _, _], _ => rfl
  have b33 := F33.binds (ps := ["word"]) fun _ _ _ _ _ _ us hl => match us, hl with | [_], _ => rfl
  have b34 := F34.binds (ps := ["word"]) fun _ _ _ _ _ _ us hl => match us, hl with | [_], _ => rfl
  have b35 := F35.binds (ps := ["self", "name"]) fun _ _ _ _ _ _ us hl => match us, hl with | [_, _], _ => rfl
  have b36 := F36.binds (ps := ["table"]) fun _ _ _ _ _ _ us hl => match us, hl with | [_], _ => rfl
  have b37 := F37.binds (ps := ["blanks"]) fun _ _ _ _ _ _ us hl => match us, hl with | [_], _ => rfl
  have b38 := F38.binds (ps := ["self", "by_age", "only_tied", "many"]) fun _ _ _ _ _ _ us hl => match us, hl with | [_, _, _, _], _ => rfl
  have b39 := F39.binds (ps := ["self", "table", "blanks", "tied"]) fun _ _ _ _ _ _ us hl => match us, hl with | [_, _, _, _], _ => rfl
  have b40 := F40.binds (ps := ["self", "name", "table", "blanks", "tied"]) fun _ _ _ _ _ _ us hl => match us, hl with | [_, _, _, _, _], _ => rfl
  have b41 := F41.binds (ps := ["self", "years"]) fun _ _ _ _ _ _ us hl => match us, hl with | [_, _], _ => rfl
  have b42 := F42.binds (ps := ["self", "name", "years"]) fun _ _ _ _ _ _ us hl => match us, hl with | [_, _, _], _ => rfl
  have b43 := F43.binds (ps := ["self", "name"]) fun _ _ _ _ _ _ us hl => match us, hl with | [_, _], _ => rfl
  have b44 := F44.binds (ps := ["self", "name", "coins"]) fun _ _ _ _ _ _ us hl => match us, hl with | [_, _, _], _ => rfl
  have b45 := F45.binds (ps := ["stand", "row"]) fun _ _ _ _ _ _ us hl => match us, hl with | [_, _], _ => rfl
  have b46 := F46.binds (ps := ["self"]) fun _ _ _ _ _ _ us hl => match us, hl with | [_], _ => rfl
  have b47 := F47.binds (ps := ["self"]) fun _ _ _ _ _ _ us hl => match us, hl with | [_], _ => rfl
  have b48 := F48.binds (ps := ["self", "row"]) fun _ _ _ _ _ _ us hl => match us, hl with | [_, _], _ => rfl
  have b49 := F49.binds (ps := ["self", "name"]) fun _ _ _ _ _ _ us hl => match us, hl with | [_, _], _ => rfl
  have b50 := F50.binds (ps := ["self", "name", "row"]) fun _ _ _ _ _ _ us hl => match us, hl with | [_, _, _], _ => rfl
  have b51 := F51.binds (ps := ["self"]) fun _ _ _ _ _ _ us hl => match us, hl with | [_], _ => rfl
  have b52 := F52.binds (ps := ["self"]) fun _ _ _ _ _ _ us hl => match us, hl with | [_], _ => rfl
  have b53 := F53.binds (ps := ["self", "name"]) fun _ _ _ _ _ _ us hl => match us, hl with | [_, _], _ => rfl
  have b54 := F54.binds (ps := ["word"]) fun _ _ _ _ _ _ us hl => match us, hl with | [_], _ => rfl
  have b55 := F55.binds (ps := ["words"]) fun _ _ _ _ _ _ us hl => match us, hl with | [_], _ => rfl
  have b56 := F56.binds (ps := ["house", "word", "parts"]) fun _ _ _ _ _ _ us hl => match us, hl with | [_, _, _], _ => rfl
  have b57 := F57.binds (ps := ["words"]) fun _ _ _ _ _ _ us hl => match us, hl with | [_], _ => rfl
  have b58 := F58.binds (ps := ["rows"]) fun _ _ _ _ _ _ us hl => match us, hl with | [_], _ => rfl
  have b59 := F59.binds (ps := ["society", "word", "parts"]) fun _ _ _ _ _ _ us hl => match us, hl with | [_, _, _], _ => rfl
  have b60 := F60.binds (ps := ["house", "words"]) fun _ _ _ _ _ _ us hl => match us, hl with | [_, _], _ => rfl
  have b61 := F61.binds (ps := ["word"]) fun _ _ _ _ _ _ us hl => match us, hl with | [_], _ => rfl
  have b62 := F62.binds (ps := ["text"]) fun _ _ _ _ _ _ us hl => match us, hl with | [_], _ => rfl
  have b63 := F63.binds (ps := ["house", "words"]) fun _ _ _ _ _ _ us hl => match us, hl with | [_, _], _ => rfl
  have b64 := F64.binds (ps := ["self"]) fun _ _ _ _ _ _ us hl => match us, hl with | [_], _ => rfl
  have b65 := F65.binds (ps := ["house", "words"]) fun _ _ _ _ _ _ us hl => match us, hl with | [_, _], _ => rfl
  have b66 := F66.binds (ps := ["self", "line"]) fun _ _ _ _ _ _ us hl => match us, hl with | [_, _], _ => rfl
  have b67 := F67.binds (ps := ["self"]) fun _ _ _ _ _ _ us hl => match us, hl with | [_], _ => rfl
  have cf_Society : CF K C_Society ks_Society := ⟨⟨pgSociety, hdSociety, poSociety, saSociety⟩, fun f hf => by
    simp only [List.mem_cons, List.not_mem_nil, or_false] at hf
    rcases hf with rfl | rfl | rfl
    · exact nf0Society
    · exact nf1Society
    · exact nf2Society
  ⟩
  have cf_Member : CF K C_Member ks_Member := ⟨⟨pgMember, hdMember, poMember, saMember⟩, fun f hf => by
    simp only [List.mem_cons, List.not_mem_nil, or_false] at hf
    rcases hf with rfl | rfl | rfl
    · exact nf0Member
    · exact nf1Member
    · exact nf2Member
  ⟩
  have cf_Stand : CF K C_Stand ks_Stand := ⟨⟨pgStand, hdStand, poStand, saStand⟩, fun f hf => by
    simp only [List.mem_cons, List.not_mem_nil, or_false] at hf
    rcases hf with rfl | rfl | rfl | rfl | rfl | rfl | rfl
    · exact nf0Stand
    · exact nf1Stand
    · exact nf2Stand
    · exact nf3Stand
    · exact nf4Stand
    · exact nf5Stand
    · exact nf6Stand
  ⟩
  have cf_House : CF K C_House ks_House := ⟨⟨pgHouse, hdHouse, poHouse, saHouse⟩, fun f hf => by
    simp only [List.mem_cons, List.not_mem_nil, or_false] at hf
    rcases hf with rfl
    · exact nf0House
  ⟩
  have m_all := PySem.W.mg_none_of X G z0
  have m_bool := PySem.W.mg_none_of X G z1
  have m_dict := PySem.W.mg_none_of X G z2
  have m_int := PySem.W.mg_none_of X G z3
  have m_isinstance := PySem.W.mg_none_of X G z4
  have m_len := PySem.W.mg_none_of X G z5
  have m_list := PySem.W.mg_none_of X G z6
  have m_range := PySem.W.mg_none_of X G z7
  have m_str := PySem.W.mg_none_of X G z8
  have m_sum := PySem.W.mg_none_of X G z9
  have m_tuple := PySem.W.mg_none_of X G z10
  have m_zip := PySem.W.mg_none_of X G z11
  have m_FIGURES : ConS mg "FIGURES" "0123456789" := ⟨_, PySem.W.mg_of X G y0⟩
  have m_KINDS : ConT K mg "KINDS" ["free", "tied"] := ⟨_, PySem.W.mg_of X G y1, _, _, _, kLKINDS, kcKINDS, kdKINDS, kzKINDS, kvKINDS⟩
  have m_LETTERS : ConS mg "LETTERS" "abcdefghijklmnopqrstuvwxyz" := ⟨_, PySem.W.mg_of X G y2⟩
  have m_LONGEST_names : ConI K mg "LONGEST_names" 8 := ⟨_, PySem.W.mg_of X G y3⟩
  have m_LONGEST_tickets : ConI K mg "LONGEST_tickets" 60 := ⟨_, PySem.W.mg_of X G y4⟩
  have m_MOST : ConI K mg "MOST" 1000 := ⟨_, PySem.W.mg_of X G y5⟩
  have m_MOST_AGE : ConI K mg "MOST_AGE" 99 := ⟨_, PySem.W.mg_of X G y6⟩
  have m_MOST_FIGURES : ConI K mg "MOST_FIGURES" 10 := ⟨_, PySem.W.mg_of X G y7⟩
  have m_MOST_LIVING : ConI K mg "MOST_LIVING" 12 := ⟨_, PySem.W.mg_of X G y8⟩
  have m_MOST_PAID : ConI K mg "MOST_PAID" 1000000 := ⟨_, PySem.W.mg_of X G y9⟩
  have m_SHAPES_lines : ConD K w mg "SHAPES_lines" tab_SHAPES_lines := conD_of (PySem.W.mg_of X G y10) ⟨kLSHAPES_lines, kKSHAPES_lines, klSHAPES_lines⟩ kESHAPES_lines
  have m_SHAPES_pages : ConD K w mg "SHAPES_pages" tab_SHAPES_pages := conD_of (PySem.W.mg_of X G y11) ⟨kLSHAPES_pages, kKSHAPES_pages, klSHAPES_pages⟩ kESHAPES_pages
  have FIBadAge := fun_mk (st := st_XBadAge) lIBadAge cIBadAge kIBadAge
  have bIBadAge := FIBadAge.binds (ps := ["self"]) fun _ _ _ _ _ _ us hl => match us, hl with | [_], _ => rfl
  have OBadAge : OexC K XBadAge := ⟨⟨_, _, _, _, _, _, _, _, _, _, _, _, _, _, _, xLBadAge, rfl⟩, saBadAge, eCBadAge, tCBadAge, kCBadAge⟩
  have TBadAge : ExcT K XBadAge := ⟨cCBadAge, gaBadAge, ggBadAge, eCBadAge, haBadAge, hnX, htX, hmBadAge⟩
  have FIBadBlanks := fun_mk (st := st_XBadBlanks) lIBadBlanks cIBadBlanks kIBadBlanks
  have bIBadBlanks := FIBadBlanks.binds (ps := ["self"]) fun _ _ _ _ _ _ us hl => match us, hl with | [_], _ => rfl
  have OBadBlanks : OexC K XBadBlanks := ⟨⟨_, _, _, _, _, _, _, _, _, _, _, _, _, _, _, xLBadBlanks, rfl⟩, saBadBlanks, eCBadBlanks, tCBadBlanks, kCBadBlanks⟩
  have TBadBlanks : ExcT K XBadBlanks := ⟨cCBadBlanks, gaBadBlanks, ggBadBlanks, eCBadBlanks, haBadBlanks, hnX, htX, hmBadBlanks⟩
  have FIBadCoins := fun_mk (st := st_XBadCoins) lIBadCoins cIBadCoins kIBadCoins
  have bIBadCoins := FIBadCoins.binds (ps := ["self"]) fun _ _ _ _ _ _ us hl => match us, hl with | [_], _ => rfl
  have OBadCoins : OexC K XBadCoins := ⟨⟨_, _, _, _, _, _, _, _, _, _, _, _, _, _, _, xLBadCoins, rfl⟩, saBadCoins, eCBadCoins, tCBadCoins, kCBadCoins⟩
  have TBadCoins : ExcT K XBadCoins := ⟨cCBadCoins, gaBadCoins, ggBadCoins, eCBadCoins, haBadCoins, hnX, htX, hmBadCoins⟩
  have FIBadName := fun_mk (st := st_XBadName) lIBadName cIBadName kIBadName
  have bIBadName := FIBadName.binds (ps := ["self"]) fun _ _ _ _ _ _ us hl => match us, hl with | [_], _ => rfl
  have OBadName : OexC K XBadName := ⟨⟨_, _, _, _, _, _, _, _, _, _, _, _, _, _, _, xLBadName, rfl⟩, saBadName, eCBadName, tCBadName, kCBadName⟩
  have TBadName : ExcT K XBadName := ⟨cCBadName, gaBadName, ggBadName, eCBadName, haBadName, hnX, htX, hmBadName⟩
  have FIBadTable := fun_mk (st := st_XBadTable) lIBadTable cIBadTable kIBadTable
  have bIBadTable := FIBadTable.binds (ps := ["self"]) fun _ _ _ _ _ _ us hl => match us, hl with | [_], _ => rfl
  have OBadTable : OexC K XBadTable := ⟨⟨_, _, _, _, _, _, _, _, _, _, _, _, _, _, _, xLBadTable, rfl⟩, saBadTable, eCBadTable, tCBadTable, kCBadTable⟩
  have TBadTable : ExcT K XBadTable := ⟨cCBadTable, gaBadTable, ggBadTable, eCBadTable, haBadTable, hnX, htX, hmBadTable⟩
  have FIDead := fun_mk (st := st_XDead) lIDead cIDead kIDead
  have bIDead := FIDead.binds (ps := ["self"]) fun _ _ _ _ _ _ us hl => match us, hl with | [_], _ => rfl
  have ODead : OexC K XDead := ⟨⟨_, _, _, _, _, _, _, _, _, _, _, _, _, _, _, xLDead, rfl⟩, saDead, eCDead, tCDead, kCDead⟩
  have TDead : ExcT K XDead := ⟨cCDead, gaDead, ggDead, eCDead, haDead, hnX, htX, hmDead⟩
  have FIFull := fun_mk (st := st_XFull) lIFull cIFull kIFull
  have bIFull := FIFull.binds (ps := ["self"]) fun _ _ _ _ _ _ us hl => match us, hl with | [_], _ => rfl
  have OFull : OexC K XFull := ⟨⟨_, _, _, _, _, _, _, _, _, _, _, _, _, _, _, xLFull, rfl⟩, saFull, eCFull, tCFull, kCFull⟩
  have TFull : ExcT K XFull := ⟨cCFull, gaFull, ggFull, eCFull, haFull, hnX, htX, hmFull⟩
  have FIKnown := fun_mk (st := st_XKnown) lIKnown cIKnown kIKnown
  have bIKnown := FIKnown.binds (ps := ["self"]) fun _ _ _ _ _ _ us hl => match us, hl with | [_], _ => rfl
  have OKnown : OexC K XKnown := ⟨⟨_, _, _, _, _, _, _, _, _, _, _, _, _, _, _, xLKnown, rfl⟩, saKnown, eCKnown, tCKnown, kCKnown⟩
  have TKnown : ExcT K XKnown := ⟨cCKnown, gaKnown, ggKnown, eCKnown, haKnown, hnX, htX, hmKnown⟩
  have FINoDeed := fun_mk (st := st_XNoDeed) lINoDeed cINoDeed kINoDeed
  have bINoDeed := FINoDeed.binds (ps := ["self"]) fun _ _ _ _ _ _ us hl => match us, hl with | [_], _ => rfl
  have ONoDeed : OexC K XNoDeed := ⟨⟨_, _, _, _, _, _, _, _, _, _, _, _, _, _, _, xLNoDeed, rfl⟩, saNoDeed, eCNoDeed, tCNoDeed, kCNoDeed⟩
  have TNoDeed : ExcT K XNoDeed := ⟨cCNoDeed, gaNoDeed, ggNoDeed, eCNoDeed, haNoDeed, hnX, htX, hmNoDeed⟩
  have FINoMember := fun_mk (st := st_XNoMember) lINoMember cINoMember kINoMember
  have bINoMember := FINoMember.binds (ps := ["self"]) fun _ _ _ _ _ _ us hl => match us, hl with | [_], _ => rfl
  have ONoMember : OexC K XNoMember := ⟨⟨_, _, _, _, _, _, _, _, _, _, _, _, _, _, _, xLNoMember, rfl⟩, saNoMember, eCNoMember, tCNoMember, kCNoMember⟩
  have TNoMember : ExcT K XNoMember := ⟨cCNoMember, gaNoMember, ggNoMember, eCNoMember, haNoMember, hnX, htX, hmNoMember⟩
  have FINoSociety := fun_mk (st := st_XNoSociety) lINoSociety cINoSociety kINoSociety
  have bINoSociety := FINoSociety.binds (ps := ["self"]) fun _ _ _ _ _ _ us hl => match us, hl with | [_], _ => rfl
  have ONoSociety : OexC K XNoSociety := ⟨⟨_, _, _, _, _, _, _, _, _, _, _, _, _, _, _, xLNoSociety, rfl⟩, saNoSociety, eCNoSociety, tCNoSociety, kCNoSociety⟩
  have TNoSociety : ExcT K XNoSociety := ⟨cCNoSociety, gaNoSociety, ggNoSociety, eCNoSociety, haNoSociety, hnX, htX, hmNoSociety⟩
  have FITaken := fun_mk (st := st_XTaken) lITaken cITaken kITaken
  have bITaken := FITaken.binds (ps := ["self"]) fun _ _ _ _ _ _ us hl => match us, hl with | [_], _ => rfl
  have OTaken : OexC K XTaken := ⟨⟨_, _, _, _, _, _, _, _, _, _, _, _, _, _, _, xLTaken, rfl⟩, saTaken, eCTaken, tCTaken, kCTaken⟩
  have TTaken : ExcT K XTaken := ⟨cCTaken, gaTaken, ggTaken, eCTaken, haTaken, hnX, htX, hmTaken⟩
  have E_NoDeed : ∃ C, mg "NoDeed" = some (.ref C) ∧ ExTab K mg ["NoDeed"] (.ref C) := ⟨XNoDeed, PySem.W.mg_of X G aXNoDeed, by
    intro n D hn hm
    simp only [List.mem_cons, List.not_mem_nil, or_false] at hn
    rcases hn with rfl
    · cases hm.symm.trans (PySem.W.mg_of X G aXNoDeed)
      exact PySem.W.exm_ref eENoDeed dENoDeed tENoDeed sENoDeedNoDeed
  ⟩
  have E_OutError : ∃ C, mg "OutError" = some (.ref C) ∧ ExTab K mg ["BadAge", "BadBlanks", "BadCoins", "BadName", "BadTable", "Dead", "Full", "Known", "NoDeed", "NoMember", "NoSociety", "Taken"] (.ref C) := ⟨XOutError, PySem.W.mg_of X G aXOutError, by
    intro n D hn hm
    simp only [List.mem_cons, List.not_mem_nil, or_false] at hn
    rcases hn with rfl | rfl | rfl | rfl | rfl | rfl | rfl | rfl | rfl | rfl | rfl | rfl
    · cases hm.symm.trans (PySem.W.mg_of X G aXBadAge)
      exact PySem.W.exm_ref eEOutError dEOutError tEOutError sEOutErrorBadAge
    · cases hm.symm.trans (PySem.W.mg_of X G aXBadBlanks)
      exact PySem.W.exm_ref eEOutError dEOutError tEOutError sEOutErrorBadBlanks
    · cases hm.symm.trans (PySem.W.mg_of X G aXBadCoins)
      exact PySem.W.exm_ref eEOutError dEOutError tEOutError sEOutErrorBadCoins
    · cases hm.symm.trans (PySem.W.mg_of X G aXBadName)
      exact PySem.W.exm_ref eEOutError dEOutError tEOutError sEOutErrorBadName
    · cases hm.symm.trans (PySem.W.mg_of X G aXBadTable)
      exact PySem.W.exm_ref eEOutError dEOutError tEOutError sEOutErrorBadTable
    · cases hm.symm.trans (PySem.W.mg_of X G aXDead)
      exact PySem.W.exm_ref eEOutError dEOutError tEOutError sEOutErrorDead
    · cases hm.symm.trans (PySem.W.mg_of X G aXFull)
      exact PySem.W.exm_ref eEOutError dEOutError tEOutError sEOutErrorFull
    · cases hm.symm.trans (PySem.W.mg_of X G aXKnown)
      exact PySem.W.exm_ref eEOutError dEOutError tEOutError sEOutErrorKnown
    · cases hm.symm.trans (PySem.W.mg_of X G aXNoDeed)
      exact PySem.W.exm_ref eEOutError dEOutError tEOutError sEOutErrorNoDeed
    · cases hm.symm.trans (PySem.W.mg_of X G aXNoMember)
      exact PySem.W.exm_ref eEOutError dEOutError tEOutError sEOutErrorNoMember
    · cases hm.symm.trans (PySem.W.mg_of X G aXNoSociety)
      exact PySem.W.exm_ref eEOutError dEOutError tEOutError sEOutErrorNoSociety
    · cases hm.symm.trans (PySem.W.mg_of X G aXTaken)
      exact PySem.W.exm_ref eEOutError dEOutError tEOutError sEOutErrorTaken
  ⟩
  refine ⟨PySem.W.fnOf "law" "law" (defArgs st_law) (defBody st_law) (defScope st_law) .none kV68 dc68 pm68 an68 cd68 ct68, fun s v => .of_eq rfl, fun base _ _ => ?_⟩
  have X_BadAge : ExcF l.prog w K mg base "BadAge" := ⟨XBadAge, IBadAge, _, PySem.W.mg_of X G aXBadAge, OBadAge, nwBadAge, iCBadAge, tIBadAge, exc_init FIBadAge sc_XBadAge rfl rfl, bIBadAge⟩
  have X_BadBlanks : ExcF l.prog w K mg base "BadBlanks" := ⟨XBadBlanks, IBadBlanks, _, PySem.W.mg_of X G aXBadBlanks, OBadBlanks, nwBadBlanks, iCBadBlanks, tIBadBlanks, exc_init FIBadBlanks sc_XBadBlanks rfl rfl, bIBadBlanks⟩
  have X_BadCoins : ExcF l.prog w K mg base "BadCoins" := ⟨XBadCoins, IBadCoins, _, PySem.W.mg_of X G aXBadCoins, OBadCoins, nwBadCoins, iCBadCoins, tIBadCoins, exc_init FIBadCoins sc_XBadCoins rfl rfl, bIBadCoins⟩
  have X_BadName : ExcF l.prog w K mg base "BadName" := ⟨XBadName, IBadName, _, PySem.W.mg_of X G aXBadName, OBadName, nwBadName, iCBadName, tIBadName, exc_init FIBadName sc_XBadName rfl rfl, bIBadName⟩
  have X_BadTable : ExcF l.prog w K mg base "BadTable" := ⟨XBadTable, IBadTable, _, PySem.W.mg_of X G aXBadTable, OBadTable, nwBadTable, iCBadTable, tIBadTable, exc_init FIBadTable sc_XBadTable rfl rfl, bIBadTable⟩
  have X_Dead : ExcF l.prog w K mg base "Dead" := ⟨XDead, IDead, _, PySem.W.mg_of X G aXDead, ODead, nwDead, iCDead, tIDead, exc_init FIDead sc_XDead rfl rfl, bIDead⟩
  have X_Full : ExcF l.prog w K mg base "Full" := ⟨XFull, IFull, _, PySem.W.mg_of X G aXFull, OFull, nwFull, iCFull, tIFull, exc_init FIFull sc_XFull rfl rfl, bIFull⟩
  have X_Known : ExcF l.prog w K mg base "Known" := ⟨XKnown, IKnown, _, PySem.W.mg_of X G aXKnown, OKnown, nwKnown, iCKnown, tIKnown, exc_init FIKnown sc_XKnown rfl rfl, bIKnown⟩
  have X_NoDeed : ExcF l.prog w K mg base "NoDeed" := ⟨XNoDeed, INoDeed, _, PySem.W.mg_of X G aXNoDeed, ONoDeed, nwNoDeed, iCNoDeed, tINoDeed, exc_init FINoDeed sc_XNoDeed rfl rfl, bINoDeed⟩
  have X_NoMember : ExcF l.prog w K mg base "NoMember" := ⟨XNoMember, INoMember, _, PySem.W.mg_of X G aXNoMember, ONoMember, nwNoMember, iCNoMember, tINoMember, exc_init FINoMember sc_XNoMember rfl rfl, bINoMember⟩
  have X_NoSociety : ExcF l.prog w K mg base "NoSociety" := ⟨XNoSociety, INoSociety, _, PySem.W.mg_of X G aXNoSociety, ONoSociety, nwNoSociety, iCNoSociety, tINoSociety, exc_init FINoSociety sc_XNoSociety rfl rfl, bINoSociety⟩
  have X_Taken : ExcF l.prog w K mg base "Taken" := ⟨XTaken, ITaken, _, PySem.W.mg_of X G aXTaken, OTaken, nwTaken, iCTaken, tITaken, exc_init FITaken sc_XTaken rfl rfl, bITaken⟩
  have B_box : FnOk l.prog w K mg base CX0 1 f1 _ ["_law_script"] (spBox K) := ok_l_box F1 m_list
  have C_l_take : Cal l.prog w K mg base "_law_take" ["_law_box_here", "_law_many"] 1 S_l_take := Cal.mk' F2 (ok_l_take F2 m_len) (PySem.W.mg_of X G a2) b2
  have C_l_names : Cal l.prog w K mg base "_law_names" ["_law_box_here", "_law_many"] 2 S_l_names := Cal.mk' F3 (ok_l_names F3 C_l_take m_range m_list) (PySem.W.mg_of X G a3) b3
  have M_Society_now : MthP CX0 l.prog w K mg base C_Society "now" ["self"] 1 (S_m_Society_now C_Member C_Stand C_Society) := ⟨⟨_, _, (ok_m_Society_now cf_Society cf_Member cf_Stand F4 ), ⟨a4, i4, k4⟩, b4⟩, cf_Society.cls⟩
  have M_Society_names : MthP CX0 l.prog w K mg base C_Society "names" ["self"] 2 (S_m_Society_names C_Member C_Stand C_Society) := ⟨⟨_, _, (ok_m_Society_names cf_Society cf_Stand cf_Member F5 M_Society_now m_list), ⟨a5, i5, k5⟩, b5⟩, cf_Society.cls⟩
  have M_Stand_alive_names : MthP CX0 l.prog w K mg base C_Stand "alive_names" ["self"] 1 (S_m_Stand_alive_names C_Member C_Stand) := ⟨⟨_, _, (ok_m_Stand_alive_names cf_Stand cf_Member F6 ), ⟨a6, i6, k6⟩, b6⟩, cf_Stand.cls⟩
  have M_Society_living : MthP CX0 l.prog w K mg base C_Society "living" ["self"] 2 (S_m_Society_living C_Member C_Stand C_Society) := ⟨⟨_, _, (ok_m_Society_living cf_Society cf_Stand cf_Member F7 M_Stand_alive_names M_Society_now), ⟨a7, i7, k7⟩, b7⟩, cf_Society.cls⟩
  have M_Society_is_tied : MthP CX0 l.prog w K mg base C_Society "is_tied" ["self"] 2 (S_m_Society_is_tied C_Member C_Stand C_Society) := ⟨⟨_, _, (ok_m_Society_is_tied cf_Society cf_Stand cf_Member F8 M_Society_now), ⟨a8, i8, k8⟩, b8⟩, cf_Society.cls⟩
  have M_Society_table : MthP CX0 l.prog w K mg base C_Society "table" ["self"] 2 (S_m_Society_table C_Member C_Stand C_Society) := ⟨⟨_, _, (ok_m_Society_table cf_Society cf_Stand cf_Member F9 M_Society_now m_list), ⟨a9, i9, k9⟩, b9⟩, cf_Society.cls⟩
  have M_Society_blanks : MthP CX0 l.prog w K mg base C_Society "blanks" ["self"] 2 (S_m_Society_blanks C_Member C_Stand C_Society) := ⟨⟨_, _, (ok_m_Society_blanks cf_Society cf_Stand cf_Member F10 M_Society_now), ⟨a10, i10, k10⟩, b10⟩, cf_Society.cls⟩
  have C_p_total : Cal l.prog w K mg base "total" ["tickets", "blanks"] 1 S_p_total := Cal.mk' F11 (ok_p_total F11 m_sum) (PySem.W.mg_of X G a11) b11
  have C_p_total_tickets : Cal l.prog w K mg base "total_tickets" ["tickets", "blanks"] 1 S_p_total := Cal.mkA F11 (ok_p_total F11 m_sum) (PySem.W.mg_of X G aAtotal_tickets) b11
  have C_p_tickets_at : Cal l.prog w K mg base "tickets_at" ["table", "age"] 1 S_p_tickets_at := Cal.mk' F12 (ok_p_tickets_at F12 m_len) (PySem.W.mg_of X G a12) b12
  have M_Stand_member : MthP (L2.CX l.prog w) l.prog w K mg base C_Stand "member" ["self", "name"] 3 (S_m_Stand_member C_Member C_Stand) := ⟨⟨_, _, (ok_m_Stand_member cf_Stand cf_Member F13 X_NoMember), ⟨a13, i13, k13⟩, b13⟩, cf_Stand.cls⟩
  have M_Stand_tickets_of : MthP (L2.CX l.prog w) l.prog w K mg base C_Stand "tickets_of" ["self", "name"] 4 (S_m_Stand_tickets_of C_Member C_Stand) := ⟨⟨_, _, (ok_m_Stand_tickets_of cf_Stand cf_Member F14 C_p_tickets_at M_Stand_member), ⟨a14, i14, k14⟩, b14⟩, cf_Stand.cls⟩
  have M_Stand_live_tickets : MthP CX0 l.prog w K mg base C_Stand "live_tickets" ["self"] 5 (S_m_Stand_live_tickets C_Member C_Stand) := ⟨⟨_, _, (ok_m_Stand_live_tickets cf_Stand cf_Member F15 M_Stand_tickets_of M_Stand_alive_names), ⟨a15, i15, k15⟩, b15⟩, cf_Stand.cls⟩
  have M_Society_total : MthP CX0 l.prog w K mg base C_Society "total" ["self"] 6 (S_m_Society_total C_Member C_Stand C_Society) := ⟨⟨_, _, (ok_m_Society_total cf_Society cf_Stand cf_Member F16 C_p_total_tickets M_Stand_live_tickets M_Society_now), ⟨a16, i16, k16⟩, b16⟩, cf_Society.cls⟩
  have M_Society_deeds : MthP CX0 l.prog w K mg base C_Society "deeds" ["self"] 1 (S_m_Society_deeds C_Member C_Stand C_Society) := ⟨⟨_, _, (ok_m_Society_deeds cf_Society cf_Member cf_Stand F17 m_list), ⟨a17, i17, k17⟩, b17⟩, cf_Society.cls⟩
  have M_Society_bets : MthP CX0 l.prog w K mg base C_Society "bets" ["self"] 2 (S_m_Society_bets C_Member C_Stand C_Society) := ⟨⟨_, _, (ok_m_Society_bets cf_Society cf_Stand cf_Member F18 M_Society_now m_list), ⟨a18, i18, k18⟩, b18⟩, cf_Society.cls⟩
  have M_Society_strokes : MthP CX0 l.prog w K mg base C_Society "strokes" ["self"] 2 (S_m_Society_strokes C_Member C_Stand C_Society) := ⟨⟨_, _, (ok_m_Society_strokes cf_Society cf_Stand cf_Member F19 M_Society_now m_list), ⟨a19, i19, k19⟩, b19⟩, cf_Society.cls⟩
  have M_Society_age : MthP (L2.CX l.prog w) l.prog w K mg base C_Society "age" ["self", "name"] 4 (S_m_Society_age C_Member C_Stand C_Society) := ⟨⟨_, _, (ok_m_Society_age cf_Society cf_Member cf_Stand F20 M_Stand_member M_Society_now), ⟨a20, i20, k20⟩, b20⟩, cf_Society.cls⟩
  have M_Society_coins : MthP (L2.CX l.prog w) l.prog w K mg base C_Society "coins" ["self", "name"] 4 (S_m_Society_coins C_Member C_Stand C_Society) := ⟨⟨_, _, (ok_m_Society_coins cf_Society cf_Member cf_Stand F21 M_Stand_member M_Society_now), ⟨a21, i21, k21⟩, b21⟩, cf_Society.cls⟩
  have M_Stand_held_of : MthP CX0 l.prog w K mg base C_Stand "held_of" ["self", "name"] 1 (S_m_Stand_held_of C_Member C_Stand) := ⟨⟨_, _, (ok_m_Stand_held_of cf_Stand cf_Member F22 ), ⟨a22, i22, k22⟩, b22⟩, cf_Stand.cls⟩
  have M_Stand_free_of : MthP (L2.CX l.prog w) l.prog w K mg base C_Stand "free_of" ["self", "name"] 4 (S_m_Stand_free_of C_Member C_Stand) := ⟨⟨_, _, (ok_m_Stand_free_of cf_Stand cf_Member F23 M_Stand_held_of M_Stand_member), ⟨a23, i23, k23⟩, b23⟩, cf_Stand.cls⟩
  have M_Society_free : MthP (L2.CX l.prog w) l.prog w K mg base C_Society "free" ["self", "name"] 5 (S_m_Society_free C_Member C_Stand C_Society) := ⟨⟨_, _, (ok_m_Society_free cf_Society cf_Stand cf_Member F24 M_Stand_free_of M_Society_now), ⟨a24, i24, k24⟩, b24⟩, cf_Society.cls⟩
  have M_Society_tickets : MthP (L2.CX l.prog w) l.prog w K mg base C_Society "tickets" ["self", "name"] 5 (S_m_Society_tickets C_Member C_Stand C_Society) := ⟨⟨_, _, (ok_m_Society_tickets cf_Society cf_Stand cf_Member F25 M_Stand_tickets_of M_Society_now), ⟨a25, i25, k25⟩, b25⟩, cf_Society.cls⟩
  have M_Stand_are_tied : MthP CX0 l.prog w K mg base C_Stand "are_tied" ["self", "one", "other"] 1 (S_m_Stand_are_tied C_Member C_Stand) := ⟨⟨_, _, (ok_m_Stand_are_tied cf_Stand cf_Member F26 ), ⟨a26, i26, k26⟩, b26⟩, cf_Stand.cls⟩
  have M_Society_ties : MthP (L2.CX l.prog w) l.prog w K mg base C_Society "ties" ["self", "name"] 4 (S_m_Society_ties C_Member C_Stand C_Society) := ⟨⟨_, _, (ok_m_Society_ties cf_Society cf_Stand cf_Member F27 M_Stand_member M_Society_now M_Stand_are_tied), ⟨a27, i27, k27⟩, b27⟩, cf_Society.cls⟩
  have C_l_seen : Cal l.prog w K mg base "_law_seen" ["_law_society"] 7 (S_l_seen C_Member C_Stand C_Society) := Cal.mk' F28 (ok_l_seen cf_Society cf_Member cf_Stand  F28 M_Society_names M_Society_living M_Society_is_tied M_Society_table M_Society_blanks M_Society_total M_Society_deeds M_Society_bets M_Society_strokes M_Society_age M_Society_coins M_Society_free M_Society_tickets M_Society_ties) (PySem.W.mg_of X G a28) b28
  have C_l_nearly : Cal l.prog w K mg base "_law_nearly" ["_law_name", "_law_one"] 1 S_l_nearly := Cal.mk' F29 (ok_l_nearly F29 ) (PySem.W.mg_of X G a29) b29
  have C_l_same : Cal l.prog w K mg base "_law_same" ["_law_found", "_law_due"] 8 (S_same 8) := Cal.mk' F30 (ok_l_same b30 (PySem.W.mg_of X G a30) F30 m_isinstance m_list m_tuple m_all m_bool m_int m_str m_len m_zip) (PySem.W.mg_of X G a30) b30
  have C_l_no_form : Cal l.prog w K mg base "_law_no_form" ["_law_box_here", "_law_line_here"] 2 S_l_no_form := Cal.mk' F31 (ok_l_no_form F31 C_l_take m_len) (PySem.W.mg_of X G a31) b31
  have C_l_line : Cal l.prog w K mg base "_law_line" ["_law_box_here", "_law_name", "_law_one", "_law_two"] 2 S_l_line := Cal.mk' F32 (ok_l_line F32 C_l_take m_str m_len) (PySem.W.mg_of X G a32) b32
  have C_p_is_name : Cal l.prog w K mg base "is_name" ["word"] 1 S_p_is_name := Cal.mk' F33 (ok_p_is_name F33 m_len m_LONGEST_names m_LETTERS) (PySem.W.mg_of X G a33) b33
  have C_p_look_at_name : CalX l.prog w K mg base "look_at_name" ["word"] 3 S_p_look_at_name := CalX.mk' F34 (ok_p_look_at_name F34 C_p_is_name X_BadName) (PySem.W.mg_of X G a34) b34
  have M_House_look_at_new : MthP (L2.CX l.prog w) l.prog w K mg base C_House "look_at_new" ["self", "name"] 4 (S_m_House_look_at_new C_House) := ⟨⟨_, _, (ok_m_House_look_at_new cf_House F35 C_p_look_at_name X_Known), ⟨a35, i35, k35⟩, b35⟩, cf_House.cls⟩
  have C_p_look_at_table : CalX l.prog w K mg base "look_at_table" ["table"] 3 S_p_look_at_table := CalX.mk' F36 (ok_p_look_at_table F36 X_BadTable m_len m_LONGEST_tickets m_MOST) (PySem.W.mg_of X G a36) b36
  have C_p_look_at_blanks : CalX l.prog w K mg base "look_at_blanks" ["blanks"] 3 S_p_look_at_blanks := CalX.mk' F37 (ok_p_look_at_blanks F37 X_BadBlanks m_MOST) (PySem.W.mg_of X G a37) b37
  have MK_Stand : MkS CX0 l.prog w K mg base "Stand" C_Stand ["self", "by_age", "only_tied", "many"] 1 (S_m_Stand_init C_Member C_Stand) := ⟨⟨_, _, (ok_m_Stand_init cf_Stand cf_Member F38 m_list), ⟨mkStand, a38, i38, kcStand⟩, b38⟩, PySem.W.mg_of X G aCStand⟩
  have MK_Society : MkS (L2.CX l.prog w) l.prog w K mg base "Society" C_Society ["self", "table", "blanks", "tied"] 4 (S_m_Society_init C_Member C_Stand C_Society) := ⟨⟨_, _, (ok_m_Society_init cf_Society cf_Stand cf_Member F39 C_p_look_at_table C_p_look_at_blanks MK_Stand), ⟨mkSociety, a39, i39, kcSociety⟩, b39⟩, PySem.W.mg_of X G aCSociety⟩
  have M_House_open_one : MthS (L2.CX l.prog w) l.prog w K mg base C_House "open_one" ["self", "name", "table", "blanks", "tied"] 6 (S_m_House_open_one C_Member C_Stand C_Society C_House) := ⟨⟨_, _, (ok_m_House_open_one cf_House cf_Society cf_Member cf_Stand F40 M_House_look_at_new MK_Society), ⟨a40, i40, k40⟩, b40⟩, cf_House.cls⟩
  have MK_Member : MkS CX0 l.prog w K mg base "Member" C_Member ["self", "years"] 1 (S_m_Member_init C_Member) := ⟨⟨_, _, (ok_m_Member_init cf_Member F41 ), ⟨mkMember, a41, i41, kcMember⟩, b41⟩, PySem.W.mg_of X G aCMember⟩
  have M_Stand_put_member : MthS (L2.CX l.prog w) l.prog w K mg base C_Stand "put_member" ["self", "name", "years"] 4 (S_m_Stand_put_member C_Member C_Stand) := ⟨⟨_, _, (ok_m_Stand_put_member cf_Stand cf_Member F42 C_p_look_at_name M_Stand_alive_names MK_Member X_Taken X_Full X_BadAge m_len m_MOST_LIVING m_MOST_AGE), ⟨a42, i42, k42⟩, b42⟩, cf_Stand.cls⟩
  have M_Stand_check_living : MthP (L2.CX l.prog w) l.prog w K mg base C_Stand "check_living" ["self", "name"] 4 (S_m_Stand_check_living C_Member C_Stand) := ⟨⟨_, _, (ok_m_Stand_check_living cf_Stand cf_Member F43 M_Stand_member X_Dead), ⟨a43, i43, k43⟩, b43⟩, cf_Stand.cls⟩
  have M_Stand_put_coins : MthS (L2.CX l.prog w) l.prog w K mg base C_Stand "put_coins" ["self", "name", "coins"] 5 (S_m_Stand_put_coins C_Member C_Stand) := ⟨⟨_, _, (ok_m_Stand_put_coins cf_Stand cf_Member F44 M_Stand_check_living X_BadCoins m_MOST_PAID), ⟨a44, i44, k44⟩, b44⟩, cf_Stand.cls⟩
  have C_p_done_by : CalS (L2.CX l.prog w) l.prog w K mg base "done_by" ["stand", "row"] 6 (S_p_done_by C_Member C_Stand) := ⟨_, _, ok_p_done_by cf_Stand cf_Member  F45 M_Stand_put_member M_Stand_put_coins, (PySem.W.mg_of X G a45), F45.kp, b45⟩
  have M_Member_like : MthP CX0 l.prog w K mg base C_Member "like" ["self"] 3 (S_m_Member_like C_Member) := ⟨⟨_, _, (ok_m_Member_like cf_Member F46 MK_Member), ⟨a46, i46, k46⟩, b46⟩, cf_Member.cls⟩
  have M_Stand_like : MthP CX0 l.prog w K mg base C_Stand "like" ["self"] 4 (S_m_Stand_like C_Member C_Stand) := ⟨⟨_, _, (ok_m_Stand_like cf_Stand cf_Member F47 M_Member_like MK_Stand m_dict m_list), ⟨a47, i47, k47⟩, b47⟩, cf_Stand.cls⟩
  have M_Society_deed : MthS (L2.CX l.prog w) l.prog w K mg base C_Society "deed" ["self", "row"] 7 (S_m_Society_deed C_Member C_Stand C_Society) := ⟨⟨_, _, (ok_m_Society_deed cf_Society cf_Stand cf_Member F48 C_p_done_by M_Stand_like M_Society_now), ⟨a48, i48, k48⟩, b48⟩, cf_Society.cls⟩
  have M_House_one : MthP (L2.CX l.prog w) l.prog w K mg base C_House "one" ["self", "name"] 3 (S_m_House_one C_House) := ⟨⟨_, _, (ok_m_House_one cf_House F49 X_NoSociety), ⟨a49, i49, k49⟩, b49⟩, cf_House.cls⟩
  have M_House_deed : MthS (L2.CX l.prog w) l.prog w K mg base C_House "deed" ["self", "name", "row"] 8 (S_m_House_deed C_Member C_Stand C_Society C_House) := ⟨⟨_, _, (ok_m_House_deed cf_House cf_Society cf_Member cf_Stand F50 M_Society_deed M_House_one), ⟨a50, i50, k50⟩, b50⟩, cf_House.cls⟩
  have M_Society_nowS : MthS CX0 l.prog w K mg base C_Society "now" ["self"] 1 (S_m_Society_nowS C_Member C_Stand C_Society) := ⟨⟨_, _, (ok_m_Society_nowS cf_Society cf_Member cf_Stand F51 ), ⟨a51, i51, k51⟩, b51⟩, cf_Society.cls⟩
  have M_Society_twin : MthS CX0 l.prog w K mg base C_Society "twin" ["self"] 6 (S_m_Society_twin C_Member C_Stand C_Society) := ⟨⟨_, _, (ok_m_Society_twin cf_Society cf_Stand cf_Member F52 M_Society_nowS MK_Society m_list), ⟨a52, i52, k52⟩, b52⟩, cf_Society.cls⟩
  have M_House_view : MthS (L2.CX l.prog w) l.prog w K mg base C_House "view" ["self", "name"] 7 (S_m_House_view C_Member C_Stand C_Society C_House) := ⟨⟨_, _, (ok_m_House_view cf_House cf_Society cf_Member cf_Stand F53 M_Society_twin M_House_one), ⟨a53, i53, k53⟩, b53⟩, cf_House.cls⟩
  have C_p_is_number : Cal l.prog w K mg base "is_number" ["word"] 1 S_p_is_number := Cal.mk' F54 (ok_p_is_number F54 m_len m_MOST_FIGURES m_FIGURES) (PySem.W.mg_of X G a54) b54
  have C_p_parts_of : Cal l.prog w K mg base "parts_of" ["words"] 2 S_p_parts_of := Cal.mk' F55 (ok_p_parts_of F55 C_p_is_number m_zip m_len m_int m_SHAPES_lines) (PySem.W.mg_of X G a55) b55
  have C_p_changed : Cal l.prog w K mg base "changed" ["house", "word", "parts"] 1 S_p_changed := Cal.mk' F56 (ok_p_changed F56 ) (PySem.W.mg_of X G a56) b56
  have C_p_listed : Cal l.prog w K mg base "listed" ["words"] 1 S_p_listed := Cal.mk' F57 (ok_p_listed F57 m_len) (PySem.W.mg_of X G a57) b57
  have C_p_rows_text : Cal l.prog w K mg base "rows_text" ["rows"] 1 S_p_rows_text := Cal.mk' F58 (ok_p_rows_text F58 m_len) (PySem.W.mg_of X G a58) b58
  have C_p_of_society : Cal l.prog w K mg base "of_society" ["society", "word", "parts"] 3 (S_p_of_society C_Member C_Stand C_Society) := Cal.mk' F59 (ok_p_of_society cf_Society cf_Member cf_Stand  F59 C_p_listed C_p_rows_text M_Society_living M_Society_bets) (PySem.W.mg_of X G a59) b59
  have C_p_opened_line : Cal l.prog w K mg base "opened_line" ["house", "words"] 2 S_p_opened_line := Cal.mk' F60 (ok_p_opened_line F60 C_p_is_number m_len m_KINDS) (PySem.W.mg_of X G a60) b60
  have C_p_number_in : CalX l.prog w K mg base "number_in" ["word"] 3 S_p_number_in := CalX.mk' F61 (ok_p_number_in F61 C_p_is_number X_NoDeed m_int) (PySem.W.mg_of X G a61) b61
  have C_p_deed_of : CalX l.prog w K mg base "deed_of" ["text"] 4 S_p_deed_of := CalX.mk' F62 (ok_p_deed_of F62 C_p_is_name C_p_number_in X_NoDeed m_zip m_tuple m_len m_SHAPES_pages) (PySem.W.mg_of X G a62) b62
  have C_p_deed_line : Cal l.prog w K mg base "deed_line" ["house", "words"] 5 S_p_deed_line := Cal.mk' F63 (ok_p_deed_line F63 C_p_deed_of E_NoDeed m_len) (PySem.W.mg_of X G a63) b63
  have M_House_names : MthP CX0 l.prog w K mg base C_House "names" ["self"] 1 (S_m_House_names C_House) := ⟨⟨_, _, (ok_m_House_names cf_House F64 m_list), ⟨a64, i64, k64⟩, b64⟩, cf_House.cls⟩
  have C_p_answered : CalS (L2.CX l.prog w) l.prog w K mg base "answered" ["house", "words"] 8 (S_p_answered C_Member C_Stand C_Society C_House) := ⟨_, _, ok_p_answered cf_House cf_Member cf_Stand cf_Society  F65 C_p_parts_of C_p_changed C_p_of_society C_p_opened_line C_p_deed_line C_p_listed M_House_view M_House_names, (PySem.W.mg_of X G a65), F65.kp, b65⟩
  have M_House_say : MthS CX0 l.prog w K mg base C_House "say" ["self", "line"] 9 (S_m_House_say C_Member C_Stand C_Society C_House) := ⟨⟨_, _, (ok_m_House_say cf_House cf_Member cf_Stand cf_Society F66 C_p_answered E_OutError), ⟨a66, i66, k66⟩, b66⟩, cf_House.cls⟩
  have MK_House : MkS CX0 l.prog w K mg base "House" C_House ["self"] 1 (S_m_House_init C_House) := ⟨⟨_, _, (ok_m_House_init cf_House F67 ), ⟨mkHouse, a67, i67, kcHouse⟩, b67⟩, PySem.W.mg_of X G aCHouse⟩
  exact ok_law cf_House cf_Member cf_Stand cf_Society F68 B_box (PySem.W.mg_of X G a1) k1 b1 C_l_names C_l_seen C_l_nearly C_l_same C_l_take C_l_no_form C_l_line M_House_open_one M_House_deed M_House_view M_House_say M_House_names MK_House m_range
end Dd
theorem PySem.Challenge.cw_outlivers_k60_lines_of_no_form_holds : PySem.Challenge.rw_outlivers_k60_lines_of_no_form.Holds :=
  Dd.early @Dd.all_mk
#print axioms PySem.Challenge.cw_outlivers_k60_lines_of_no_form_holds
