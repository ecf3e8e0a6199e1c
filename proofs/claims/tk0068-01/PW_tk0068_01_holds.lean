import PyProof.Rows.All
import Wide.All
import OpenK.AllK
import Wide.FinOn
import PySem.Challenge.RW_tk0068_01
set_option genInjectivity false
set_option genSizeOf false
set_option genCtorIdx false
set_option tactic.hygienic false
set_option linter.all false
set_option Elab.async false
set_option maxRecDepth 100000
open PySem PySem.W PySem.Calls PyProof.Rows
open Nat (add_comm add_zero beq ble le_max_left le_of_ble_eq_true le_of_eq le_of_lt_succ le_succ lt_irrefl lt_of_lt_of_le lt_of_not_le lt_or_ge lt_succ_of_le lt_succ_self lt_trans max_le max_zero min_eq_left min_le_left min_le_right min_self mod_eq_of_lt mod_lt mod_mod mul_comm mul_le_mul_left mul_succ ne_of_lt not_lt_zero pow_succ sub_le sub_self succ_add_eq_add_succ succ_le_succ zero_le zero_mul)
open Bool (and_eq_true and_eq_true_iff toNat_le)
open Option (bind_some isSome_iff_exists map_eq_some_iff map_some)
open List (all_eq_true any_eq_false drop_take ext_getElem filterMap_append filterMap_map filter_cons find?_cons find?_eq_none find?_some flatMap_def flatten_cons getElem?_concat_length getElem?_drop getElem?_map getElem?_range getElem?_set_self getElem_map getElem_mem length_cons length_drop length_eq_zero_iff length_filter_le length_reverse length_singleton length_take length_take_le length_take_le' lookup_cons map_congr_left map_cons map_drop map_map map_set map_take mem_filter mem_filterMap mem_map_of_mem mem_range mem_replicate mem_reverse nodup_cons pairwise_map range' range_succ reverse_cons set_set size_toArray sum_cons take_add_one take_length)
open Array (any_toList toList_append)
open String (ofList)
open Int (ofNat_le ofNat_lt toNat_natCast)
open UInt8 (toNat_inj toNat_lt toNat_ofNat')
namespace Internal
noncomputable section
def oC:=@Array.getElem?_eq_getElem
def em:=@Bool.false_ne_true
def ga:=@PySem.Heap.get?_push_of_some
def gi:=@PySem.Heap.get?_push_size
def c8:=@List.getElem?_eq_getElem
def bH:=@List.getElem?_eq_some_iff
def dC:=@Nat.le_refl
def bg:=@Nat.le_trans
def gj:=@Nat.ne_of_gt
def gk:=@Nat.zero_add
def br:=@PySem.wpAny_bind
def jw:=@PySem.wpAny_of_eq
def dD:=@PySem.wpAny_pure
def dG:=@List.append_assoc
def c9:=@List.append_nil
def jx:=@Option.bind_eq_some_iff
def aw:=@congrArg
def gc:=@decide_eq_true
def jy:=@Nat.div_mul_le_self
def bU:=@List.forall_mem_cons
def gz:=@List.forall_mem_singleton
def eJ:=@List.getD_eq_getElem?_getD
def dH:=@List.getElem?_append_left
def jz:=@List.getElem?_append_right
def di:=@List.getElem?_set_ne
def jA:=@Array.getElem?_toList
def aY:=@if_neg
def ax:=@if_pos
def fN:=@Nat.le_add_right
def eK:=@Nat.le_antisymm
def aW:=@List.length_append
def aG:=@List.length_map
def eU:=@List.length_range
def gY:=@List.length_replicate
def et:=@List.length_set
def du:=@Array.length_toList
def eV:=@List.map_append
def cy:=@List.mem_append
def fP:=@List.mem_append_left
def cA:=@List.mem_append_right
def dI:=@List.mem_cons
def da:=@List.mem_map
def cU:=@List.mem_of_getElem?
def dT:=@List.mem_singleton
def iy:=@Int.natCast_nonneg
def dJ:=@of_decide_eq_true
def gm:=@Nat.sub_add_cancel
set_option backward.match.sparseCases false
noncomputable abbrev HH:Str:=⟨#[65,66,83,79,76,85,84,69]⟩
noncomputable abbrev HI:Str:=⟨#[65,76,76,79,67,65,84,69,68]⟩
noncomputable abbrev eu:Str:=⟨#[66,97,100,80,114,111,103,114,97,109]⟩
noncomputable abbrev HJ:Str:=⟨#[67,76,65,83,83,95,51,50]⟩
noncomputable abbrev HK:Str:=⟨#[68,89,78,65,77,73,67]⟩
noncomputable abbrev HM:Str:=⟨#[69,88,69,67,85,84,65,66,76,69]⟩
noncomputable abbrev rS:Str:=⟨#[70,105,101,108,100,115]⟩
noncomputable abbrev rT:Str:=⟨#[70,105,108,101,87,114,105,116,101,114]⟩
noncomputable abbrev HN:Str:=⟨#[71,76,79,66,65,76]⟩
noncomputable abbrev HO:Str:=⟨#[72,69,65,68,69,82,95,83,73,90,69]⟩
noncomputable abbrev HP:Str:=⟨#[73,78,84,69,82,80,82,69,84,69,82]⟩
noncomputable abbrev rU:Str:=⟨#[73,109,97,103,101]⟩
noncomputable abbrev HQ:Str:=⟨#[76,79,65,68]⟩
noncomputable abbrev HR:Str:=⟨#[76,79,87,95,70,73,82,83,84]⟩
noncomputable abbrev HS:Str:=⟨#[77,65,67,72,73,78,69]⟩
noncomputable abbrev HT:Str:=⟨#[77,65,71,73,67]⟩
noncomputable abbrev HU:Str:=⟨#[77,69,77,79,82,89]⟩
noncomputable abbrev HV:Str:=⟨#[78,79,95,79,67,84,69,84,83]⟩
noncomputable abbrev HX:Str:=⟨#[78,79,95,83,69,67,84,73,79,78]⟩
noncomputable abbrev rV:Str:=⟨#[78,97,109,101,84,97,98,108,101]⟩
noncomputable abbrev HY:Str:=⟨#[79,67,84,69,84,83]⟩
noncomputable abbrev HZ:Str:=⟨#[82,69,65,68]⟩
noncomputable abbrev H7:Str:=⟨#[82,79,87,95,83,73,90,69]⟩
noncomputable abbrev H8:Str:=⟨#[82,85,78]⟩
noncomputable abbrev H9:Str:=⟨#[83,69,67,84,73,79,78,95,83,73,90,69]⟩
noncomputable abbrev Ia:Str:=⟨#[83,84,82,73,78,71,83]⟩
noncomputable abbrev Ib:Str:=⟨#[83,89,77,66,79,76,83]⟩
noncomputable abbrev Ic:Str:=⟨#[83,89,77,66,79,76,95,83,73,90,69]⟩
noncomputable abbrev rW:Str:=⟨#[83,101,103,109,101,110,116]⟩
noncomputable abbrev rX:Str:=⟨#[83,121,109,98,111,108]⟩
noncomputable abbrev Ie:Str:=⟨#[86,69,82,83,73,79,78]⟩
noncomputable abbrev Ig:Str:=⟨#[87,82,73,84,69]⟩
noncomputable abbrev ew:Str:=⟨#[95,95,105,110,105,116,95,95]⟩
noncomputable abbrev oD:Str:=⟨#[95,108,97,119,95,100,114,97,119]⟩
noncomputable abbrev oE:Str:=⟨#[95,108,97,119,95,101,110,100,115]⟩
noncomputable abbrev oF:Str:=⟨#[95,108,97,119,95,101,110,116,114,105,101,115]⟩
noncomputable abbrev oG:Str:=⟨#[95,108,97,119,95,102,105,116,115]⟩
noncomputable abbrev oH:Str:=⟨#[95,108,97,119,95,105,109,97,103,101]⟩
noncomputable abbrev oI:Str:=⟨#[95,108,97,119,95,108,97,105,100]⟩
noncomputable abbrev oJ:Str:=⟨#[95,108,97,119,95,110,97,109,101,115]⟩
noncomputable abbrev oK:Str:=⟨#[95,108,97,119,95,110,117,109,98,101,114]⟩
noncomputable abbrev oM:Str:=⟨#[95,108,97,119,95,112,108,97,99,101,115]⟩
noncomputable abbrev oN:Str:=⟨#[95,108,97,119,95,112,117,116]⟩
noncomputable abbrev oO:Str:=⟨#[95,108,97,119,95,114,111,119,115]⟩
noncomputable abbrev oP:Str:=⟨#[95,108,97,119,95,115,101,101,100]⟩
noncomputable abbrev oQ:Str:=⟨#[95,108,97,119,95,115,112,97,110,115]⟩
noncomputable abbrev Ih:Str:=⟨#[95,108,97,119,95,116,97,105,108,115]⟩
noncomputable abbrev oR:Str:=⟨#[95,108,97,119,95,116,105,116,108,101,95,101,110,100,115]⟩
noncomputable abbrev oS:Str:=⟨#[95,108,97,119,95,116,105,116,108,101,100]⟩
noncomputable abbrev oU:Str:=⟨#[95,108,97,119,95,119,114,105,116,116,101,110]⟩
noncomputable abbrev Ii:Str:=⟨#[97,98,115]⟩
noncomputable abbrev mR:Str:=⟨#[97,100,100]⟩
noncomputable abbrev gn:Str:=⟨#[97,100,100,114,101,115,115]⟩
noncomputable abbrev S7:Str:=⟨#[97,104,101,97,100]⟩
noncomputable abbrev ko:Str:=⟨#[97,108,105,103,110]⟩
noncomputable abbrev Ij:Str:=⟨#[97,112,112,101,110,100]⟩
noncomputable abbrev w7:Str:=⟨#[97,116]⟩
noncomputable abbrev oV:Str:=⟨#[98,101,103,105,110]⟩
noncomputable abbrev kq:Str:=⟨#[98,111,100,121]⟩
noncomputable abbrev Ik:Str:=⟨#[98,121,116,101,97,114,114,97,121]⟩
noncomputable abbrev Il:Str:=⟨#[98,121,116,101,115]⟩
noncomputable abbrev S8:Str:=⟨#[99,101,108,108]⟩
noncomputable abbrev oW:Str:=⟨#[99,104,101,99,107,95,104,101,97,100,101,114]⟩
noncomputable abbrev oX:Str:=⟨#[99,104,101,99,107,95,105,100,101,110,116]⟩
noncomputable abbrev oY:Str:=⟨#[99,104,101,99,107,95,114,111,119]⟩
noncomputable abbrev Im:Str:=⟨#[99,104,114]⟩
noncomputable abbrev iz:Str:=⟨#[99,111,117,110,116]⟩
noncomputable abbrev S9:Str:=⟨#[99,117,116]⟩
noncomputable abbrev Ta:Str:=⟨#[99,117,116,115]⟩
noncomputable abbrev Tb:Str:=⟨#[100,105,103,105,116]⟩
noncomputable abbrev rY:Str:=⟨#[100,111,110,101]⟩
noncomputable abbrev Tc:Str:=⟨#[100,114,97,119,110]⟩
noncomputable abbrev Bg:Str:=⟨#[100,117,101]⟩
noncomputable abbrev mS:Str:=⟨#[101,110,100]⟩
noncomputable abbrev Io:Str:=⟨#[101,110,100,115]⟩
noncomputable abbrev gZ:Str:=⟨#[101,110,116,114,121]⟩
noncomputable abbrev Td:Str:=⟨#[101,110,117,109,101,114,97,116,101]⟩
noncomputable abbrev Ip:Str:=⟨#[101,120,116,101,110,100]⟩
noncomputable abbrev Te:Str:=⟨#[102,97,114]⟩
noncomputable abbrev rZ:Str:=⟨#[102,105,101,108,100,115]⟩
noncomputable abbrev Iq:Str:=⟨#[102,105,108,101,95,115,105,122,101]⟩
noncomputable abbrev Tf:Str:=⟨#[102,105,114,115,116]⟩
noncomputable abbrev Th:Str:=⟨#[102,105,116,115]⟩
noncomputable abbrev Ti:Str:=⟨#[102,108,97,103]⟩
noncomputable abbrev kU:Str:=⟨#[102,108,97,103,115]⟩
noncomputable abbrev r8:Str:=⟨#[102,111,117,110,100]⟩
noncomputable abbrev Ir:Str:=⟨#[102,114,111,110,116]⟩
noncomputable abbrev Tj:Str:=⟨#[103,114,101,97,116]⟩
noncomputable abbrev uE:Str:=⟨#[104,97,108,102]⟩
noncomputable abbrev oZ:Str:=⟨#[104,97,108,118,101,115]⟩
noncomputable abbrev Tk:Str:=⟨#[104,101,97,100]⟩
noncomputable abbrev fk:Str:=⟨#[104,101,97,100,101,114]⟩
noncomputable abbrev It:Str:=⟨#[104,101,97,100,115]⟩
noncomputable abbrev kV:Str:=⟨#[104,101,114,101]⟩
noncomputable abbrev Bh:Str:=⟨#[104,105,103,104]⟩
noncomputable abbrev uF:Str:=⟨#[104,111,108,100,115]⟩
noncomputable abbrev Iu:Str:=⟨#[104,111,109,101]⟩
noncomputable abbrev Iv:Str:=⟨#[105,109,97,103,101]⟩
noncomputable abbrev Bi:Str:=⟨#[105,110,100,101,120]⟩
noncomputable abbrev Iw:Str:=⟨#[105,110,116]⟩
noncomputable abbrev uG:Str:=⟨#[105,115,95,103,108,111,98,97,108]⟩
noncomputable abbrev o3:Str:=⟨#[105,115,95,112,111,119,101,114]⟩
noncomputable abbrev w8:Str:=⟨#[106,111,105,110]⟩
noncomputable abbrev o6:Str:=⟨#[107]⟩
noncomputable abbrev uH:Str:=⟨#[107,105,110,100]⟩
noncomputable abbrev Tl:Str:=⟨#[108,97,115,116]⟩
noncomputable abbrev qe:Str:=⟨#[108,97,119]⟩
noncomputable abbrev r9:Str:=⟨#[108,97,121]⟩
noncomputable abbrev Ix:Str:=⟨#[108,101,110]⟩
noncomputable abbrev Iy:Str:=⟨#[108,105,115,116]⟩
noncomputable abbrev Tm:Str:=⟨#[108,111,110,103,101,114]⟩
noncomputable abbrev Iz:Str:=⟨#[108,111,119]⟩
noncomputable abbrev o7:Str:=⟨#[108,111,119,95,102,105,114,115,116]⟩
noncomputable abbrev se:Str:=⟨#[109,97,110,121]⟩
noncomputable abbrev IA:Str:=⟨#[109,97,120]⟩
noncomputable abbrev uI:Str:=⟨#[109,97,121]⟩
noncomputable abbrev To:Str:=⟨#[109,105,120,101,100]⟩
noncomputable abbrev IB:Str:=⟨#[109,117,99,104]⟩
noncomputable abbrev lZ:Str:=⟨#[110,97,109,101]⟩
noncomputable abbrev o8:Str:=⟨#[110,97,109,101,95,97,116]⟩
noncomputable abbrev sh:Str:=⟨#[110,97,109,101,100]⟩
noncomputable abbrev Bj:Str:=⟨#[110,97,109,101,115]⟩
noncomputable abbrev o9:Str:=⟨#[110,117,109,98,101,114]⟩
noncomputable abbrev Tp:Str:=⟨#[110,117,109,98,101,114,95,104,101,114,101]⟩
noncomputable abbrev Tq:Str:=⟨#[110,117,109,98,101,114,115]⟩
noncomputable abbrev IC:Str:=⟨#[111,99,116,101,116]⟩
noncomputable abbrev cn:Str:=⟨#[111,99,116,101,116,115]⟩
noncomputable abbrev Tr:Str:=⟨#[111,110,101]⟩
noncomputable abbrev ID:Str:=⟨#[111,114,100]⟩
noncomputable abbrev IE:Str:=⟨#[111,114,100,101,114]⟩
noncomputable abbrev Ts:Str:=⟨#[111,114,100,101,114,101,100]⟩
noncomputable abbrev qf:Str:=⟨#[111,119,110,101,114]⟩
noncomputable abbrev uJ:Str:=⟨#[112,97,114,116]⟩
noncomputable abbrev Tt:Str:=⟨#[112,97,114,116,115]⟩
noncomputable abbrev IF:Str:=⟨#[112,104,121,115,105,99,97,108]⟩
noncomputable abbrev dj:Str:=⟨#[112,108,97,99,101]⟩
noncomputable abbrev eW:Str:=⟨#[112,108,97,99,101,115]⟩
noncomputable abbrev Tu:Str:=⟨#[114,97,110,103,101]⟩
noncomputable abbrev pd:Str:=⟨#[114,101,97,100,95,101,108,102]⟩
noncomputable abbrev pf:Str:=⟨#[114,101,97,100,95,114,111,119]⟩
noncomputable abbrev pg:Str:=⟨#[114,101,97,100,95,115,121,109,98,111,108,115]⟩
noncomputable abbrev Bk:Str:=⟨#[114,105,103,104,116,115]⟩
noncomputable abbrev qg:Str:=⟨#[114,111,119]⟩
noncomputable abbrev kW:Str:=⟨#[114,111,119,115]⟩
noncomputable abbrev IG:Str:=⟨#[115,99,114,105,112,116]⟩
noncomputable abbrev sn:Str:=⟨#[115,101,99,116,105,111,110,95,114,111,119]⟩
noncomputable abbrev pi:Str:=⟨#[115,101,99,116,105,111,110,95,114,111,119,115]⟩
noncomputable abbrev Tv:Str:=⟨#[115,101,99,116,105,111,110,115]⟩
noncomputable abbrev mT:Str:=⟨#[115,101,101,100]⟩
noncomputable abbrev pn:Str:=⟨#[115,101,103,109,101,110,116]⟩
noncomputable abbrev uK:Str:=⟨#[115,101,103,109,101,110,116,95,97,116]⟩
noncomputable abbrev gA:Str:=⟨#[115,101,103,109,101,110,116,115]⟩
noncomputable abbrev eA:Str:=⟨#[115,101,108,102]⟩
noncomputable abbrev fQ:Str:=⟨#[115,105,122,101]⟩
noncomputable abbrev IH:Str:=⟨#[115,105,122,101,115]⟩
noncomputable abbrev w9:Str:=⟨#[115,112,97,110,115]⟩
noncomputable abbrev uL:Str:=⟨#[115,112,111,116]⟩
noncomputable abbrev Tw:Str:=⟨#[115,112,111,116,115]⟩
noncomputable abbrev uM:Str:=⟨#[115,116,97,114,116]⟩
noncomputable abbrev II:Str:=⟨#[115,117,109]⟩
noncomputable abbrev Tx:Str:=⟨#[115,121,109,98,111,108]⟩
noncomputable abbrev uN:Str:=⟨#[115,121,109,98,111,108,115]⟩
noncomputable abbrev IJ:Str:=⟨#[116,97,98,108,101]⟩
noncomputable abbrev IK:Str:=⟨#[116,97,98,108,101,115]⟩
noncomputable abbrev Bl:Str:=⟨#[116,101,120,116,115]⟩
noncomputable abbrev IL:Str:=⟨#[116,105,110,116]⟩
noncomputable abbrev IM:Str:=⟨#[116,105,116,108,101]⟩
noncomputable abbrev uO:Str:=⟨#[116,105,116,108,101,115]⟩
noncomputable abbrev Tz:Str:=⟨#[116,111,108,100]⟩
noncomputable abbrev IN:Str:=⟨#[116,117,114,110]⟩
noncomputable abbrev iA:Str:=⟨#[118,97,108,117,101]⟩
noncomputable abbrev IP:Str:=⟨#[118,97,108,117,101,115]⟩
noncomputable abbrev qh:Str:=⟨#[119,104,97,116]⟩
noncomputable abbrev TA:Str:=⟨#[119,105,100,101]⟩
noncomputable abbrev TC:Str:=⟨#[119,105,110,100,111,119]⟩
noncomputable abbrev TF:Str:=⟨#[119,105,110,100,111,119,115]⟩
noncomputable abbrev qi:Str:=⟨#[119,111,114,100]⟩
noncomputable abbrev po:Str:=⟨#[119,111,114,100,115]⟩
noncomputable abbrev TG:Str:=⟨#[119,114,105,116,101,114]⟩
noncomputable abbrev TH:Str:=⟨#[122,105,112]⟩
noncomputable abbrev Bm:Str:=⟨#[108,111,97,100]⟩
noncomputable abbrev gB:Str:=⟨#[108,97,119,95,116,107,48,48,54,56,95,48,49]⟩
noncomputable abbrev xa:Str:=⟨#[112,105,112,101,98,111,97,114,100,46,101,114,114,111,114,115]⟩
noncomputable abbrev co:Str:=⟨#[112,105,112,101,98,111,97,114,100,46,108,111,97,100,101,114]⟩
noncomputable abbrev Bn:Str:=⟨#[119,104,111,108,101]⟩
noncomputable abbrev aM:Str:=⟨#[47,99,108,97,105,109,47,99,117,116,46,112,121]⟩
noncomputable abbrev IQ:Str:=⟨#[66,111,97,114,100,69,114,114,111,114,46,95,95,105,110,105,116,95,95]⟩
noncomputable abbrev uP:Str:=⟨#[66,111,97,114,100,69,114,114,111,114]⟩
noncomputable abbrev uQ:Str:=⟨#[66,97,100,65,114,103,117,109,101,110,116]⟩
noncomputable abbrev IR:Str:=⟨#[70,105,101,108,100,115,46,104,97,108,102]⟩
noncomputable abbrev IS:Str:=⟨#[70,105,101,108,100,115,46,110,117,109,98,101,114]⟩
noncomputable abbrev IT:Str:=⟨#[70,105,101,108,100,115,46,112,97,114,116]⟩
noncomputable abbrev IU:Str:=⟨#[70,105,101,108,100,115,46,114,111,119]⟩
noncomputable abbrev IV:Str:=⟨#[70,105,101,108,100,115,46,119,111,114,100]⟩
noncomputable abbrev IW:Str:=⟨#[70,105,101,108,100,115,46,95,95,105,110,105,116,95,95]⟩
noncomputable abbrev IX:Str:=⟨#[70,105,108,101,87,114,105,116,101,114,46,100,111,110,101]⟩
noncomputable abbrev IY:Str:=⟨#[70,105,108,101,87,114,105,116,101,114,46,104,101,114,101]⟩
noncomputable abbrev IZ:Str:=⟨#[70,105,108,101,87,114,105,116,101,114,46,104,101,97,100,101,114]⟩
noncomputable abbrev I0:Str:=⟨#[70,105,108,101,87,114,105,116,101,114,46,108,97,121]⟩
noncomputable abbrev I1:Str:=⟨#[70,105,108,101,87,114,105,116,101,114,46,110,97,109,101,100]⟩
noncomputable abbrev I2:Str:=⟨#[70,105,108,101,87,114,105,116,101,114,46,111,119,110,101,114]⟩
noncomputable abbrev I3:Str:=⟨#[70,105,108,101,87,114,105,116,101,114,46,114,111,119,115]⟩
noncomputable abbrev I4:Str:=⟨#[70,105,108,101,87,114,105,116,101,114,46,115,101,99,116,105,111,110,95,114,111,119]⟩
noncomputable abbrev I5:Str:=⟨#[70,105,108,101,87,114,105,116,101,114,46,95,95,105,110,105,116,95,95]⟩
noncomputable abbrev I6:Str:=⟨#[70,105,108,101,87,114,105,116,101,114,46,97,100,100]⟩
noncomputable abbrev I7:Str:=⟨#[73,109,97,103,101,46,101,110,100]⟩
noncomputable abbrev I8:Str:=⟨#[73,109,97,103,101,46,108,111,97,100]⟩
noncomputable abbrev I9:Str:=⟨#[73,109,97,103,101,46,115,101,103,109,101,110,116,95,97,116]⟩
noncomputable abbrev Ja:Str:=⟨#[73,109,97,103,101,46,95,95,105,110,105,116,95,95]⟩
noncomputable abbrev Jb:Str:=⟨#[73,109,97,103,101,46,98,101,103,105,110]⟩
noncomputable abbrev Jc:Str:=⟨#[78,97,109,101,84,97,98,108,101,46,112,108,97,99,101]⟩
noncomputable abbrev Jd:Str:=⟨#[78,97,109,101,84,97,98,108,101,46,95,95,105,110,105,116,95,95]⟩
noncomputable abbrev Je:Str:=⟨#[83,101,103,109,101,110,116,46,101,110,100]⟩
noncomputable abbrev Jf:Str:=⟨#[83,101,103,109,101,110,116,46,104,111,108,100,115]⟩
noncomputable abbrev Jg:Str:=⟨#[83,101,103,109,101,110,116,46,109,97,121]⟩
noncomputable abbrev Jh:Str:=⟨#[83,101,103,109,101,110,116,46,119,104,111,108,101]⟩
noncomputable abbrev Ji:Str:=⟨#[83,101,103,109,101,110,116,46,95,95,105,110,105,116,95,95]⟩
noncomputable abbrev Jj:Str:=⟨#[83,121,109,98,111,108,46,95,95,105,110,105,116,95,95]⟩
noncomputable abbrev so:Str:=⟨#[95,95,100,105,99,116,95,95]⟩
noncomputable abbrev l7:Str:=⟨#[95,95,100,111,99,95,95]⟩
noncomputable abbrev mU:Str:=⟨#[95,95,102,105,114,115,116,108,105,110,101,110,111,95,95]⟩
noncomputable abbrev mV:Str:=⟨#[95,95,109,111,100,117,108,101,95,95]⟩
noncomputable abbrev mW:Str:=⟨#[95,95,115,116,97,116,105,99,95,97,116,116,114,105,98,117,116,101,115,95,95]⟩
noncomputable abbrev qj:Str:=⟨#[95,95,119,101,97,107,114,101,102,95,95]⟩
def aS(k:Lean.Name)(l:Array Lean.Syntax):Lean.Syntax:=.node .none `Lean.Parser.Tactic.tacticSeq #[.node .none `Lean.Parser.Tactic.tacticSeq1Indented #[.node .none `null #[.node .none k l]]]
def k1:Lean.Syntax:=.node .none `Lean.Parser.Tactic.tacticSeq #[.node .none `Lean.Parser.Tactic.tacticSeq1Indented #[.node .none `null #[.node .none `Lean.Parser.Tactic.intro #[.atom .none "intro",.node .none `null #[]],.node .none `null #[],.node .none `tacticKernel_rfl #[.atom .none "kernel_rfl"]]]]
def kr:Lean.Syntax:=aS `tacticKernel_rfl #[.atom .none "kernel_rfl"]
def rl:Lean.Syntax:=aS `Lean.Parser.Tactic.tacticRfl #[.atom .none "rfl"]
def wu:Lean.Syntax:=aS `Lean.Parser.Tactic.withUnfoldingAll #[.atom .none "with_unfolding_all",rl]
def k2:Lean.Syntax:=.node .none `Lean.Parser.Tactic.tacticSeq #[.node .none `Lean.Parser.Tactic.tacticSeq1Indented #[.node .none `null #[.node .none `Lean.Parser.Tactic.intro #[.atom .none "intro",.node .none `null #[]],.node .none `null #[],.node .none `Lean.Parser.Tactic.tacticRfl #[.atom .none "rfl"]]]]
def dc:Lean.Syntax:=aS `Lean.Parser.Tactic.decide #[.atom .none "decide",.node .none `Lean.Parser.Tactic.optConfig #[.node .none `null #[]]]
inductive Ln | v(i:Nat) | k (n:Nat) | a (x y:Ln) | m (n:Nat) (x:Ln) | r (x:Ln) (n:Nat)
abbrev TI(c:List Nat):Nat->Nat:=List.rec (λJ=>0) (λa J h i=>Nat.rec a (λj J=>h j) i) c
abbrev eC(c:Nat->Nat)(e:Ln):Nat:=Ln.rec (λi=>c i) (λn=>n) (λJ J p q=>p+q) (λn J p=>n*p) (λJ n p=>p*n) e
def xb(e:Ln):Nat->Nat:=Ln.rec (λj i=>bif beq i (j+1) then 1 else 0) (λn i=>bif beq i 0 then n else 0) (λJ J p q i=>p i+q i) (λn J p i=>n*p i) (λJ n p i=>n*p i) e
def Bo(e:Ln):Bool:=Ln.rec (λj=>ble j 23) (λJ=>true) (λJ J p q=>p&&q) (λJ J p=>p) (λJ J p=>p) e
structure Lk where(t:Nat)(q:Nat)(l:Ln)(r:Ln)
abbrev xc(c:Nat->Nat)(x:Lk):Prop:=Nat.rec (eC c x.l<=eC c x.r) (λt J=>Nat.rec (eC c x.l<eC c x.r) (λt J=>Nat.rec (eC c x.l=eC c x.r) (λt J=>Nat.rec (eC c x.l=eC c x.r) (λt J=>Nat.rec (¬eC c x.l<=eC c x.r) (λJ J=>¬eC c x.l<eC c x.r) t) t) t) t) x.t
abbrev Bp(c:Nat->Nat)(x:Lk):Prop:=Nat.rec (¬eC c x.l<=eC c x.r) (λt J=>Nat.rec (¬eC c x.l<eC c x.r) (λt J=>Nat.rec (¬eC c x.l=eC c x.r) (λt J=>Nat.rec (¬eC c x.l=eC c x.r) (λt J=>Nat.rec (eC c x.l<=eC c x.r) (λJ J=>eC c x.l<eC c x.r) t) t) t) t) x.t
def mX(x:Lk):Ln:=bif ble x.t 2 then(bif beq x.t 1 then .a x.l (.k 1) else x.l) else(bif beq x.t 4 then .a x.r (.k 1) else x.r)
def mY(x:Lk):Ln:=bif ble x.t 2 then x.r else x.l
def kt(f:Lk->Ln)(i:Nat)(xs:List Lk):Nat:=List.rec 0 (λx J h=>x.q*xb (f x) i+h) xs
def uR(xs:List Lk):Bool:=List.rec true (λx J h=>Bo (mX x)&&(Bo (mY x)&&h)) xs
def uS(xs:List Lk):Nat->Bool:=Nat.rec (ble (kt mY 0 xs+1) (kt mX 0 xs)) (λi h=>ble (kt mY (i+1) xs) (kt mX (i+1) xs)&&h)
theorem TJ{c}(x:Lk):xc c x->eC c (mX x)<=eC c (mY x):=
 x.rec λt q l r=>t.rec id λt J=>t.rec id λt J=>t.rec le_of_eq λt J=>t.rec (λh=>le_of_eq (Eq.symm h)) λt J=>t.rec lt_of_not_le λn J h=>Nat.le_of_not_lt h
theorem TK{c}(x:Lk):(xc c x->False)->Bp c x:=
 x.rec λt q l r=>t.rec id λt J=>t.rec id λt J=>t.rec id λt J=>t.rec id λt J=>t.rec Classical.byContradiction λn J=>Classical.byContradiction
def qk(c:Nat->Nat):Nat->Nat:=Nat.rec 1 (λj J=>c j)
def gC(w f:Nat->Nat):Nat->Nat:=Nat.rec (f 0*w 0) (λn h=>h+f (n+1)*w (n+1))
theorem Bq{w f g}(n):gC w (λi=>f i+g i) n=gC w f n+gC w g n:=
 n.rec (Nat.add_mul _ _ _) λn h=>(aw (· + _) h).trans (by rw[Nat.add_mul];exact Nat.add_add_add_comm _ _ _ _)
theorem xd{w f}{k}(n):gC w (λi=>k*f i) n=k*gC w f n:=
 n.rec (Nat.mul_assoc _ _ _) λn h=>(aw (· + _) h).trans (by rw[Nat.mul_assoc];exact(Nat.mul_add _ _ _).symm)
theorem TL{w}(n):gC w (λJ=>0) n=0:=
 n.rec (zero_mul _) λn h=>(aw (· + _) h).trans (by rw[zero_mul])
theorem TM{w f g}(n):(∀i,i<=n->f i=g i)->gC w f n=gC w g n:=
 n.rec (λh=>aw (· * w 0) (h 0 (dC _))) λn ih h=>(aw (· + f (n+1)*w (n+1)) (ih λi hi=>h i (Nat.le_succ_of_le hi))).trans (aw (λx=>gC w g n+x*w (n+1)) (h (n+1) (dC _)))
theorem Jk{i j}(h:i≠j):beq i j=false:=Bool.eq_false_iff.mpr λe=>h (Nat.eq_of_beq_eq_true e)
theorem Jl{w}{j k}(n):j<=n->gC w (λi=>bif beq i j then k else 0) n=k*w j:=by
 induction n with
 |zero=>intro h;cases Nat.le_zero.mp h;rfl
 |succ n ih=>
  intro h
  show gC w (λi=>bif beq i j then k else 0) n+(bif beq (n+1) j then k else 0)*w (n+1)=k*w j
  rcases Nat.lt_or_eq_of_le h with l | e
  .rw[ih (le_of_lt_succ l),Jk (λe=>absurd (e▸l) (lt_irrefl _)),cond_false,zero_mul]
   rfl
  .subst e
   rw[TM n (g:=λJ=>0) λi hi=>by rw[Jk (ne_of_lt (lt_succ_of_le hi))];rfl,TL,Nat.beq_refl,cond_true,gk]
theorem Jm{c}{e}(h:Bo e=true):eC c e=gC (qk c) (xb e) 24:=by
 induction e with
 |v i=>exact((Jl (w:=qk c) (k:=1) 24 (succ_le_succ (le_of_ble_eq_true h))).trans (Nat.one_mul _)).symm
 |k n=>exact((Jl (w:=qk c) (j:=0) (k:=n) 24 (zero_le _)).trans (Nat.mul_one _)).symm
 |a x y p q=>
  have h:=and_eq_true_iff.mp h
  exact(congr (aw _ (p h.1)) (q h.2)).trans (Bq 24).symm
 |m n x p=>exact(aw (n * ·) (p h)).trans (xd 24).symm
 |r x n p=>exact((aw (· * n) (p h)).trans (mul_comm _ _)).trans (xd 24).symm
abbrev l8(c:Nat->Nat)(P:Prop)(xs:List Lk):Prop:=List.rec P (λx J h=>xc c x->h) xs
theorem TN{c}{P:Prop}(xs):uR xs=true->(gC (qk c) (λi=>kt mX i xs) 24<=gC (qk c) (λi=>kt mY i xs) 24->P)->l8 c P xs:=by
 induction xs with
 |nil=>exact λJ h=>h (dC _)
 |cons x xs ih=>
  intro a h d
  have a:=and_eq_true_iff.mp a
  have b:=and_eq_true_iff.mp a.2
  refine ih b.2 λk=>h ?_
  show gC _ (λi=>x.q*xb (mX x) i+kt mX i xs) 24<=gC _ (λi=>x.q*xb (mY x) i+kt mY i xs) 24
  rw[Bq,Bq,xd,xd,<- Jm a.1,<- Jm b.1]
  exact Nat.add_le_add (mul_le_mul_left _ (TJ x d)) k
theorem TO{c}{xs}(n):uS xs n=true->gC (qk c) (λi=>kt mY i xs) n<gC (qk c) (λi=>kt mX i xs) n:=by
 induction n with
 |zero=>
  intro h
  show kt mY 0 xs*1<kt mX 0 xs*1
  rw[Nat.mul_one,Nat.mul_one]
  exact le_of_ble_eq_true h
 |succ n ih=>
  intro h
  have h:=and_eq_true_iff.mp h
  exact Nat.add_lt_add_of_lt_of_le (ih h.2) (Nat.mul_le_mul_right _ (le_of_ble_eq_true h.1))
theorem Jn{c}{P:Prop}{xs}(a:uR xs=true)(n:uS xs 24=true):l8 c P xs:=
 TN xs a λh=>absurd (TO 24 n) (Nat.not_lt_of_le h)
theorem TP{c}{P R:Prop}(f:P->R)(xs):l8 c P xs->l8 c R xs:=
 xs.rec f λJ J ih h d=>ih (h d)
theorem TQ{c}{P:Prop}{g}(xs):l8 c P (g::xs)->l8 c (xc c g->P) xs:=
 xs.rec (λh=>h) λJ J ih h d=>ih λe=>h e d
theorem sb(a b:Nat):a<=a-b+b:=Nat.le_add_of_sub_le (dC _)
theorem dl(a b):a<a/(b+1)*(b+1)+(b+1):=Nat.lt_div_mul_add b.succ_pos
theorem ml(a b):a%(b+1)<b+1:=mod_lt _ b.succ_pos
def l9:Nat->Nat->Nat×Nat:=λn J=>bif ble (n%16) 14 then(n%16,n/16) else(n/256%16^(n/16%16),n/256/16^(n/16%16))
def uT:Nat->Nat->Ln×Nat:=Nat.rec (λn=>(.k 0,n)) (λJ h n=>
 bif ble (n%16) 8 then(.v (n%16),n/16) else
 bif beq (n%16) 9 then(.a (h (n/16)).1 (h (h (n/16)).2).1,(h (h (n/16)).2).2) else
 bif beq (n%16) 10 then(.k (l9 (n/16) 0).1,(l9 (n/16) 0).2) else
 bif beq (n%16) 11 then(.m (l9 (n/16) 0).1 (h (l9 (n/16) 0).2).1,(h (l9 (n/16) 0).2).2) else
 bif beq (n%16) 12 then(.r (h (l9 (n/16) 0).2).1 (l9 (n/16) 0).1,(h (l9 (n/16) 0).2).2) else
 bif beq (n%16) 13 then(.v (9+n/16%16),n/256) else
 (.k (n/4096%16^(n/16%256)),n/4096/16^(n/16%256)))
def Jo(n:Nat):Lk×Nat:=(λ(t q n:Nat)=>(⟨t,q,(uT 30 n).1,(uT 30 (uT 30 n).2).1⟩,(uT 30 (uT 30 n).2).2)) |> λ(f:Nat->Nat->Nat->Lk×Nat)=>bif ble (n%16) 5 then f (n%16) 1 (n/16) else f (n%16-6) (l9 (n/16) 0).1 (l9 (n/16) 0).2
def TR:Nat->Nat->List Lk:=Nat.rec (λJ=>[]) (λJ h n=>(Jo n).1::h (Jo n).2)
abbrev Jp(c:Nat->Nat)(b:Bool)(xs:List Lk):Prop:=Bool.rec True (Bool.rec (l8 c False xs) (List.rec True (λg ys J=>l8 c (Bp c g) ys) xs) b) (uR xs&&uS xs 24)
theorem ql(c:Nat->Nat)(b)(xs):Jp c b xs:=by
 show Bool.rec True (Bool.rec (l8 c False xs) (List.rec True (λg ys J=>l8 c (Bp c g) ys) xs) b:Prop) (uR xs&&uS xs 24)
 cases e:uR xs&&uS xs 24 with
 |false=>trivial
 |true=>
  have h:=and_eq_true_iff.mp e
  cases b with
  |false=>exact Jn h.1 h.2
  |true=>
   cases xs with
   |nil=>trivial
   |cons g ys=>exact TP (TK g) ys (TQ ys (Jn h.1 h.2))
abbrev qm(c:List Nat)(n:Nat):Prop:=Jp (TI c) (beq (n/8%2) 1) (TR (n%8) (n/16))
theorem L0{G:Prop}(c)(n)(e:autoParam (qm c n=G) kr):G:=e▸ql _ _ _
theorem L1{G H1:Prop}(c)(n)(h1:H1)(e:autoParam (qm c n=(H1->G)) kr):G:=cast e (ql _ _ _) h1
theorem L2{G H1 H2:Prop}(c)(n)(h1:H1)(h2:H2)(e:autoParam (qm c n=(H1->H2->G)) kr):G:=cast e (ql _ _ _) h1 h2
theorem L3{G H1 H2 H3:Prop}(c)(n)(h1:H1)(h2:H2)(h3:H3)(e:autoParam (qm c n=(H1->H2->H3->G)) kr):G:=cast e (ql _ _ _) h1 h2 h3
theorem L4{G H1 H2 H3 H4:Prop}(c)(n)(h1:H1)(h2:H2)(h3:H3)(h4:H4)(e:autoParam (qm c n=(H1->H2->H3->H4->G)) kr):G:=cast e (ql _ _ _) h1 h2 h3 h4
theorem L5{G H1 H2 H3 H4 H5:Prop}(c)(n)(h1:H1)(h2:H2)(h3:H3)(h4:H4)(h5:H5)(e:autoParam (qm c n=(H1->H2->H3->H4->H5->G)) kr):G:=cast e (ql _ _ _) h1 h2 h3 h4 h5
theorem L6{G H1 H2 H3 H4 H5 H6:Prop}(c)(n)(h1:H1)(h2:H2)(h3:H3)(h4:H4)(h5:H5)(h6:H6)(e:autoParam (qm c n=(H1->H2->H3->H4->H5->H6->G)) kr):G:=cast e (ql _ _ _) h1 h2 h3 h4 h5 h6
section
set_option maxHeartbeats 0
theorem TT{st:Bool}{c:List Str}{b:List Stmt}(h:c=[])(g:noRoadLSs {strict:=st,foot:=none,bare:=[]} b=true):noRoadLSs {strict:=st,foot:=none,bare:=c} b=true:=by rw[h];exact g
theorem TU:PySem.Challenge.rw_tk0068_01.wellSaid=true:=by
 delta OpenLaw.wellSaid OpenRow.wellSaid OpenRow.partSaid looksOpen
 repeat' with_reducible refine look_both ?_ ?_
 all_goals try with_reducible refine TT ?_ ?_
 all_goals decide +kernel
theorem TV(h:PySem.Challenge.rw_tk0068_01.row.wellSaid=true->PySem.Challenge.rw_tk0068_01.row.Holds):PySem.Challenge.rw_tk0068_01.Holds:=holds_law TU h
noncomputable def PW:Program:=PySem.Challenge.pw_tk0068_01
theorem Br:PySem.Challenge.pw_tk0068_01=PW:=rfl
noncomputable def sq(mZ:SharedT->Thread->Option (SharedT×Thread))(ok:Thread->Bool):Nat->SharedT->Thread->Option SharedT
 |0,_,_=>none
 |n+1,s,t=>match through t with
  |true=>some s
  |false=>match ok t with
   |false=>none
   |true=>match mZ s t with
    |some (s',t')=>sq mZ ok n s' t'
    |none=>none
theorem TW{mZ:SharedT->Thread->Option (SharedT×Thread)}{ok:Thread->Bool}{n:Nat}{s s':SharedT}{t:Thread}(h:sq mZ ok (n+1) s t=some s') :
  through t=true/\s=s'\/through t=false/\ok t=true/\∃r,mZ s t=some r/\sq mZ ok n r.1 r.2=some s':=by
 replace h:(match through t with
  |true=>some s
  |false=>match ok t with
   |false=>none
   |true=>match mZ s t with
    |some (s',t')=>sq mZ ok n s' t'
    |none=>none)=some s':=h
 cases e:through t with
 |true=>rw[e] at h;exact .inl ⟨rfl,Option.some.inj h⟩
 |false=>
  rw[e] at h
  cases k:ok t with
  |false=>rw[k] at h;nomatch h
  |true=>
   rw[k] at h
   cases q:mZ s t with
   |none=>rw[q] at h;nomatch h
   |some r=>rw[q] at h;exact .inr ⟨rfl,rfl,r,rfl,h⟩
theorem TX{tb:String->Option Builtin}{p:Program}{w:World}{Jq:Nat}{sv:Option Value}{n:Nat}{s s':SharedT}{t:Thread}
  (h:sq (stepT (denote tb) p w) (stepOk Jq sv) n s t=some s'):topRun tb p w Jq sv n s.abs t=some s'.abs:=by
 induction n generalizing s t with
 |zero=>nomatch h
 |succ n ih=>
  unfold topRun
  rcases TW h with⟨e,rfl⟩ | ⟨e,k,r,hs,h⟩
  .rw[e]
  .rw[e,k,stepT_spec hs];exact ih h
def T0(P:Params):BT:=
 .node (boot_o_0 P)
  (.node (boot_o_1 P) (.node (boot_o_3 P) (.node (boot_o_7 P) .nil .nil) .nil) (.node (boot_o_5 P) (.node (boot_o_9 P) .nil .nil) .nil))
  (.node (boot_o_2 P) (.node (boot_o_4 P) (.node (boot_o_8 P) .nil .nil) .nil) (.node (boot_o_6 P) (.node (boot_o_10 P) .nil .nil) .nil))
def S0(w:World)(os:OsState):SharedT:=⟨T0 w.params,11,{},#[],{},181,os⟩
theorem TY(w:World)(os:OsState):(S0 w os).abs=⟨boot_heap w.params,Array.mk [],boot_drawn,boot_toks,os⟩:=by kernel_rfl!
end
section
set_option maxHeartbeats 0
def Q:Program:={PW with main:={PW.main with body:=PW.main.body.drop 66}}
def jV:List Str:=PW.boundNames.filter (λn=>!(n==("law" : Str)))
def Bt:List Str:=importedModules PW.main.body
noncomputable def Jr:Option Stmt->Arguments×List Stmt×Scope
 |some (.FunctionDef _ a b _ _ _ sc _ _ _)=>(a,b,sc)
 |_=>(⟨[],[],none,[],[],none,[]⟩,[],default)
def dF(i:Nat):Arguments×List Stmt×Scope:=Jr PW.main.body[i]?
noncomputable def TZ:Option Stmt->List Stmt
 |some (.ClassDef _ _ _ b _ _ _ _ _ _ _)=>b
 |_=>[]
def dM(i j:Nat):Arguments×List Stmt×Scope:=Jr (TZ PW.main.body[i]?)[j]?
noncomputable def e(P:Params)(k:Str)(t:Tok)(v:Value):DictEntry:=⟨reduceHash (P.strHash k.cps),.str k t,v⟩
def cO(a:Nat)(n q f s:Str)(l g t k:Nat):Obj:=
 ⟨.type "code",none,.fields #[.str n t,.str q (t+1),.str f (t+2),.int l 0,.int g 0,.int 0 0,.int 0 0,.int 3 0,.ref (a-5),.bool true,.int 181 0,.ref (a-4),.none,.ref (a-3),.ref (a-2),.ref (a-1),.int ((t+k:Nat):Int) 0,.int l 0,.str s (t+k+1)],#[]⟩
def cP(a:Nat)(n q f s:Str)(l g t k:Nat):Obj:=
 ⟨.type "code",none,.fields #[.str n t,.str q (t+1),.str f (t+2),.int l 0,.int g 0,.int 0 0,.int 0 0,.int 3 0,.ref (a-3),.bool true,.int 181 0,.ref (a-2),.none,.none,.none,.ref (a-1),.int ((t+k:Nat):Int) 0,.int l 0,.str s (t+k+1)],#[]⟩
noncomputable def fO(n q:Str)(d:Arguments×List Stmt×Scope)(dV pm:Value)(cd:Addr):Obj:=
 ⟨.type "function",none,.func (fnOf n q d.1 d.2.1 d.2.2 dV .none .none pm none (.ref cd) .none),#[]⟩
def KF(P:Params):Frag:=[
 (3,⟨.type "dict",none,.dict #[
  e P ⟨#[95,95,110,97,109,101,95,95]⟩ 165 (.str gB 810),
  e P l7 166 (.none),
  e P ⟨#[95,95,112,97,99,107,97,103,101,95,95]⟩ 167 (.none),
  e P ⟨#[95,95,108,111,97,100,101,114,95,95]⟩ 168 (.builtin "__main__.__loader__#opaque"),
  e P ⟨#[95,95,115,112,101,99,95,95]⟩ 169 (.none),
  e P ⟨#[95,95,97,110,110,111,116,97,116,105,111,110,115,95,95]⟩ 170 (.ref 6),
  e P ⟨#[95,95,98,117,105,108,116,105,110,115,95,95]⟩ 171 (.ref 4),
  e P ⟨#[95,95,102,105,108,101,95,95]⟩ 173 (.str aM 172),
  e P ⟨#[95,95,99,97,99,104,101,100,95,95]⟩ 174 (.none),
  e P uP 216 (.ref 32),
  e P uQ 232 (.ref 45),
  e P eu 248 (.ref 57),
  e P HT 252 (.bytes #[127,69,76,70] 251),
  e P HJ 254 (.int 1 253),
  e P HR 256 (.int 1 255),
  e P Ie 258 (.int 1 257),
  e P HM 260 (.int 2 259),
  e P HS 262 (.int 243 261),
  e P HO 264 (.int 52 263),
  e P H7 266 (.int 32 265),
  e P H9 268 (.int 40 267),
  e P Ic 270 (.int 16 269),
  e P HU 274 (.int 4294967296 273),
  e P HQ 276 (.int 1 275),
  e P HK 278 (.int 2 277),
  e P HP 280 (.int 3 279),
  e P H8 282 (.int 1 281),
  e P Ig 284 (.int 2 283),
  e P HZ 286 (.int 4 285),
  e P HX 288 (.int 0 287),
  e P HY 290 (.int 1 289),
  e P Ib 292 (.int 2 291),
  e P Ia 294 (.int 3 293),
  e P HV 296 (.int 8 295),
  e P HI 298 (.int 2 297),
  e P HN 300 (.int 1 299),
  e P HH 302 (.int 65521 301),
  e P rW 369 (.ref 105),
  e P rU 430 (.ref 150),
  e P rX 463 (.ref 171),
  e P o7 469 (.ref 180),
  e P oZ 475 (.ref 185),
  e P po 481 (.ref 190),
  e P o3 488 (.ref 197),
  e P rV 523 (.ref 219),
  e P rT 648 (.ref 302),
  e P rS 726 (.ref 359),
  e P oX 733 (.ref 370),
  e P oW 740 (.ref 377),
  e P oY 751 (.ref 384),
  e P pf 768 (.ref 391),
  e P pd 781 (.ref 398),
  e P o8 787 (.ref 403),
  e P pi 793 (.ref 408),
  e P pg 809 (.ref 415),
  e P Ih 827 (.ref 416),
  e P oP 837 (.ref 423),
  e P oD 846 (.ref 430),
  e P oN 857 (.ref 437),
  e P oK 863 (.ref 442),
  e P oQ 869 (.ref 447),
  e P oU 875 (.ref 452),
  e P oM 889 (.ref 459),
  e P oO 895 (.ref 464),
  e P oF 914 (.ref 471),
  e P oS 920 (.ref 476),
  e P oI 926 (.ref 481),
  e P oE 932 (.ref 486),
  e P oR 938 (.ref 491),
  e P oH 944 (.ref 496),
  e P oJ 950 (.ref 501),
  e P oG 960 (.ref 508),
  e P qe 966 (.ref 513)] 73,#[]⟩),
 (22,⟨.type "tuple",none,.seq #[.str ⟨#[]⟩ 201] 0,#[]⟩),
 (28,cO 28 ew IQ aM aM 4 2 202 5),
 (29,fO ew IQ (dM 1 0) (.ref 22) (.str xa 187) 28),
 (31,⟨.type "dict",none,.dict #[
  e P mV 196 (.str xa 187),
  e P mU 200 (.int 2 199),
  e P ew 209 (.ref 29),
  e P mW 211 (.ref 30),
  e P qj 213 (.ref 33),
  e P l7 214 (.none)] 3,#[]⟩),
 (32,⟨.type "type",none,.cls {name:=uP,bases:=[.type "ValueError"],mro:=[.ref 32,.type "ValueError",.type "Exception",.type "BaseException",.type "object"],ns:=31,qualname:=uP,subclasses:=[.ref 45,.ref 57]},#[some (.ref 15),none,some (.str uP 189),some (.str uP 197),some (.builtin "ValueError.__new__"),some (.bool true)]⟩),
 (44,⟨.type "dict",none,.dict #[
  e P mV 224 (.str xa 187),
  e P mU 228 (.int 7 227),
  e P mW 229 (.ref 43),
  e P l7 230 (.none)] 2,#[]⟩),
 (45,⟨.type "type",none,.cls {name:=uQ,bases:=[.ref 32],mro:=[.ref 45,.ref 32,.type "ValueError",.type "Exception",.type "BaseException",.type "object"],ns:=44,qualname:=uQ,subclasses:=[]},#[some (.ref 36),none,some (.str uQ 217),some (.str uQ 225),some (.builtin "ValueError.__new__"),some (.bool true)]⟩),
 (56,⟨.type "dict",none,.dict #[
  e P mV 240 (.str xa 187),
  e P mU 244 (.int 9 243),
  e P mW 245 (.ref 55),
  e P l7 246 (.none)] 2,#[]⟩),
 (57,⟨.type "type",none,.cls {name:=eu,bases:=[.ref 32],mro:=[.ref 57,.ref 32,.type "ValueError",.type "Exception",.type "BaseException",.type "object"],ns:=56,qualname:=eu,subclasses:=[]},#[some (.ref 48),none,some (.str eu 233),some (.str eu 241),some (.builtin "ValueError.__new__"),some (.bool true)]⟩),
 (67,⟨.type "tuple",none,.seq #[.none,.int 7 316] 0,#[]⟩),
 (73,cO 73 ew Ji aM aM 39 5 317 8),
 (74,fO ew Ji (dM 30 0) (.ref 67) (.str co 249) 73),
 (80,cO 80 mS Je aM aM 47 1 328 4),
 (81,fO mS Je (dM 30 1) (.none) (.str co 249) 80),
 (87,cO 87 uF Jf aM aM 50 2 335 5),
 (88,fO uF Jf (dM 30 2) (.none) (.str co 249) 87),
 (94,cO 94 uI Jg aM aM 53 2 343 5),
 (95,fO uI Jg (dM 30 3) (.none) (.str co 249) 94),
 (101,cO 101 Bn Jh aM aM 56 1 351 4),
 (102,fO Bn Jh (dM 30 4) (.none) (.str co 249) 101),
 (104,⟨.type "dict",none,.dict #[
  e P mV 310 (.str co 249),
  e P mU 314 (.int 37 313),
  e P ew 327 (.ref 74),
  e P mS 334 (.ref 81),
  e P uF 342 (.ref 88),
  e P uI 350 (.ref 95),
  e P Bn 357 (.ref 102),
  e P mW 362 (.ref 103),
  e P so 364 (.ref 106),
  e P qj 366 (.ref 107),
  e P l7 367 (.none)] 4,#[]⟩),
 (105,⟨.type "type",none,.cls {name:=rW,bases:=[.type "object"],mro:=[.ref 105,.type "object"],ns:=104,qualname:=rW,subclasses:=[]},#[none,none,some (.str rW 303),some (.str rW 311),some (.builtin "object.__new__"),some (.bool true)]⟩),
 (122,cO 122 ew Ja aM aM 60 3 382 6),
 (123,fO ew Ja (dM 31 0) (.none) (.str co 249) 122),
 (127,cP 127 oV Jb aM aM 64 1 391 3),
 (128,fO oV Jb (dM 31 1) (.none) (.str co 249) 127),
 (132,cP 132 mS I7 aM aM 67 1 397 3),
 (133,fO mS I7 (dM 31 2) (.none) (.str co 249) 132),
 (139,cO 139 uK I9 aM aM 70 2 403 6),
 (140,fO uK I9 (dM 31 3) (.none) (.str co 249) 139),
 (146,cO 146 Bm I8 aM aM 76 2 412 6),
 (147,fO Bm I8 (dM 31 4) (.none) (.str co 249) 146),
 (149,⟨.type "dict",none,.dict #[
  e P mV 377 (.str co 249),
  e P mU 381 (.int 58 380),
  e P ew 390 (.ref 123),
  e P oV 396 (.ref 128),
  e P mS 402 (.ref 133),
  e P uK 411 (.ref 140),
  e P Bm 420 (.ref 147),
  e P mW 423 (.ref 148),
  e P so 425 (.ref 151),
  e P qj 427 (.ref 152),
  e P l7 428 (.none)] 4,#[]⟩),
 (150,⟨.type "type",none,.cls {name:=rU,bases:=[.type "object"],mro:=[.ref 150,.type "object"],ns:=149,qualname:=rU,subclasses:=[]},#[none,none,some (.str rU 370),some (.str rU 378),some (.builtin "object.__new__"),some (.bool true)]⟩),
 (167,cO 167 ew Jj aM aM 81 4 443 7),
 (168,fO ew Jj (dM 32 0) (.none) (.str co 249) 167),
 (170,⟨.type "dict",none,.dict #[
  e P mV 438 (.str co 249),
  e P mU 442 (.int 79 441),
  e P ew 452 (.ref 168),
  e P mW 456 (.ref 169),
  e P so 458 (.ref 172),
  e P qj 460 (.ref 173),
  e P l7 461 (.none)] 4,#[]⟩),
 (171,⟨.type "type",none,.cls {name:=rX,bases:=[.type "object"],mro:=[.ref 171,.type "object"],ns:=170,qualname:=rX,subclasses:=[]},#[none,none,some (.str rX 431),some (.str rX 439),some (.builtin "object.__new__"),some (.bool true)]⟩),
 (179,cP 179 o7 o7 aM aM 85 2 464 3),
 (180,fO o7 o7 (dF 33) (.none) (.str co 249) 179),
 (184,cP 184 oZ oZ aM aM 89 1 470 3),
 (185,fO oZ oZ (dF 34) (.none) (.str co 249) 184),
 (189,cP 189 po po aM aM 91 1 476 3),
 (190,fO po po (dF 35) (.none) (.str co 249) 189),
 (196,cO 196 o3 o3 aM aM 93 1 482 4),
 (197,fO o3 o3 (dF 36) (.none) (.str co 249) 196),
 (210,cO 210 ew Jd aM aM 97 1 501 4),
 (211,fO ew Jd (dM 37 0) (.none) (.str co 249) 210),
 (215,cP 215 dj Jc aM aM 101 2 508 3),
 (216,fO dj Jc (dM 37 1) (.none) (.str co 249) 215),
 (218,⟨.type "dict",none,.dict #[
  e P mV 496 (.str co 249),
  e P mU 500 (.int 95 499),
  e P ew 507 (.ref 211),
  e P dj 513 (.ref 216),
  e P mW 516 (.ref 217),
  e P so 518 (.ref 220),
  e P qj 520 (.ref 221),
  e P l7 521 (.none)] 4,#[]⟩),
 (219,⟨.type "type",none,.cls {name:=rV,bases:=[.type "object"],mro:=[.ref 219,.type "object"],ns:=218,qualname:=rV,subclasses:=[]},#[none,none,some (.str rV 489),some (.str rV 497),some (.builtin "object.__new__"),some (.bool true)]⟩),
 (236,cO 236 ew I5 aM aM 108 4 536 8),
 (237,fO ew I5 (dM 38 0) (.none) (.str co 249) 236),
 (243,cO 243 kV IY aM aM 122 1 547 4),
 (244,fO kV IY (dM 38 1) (.none) (.str co 249) 243),
 (250,cO 250 r9 I0 aM aM 125 2 554 5),
 (251,fO r9 I0 (dM 38 2) (.none) (.str co 249) 250),
 (257,cO 257 mR I6 aM aM 130 2 562 6),
 (258,fO mR I6 (dM 38 3) (.none) (.str co 249) 257),
 (264,cO 264 kW I3 aM aM 136 1 571 8),
 (265,fO kW I3 (dM 38 4) (.none) (.str co 249) 264),
 (271,cO 271 fk IZ aM aM 144 4 582 9),
 (272,fO fk IZ (dM 38 5) (.none) (.str co 249) 271),
 (273,⟨.type "tuple",none,.seq #[.none] 0,#[]⟩),
 (279,cO 279 rY IX aM aM 150 2 594 8),
 (280,fO rY IX (dM 38 6) (.ref 273) (.str co 249) 279),
 (284,cP 284 sh I1 aM aM 157 2 605 3),
 (285,fO sh I1 (dM 38 7) (.none) (.str co 249) 284),
 (291,cO 291 sn I4 aM aM 180 4 611 11),
 (292,fO sn I4 (dM 38 8) (.none) (.str co 249) 291),
 (298,cO 298 qf I2 aM aM 187 2 625 7),
 (299,fO qf I2 (dM 38 9) (.none) (.str co 249) 298),
 (301,⟨.type "dict",none,.dict #[
  e P mV 531 (.str co 249),
  e P mU 535 (.int 106 534),
  e P ew 546 (.ref 237),
  e P kV 553 (.ref 244),
  e P r9 561 (.ref 251),
  e P mR 570 (.ref 258),
  e P kW 581 (.ref 265),
  e P fk 593 (.ref 272),
  e P rY 604 (.ref 280),
  e P sh 610 (.ref 285),
  e P sn 624 (.ref 292),
  e P qf 634 (.ref 299),
  e P mW 641 (.ref 300),
  e P so 643 (.ref 303),
  e P qj 645 (.ref 304),
  e P l7 646 (.none)] 4,#[]⟩),
 (302,⟨.type "type",none,.cls {name:=rT,bases:=[.type "object"],mro:=[.ref 302,.type "object"],ns:=301,qualname:=rT,subclasses:=[]},#[none,none,some (.str rT 524),some (.str rT 532),some (.builtin "object.__new__"),some (.bool true)]⟩),
 (319,cO 319 ew IW aM aM 194 2 661 5),
 (320,fO ew IW (dM 39 0) (.none) (.str co 249) 319),
 (326,cO 326 uJ IT aM aM 197 4 669 7),
 (327,fO uJ IT (dM 39 1) (.none) (.str co 249) 326),
 (328,⟨.type "tuple",none,.seq #[.str fk 679] 0,#[]⟩),
 (334,cO 334 o9 IS aM aM 202 4 680 9),
 (335,fO o9 IS (dM 39 2) (.ref 328) (.str co 249) 334),
 (336,⟨.type "tuple",none,.seq #[.str fk 692] 0,#[]⟩),
 (342,cO 342 uE IR aM aM 208 3 693 6),
 (343,fO uE IR (dM 39 3) (.ref 336) (.str co 249) 342),
 (344,⟨.type "tuple",none,.seq #[.str fk 702] 0,#[]⟩),
 (350,cO 350 qi IV aM aM 211 3 703 6),
 (351,fO qi IV (dM 39 4) (.ref 344) (.str co 249) 350),
 (355,cP 355 qg IU aM aM 214 4 712 3),
 (356,fO qg IU (dM 39 5) (.none) (.str co 249) 355),
 (358,⟨.type "dict",none,.dict #[
  e P mV 656 (.str co 249),
  e P mU 660 (.int 192 659),
  e P ew 668 (.ref 320),
  e P uJ 678 (.ref 327),
  e P o9 691 (.ref 335),
  e P uE 701 (.ref 343),
  e P qi 711 (.ref 351),
  e P qg 717 (.ref 356),
  e P mW 719 (.ref 357),
  e P so 721 (.ref 360),
  e P qj 723 (.ref 361),
  e P l7 724 (.none)] 4,#[]⟩),
 (359,⟨.type "type",none,.cls {name:=rS,bases:=[.type "object"],mro:=[.ref 359,.type "object"],ns:=358,qualname:=rS,subclasses:=[]},#[none,none,some (.str rS 649),some (.str rS 657),some (.builtin "object.__new__"),some (.bool true)]⟩),
 (369,cO 369 oX oX aM aM 216 1 727 4),
 (370,fO oX oX (dF 40) (.none) (.str co 249) 369),
 (376,cO 376 oW oW aM aM 225 1 734 4),
 (377,fO oW oW (dF 41) (.none) (.str co 249) 376),
 (383,cO 383 oY oY aM aM 236 5 741 8),
 (384,fO oY oY (dF 42) (.none) (.str co 249) 383),
 (390,cO 390 pf pf aM aM 243 2 752 14),
 (391,fO pf pf (dF 43) (.none) (.str co 249) 390),
 (397,cO 397 pd pd aM aM 252 1 769 10),
 (398,fO pd pd (dF 44) (.none) (.str co 249) 397),
 (402,cP 402 o8 o8 aM aM 270 2 782 3),
 (403,fO o8 o8 (dF 45) (.none) (.str co 249) 402),
 (407,cP 407 pi pi aM aM 277 1 788 3),
 (408,fO pi pi (dF 46) (.none) (.str co 249) 407),
 (414,cO 414 pg pg aM aM 282 1 794 13),
 (415,fO pg pg (dF 47) (.none) (.str co 249) 414),
 (416,⟨.type "tuple",none,.seq #[.str ⟨#[95,115,116,97,114,116]⟩ 812,.str uM 813,.str ⟨#[116,97,114,116]⟩ 814,.str ⟨#[97,114,116]⟩ 815,.str ⟨#[114,116]⟩ 816,.str ⟨#[116]⟩ 817,.str ⟨#[]⟩ 818,.str ⟨#[98,50]⟩ 819,.str ⟨#[50]⟩ 820,.str ⟨#[]⟩ 821,.str ⟨#[]⟩ 822,.str ⟨#[255,46,120]⟩ 823,.str ⟨#[46,120]⟩ 824,.str ⟨#[120]⟩ 825,.str ⟨#[]⟩ 826] 0,#[]⟩),
 (422,cO 422 oP oP aM aM 300 1 828 7),
 (423,fO oP oP (dF 50) (.none) (.str gB 810) 422),
 (429,cO 429 oD oD aM aM 308 2 838 6),
 (430,fO oD oD (dF 51) (.none) (.str gB 810) 429),
 (436,cO 436 oN oN aM aM 315 4 847 8),
 (437,fO oN oN (dF 52) (.none) (.str gB 810) 436),
 (441,cP 441 oK oK aM aM 319 3 858 3),
 (442,fO oK oK (dF 53) (.none) (.str gB 810) 441),
 (446,cP 446 oQ oQ aM aM 321 2 864 3),
 (447,fO oQ oQ (dF 54) (.none) (.str gB 810) 446),
 (451,cP 451 oU oU aM aM 332 1 870 3),
 (452,fO oU oU (dF 55) (.none) (.str gB 810) 451),
 (458,cO 458 oM oM aM aM 346 2 876 11),
 (459,fO oM oM (dF 56) (.none) (.str gB 810) 458),
 (463,cP 463 oO oO aM aM 354 5 890 3),
 (464,fO oO oO (dF 57) (.none) (.str gB 810) 463),
 (470,cO 470 oF oF aM aM 370 5 896 16),
 (471,fO oF oF (dF 58) (.none) (.str gB 810) 470),
 (475,cP 475 oS oS aM aM 379 5 915 3),
 (476,fO oS oS (dF 59) (.none) (.str gB 810) 475),
 (480,cP 480 oI oI aM aM 393 2 921 3),
 (481,fO oI oI (dF 60) (.none) (.str gB 810) 480),
 (485,cP 485 oE oE aM aM 415 1 927 3),
 (486,fO oE oE (dF 61) (.none) (.str gB 810) 485),
 (490,cP 490 oR oR aM aM 425 1 933 3),
 (491,fO oR oR (dF 62) (.none) (.str gB 810) 490),
 (495,cP 495 oH oH aM aM 438 1 939 3),
 (496,fO oH oH (dF 63) (.none) (.str gB 810) 495),
 (500,cP 500 oJ oJ aM aM 444 1 945 3),
 (501,fO oJ oJ (dF 64) (.none) (.str gB 810) 500),
 (507,cO 507 oG oG aM aM 450 4 951 7),
 (508,fO oG oG (dF 65) (.none) (.str gB 810) 507),
 (512,cP 512 qe qe aM aM 454 1 961 3),
 (513,fO qe qe (dF 66) (.none) (.str gB 810) 512)]
noncomputable def KA:List Addr:=[3,22,28,29,31,32,44,45,56,57,67,73,74,80,81,87,88,94,95,101,102,104,105,122,123,127,128,132,133,139,140,146,147,149,150,167,168,170,171,179,180,184,185,189,190,196,197,210,211,215,216,218,219,236,237,243,244,250,251,257,258,264,265,271,272,273,279,280,284,285,291,292,298,299,301,302,319,320,326,327,328,334,335,336,342,343,344,350,351,355,356,358,359,369,370,376,377,383,384,390,391,397,398,402,403,407,408,414,415,416,422,423,429,430,436,437,441,442,446,447,451,452,458,459,463,464,470,471,475,476,480,481,485,486,490,491,495,496,500,501,507,508,512,513]
def Js(w:World)(s:SharedT):Bool:=
 staticsOk Bt (boot_heap w.params) s.abs.heap&&namesBound PW s.abs.heap&&gensDone s.abs&&laidKept (boot_heap w.params) s.abs.heap
theorem T3(w:World)(os:OsState) :
  (sq (Fast.tw10156331382660048174 (Fast.tw11892475500146522536 Fast.tw14364793385576792824) PW w) (Fast.tw6613529449190102663 11 (some (.ref 6))) 4000 (S0 w os) (topStub PW)).map
   (λs=>((Js w s,KA.map s.abs.heap.get?),Fast.tw4187177175401517315 Q jV Bt (λJ=>true) true s.abs)) =
  some ((true,(KF w.params).map (λp=>some p.2)),openGood Q jV):=by
 kernel_rfl!
end
set_option backward.match.sparseCases true
section
set_option maxHeartbeats 0
theorem T5(w)(os:OsState):∃s:SharedT,topRun treeTable PW w 11 (some (.ref 6)) 4000 ⟨boot_heap w.params,Array.mk [],boot_drawn,boot_toks,os⟩ (topStub PW)=some s.abs/\
  Js w s=true/\KA.map s.abs.heap.get?=(KF w.params).map (λp=>some p.2)/\openSeen Q jV Bt (λJ=>true) true s.abs=openGood Q jV:=by
 obtain⟨s,h1,h2⟩:=map_eq_some_iff.mp (T3 w os)
 rw[<- Fast.te10156331382660048174,<- Fast.te11892475500146522536,<- Fast.te14364793385576792824,<- Fast.te6613529449190102663] at h1
 rw[<- Fast.te4187177175401517315] at h2
 have h3:=TX h1
 rw[TY] at h3
 obtain⟨h4,h5⟩:=Prod.mk.inj h2
 obtain⟨h6,h7⟩:=Prod.mk.inj h4
 exact⟨s,h3,h6,h7,h5⟩
theorem T7:∀w,(fencedOpening treeTable PW w 8000).map (λs=>(s.heap,s.gens,s.drawn,s.toks))=some (boot_heap w.params,Array.mk [],boot_drawn,boot_toks):=
 boot_open (by kernel_rfl!) (by kernel_rfl!) (λs=>by kernel_rfl!)
theorem T8{p q:Program}{Bu:List Str}{Xt:Shared->Bool}{α:Type}{Yf:Shared->α}{Ya:World->α}{N:Nat}{g0:Bool}{kX:Params->Heap}{xe:Array GenState}{Bv:Drawn}{Bw:Nat}{qn:Nat}{sv:Option Value}{M:Nat}
  (T9:∀w:World,(fencedOpening treeTable p w N).map (λs=>(s.heap,s.gens,s.drawn,s.toks))=some (kX w.params,xe,Bv,Bw))
  (size:∀w:World,((kX w.params).isNs mainGlobals&&xe.size==0,(kX w.params).objs.size,(kX w.params).nsMap mainGlobals "__annotations__")=(true,qn,sv))
  (run:∀(w:World)(os:OsState),∃s,topRun treeTable p w qn sv M ⟨kX w.params,xe,Bv,Bw,os⟩ (topStub p)=some s/\
   (staticsOk (importedModules p.main.body) (kX w.params) s.heap&&namesBound p s.heap&&gensDone s&&laidKept (kX w.params) s.heap)=true/\Yf s=Ya w/\openSeen q Bu (importedModules p.main.body) Xt g0 s=openGood q Bu)
  (le:ble M N=true):LeftO p q Bu Xt Yf Ya N g0:=λw=>by
 obtain⟨⟨h,gs,d,k,os⟩,e,e'⟩:=map_eq_some_iff.mp (T9 w)
 obtain⟨rfl,rfl,rfl,rfl⟩:h=kX w.params/\gs=xe/\d=Bv/\k=Bw:=by simpa using e'
 obtain⟨z1,z2,z3⟩:_/\_/\_:=by simpa only [Prod.mk.injEq] using size w
 obtain⟨s,r,l1,l2,l3⟩:=run w os
 have r:=topRun_mono (N-M) _ _ _ _ r
 rw[show M+(N-M)=N by have:=le_of_ble_eq_true le;omega] at r
 have t:topFrom treeTable p w N ⟨kX w.params,gs,d,k,os⟩=some s:=by
  unfold topFrom
  dsimp only
  rw[z1,z2,z3,r]
  show(match staticsOk (importedModules p.main.body) (kX w.params) s.heap&&namesBound p s.heap&&gensDone s&&laidKept (kX w.params) s.heap with | true=>_ | false=>_)=_
  rw[l1]
 unfold openEnds
 rw[e]
 show(topFrom treeTable p w N _).map _=_
 rw[t]
 exact aw some (Prod.ext l3 l2)
def YF(w:World):List (Option Obj):=(KF w.params).map (λp=>some p.2)
theorem Ua:LeftO PW Q jV (λJ=>true) (λs=>KA.map s.heap.get?) YF 8000:=
 T8 (qn:=11) (sv:=some (.ref 6)) (M:=4000) T7 (λw=>by kernel_rfl!) (λw os=>by
  obtain⟨s,r,l1,l2,l3⟩:=T5 w os
  exact⟨s.abs,r,l1,l2,l3⟩) (by decide +kernel)
end
section
set_option maxHeartbeats 0
def qo:DefRec:=match recsOf Q with | d::_=>d | []=>⟨⟨#[]⟩,⟨[],[],none,[],[],none,[]⟩,[],default,default⟩
theorem Ub:defOf Q (Str.ofString "law")=some (qo,[]):=by kernel_rfl!
theorem Uc:PW.theDef (Str.ofString "law")=some (qo.params,qo.body,qo.scope):=by kernel_rfl!
theorem Ud {w:World} {h:Heap} {mg:Str->Option Value} (X:(KF w.params).In h) (G:h.Ns mainGlobals mg):mg (Str.ofString "law")=some (.ref 513):=
 mg_of X G (by kernel_rfl!)
theorem Ue:LeftO PySem.Challenge.pw_tk0068_01 Q jV (λJ=>true) (λs=>KA.map s.heap.get?) YF 8000:=by rw[Br];exact Ua
theorem Uf:(chainsOk Q&&opensWell PySem.Challenge.rw_tk0068_01.row.prog&&(frees PySem.Challenge.rw_tk0068_01.row.toRowW&&PySem.Challenge.rw_tk0068_01.row.within.isEmpty))=true:=by kernel_rfl!
end
section
open Sem (wp)
noncomputable def gD:Code->Bool
 |.builtin id _=>Builtin.Bytes.decodersThatHold.contains id
 |_=>false
structure Gd(Γ:Ctx):Prop where
 code:gD Γ.code=false
 below:∀x∈Γ.below,gD x.1=false
theorem Gd.enter{Γ}(h:Gd Γ){c}{hd}{p}(hc:gD c=false):Gd (Γ.enter c hd p):=
 ⟨hc,λx hx=>by
  rcases dI.mp (show x∈(Γ.code,p)::Γ.below from hx) with rfl | hx
  .exact h.code
  .exact h.below x hx⟩
theorem Gd.goto{Γ}(h:Gd Γ){c}(hc:gD c=false):Gd (Γ.goto c):=⟨hc,h.below⟩
structure af{α:Type}(M:Model)(A:Around)(t:Sem α)(Q:α->Shared->Prop)(E:Value->Shared->Prop)(s:Shared):Prop where
 run:∀Γ p,Γ.In A->Gd Γ->wp M Γ t (λa J s'=>Q a s') (λe J s'=>E e s') p s
theorem eM{α:Type}{M:Model}{A:Around}{t:Sem α}{Q:α->Shared->Prop}{E:Value->Shared->Prop}{s:Shared}(h:∀Γ p,Γ.In A->Gd Γ->wp M Γ t (λa J s'=>Q a s') (λe J s'=>E e s') p s):af M A t Q E s:=⟨h⟩
def dk(M:Model)(A:Around)(c:Code)(R:Result->Shared->Prop)(s:Shared):Prop:=
 ∀Γ p,Γ.code=c->Γ.Below A->Gd Γ->wpCode M Γ R p s
section
variable{α β:Type}{M:Model}{A:Around}{E:Value->Shared->Prop}{s:Shared}
theorem gg{t:Sem α}{Q:α->Shared->Prop}(h:PySem.wpAny M A t Q E s):af M A t Q E s:=eM λΓ p bx J=>h Γ p bx
theorem aT{a:α}{Q:α->Shared->Prop}(h:Q a s):af M A (pure a) Q E s:=eM λJ J J J=>h
theorem Ug{e:Value}{Q:α->Shared->Prop}(h:E e s):af M A (throw e:Sem α) Q E s:=eM λJ J J J=>h
theorem aE{t:Sem α}{Q Q':α->Shared->Prop}{E':Value->Shared->Prop}(h:af M A t Q E s)
  (hQ:∀a s,Q a s->Q' a s)(hE:∀e s,E e s->E' e s):af M A t Q' E' s:=
 eM λΓ p bx hG=>Sem.wp_mono M Γ t (λa J s=>hQ a s) (λe J s=>hE e s) p s (h.run Γ p bx hG)
theorem ak{m:Sem α}{f:α->Sem β}{Q:β->Shared->Prop}(h:af M A m (λa s'=>af M A (f a) Q E s') E s) :
  af M A (m >>= f) Q E s:=eM λΓ p bx hG=>by
 rw[Sem.wp_bind']
 exact Sem.wp_mono M Γ m (λa p' s' Y=>Y.run Γ p' bx hG) (λJ J J Y=>Y) p s (h.run Γ p bx hG)
theorem uU{m:Sem α}{k:Value->Sem Unit}{Q:α->Shared->Prop}
  (h:af M A m Q (λe s'=>af M A (k e) (λJ cG=>E e cG) E s') s):af M A (m.onRaise k) Q E s:=eM λΓ p bx hG=>by
 rw[Sem.wp_onRaise]
 exact Sem.wp_mono M Γ m (λJ J J Y=>Y) (λe p' s' Y=>Y.run Γ p' bx hG) p s (h.run Γ p bx hG)
theorem Bx{m:Sem α}{Q:Except Value α->Shared->Prop}(h:af M A m (λa=>Q (.ok a)) (λe=>Q (.error e)) s) :
  af M A m.attempt Q E s:=eM λΓ p bx hG=>by rw[Sem.wp_attempt];exact h.run Γ p bx hG
theorem ci{vs:List Value}{m:Sem α}{Q:α->Shared->Prop}(h:af M A m Q E s):af M A (holding vs m) Q E s:=
 eM λΓ p bx hG=>by rw[Sem.wp_holding];exact h.run Γ p bx hG
theorem sx{Uh:String}{Q:Unit->Shared->Prop}(h:Q () s):af M A (rule Uh) Q E s:=eM λJ J J J=>h
theorem cB{pos:Pos}{Q:Unit->Shared->Prop}(h:Q () s):af M A (standAt pos) Q E s:=eM λJ J J J=>h
theorem fR{t:Sem α}{a:α}{Q:α->Shared->Prop}(e:t=pure a)(h:Q a s):af M A t Q E s:=by rw[e];exact aT h
theorem Ui{f:Code×Pos->Bool}{Q:Bool->Shared->Prop}(hg:A.guards=some [])(hf:∀c p,c.isGuard=false->gD c=false->f (c,p)=false)
  (h:Q false s):af M A (do return(<- stack).any f) Q E s:=eM λΓ p bx hG=>by
 show Q (((Γ.code,p)::Γ.below).any f) s
 have Uj:guardsOf ((Γ.code,p)::Γ.below)=[]:=by rw[guardsOf_cons];exact bx.2.2.2.1 [] hg
 have:((Γ.code,p)::Γ.below).any f=false:=by
  rw[any_eq_false]
  intro x hx
  obtain⟨c,q⟩:=x
  have Uk:c.isGuard=false:=by
   cases e:c.isGuard with
   |false=>rfl
   |true=>
    have:c∈guardsOf ((Γ.code,p)::Γ.below):=mem_filter.mpr ⟨mem_map_of_mem hx,e⟩
    rw[Uj] at this;cases this
  have hd:gD c=false:=by
   rcases dI.mp hx with e | hx
   .cases e;exact hG.code
   .exact hG.below _ hx
  rw[hf c q Uk hd];exact em
 rw[this];exact h
theorem Jt{c:Code}{h:Option Value}{Q:Flow->Shared->Prop}
  (hc:dk M (A.mark h) c (λr s'=>match r with | .ok f=>Q f s' | .error e=>E e s') s)(hd:autoParam (gD c=false) rl)(By:h≠some byPass:=by intro x;cases x) :
  af M A (run c h) Q E s:=
 eM λΓ p bx hG=>by rw[Sem.wp_run];exact hc _ p rfl (bx.enter c h p By) (hG.enter hd)
theorem Ul{c:Code}{Q:Value->Shared->Prop}
  (hc:dk M A c (λr s'=>match r with | .ok (.ret v)=>Q v s' | .ok _=>False | .error e=>E e s') s)(hd:autoParam (gD c=false) rl) :
  af M A (runValue c) Q E s:=eM λΓ p bx hG=>by rw[Sem.wp_runValue];exact hc _ p rfl (bx.enter c none p (by intro x;cases x)) (hG.enter hd)
theorem uV{f}{pos}{kw}{Q}
  (hc:dk M A (.call f ⟨pos,kw⟩) (λr s'=>match r with | .ok (.ret v)=>Q v s' | .ok _=>False | .error e=>E e s') s) :
  af M A (PySem.call f pos kw) Q E s:=Ul hc
theorem kY{c}{R}
  (h:af M (A.under c) (M.den c) (λbc s'=>match bc with | .done f=>R (.ok f) s' | .again c'=>c'.quiet=true/\gD c'=false/\dk M A c' R s')
   (λe s'=>R (.error e) s') s):dk M A c R s:=λΓ p hc bx hG=>by
 rw[wpCode_iff_wp,hc]
 refine Sem.wp_mono M Γ _ (λbc p' s' Y=>?_) (λJ J J Y=>Y) p s (h.run Γ p (hc▸bx.in) hG)
 cases bc with
 |done f=>exact Y
 |again c'=>exact⟨Y.1,Y.2.2 (Γ.goto c') p' rfl (bx.goto c') (hG.goto Y.2.1)⟩
theorem Ju{c:Code}{R:Result->Shared->Prop}(hq:c.quiet=true)(hd:gD c=false)(au:Nat->Shared->Prop)
  (eY:∀n s,au n s->af M (A.under c) (M.den c)
   (λbc s'=>match bc with | .done f=>R (.ok f) s' | .again c'=>c'=c/\∃m,m<n/\au m s') (λe s'=>R (.error e) s') s)
  (n:Nat)(h:au n s):dk M A c R s:=by
 induction n using Nat.strongRecOn generalizing s with
 |ind n ih=>
  refine kY (aE (eY n s h) (λbc s' hf=>?_) λJ J Y=>Y)
  cases bc with
  |done f=>exact hf
  |again c'=>obtain⟨rfl,m,hm,hI⟩:=hf;exact⟨hq,hd,ih m hm hI⟩
end
end
section
open Sem (wp)
section
variable{M:Model}{A:Around}{E:Value->Shared->Prop}{s:Shared}{env:Env}
theorem xf{vs}{m}{Q}(h:af M A m Q E s):af M A (operate vs m) Q E s:=
 eM λΓ p bx hG=>by rw[Sem.wp_operate];exact h.run Γ p bx hG
theorem Um{l op r pos}{Q}
  (h:af M A (eval l env) (λa am=>af M A (eval r env) (λb aX=>af M A (binaryOp op a b) Q E aX) E am) E s) :
  af M A (eval (.BinOp l op r pos) env) Q E s:=by
 rw[eval_BinOp]
 exact ak (aE h (λa am a7=>ak (ci (aE a7 (λb aX b9=>ak (cB (xf b9))) λJ J x=>x))) λJ J x=>x)
theorem Uo{l op r pos}{Q}
  (h:af M A (eval l env) (λa am=>af M A (eval r env) (λb aX=>af M A (compareOp op a b) Q E aX) E am) E s)
  (hm:autoParam (behindInMarks op r=false) wu):af M A (eval (.Compare l [op] [r] pos) env) Q E s:=eM λΓ p bx hG=>by
 simp only[eval_Compare1,markedBehindIn_of_false hm,Sem.wp_bind',Sem.wp_holding,Sem.wp_cmd_standAt,Sem.wp_operate]
 exact Sem.wp_mono M Γ _ (λa qp am a7=>Sem.wp_mono M Γ _ (λb J aX b9=>b9.run Γ _ bx hG) (λJ J J Y=>Y) _ _ (a7.run Γ qp bx hG))
  (λJ J J Y=>Y) _ _ (h.run Γ p bx hG)
theorem Up{op}{x}{pos}{Q}(h:af M A (eval x env) (λv am=>af M A (unaryOp op v) Q E am) E s) :
  af M A (eval (.UnaryOp op x pos) env) Q E s:=by
 rw[arm_eval_UnaryOp]
 exact ak (aE h (λv am a7=>ak (cB (ci a7))) λJ J x=>x)
theorem Uq{gE body i9}{pos}{Q}
  (h:af M A (isTrue gE env (eval gE env)) (λb am=>if b then af M A (eval body env) Q E am else af M A (eval i9 env) Q E am) E s) :
  af M A (eval (.IfExp gE body i9 pos) env) Q E s:=by
 rw[arm_eval_IfExp]
 refine ak (aE h (λb am a7=>?_) λJ J x=>x)
 cases b <;> exact a7
theorem Jv{dU}{pos}{Q}
  (h:af M A (spliced (backTo pos (starEach dU env)))
   (λvs am=>vs.length<=sizeLine/\Q (.ref am.heap.objs.size) {am with heap:=am.heap.push {cls:=.type "list",data:=.seq vs.toArray}}) E s):af M A (eval (.List dU pos) env) Q E s:=by
 rw[arm_eval_List]
 exact ak (cB (ak (aE h (λvs am a7=>(gg<|PySem.wpAny_newObj_type a7.2 (by show vs.toArray.size<=sizeLine;rw[size_toArray];exact a7.1))) λJ J x=>x)))
theorem Ur{dU}{k}{pos}{Q}
  (h:af M A (spliced (backTo pos (starEach dU env)))
   (λvs am=>vs.length<=sizeLine/\Q (.ref am.heap.objs.size) {am with heap:=am.heap.push {cls:=.type "tuple",data:=.seq vs.toArray}}) E s):af M A (eval (.Tuple dU k pos) env) Q E s:=by
 rw[arm_eval_Tuple]
 exact ak (cB (ak (aE h (λvs am a7=>(gg<|PySem.wpAny_newObj_type a7.2 (by show vs.toArray.size<=sizeLine;rw[size_toArray];exact a7.1))) λJ J x=>x)))
theorem Jw {x pos} {Q} (h:af M A (loadName env x) Q E s) (hd:autoParam ((x==("__debug__"))=false) dc) :
  af M A (eval (.Name x pos) env) Q E s:=by
 rw[eval_Name env x pos hd]
 exact ak (cB h)
theorem Us{e}{ja}{Q}(h:af M A ja (λv am=>af M A (truthy v) Q E am) E s)
  (he:autoParam (isTrue e env ja=(do let v <- ja;standAt e.pos;holding [v] (truthy v))) rl):af M A (isTrue e env ja) Q E s:=by
 rw[he]
 exact ak (aE h (λv am a7=>ak (cB (ci a7))) λJ J x=>x)
theorem Ut{x}{pos}{ja}{Q}(h:af M A (isTrue x env (eval x env)) (λb am=>Q (!b) am) E s) :
  af M A (isTrue (.UnaryOp .Not x pos) env ja) Q E s:=by
 rw[arm_isTrue_UnaryOp]
 exact ak (aE h (λb am a7=>aT a7) λJ J x=>x)
theorem Uu{op}{Jx}{pos}{ja}{Q}(h:af M A (allTrue op Jx env) Q E s) :
  af M A (isTrue (.BoolOp op Jx pos) env ja) Q E s:=by rw[arm_isTrue_BoolOp];exact h
theorem Uv{gE body i9 pos}{Q}
  (h:af M A (isTrue gE env (eval gE env)) (λb aX=>if b then af M A (execs body env) Q E aX else af M A (execs i9 env) Q E aX) E s) :
  af M A (exec (.If gE body i9 pos) env) Q E s:=eM λΓ p bx hG=>by
 simp only[exec_If,Sem.wp_bind',Sem.wp_cmd_standAt]
 refine Sem.wp_mono M Γ _ (λb sA aX b9=>?_) (λJ J J Y=>Y) _ _ (h.run Γ _ bx hG)
 cases b <;> exact b9.run Γ sA bx hG
theorem Uw{l op r pos ja}{Q}
  (h:af M A (eval l env) (λa am=>af M A (eval r env) (λb aX=>af M A (compareOp op a b) (λc cF=>af M A (truthy c) Q E cF) E aX) E am) E s)
  (hm:autoParam (behindInMarks op r=false) wu):af M A (isTrue (.Compare l [op] [r] pos) env ja) Q E s:=eM λΓ p bx hG=>by
 simp only[isTrue_Compare1,markedBehindIn_of_false hm,Sem.wp_bind',Sem.wp_holding,Sem.wp_cmd_standAt,Sem.wp_operate]
 exact Sem.wp_mono M Γ _ (λa qp am a7=>Sem.wp_mono M Γ _ (λb J aX b9=>Sem.wp_mono M Γ _ (λc uW cF eL=>eL.run Γ uW bx hG)
  (λJ J J Y=>Y) _ _ (b9.run Γ _ bx hG)) (λJ J J Y=>Y) _ _ (a7.run Γ qp bx hG)) (λJ J J Y=>Y) _ _ (h.run Γ p bx hG)
end
end
section
open Sem (wp)
section
variable{α:Type}{M:Model}{A:Around}{E:Value->Shared->Prop}{s:Shared}{env:Env}
theorem Bz{Q}(h:Q () s):af M A point Q E s:=eM λJ J J J=>h
theorem Ux{pos}{Q}(h:Q [] s):af M A (spliced (backTo pos (starEach [] env))) Q E s:=aT h
theorem Uy{pos}{e}{cZ}{Q}
  (h:af M A (eval e env) (λv am=>af M A (spliced (backTo pos (starEach cZ env))) (λvs aX=>Q (v::vs) aX) E am) E s)
  (he:autoParam (starEach (e::cZ) env=(false,eval e env)::starEach cZ env) rl):af M A (spliced (backTo pos (starEach (e::cZ) env))) Q E s:=by
 rw[he]
 show af M A (do
  let v <- eval e env
  let here <- (pure [v]:Sem (List Value))
  return here++(<- holding here (spliced (backTo pos (starEach cZ env))))) Q E s
 exact ak (aE h (λv am a7=>ak (aT (ak (ci (aE a7 (λvs aX b9=>aT b9) λJ J x=>x))))) λJ J x=>x)
theorem Uz{Q}(h:Q true s):af M A (allTrue .And [] env) Q E s:=aT h
theorem UA{Q}(h:Q false s):af M A (allTrue .Or [] env) Q E s:=aT h
theorem UB{x}{cZ}{Q}
  (h:af M A (isTrue x env (eval x env)) (λb am=>if b then af M A (allTrue .And cZ env) Q E am else Q false am) E s):af M A (allTrue .And (x::cZ) env) Q E s:=by
 show af M A (do match BoolOp.And,<- isTrue x env (eval x env) with | .And,false=>pure false | .Or,true=>pure true | _,_=>allTrue .And cZ env) Q E s
 refine ak (aE h (λb am a7=>?_) λJ J x=>x)
 cases b
 .exact aT a7
 .exact a7
theorem UC{x}{cZ}{Q}
  (h:af M A (isTrue x env (eval x env)) (λb am=>if b then Q true am else af M A (allTrue .Or cZ env) Q E am) E s):af M A (allTrue .Or (x::cZ) env) Q E s:=by
 show af M A (do match BoolOp.Or,<- isTrue x env (eval x env) with | .And,false=>pure false | .Or,true=>pure true | _,_=>allTrue .Or cZ env) Q E s
 refine ak (aE h (λb am a7=>?_) λJ J x=>x)
 cases b
 .exact a7
 .exact aT a7
theorem UD{x y}{pos}{Q}
  (h:af M A (eval x env) (λv am=>af M A (truthy v) (λt aX=>if t then af M A (eval y env) Q E aX else Q v aX) E am) E s) :
  af M A (eval (.BoolOp .And [x,y] pos) env) Q E s:=by
 show af M A (do
  let v <- eval x env
  standAt pos
  let t <- holding [v] (truthy v)
  match BoolOp.And,t with
  |.And,false | .Or,true=>pure v
  |_,_=>boolOp pos .And [eval y env]) Q E s
 refine ak (aE h (λv am a7=>ak (cB (ak (ci (aE a7 (λt aX b9=>?_) λJ J x=>x))))) λJ J x=>x)
 cases t with
 |false=>exact aT b9
 |true=>exact b9
theorem uX{id}{p pos}{args}{Q}
  (h:af M A (eval (.Name id p) env) (λf am=>af M A (callWith pos f [] (backTo pos (starEach args env)) []) Q E am) E s) :
  af M A (eval (.Call (.Name id p) args [] pos) env) Q E s:=by
 show af M A (do callWith pos (<- eval (.Name id p) env) [] (backTo pos (starEach args env)) (backToKw pos (keywordEach [] env))) Q E s
 exact ak h
theorem Jy{f}{x}{cZ}{Q}
  (h:af M A (spliced ((false,x)::cZ)) (λvs s'=>Q ⟨vs,[]⟩ s') E s):af M A (evalArgs f true ((false,x)::cZ) []) Q E s:=by
 unfold evalArgs
 show af M A (spliced ((false,x)::cZ) >>= _) Q E s
 refine ak (aE h (λvs s' Y=>?_) λJ J x=>x)
 refine ci ?_
 exact ak (aT (ak (aT (aT Y))))
theorem Jz{f:Value}{first:List Value}{pos:Pos}{Q:Value->Shared->Prop}{P:Heap->Prop}{args:List (Bool×Sem Value)}{keywords:List (Option Str×Sem Value)}(BA:(args.any (·.1)||keywords.any (·.1.isNone))=false)
  (hk:∀h,P h->∃k,(k=Keeper.frame\/k=Keeper.machine\/k=Keeper.boundFrame)/\Looks M h (keeperOf f) k)
  (h:af M A (evalArgs f true args keywords) (λa am=>P am.heap/\af M A (PySem.call f (first++a.pos) a.kw) Q E am) E s):af M A (callWith pos f first args keywords) Q E s:=by
 unfold callWith
 refine ak (ci (aE h (λa am a7=>ak (cB ?_)) λJ J x=>x))
 obtain⟨k,jB,L⟩:=hk _ a7.1
 rw[BA]
 refine ak (aE (gg<|L.here (A:=A) (E:=E) (Q:=λx s'=>x=k/\s'=am) ⟨rfl,rfl⟩) (λx s' e=>?_) λJ J x=>x)
 obtain⟨rfl,rfl⟩:=e
 have tail:∀{t:Sem Value},af M A t Q E s'->af M A (t >>= λr=>holding [r] point >>= λJ=>pure r) Q E s':=
  λht=>ak (aE ht (λr aX hr=>ak (ci (Bz (aT hr)))) λJ J x=>x)
 have UE (mk:Value):af M A (callMarked mk f (first++a.pos) a.kw) Q E s':=by
  unfold callMarked
  exact eM λΓ p bx hG=>by rw[Sem.wp_keep];exact a7.2.run Γ p bx hG
 rcases jB with rfl | rfl | rfl <;> dsimp only <;> first | exact tail a7.2 | (split <;> first | exact tail a7.2 | exact tail (UE _))
end
end
section
open Sem (wp)
section
variable{α:Type}{M:Model}{A:Around}{E:Value->Shared->Prop}{s:Shared}{env:Env}
theorem uY{Q}(h:Q .next s):af M A (execs [] env) Q E s:=(gg<|PySem.wpAny_execs_nil h)
theorem JA{st cZ}{Q}
  (h:af M A (exec st env) (λf s'=>match f with | .next=>af M A (execs cZ env) Q E s' | f=>Q f s') E s) :
  af M A (execs (st::cZ) env) Q E s:=eM λΓ p bx hG=>by
 rw[execs_cons,Sem.wp_bind']
 refine Sem.wp_mono M Γ _ (λf p' s' Y=>?_) (λJ J J Y=>Y) _ _ (h.run Γ p bx hG)
 cases f <;> first | exact Y.run Γ p' bx hG | exact Y
theorem BB{c}{R R'}(h:dk M A c R s)(hR:∀r s,R r s->R' r s):dk M A c R' s:=
 λΓ p hc bx hG=>wpCode_mono hR (h Γ p hc bx hG)
end
section
variable{prog:Program}{w:World}{A:Around}{E:Value->Shared->Prop}{R:Result->Shared->Prop}{s:Shared}
theorem UF{body env}
  (h:af (model prog w) (A.deeper env) (execs body env) (λf s'=>R (.ok (.ret (match f with | .ret v=>v | _=>.none))) s')
   (λe s'=>af (model prog w) (A.deeper env) (leaving env e) (λJ cG=>R (.error e) cG) (λe' cG=>R (.error e') cG) s') s) :
  dk (model prog w) A (.func body env) R s:=by
 refine kY ?_
 show af _ (A.deeper env) (do point;match<- (execs body env).onRaise (leaving env) with | .ret v=>ret v | _=>ret .none) _ _ s
 refine ak (Bz (ak (uU (aE h (λf s' Y=>?_) λJ J Y=>Y))))
 cases f <;> exact aT Y
theorem UG{a}{args}{o}{fd}{body}(BC:A.depth<recursionLimit)
  (ho:s.heap.get? a=some o)
  (gp:o.data=.func fd)(BD:fd.scope.isCoroutine=false)(BE:fd.scope.isGenerator=false)(qq:fd.body=.stmts body)(m0:s.heap.CodeRec fd.code fd.qualname)
  (h:af (model prog w) A.in1 (bindArgs fd args) (λbinds am=>
   af (model prog w) A.in1 (newFunctionEnv fd.scope fd.globals fd.closure binds (fd.qualname++".<locals>.") (some a) fd.code none fd.builtins)
    (λenv aX=>aX.heap.NoLimit/\dk (model prog w) A (.func body env) R aX) (λe s'=>R (.error e) s') am) (λe s'=>R (.error e) s') s) :
  dk (model prog w) A (.call (.ref a) args) R s:=by
 refine kY ?_
 show af _ A.in1 (callAny (.ref a) args) _ _ s
 refine ak (m:=load a) (gg<|PySem.wpAny_load ho ?_)
 obtain⟨c,oc,vs,tq,hc,UH,UI,hq⟩:=m0
 rw[gp]
 show af _ A.in1 (callFunction a fd args) _ _ s
 unfold callFunction
 rw[BD,BE,qq,hc]
 rw[hc] at h
 refine ak (m:=field (.ref c) 1) (gg<|PySem.wpAny_field UH UI hq ?_)
 refine ak (aT ?_)
 exact ak (aE h (λbinds am a7=>ak (aE a7 (λenv aX b9=>ak (gg<|PySem.wpAny_enterFrame (A:=A.in1) b9.1 BC
  (aT (And.intro rfl (And.intro rfl b9.2))))) λJ J Y=>Y)) λJ J Y=>Y)
end
end
section
open Sem (wp)
section
variable{α:Type}{M:Model}{A:Around}{E:Value->Shared->Prop}{s:Shared}{env:Env}
def ma(M:Model)(A:Around)(env:Env)(E:Value->Shared->Prop):Value->Shared->Prop:=
 λx s'=>af M A (noteFrame x env) (λJ cG=>E x cG) E s'
def uZ(M:Model)(A:Around)(env:Env)(E:Value->Shared->Prop):Value->Shared->Prop:=
 λx s'=>af M A (do
  if(<- field x 1) == .none then unsupported "frame.own-activation:exception-without-traceback"
  setFlight x env.frame) (λJ cG=>E x cG) E s'
theorem xg{m:Sem α}{Q:α->Shared->Prop}(h:af M A m Q (ma M A env E) s):af M A (m.onRaise λx=>do noteFrame x env;theTreesLotGoes x) Q E s:=
 uU (aE h (λJ J q=>q) λJ J hx=>ak (aE hx (λJ J e=>(gg<|PySem.wpAny_theTreesLotGoes e)) λJ J e=>e))
theorem JB{c}{h}{Q}
  (hc:dk M (A.mark h) c (λr s'=>match r with | .ok f=>Q f s' | .error e=>uZ M A env E e s') s)(hd:autoParam (gD c=false) rl)(By:h≠some byPass:=by intro x;cases x) :
  af M A (runOwn c env h) Q E s:=by
 unfold runOwn
 exact uU (Jt hc hd By)
theorem codeAny_loop'{c}{R}(hq:c.quiet=true)(hd:gD c=false)(au:Nat->Shared->Prop)
  (eY:∀n s,au n s->af M (A.under c) (M.den c)
   (λbc s'=>match bc with
    |.done f=>R (.ok f) s'
    |.again c'=>(c'=c/\∃m,m<n/\au m s')\/(c'.quiet=true/\gD c'=false/\dk M A c' R s')) (λe s'=>R (.error e) s') s)
  (n:Nat)(h:au n s):dk M A c R s:=by
 induction n using Nat.strongRecOn generalizing s with
 |ind n ih=>
  refine kY (aE (eY n s h) (λbc s' hf=>?_) λJ J Y=>Y)
  cases bc with
  |done f=>exact hf
  |again c'=>
   rcases hf with⟨rfl,m,hm,hI⟩ | hf
   .exact⟨hq,hd,ih m hm hI⟩
   .exact hf
theorem UJ{target iter body i9 pos}{Q}
  (h:af M A (eval iter env) (λx am=>af M A (pyIter x) (λit aX=>
   dk M A (.forLoop target it body i9 env) (λr s'=>match r with | .ok f=>Q f s' | .error e=>uZ M A env E e s') aX) E am) E s)
  (hs:autoParam (∀x,foldedSetIterable iter env x=pure x) k2) :
  af M A (exec (.For target iter body i9 pos) env) Q E s:=by
 rw[exec_For]
 exact ak (cB (ak (aE h (λx am a7=>ak (fR (hs x) (ak (cB (ak (ci
  (aE a7 (λit aX b9=>JB b9) λJ J Y=>Y))))))) λJ J Y=>Y)))
end
section
variable{prog:Program}{w:World}{A:Around}{E:Value->Shared->Prop}{s:Shared}
theorem UK{stmts:List Stmt}{env:Env}{R:Result->Shared->Prop}
  (h:af (model prog w) A (execs stmts env) (λf s'=>R (.ok f) s') (ma (model prog w) A env λe s'=>R (.error e) s') s):dk (model prog w) A (.block stmts env) R s:=by
 refine kY ?_
 show af _ _ (do return Fin.done (<- (execs stmts env).onRaise (λx=>do noteFrame x env;theTreesLotGoes x))) _ _ s
 exact ak (xg (aE h (λf s' Y=>aT Y) λJ J Y=>Y))
end
end
section
open Sem (wp)
section
variable{prog:Program}{w:World}{A:Around}{E:Value->Shared->Prop}{s:Shared}
theorem UL{R}{target it body i9 env}(au:Nat->Shared->Prop)
  (eY:∀n s,au n s->af (model prog w) A (pyNext it) (λr am=>match r with
   |none=>af (model prog w) A (execs i9 env) (λf cF=>R (.ok f) cF) (ma (model prog w) A env λe s'=>R (.error e) s') am
   |some v=>af (model prog w) A (letOwnedTupleGo target it v) (λJ BF=>
     af (model prog w) A (assign target env v) (λJ aX=>af (model prog w) A (execs body env) (λf cF=>match f with
      |.next | .cont=>∃m,m<n/\au m cF
      |.brk=>R (.ok .next) cF
      |.ret v=>R (.ok (.ret v)) cF) (ma (model prog w) A env λe s'=>R (.error e) s') aX) (ma (model prog w) A env λe s'=>R (.error e) s') BF) (ma (model prog w) A env λe s'=>R (.error e) s') am) (ma (model prog w) A env λe s'=>R (.error e) s') s)
  (n:Nat)(h:au n s):dk (model prog w) A (.forLoop target it body i9 env) R s:=by
 refine codeAny_loop' rfl rfl au (λn s hI=>?_) n h
 show af _ A ((forTurn target it body i9 env).onRaise (λx=>do noteFrame x env;theTreesLotGoes x)) _ _ s
 refine xg ?_
 unfold forTurn
 refine ak (cB (ak (uU (aE (eY n s hI) (λr am a7=>?_) λJ J Y=>cB Y))))
 cases r with
 |none=>exact aT (.inr ⟨rfl,rfl,UK a7⟩)
 |some v=>
  refine ak (aE a7 (λJ BF BG=>?_) λJ J Y=>Y)
  refine ak (aE BG (λJ aX b9=>ak (aE b9 (λf cF eL=>?_) λJ J Y=>Y)) λJ J Y=>Y)
  cases f with
  |next=>exact aT (.inl ⟨rfl,eL⟩)
  |cont=>exact aT (.inl ⟨rfl,eL⟩)
  |brk=>exact aT eL
  |ret v=>exact aT eL
end
end
section
open Sem (wp)
section
variable{α:Type}{M:Model}{A:Around}{E:Value->Shared->Prop}{s:Shared}{env:Env}
theorem BH{x}{v}{Q}(h:af M A (storeName env x v) Q E s):af M A (bindName env x v) Q E s:=
 eM λΓ p bx hG=>by rw[Sem.wp_bindName];exact h.run Γ p bx hG
theorem BI{x pos v}{Q}(h:af M A (storeName env x v) Q E s):af M A (assign (.Name x pos) env v) Q E s:=by rw[PySem.assign_Name];exact ak (cB (BH h))
theorem BJ{x kZ value pos}{Q}
  (h:af M A (eval value env) (λv am=>af M A (storeName env x v) (λJ=>Q .next) E am) E s)
  (hs:autoParam (swapsWith value (some (.Name x kZ)) pos.line env=pure false) rl) :
  af M A (exec (.Assign [.Name x kZ] value pos) env) Q E s:=eM λΓ p bx hG=>by
 simp only[exec_Assign_Name env x kZ value pos hs,Sem.wp_bind',Sem.wp_cmd_standAt,Sem.wp_bindName,Sem.wp_pure']
 exact Sem.wp_mono M Γ _ (λv J am a7=>a7.run Γ _ bx hG) (λJ J J Y=>Y) _ _ (h.run Γ _ bx hG)
theorem UM{e pos}{Q}(h:af M A (eval e env) (λv=>Q (.ret v)) E s) :
  af M A (exec (.Return (some e) pos) env) Q E s:=eM λΓ p bx hG=>by
 simp only[exec_Return_some,Sem.wp_bind',Sem.wp_cmd_standAt,Sem.wp_pure'];exact h.run Γ _ bx hG
theorem UN{e pos}{Q}(h:af M A (eval e env) (λv s'=>match v with | .ref _=>False | _=>Q .next s') E s)
  (hi:autoParam (interactive env=false) rl)(hs:autoParam (swapsWith e none pos.line env=pure false) rl):af M A (exec (.Expr e pos) env) Q E s:=by
 rw[exec_Expr env e pos hi hs]
 refine ak (cB (ak (aE h (λv s' Y=>?_) λJ J x=>x)))
 have hv:∀a,v≠.ref a:=λa UO=>by subst UO;exact Y
 rw[dropValue_plain hv]
 refine aT ?_
 cases v <;> first | exact Y | exact(hv _ rfl).elim
theorem UP{t}{ts}{x}{xs}{Q}
  (h:af M A (t x) (λJ am=>af M A (assignInOrder ts xs) Q E am) E s):af M A (assignInOrder (t::ts) (x::xs)) Q E s:=
 ak (ci h)
theorem JC{x}{pos}{Q}(hk:env.scope.kind=.function)(hx:env.kindOf x=some .globalImplicit)
  (h:af M A (loadGlobal env x) Q E s)(hd:autoParam ((x==("__debug__" : Str))=false) dc):af M A (eval (.Name x pos) env) Q E s:=by
 refine Jw ?_ hd
 unfold loadName
 rw[show env.blockKind=.function by unfold Env.blockKind;rw[hk];rfl,hk,hx]
 exact h
theorem BK{value slice pos}{Q}
  (h:af M A (eval value env) (λo am=>af M A (eval slice env) (λi aX=>af M A (subscriptTail value slice o i) Q E aX) E am) E s) :
  af M A (eval (.Subscript value slice pos) env) Q E s:=by
 rw[eval_Subscript]
 exact ak (aE h (λo am a7=>ak (ci (aE a7 (λi aX b9=>ak (cB b9)) λJ J x=>x))) λJ J x=>x)
end
end
section
open Sem (wp)
section
variable{M:Model}{A:Around}{E:Value->Shared->Prop}{s:Shared}{env:Env}
theorem UQ{f}{Q}(h:Q ⟨[],[]⟩ s):af M A (evalArgs f true [] []) Q E s:=(gg<|PySem.evalArgs_none h)
theorem JD{pos}{T}{first}{args}{Q}(BA:args.any (·.1)=false)
  (h:af M A (evalArgs (.type T) true args []) (λa am=>af M A (PySem.call (.type T) (first++a.pos) a.kw) Q E am) E s) :
  af M A (callWith pos (.type T) first args []) Q E s:=by
 unfold callWith
 refine ak (ci (aE h (λa am a7=>ak (cB ?_)) λJ J x=>x))
 rw[show(args.any (·.1)||([]:List (Option Str×Sem Value)).any (·.1.isNone))=false by rw[BA];rfl]
 refine ak (aT ?_)
 exact ak (aE a7 (λr aX hr=>ak (ci (Bz (aT hr)))) λJ J x=>x)
end
section
variable{prog:Program}{w:World}{A:Around}{E:Value->Shared->Prop}{s:Shared}{env:Env}
end
end
section
open Sem (wp)
section
variable{α:Type}{M:Model}{A:Around}{E:Value->Shared->Prop}{s:Shared}{env:Env}
def sG(M:Model)(A:Around)(E:Value->Shared->Prop)(use:Option (Value->Sem Unit))(Q:Value->Shared->Prop)(acc:Value)(C:Addr)(r:Result)(s':Shared):Prop:=
 match r,use with
 |.ok _,none=>∃m,s'.heap.Ns C m/\∀Y,Heap.SameBut C s'.heap Y->Q acc {s' with heap:=Y}
 |.ok _,some u=>af M A (u acc) (λJ cG=>∃m,cG.heap.Ns C m/\∀Y,Heap.SameBut C cG.heap Y->Q .none {cG with heap:=Y}) E s'
 |.error x,_=>∃m,s'.heap.Ns C m/\∀Y,Heap.SameBut C s'.heap Y->∀cenv:Env,cenv.locals=C->af M A (passOn "comprehension.variables-let-go" x cenv:Sem Value) (λJ J=>False) E {s' with heap:=Y}
theorem UR{c:Prop}[Decidable c]{pos:Pos}{k:PUnit->Sem α}{Q:α->Shared->Prop}(h:af M A (k ()) Q E s) :
  af M A (if c then(standAt pos >>= k) else k ()) Q E s:=by
 split
 .exact ak (cB h)
 .exact h
theorem US{e:Expr}{scope:Scope}{pos:Pos}{JE first:Sem Value}{g:Comprehension}{gs:List Comprehension}{cl:List (Str×Addr)}{use:Option (Value->Sem Unit)}
  {Q:Value->Shared->Prop}
  (sH:clausesOf e=g::gs)(hs:∀x,foldedSetIterable g.iter env x=pure x)(UT:closureFor scope env=pure cl)
  (m5:scope.kind=.function)(UV:∀x∈scope.names,x.2=.local->scope.names.lookup x.1=some .local)
  (h:af M A first (λx am=>af M A (pyIter x) (λit aX=>af M A JE (λacc cF=>
   af M A (newFunctionEnv scope env.globals cl [] env.qual none .none (some env)) (λcenv ku=>
    dk M A (.compStart e 0 it acc {cenv with scope:=relabel scope env}) (sG M A E use Q acc cenv.locals) ku) E cF) E aX) E am) E s) :
  af M A (comprehension e scope env pos JE false first use) Q E s:=by
 unfold comprehension
 rw[UT,sH]
 refine ak (aE h (λx am a7=>ak (cB (ak (fR (hs x) (ak (ci (aE a7 (λit aX b9=>
  UR (ak (aE b9 (λacc cF eL=>ak (aT (ak (aE eL (λcenv ku m6=>?_) λJ J Y=>Y)))) λJ J Y=>Y)))
   λJ J Y=>Y))))))) λJ J Y=>Y)
 dsimp only
 have hv:∀x∈(scope.names.filter λx=>(x.2 == .local||x.2 == .cell)&&x.1 != (".0" : Str)).reverse,x.2=.local->
   Env.kindOf {cenv with scope:=relabel scope env} x.1=some .local:=λx hx I=>lookup_relabel_local (UV x (mem_filter.mp (mem_reverse.mp hx)).1 I)
 have UW:∀x∈(scope.names.filter λx=>(x.2 == .local||x.2 == .cell)&&x.1 != (".0" : Str)).reverse.drop 1++(scope.names.filter λx=>(x.2 == .local||x.2 == .cell)&&x.1 != (".0" : Str)).reverse.take 1,
   x.2=.local->Env.kindOf {cenv with scope:=relabel scope env} x.1=some .local:=λx hx I=>by
  rcases cy.mp hx with h1 | h1
  .exact hv x (List.mem_of_mem_drop h1) I
  .exact hv x (List.mem_of_mem_take h1) I
 refine ci (ak (Bx (ci (Jt (BB m6 λr s' hr=>?_)))))
 cases r with
 |ok f=>
  cases use with
  |none=>
   obtain⟨m,hn,hr⟩:=hr
   exact ak (ci (gg<|wpAny_comp_letGo (cenv:={cenv with scope:=relabel scope env}) m5 _ s' m hv hn λY m' J gd=>aT (hr Y gd)))
  |some u=>
   refine ak (sx (ak (ci (aE hr (λJ cG pq=>?_) λJ J Y=>Y))))
   obtain⟨m,hn,pq⟩:=pq
   exact ak (gg<|wpAny_comp_letGo (cenv:={cenv with scope:=relabel scope env}) m5 _ cG m UW hn λY m' J gd=>aT (pq Y gd))
 |error x=>
  have pq:∃m,s'.heap.Ns cenv.locals m/\∀Y,Heap.SameBut cenv.locals s'.heap Y->∀JF:Env,JF.locals=cenv.locals->af M A (passOn "comprehension.variables-let-go" x JF:Sem Value) (λJ J=>False) E {s' with heap:=Y}:=by cases use <;> exact hr
  obtain⟨m,hn,hr⟩:=pq
  exact ak (ci (gg<|wpAny_comp_letGo (cenv:={cenv with scope:=relabel scope env}) m5 _ s' m hv hn λY m' J gd=>aE (hr Y gd _ rfl) (λJ J f=>f.elim) λJ J y=>y))
end
end
section
open Sem (wp)
section
variable{α:Type}{M:Model}{A:Around}{E:Value->Shared->Prop}{s:Shared}{env:Env}
theorem xh{vs keep}{Q}(h:Q () s):af M A (release vs keep) Q E s:=eM λΓ p J J=>by rw[Sem.wp_release];exact h
theorem UY{l k0 k8 ops cV cQ rs pos}{Q}
  (h:af M A (eval l env) (λa am=>af M A (compareChain pos a (k0::k8::ops) (eval cV env::eval cQ env::evalEach rs env)) Q E am) E s)
  (hm:autoParam (lastMarks (k0::k8::ops) (cV::cQ::rs)=false) wu) :
  af M A (eval (.Compare l (k0::k8::ops) (cV::cQ::rs) pos) env) Q E s:=by
 show af M A (eval l env >>= λa=>compareChain pos a (k0::k8::ops) (markedEach (k0::k8::ops) (cV::cQ::rs) (evalEach (cV::cQ::rs) env))) Q E s
 rw[markedEach_of_false _ _ _ hm]
 exact ak h
theorem UZ{l k0 k8 ops cV cQ rs pos ja}{Q}
  (h:af M A (eval l env) (λa am=>af M A (testChain pos a (k0::k8::ops) (eval cV env::eval cQ env::evalEach rs env)) Q E am) E s)
  (hm:autoParam (lastMarks (k0::k8::ops) (cV::cQ::rs)=false) wu) :
  af M A (isTrue (.Compare l (k0::k8::ops) (cV::cQ::rs) pos) env ja) Q E s:=by
 show af M A (eval l env >>= λa=>testChain pos a (k0::k8::ops) (markedEach (k0::k8::ops) (cV::cQ::rs) (evalEach (cV::cQ::rs) env))) Q E s
 rw[markedEach_of_false _ _ _ hm]
 exact ak h
theorem U0{pos}{a}{op ge}{ops}{r r'}{rs}{Q}
  (h:af M A r (λb am=>af M A (compareOp op a b) (λc aX=>af M A (truthy c)
   (λt cF=>if t then af M A (compareChain pos b (ge::ops) (r'::rs)) Q E cF else Q c cF) E aX) E am) E s) :
  af M A (compareChain pos a (op::ge::ops) (r::r'::rs)) Q E s:=by
 show af M A (holding [a] r >>= λrv=>standAt pos >>= λJ=>holding [a,rv] (compareOp op a rv) >>= λc=>release [a,rv] [c] >>= λJ=>
  holding [c,rv] (truthy c) >>= λt=>if t then compareChain pos rv (ge::ops) (r'::rs) else pure c) Q E s
 refine ak (ci (aE h (λb am a7=>ak (cB (ak (ci (aE a7 (λc aX b9=>
  ak (xh (ak (ci (aE b9 (λt cF eL=>?_) λJ J x=>x))))) λJ J x=>x))))) λJ J x=>x))
 cases t with
 |false=>exact aT eL
 |true=>exact eL
theorem U1{pos}{a}{op}{r}{Q}
  (h:af M A r (λb am=>af M A (compareOp op a b) Q E am) E s):af M A (compareChain pos a [op] [r]) Q E s:=by
 show af M A (holding [a] r >>= λrv=>standAt pos >>= λJ=>operate [a,rv] (compareOp op a rv)) Q E s
 exact ak (ci (aE h (λb am a7=>ak (cB (xf a7))) λJ J x=>x))
theorem U2{pos}{a}{op ge}{ops}{r r'}{rs}{Q}
  (h:af M A r (λb am=>af M A (compareOp op a b) (λc aX=>af M A (truthy c)
   (λt cF=>if t then af M A (testChain pos b (ge::ops) (r'::rs)) Q E cF else Q false cF) E aX) E am) E s) :
  af M A (testChain pos a (op::ge::ops) (r::r'::rs)) Q E s:=by
 show af M A (holding [a] r >>= λrv=>standAt pos >>= λJ=>holding [a,rv] (compareOp op a rv) >>= λc=>release [a,rv] [c] >>= λJ=>
  holding [c,rv] (truthy c) >>= λt=>if t then testChain pos rv (ge::ops) (r'::rs) else pure false) Q E s
 refine ak (ci (aE h (λb am a7=>ak (cB (ak (ci (aE a7 (λc aX b9=>
  ak (xh (ak (ci (aE b9 (λt cF eL=>?_) λJ J x=>x))))) λJ J x=>x))))) λJ J x=>x))
 cases t with
 |false=>exact aT eL
 |true=>exact eL
theorem U3{pos}{a}{op}{r}{Q}
  (h:af M A r (λb am=>af M A (compareOp op a b) (λc aX=>af M A (truthy c) Q E aX) E am) E s):af M A (testChain pos a [op] [r]) Q E s:=by
 show af M A (holding [a] r >>= λrv=>standAt pos >>= λJ=>operate [a,rv] (compareOp op a rv) >>= λc=>holding [c] (truthy c)) Q E s
 exact ak (ci (aE h (λb am a7=>ak (cB (ak (xf (aE a7 (λc aX b9=>ci b9) λJ J x=>x))))) λJ J x=>x))
theorem U4{dU k m7 value pos}{Q}
  (h:af M A (eval value env) (λv am=>af M A (assign (.Tuple dU k m7) env v) (λJ=>Q .next) E am) E s)
  (hs:autoParam (swapsWithSole [.Tuple dU k m7] value pos.line env=pure false) rl)
  (hw:autoParam (swappedStores [.Tuple dU k m7] value env=pure none) rl) :
  af M A (exec (.Assign [.Tuple dU k m7] value pos) env) Q E s:=by
 rw[exec_Assign]
 refine ak (cB (ak (fR hs ?_)))
 rw[aY (by decide)]
 refine ak (aE h (λv am a7=>ak (fR hw ?_)) λJ J x=>x)
 show af M A (assignAll v [assign (.Tuple dU k m7) env] >>= λJ=>pure .next) Q E am
 exact ak (aE a7 (λJ J x=>aT x) λJ J x=>x)
theorem U5{dU k m7 value pos}{names}{Q}
  (h:af M A (eval value env) (λv am=>af M A (unpackItems v names.length none) (λitems aX=>
   af M A (assignInOrder (names.reverse.map λn=>bindName env n) items.reverse) (λJ=>Q .next) E aX) E am) E s)
  (hs:autoParam (swapsWithSole [.Tuple dU k m7] value pos.line env=pure false) rl)
  (hw:autoParam (swappedStores [.Tuple dU k m7] value env=pure (some names)) rl) :
  af M A (exec (.Assign [.Tuple dU k m7] value pos) env) Q E s:=by
 rw[exec_Assign]
 refine ak (cB (ak (fR hs ?_)))
 rw[aY (by decide)]
 refine ak (aE h (λv am a7=>ak (fR hw ?_)) λJ J x=>x)
 show af M A (rule "assign.swapped-stores" >>= λJ=>unpackItems v names.length none >>= λitems=>assignInOrder (names.reverse.map λn=>bindName env n) items.reverse >>= λJ=>pure .next) Q E am
 exact ak (sx (ak (aE a7 (λitems aX b9=>ak (aE b9 (λJ J x=>aT x) λJ J x=>x)) λJ J x=>x)))
theorem JG{JH JI step}{p}{Q}
  (h:af M A (evalPart JH env) (λl am=>af M A (evalPart JI env) (λu aX=>af M A (evalPart step env) (λst cF=>
   Q (.ref cF.heap.objs.size) {cF with heap:=cF.heap.push {cls:=.type "slice",data:=.fields #[l,u,st]}}) E aX) E am) E s) :
  af M A (eval (.Slice JH JI step p) env) Q E s:=by
 rw[arm_eval_Slice]
 exact ak (aE h (λl am a7=>ak (ci (aE a7 (λu aX b9=>ak (ci (aE b9 (λst cF eL=>gg<|PySem.wpAny_newObj_type eL) λJ J x=>x))) λJ J x=>x))) λJ J x=>x)
end
section
variable{prog:Program}{w:World}{A:Around}{E:Value->Shared->Prop}{R:Result->Shared->Prop}{s:Shared}
theorem U6{env}{Q}(h:Q true s) :
  af (model prog w) A (forIn ([]:List Expr) true λc r=>if r=true then do let ok <- isTrue c env (eval c env);pure (ForInStep.yield ok) else pure (ForInStep.yield r)) Q E s:=
 aT h
theorem U7{env}{c}{Q}(h:af (model prog w) A (isTrue c env (eval c env)) Q E s) :
  af (model prog w) A (forIn [c] true λc r=>if r=true then do let ok <- isTrue c env (eval c env);pure (ForInStep.yield ok) else pure (ForInStep.yield r)) Q E s:=by
 rw[List.forIn_cons,ax (rfl:true=true)]
 exact ak (ak (aE h (λb s' hb=>aT (aT hb)) λJ J x=>x))
theorem U8{α:Type}{M:Model}{env:Env}{m:Sem α}{pos:Pos}{Q:α->Shared->Prop}(h:af M A m Q (ma M A env E) s) :
  af M A (m.onRaise λx=>do noteFrame x env;standAt pos) Q E s:=
 uU (aE h (λJ J q=>q) λJ J hx=>ak (aE hx (λJ J e=>cB e) λJ J e=>e))
theorem U9{cw target iter ifs cZ scope pos it acc env}
  (h0:dk (model prog w) A (.compLoop (.ListComp cw (⟨target,iter,ifs,0⟩::cZ) scope pos) 0 it acc env) R s)
  (h:af (model prog w) A (pyIter it) (λJJ s'=>dk (model prog w) A (.compLoop (.ListComp cw (⟨target,iter,ifs,0⟩::cZ) scope pos) 0 JJ acc env) R s')
   (ma (model prog w) A env λx s'=>R (.error x) s') s) :
  dk (model prog w) A (.compStart (.ListComp cw (⟨target,iter,ifs,0⟩::cZ) scope pos) 0 it acc env) R s:=by
 refine kY ?_
 show af _ _ ((compStart (.ListComp cw (⟨target,iter,ifs,0⟩::cZ) scope pos) 0 it acc env).onRaise (λx=>do noteFrame x env;standAt theWindowsPlace)) _ _ s
 refine U8 ?_
 unfold compStart
 show af _ _ (ask >>= _) _ _ s
 refine ak (gg<|PySem.wpAny_askSetting ?_)
 show af _ _ (ite _ _ _) _ _ s
 split
 .first
   |exact ak (aT (aT ⟨rfl,rfl,h0⟩))
   |exact aT ⟨rfl,rfl,h0⟩
 .exact ak (sx (ak (cB (ak (aE h (λJJ s' Y=>aT ⟨rfl,rfl,Y⟩) λJ J x=>x)))))
end
theorem BL{o}{name}{apos pos}{args}{env}(hb:attributeBase o name env (eval o env)=eval o env)(hf:methodCallForm args.length (backTo pos (starEach args env)) []=true)(I:(apos.endLine==pos.line)=true) :
  eval (.Call (.Attribute o name apos) args [] pos) env=(eval o env >>= λov=>standAt apos.atName >>= λJ=>holding [ov] (getMethod ov name (do return(<- importBound o env).getD true)) >>= λr=>callWith pos r.1 r.2 (backTo pos (starEach args env)) []):=by
 rw[arm_eval_Call,hb]
 have Va:backToKw pos (keywordEach [] env)=[]:=rfl
 have iB:args.length+([]:List Keyword).length=args.length:=rfl
 have Vb:methodCallPos true o env apos pos=pure pos:=by unfold methodCallPos;simp[I]
 delta methodCall calleeOf
 simp only[Va,iB,hf,Vb,if_true,pure_bind]
end
section
set_option maxHeartbeats 0
theorem Vc:Gd (⟨.builtin "claim.caller" {},none,none,[],none⟩:Ctx):=⟨by decide,λJ h=>nomatch h⟩
theorem Vd{prog:Program}{w:World}{t:Sem Fin}{s:Shared}{R:Result->Shared->Prop}(Ve:s.asleep)
  (h:af (model prog w) callerA t (λbc s'=>∃f,bc=.done f/\(R (.ok f) s'/\leftWithCleanup s'.gens=false)) (λe s'=>R (.error e) s'/\leftWithCleanup s'.gens=false) s) :
  ∃n r s' cG,runN (denote table) prog w n s ⟨t,.builtin "claim.caller" {},default,[]⟩=.halted (outcomeOf r) s'/\
   schedN (denote table) prog w n (.single s ⟨t,.builtin "claim.caller" {},default,[]⟩)=.halted (outcomeOf r) s'/\s'.forget=cG.forget/\R r cG:=by
 have h0:=h.run _ default caller_in Vc
 obtain⟨n,r,am,aX,hs,hn,BM,hR⟩:=wp_halts_full (M:=model prog w) (R:=R) (c:=.builtin "claim.caller" {}) (p:=default) Ve (Sem.wp_mono _ _ t (λbc p' s' Y=>by
  obtain⟨f,rfl,hf⟩:=Y
  exact hf) (λJ J J Y=>Y) _ s h0)
 exact⟨n,r,aX,am,hn,hs,BM,hR⟩
theorem Vf{r:Result}{A A':Value->Prop}{B B':Addr->agR->ExcName->Prop}(h:(∃v,r=.ok (.ret v)/\A v)\/(∃e ob cls,r=.error (.ref e)/\B e ob cls))(f:∀v,A v->A' v)(g:∀e ob cls,B e ob cls->B' e ob cls) :
  (∃v,outcomeOf r=.done (.ret v)/\A' v)\/(∃e ob cls,outcomeOf r=.uncaught (.ref e)/\B' e ob cls):=by
 rcases h with⟨v,rfl,h⟩ | ⟨e,ob,cls,rfl,h⟩
 .exact .inl ⟨v,rfl,f v h⟩
 .exact .inr ⟨e,ob,cls,rfl,g e ob cls h⟩
theorem Vg{c:ClaimW}{BO:List Value->Sem Fin}{w:World}{s:Shared}{free:Addr->Prop}{gens:Prop}{u0:Heap->Prop}(hz:s.asleep)(sI:s.gens=#[])
  (Vh:∀args,c.pre args=true->WData.layableAll args=true->
   ∀ord:List DictEntry->List DictEntry,(∀l,(ord l).Perm l)->
   ∃vs am,layAllW c.records (classAt s.heap) w.params ord args s=some (vs,am)/\
    af (model c.prog w) callerA (BO vs) (λbc s'=>∃f,bc=.done f/\(c.Ends s args vs am (.ok f) s'/\s'.os=s.os/\AllBare s'.gens/\u0 s'.heap))
     (λe s'=>c.Ends s args vs am (.error e) s'/\s'.os=s.os/\AllBare s'.gens/\u0 s'.heap) am) :
  c.CallFrom (λvs=>⟨BO vs,.builtin "claim.caller" {},default,[]⟩) w free gens u0 s:=by
 intro args sJ sK ord xi
 refine Classical.byContradiction λNG=>?_
 obtain⟨vs,am,pu,Vi⟩:=Vh args sJ sK ord xi
 have dK:=layAllW_rest _ _ _ pu
 obtain⟨k,r,s',cG,Vj,Vk,BM,BP,mc,md⟩:=Vd (prog:=c.prog) (w:=w) (t:=BO vs) (s:=am)
  (R:=λr s'=>c.Ends s args vs am r s'/\s'.os=s.os/\u0 s'.heap)
  (Shared.asleep_of_life dK.2.2.2 hz)
  (aE Vi (by
   rintro bc s' ⟨f,e,h1,h2,h3,h4⟩
   exact⟨f,e,⟨h1,h2,h4⟩,leftWithCleanup_false_of_bare h3⟩) (by
   rintro e s' ⟨h1,h2,h3,h4⟩
   exact⟨⟨h1,h2,h4⟩,leftWithCleanup_false_of_bare h3⟩))
 obtain⟨eh,_,_,eo,_⟩:=Shared.forget_eq BM
 have BP:=BP.congr eh
 have md:u0 s'.heap:=by rw[eh];exact md
 rw[<- eo] at mc
 have Vm:s'.heap.life=s.heap.life:=(runN_life _ _ _ Vj).trans dK.2.2.2
 refine NG ⟨vs,am,pu,k,_,s',Vk,?_,(λJ i x hx=>by rw[sI] at hx;simp at hx),md,by rw[Vm],Shared.rest_eq mc⟩
 exact Vf BP (λJ h=>⟨h.1,h.2.1,h.2.2.1,λb o y J=>h.2.2.2.1 b o y,h.2.2.2.2⟩) (λJ J J h=>⟨h.1,h.2.1,h.2.2.1,h.2.2.2.1,λb o y J=>h.2.2.2.2 b o y⟩)
abbrev BQ:Prop:=∀(w:World)(s:Shared)(mg mb:Str->Option Value)(l:Addr)(vs:List Value)(ns:List Int),
 (KF w.params).In s.heap->TopRead Q (looseW Q jV) mg mb s.heap->s.gens=#[]->s.heap.IsList l vs.toArray->IntsAre vs ns->ns.length<=63->
 af (model PW w) callerA (PySem.call (.ref 513) [.ref l]) (λv s'=>v=.bool true/\(∀b o,s.heap.get? b=some o->s'.heap.get? b=some o)/\s'.os=s.os/\s'.gens=#[]) (λJ J=>False) s
abbrev rM:RowW:=PySem.Challenge.rw_tk0068_01.row.toRowW
set_option tactic.hygienic true in
theorem Vn(walk:BQ):∀w m8 am (mg mb:Str->Option Value),Ground Q jV rM.records (λJ J=>True) w m8 mg mb am.heap->(KF w.params).In am.heap->am.gens=#[]->
  ∀(args:List WData)(vals:List Value)(as:List Addr),rM.claim.pre args=true->WData.layableAll args=true->ReadsAllW rM.records (classAt m8.heap) am.heap vals args as->WellAll w.params am.heap vals args->(∀a∈as,(a==sysModules)=false)->
   af (model rM.prog w) callerA (PySem.call (.ref 513) vals) (λv s'=>GoodWG rM.claim (classAt m8.heap) (ExcName.means m8.heap) args am (.ok (.ret v)) s')
    (λe s'=>GoodWG rM.claim (classAt m8.heap) (ExcName.means m8.heap) args am (.error e) s') am:=by
 intro w m8 am mg mb G y hg args vals as sJ sK BR Vo sM
 have T:=topRead_of G.T
 wrow_args sJ sK BR Vo sM
 rename_i ns _ _ _ _ _ _ _ l vs _ hL _ _ _ hI _ iB _
 have W:=walk w am mg mb l vs ns y T hg hL hI (by omega)
 have e:(model rM.prog w)=model PW w:=by
  show model PySem.Challenge.pw_tk0068_01 w=_
  rw[Br]
 rw[e]
 refine aE W (λv s' h=>?_) (λJ J h=>h.elim)
 obtain⟨rfl,hk,mc,Vp⟩:=h
 exact⟨.inl ⟨_,_,[],rfl,λJ=>rfl,ReadsW.bool true,postW_of rfl (w_eq_bool (w_res rfl) w_lit) rfl,λJ=>⟨List.nodup_nil,λJ hm=>(nomatch hm)⟩⟩,OldK.of_keep hk,mc,AllBare.of_eq Vp⟩
end
section
set_option maxHeartbeats 0
theorem Vq{M:Model}{A:Around}{E:Value->Shared->Prop}{s:Shared}{m:Str->Option Value}{L:Addr}{x:Str}{β:Type}{f:Option Value->Sem β}{Q:β->Shared->Prop}(hg:s.heap.Ns L m)
  (h:af M A (f (m x)) Q E s):af M A (nsGet L x >>= f) Q E s:=ak (gg (wpAny_nsGet hg h))
theorem Vr(walk:BQ):PySem.Challenge.rw_tk0068_01.Holds:=by
 refine TV λVs=>?_
 have left:=Ue
 have en:PySem.Challenge.rw_tk0068_01.row.name=Str.ofString "law":=by kernel_rfl!
 have hp:rM.prog.theDef (Str.ofString "law")=some (qo.params,qo.body,qo.scope):=by
  show PySem.Challenge.pw_tk0068_01.theDef (Str.ofString "law")=_
  rw[Br];exact Uc
 have hw:rM.promised:=by w_witness2
 have Vt:∀s:Shared,(λJ=>true) s=true->RecFacts rM.records s.heap:=λs J=>recFacts_nil rfl
 have JK:(!PySem.Challenge.rw_tk0068_01.row.writes||rM.records.isEmpty)=true:=by rfl
 have ok:=Uf
 have hb:rM.prog.bare:=⟨rfl,rfl,rfl,rfl,rfl,by decide +kernel⟩
 have hY:∀(w:World)(s:Shared),KA.map s.heap.get?=YF w->(KF w.params).In s.heap:=λw s e=>Frag.in_of (K:=KF w.params) (as:=KA) (by kernel_rfl!) e
 refine⟨Vs,hw,?_⟩
 obtain⟨ok,k5⟩:=and_eq_true_iff.mp ok
 obtain⟨JL,o1⟩:=and_eq_true_iff.mp ok
 obtain⟨k5,k6⟩:=and_eq_true_iff.mp k5
 obtain⟨u3,hu,ha,Vu,hm⟩:=frees_parts k5
 refine⟨⟨hb,o1,by rfl⟩,hw.witness,λw=>⟨(left.behind (XP:=λJ J=>True) (λJ J=>trivial) JL w).1,λs' gd=>?_⟩⟩
 obtain⟨m8,hf,Vv,s,hT,hz,sI,hg,ky,y⟩:=(left.behind (XP:=λmg h=>True/\RecFacts rM.records h) (λs hs=>⟨trivial,Vt s hs⟩) JL w).2 s' gd
 have G0:Ground Q jV [] (λJ J=>True) w s (s.heap.nsMap mainGlobals) (s.heap.nsMap builtinsNs) s.heap:=⟨ky.T,ky.B,ky.D,ky.TE,ky.TD,ky.W,trivial,ky.cls,ky.has,ky.apart,ky.once,ky.K⟩
 have RF:=ky.X.2
 have JM:=hT
 refine⟨m8,hf,Vv,s,hT,λn hn=>?_,RF.1,RF.2.1,?_⟩
 .obtain rfl:n=PySem.Challenge.rw_tk0068_01.row.name:=by
   split at hn
   .simpa using hn
   .simp at hn
  rw[en]
  exact pinned_of_view hg G0 Ub hp (by kernel_rfl!)
 have sI:s.gens=#[]:=Array.eq_empty_of_size_eq_zero (beq_iff_eq.mp sI)
 have G:Ground Q jV rM.records (λJ J=>True) w s _ _ s.heap:=RF.ground G0
 refine Vg (c:=rM.claim) hz sI λargs sJ sK ord xi=>?_
 obtain⟨⟨vs,am⟩,pu⟩:=isSome_iff_exists.mp (layAllW_isSome (P:=w.params) (ord:=ord) G.has args rM.args s (pre_splitW sJ).1)
 have keeps:=layAllW_keeps _ _ _ pu
 have dK:=layAllW_rest _ _ _ pu
 obtain⟨as,BR,me,Vw⟩:=reads_layAllW xi _ _ _ pu sK am.heap (λJ J e=>e)
 have L:Laid rM.records w s am args vs as:=⟨⟨ord,xi,pu⟩,BR,me,Vw,keeps,dK.1.trans sI,dK.2.2.1⟩
 have BS:=G.keeps (λJ J J J J=>trivial) keeps
 have aa:=(hY w s y).keeps keeps
 have h:=Vn walk w s am _ _ BS aa L.gens args vs as sJ sK L.reads L.well (L.low G.low)
 have hi:=ident_freeW hu ha Vu
 have JN:rM.claim.within=[]:=List.isEmpty_iff.mp k6
 refine⟨vs,am,pu,Vq BS.T.g ?_⟩
 rw[en,Ud aa BS.T.g]
 refine ak (aE h (λv s' g=>aT ⟨_,rfl,?_⟩) λe s' g=>?_)
 .have z:=g.laid (c:=rM.claim) u3 JN hi L
  exact⟨z.1,z.2.1,z.2.2,λq=>⟨namesKept_of JM hg _ keeps g.2.1.old,noTable JK q⟩⟩
 .have z:=g.laid (c:=rM.claim) u3 JN hi L
  exact⟨z.1,z.2.1,z.2.2,λq=>⟨namesKept_of JM hg _ keeps g.2.1.old,noTable JK q⟩⟩
end
set_option backward.match.sparseCases false
inductive D where
 |none
 |bool (b:Bool)
 |int (i:Int)
 |str (x:Str)
 |bytes (b:List UInt8)
 |tup (V:List D)
 |lst (V:List D)
 |arr (V:List D)
 |obj (C:Addr) (fs:List (Str×D))
 |ab (i:Nat)
 |ext (v:Value)
set_option genCtorIdx true in
inductive M where
 |list (V:List D)
 |a8 (b:List UInt8)
 |dict (bj:List (Str×Int))
 |inst (C:Addr) (fs:List (Str×D))
 |gone
def M.live:M->Prop
 |.gone=>False
 |_=>True
structure Sx where
 ρ:List (Addr×Addr)
 st:List M
 s:Shared
def jb(st:List M)(i:Nat):Prop:=∃m,st[i]?=some m/\m.live
def iC(ρ:List (Addr×Addr))(st:List M)(a:Addr):Prop:=∃i p,ρ[i]?=some p/\jb st i/\(a=p.1\/a=p.2)
def UU(ρ:List (Addr×Addr))(st:List M)(ex:List Addr)(a:Addr):Prop:=iC ρ st a\/a∈ex
inductive PL(h:Heap)(a:Addr)(vs:Array Value):Prop
 |mk (o:Obj) (e:h.get? a=some o) (c:o.cls=.type "list") (f:o.dict=none) (n:Nat) (d:o.data=.seq vs n):PL h a vs
theorem PL.isList{h}{a}{vs}(x:PL h a vs):h.IsList a vs:=by obtain⟨o,e,c,_,n,d⟩:=x;exact⟨o,e,c,n,d⟩
theorem PL.JO{h}{a}{vs}(x:PL h a vs):PlainL h a vs:=by obtain⟨o,e,c,f,n,d⟩:=x;exact⟨o,n,e,c,f,d⟩
theorem PL.of{h}{a}{vs}(x:PlainL h a vs):PL h a vs:=by obtain⟨o,n,e,c,f,d⟩:=x;exact⟨o,e,c,f,n,d⟩
inductive u4:List DictEntry->List (Str×D)->Prop where
 |nil:u4 [] []
 |cons {hh:Int} {k:Str} {t:Tok} {v:Value} {d:D} {Z:List DictEntry} {fs:List (Str×D)}:u4 Z fs->u4 (⟨hh,.str k t,v⟩::Z) ((k,d)::fs)
inductive Sh(U:Addr->Prop)(h:Heap)(a:Addr):D->List Value->List D->Prop where
 |tup {vs:Array Value} {V:List D} (e:h.IsTuple a vs):Sh U h a (.tup V) vs.toList V
 |lst {vs:Array Value} {V:List D} (e:PL h a vs):Sh U h a (.lst V) vs.toList V
 |arr {vs:Array Value} {V:List D} (e:h.IsList a vs):Sh U h a (.arr V) vs.toList V
 |obj {dx C:Addr} {Z:Array DictEntry} {n:Nat} {fs:List (Str×D)} (e:h.get? a=some (instObj C dx)) (e2:h.get? dx=some {cls:=.type "dict",data:=.dict Z n}) (u:¬U dx) (k:u4 Z.toList fs):Sh U h a (.obj C fs) (Z.toList.map (·.val)) (fs.map (·.2))
inductive Rd(ρ:List (Addr×Addr))(U:Addr->Prop)(h:Heap):Value->D->Prop where
 |none:Rd ρ U h .none .none
 |bool (b:Bool):Rd ρ U h (.bool b) (.bool b)
 |int (i:Int) (t:Tok):Rd ρ U h (.int i t) (.int i)
 |str (x:Str) (t:Tok):Rd ρ U h (.str x t) (.str x)
 |bytes (b:Array UInt8) (t:Tok):Rd ρ U h (.bytes b t) (.bytes b.toList)
 |ref {a:Addr} {d:D} {vs:List Value} {V:List D} (x:Sh U h a d vs V) (u:¬U a) (l:vs.length=V.length) (r:∀(i:Nat) v y,vs[i]?=some v->V[i]?=some y->Rd ρ U h v y):Rd ρ U h (.ref a) d
 |ab {i:Nat} {p:Addr×Addr} (e:ρ[i]?=some p):Rd ρ U h (.ref p.1) (.ab i)
 |ext (v:Value):Rd ρ U h v (.ext v)
structure bv(ρ:List (Addr×Addr))(U:Addr->Prop)(h:Heap)(vs:List Value)(V:List D):Prop where
 length:vs.length=V.length
 pt:∀(i:Nat) v y,vs[i]?=some v->V[i]?=some y->Rd ρ U h v y
structure dN(ρ:List (Addr×Addr))(U:Addr->Prop)(h:Heap)(Z:List DictEntry)(fs:List (Str×D)):Prop where
 keys:u4 Z fs
 vals:bv ρ U h (Z.map (·.val)) (fs.map (·.2))
section
variable{ρ k9:List (Addr×Addr)}{U U':Addr->Prop}{h Y:Heap}{vs jc:List Value}{V u5:List D}{Z:List DictEntry}{fs:List (Str×D)}
theorem bv.nil:bv ρ U h [] []:=⟨rfl,λJ J J e J=>nomatch e⟩
theorem bv.cons{v}{d}(a:Rd ρ U h v d)(b:bv ρ U h vs V):bv ρ U h (v::vs) (d::V):=
 ⟨aw Nat.succ b.length,λi=>i.casesOn (λv y e e'=>Option.some.inj e▸Option.some.inj e'▸a) b.pt⟩
theorem bv.tail{v}{d}(r:bv ρ U h (v::vs) (d::V)):bv ρ U h vs V:=⟨Nat.succ.inj r.length,λi=>r.pt (i+1)⟩
inductive JP(ρ:List (Addr×Addr))(U:Addr->Prop)(h:Heap)(vs:List Value)(d:D)(V:List D):Prop
 |mk (v:Value) (jc:List Value) (e:vs=v::jc) (a:Rd ρ U h v d) (b:bv ρ U h jc V):JP ρ U h vs d V
theorem bv.inv{d}(r:bv ρ U h vs (d::V)):JP ρ U h vs d V:=by
 induction vs with
 |nil=>exact nomatch r.length
 |cons v vs=>exact⟨v,vs,rfl,r.pt 0 v d rfl rfl,r.tail⟩
theorem bv.jd(r:bv ρ U h vs []):vs=[]:=length_eq_zero_iff.mp r.length
theorem bv.get(r:bv ρ U h vs V){i:Nat}{d:D}(e:V[i]?=some d):∃v,vs[i]?=some v/\Rd ρ U h v d:=
 have l:i<vs.length:=r.length▸(bH.mp e).1
 ⟨vs[i],c8 l,r.pt i _ _ (c8 l) e⟩
theorem bv.append(r:bv ρ U h vs V)(r':bv ρ U h jc u5):bv ρ U h (vs++jc) (V++u5):=by
 induction vs generalizing V with
 |nil=>rw[length_eq_zero_iff.mp r.length.symm];exact r'
 |cons v vs ih=>induction V with
  |nil=>exact nomatch r.length
  |cons d V=>exact .cons (r.pt 0 v d rfl rfl) (ih r.tail)
theorem dN.nil:dN ρ U h [] []:=⟨.nil,.nil⟩
theorem dN.cons{hh}{k}{t}{v}{d}(a:Rd ρ U h v d)(b:dN ρ U h Z fs):dN ρ U h (⟨hh,.str k t,v⟩::Z) ((k,d)::fs):=⟨.cons b.keys,.cons a b.vals⟩
theorem Rd.mk{a}{d}(x:Sh U h a d vs V)(u:¬U a)(r:bv ρ U h vs V):Rd ρ U h (.ref a) d:=.ref x u r.length r.pt
theorem Rd.tup{a}{vs}(e:h.IsTuple a vs)(u:¬U a)(r:bv ρ U h vs.toList V):Rd ρ U h (.ref a) (.tup V):=.mk (.tup e) u r
theorem Rd.lst{a}{vs}(e:PL h a vs)(u:¬U a)(r:bv ρ U h vs.toList V):Rd ρ U h (.ref a) (.lst V):=.mk (.lst e) u r
theorem Rd.obj {a dx C} {Z} {n} (e:h.get? a=some (instObj C dx)) (u:¬U a) (e2:h.get? dx=some {cls:=.type "dict",data:=.dict Z n}) (u2:¬U dx) (r:dN ρ U h Z.toList fs):Rd ρ U h (.ref a) (.obj C fs):=.mk (.obj e e2 u2 r.keys) u r.vals
inductive qr(ρ:List (Addr×Addr))(U:Addr->Prop)(h:Heap)(F:Addr->Array Value->Prop)(v:Value)(V:List D):Prop
 |mk (a:Addr) (vs:Array Value) (e:v=.ref a) (x:F a vs) (u:¬U a) (r:bv ρ U h vs.toList V):qr ρ U h F v V
inductive BU(ρ:List (Addr×Addr))(U:Addr->Prop)(h:Heap)(v:Value)(C:Addr)(fs:List (Str×D)):Prop
 |mk (a dx:Addr) (Z:Array DictEntry) (n:Nat) (e:v=.ref a) (x:h.get? a=some (instObj C dx)) (u:¬U a) (e2:h.get? dx=some {cls:=.type "dict",data:=.dict Z n}) (u2:¬U dx) (r:dN ρ U h Z.toList fs):BU ρ U h v C fs
def JQ(ρ:List (Addr×Addr))(U:Addr->Prop)(h:Heap)(v:Value):D->Prop
 |.none=>v=.none
 |.bool b=>v=.bool b
 |.int i=>∃t,v=.int i t
 |.str x=>∃t,v=.str x t
 |.bytes l=>∃b t,v=.bytes b t/\l=b.toList
 |.tup V=>qr ρ U h h.IsTuple v V
 |.lst V=>qr ρ U h (PL h) v V
 |.arr V=>qr ρ U h h.IsList v V
 |.obj C fs=>BU ρ U h v C fs
 |.ab i=>∃p,ρ[i]?=some p/\v=.ref p.1
 |.ext w=>v=w
theorem Sh.inv{a}{d}(x:Sh U h a d vs V)(u:¬U a)(r:bv ρ U h vs V):JQ ρ U h (.ref a) d:=by
 induction x with
 |tup e | lst e | arr e=>exact⟨_,_,rfl,e,u,r⟩
 |obj e e2 u2 k=>exact⟨_,_,_,_,rfl,e,u,e2,u2,k,r⟩
theorem Rd.inv{v}{d}(r:Rd ρ U h v d):JQ ρ U h v d:=by
 induction r with
 |none | bool | ext=>exact rfl
 |int _ t | str _ t=>exact⟨t,rfl⟩
 |bytes b t=>exact⟨b,t,rfl,rfl⟩
 |ab e=>exact⟨_,e,rfl⟩
 |ref x u l r=>exact x.inv u ⟨l,r⟩
theorem Rd.mf{v}{b}(r:Rd ρ U h v (.bool b)):v=.bool b:=r.inv
theorem Rd.dv{v}{i}(r:Rd ρ U h v (.int i)):∃t,v=.int i t:=r.inv
theorem Rd.fS{v}{x}(r:Rd ρ U h v (.str x)):∃t,v=.str x t:=r.inv
theorem Rd.fm{v}{l}(r:Rd ρ U h v (.bytes l)):∃b t,v=.bytes b t/\l=b.toList:=r.inv
theorem Rd.mh{v}(r:Rd ρ U h v (.tup V)):qr ρ U h h.IsTuple v V:=r.inv
theorem Rd.dO{v}(r:Rd ρ U h v (.lst V)):qr ρ U h (PL h) v V:=r.inv
theorem Rd.BV{v}(r:Rd ρ U h v (.arr V)):qr ρ U h h.IsList v V:=r.inv
theorem Rd.Vx{v}{C}(r:Rd ρ U h v (.obj C fs)):BU ρ U h v C fs:=r.inv
theorem Rd.qs{v}{i}(r:Rd ρ U h v (.ab i)):∃p,ρ[i]?=some p/\v=.ref p.1:=r.inv
structure m9(U U':Addr->Prop)(h Y:Heap):Prop where
 keep:∀a o,h.get? a=some o->(∀vs,o.data≠.fields vs)->¬U a->Y.get? a=some o/\¬U' a
theorem Sh.stays(S:m9 U U' h Y){a}{d}(x:Sh U h a d vs V)(u:¬U a):Sh U' Y a d vs V/\¬U' a:=by
 have go:=λ(o:Obj)(vs:Array Value)(n:Nat) e (q:o.data=.seq vs n)=>S.keep a o e (λvs z=>nomatch q.symm.trans z) u
 induction x with
 |tup e=>
  obtain⟨o,ho,c,n,q⟩:=e
  exact⟨.tup ⟨o,(S.keep a o ho (λvs z=>nomatch q.symm.trans z) u).1,c,n,q⟩,(S.keep a o ho (λvs z=>nomatch q.symm.trans z) u).2⟩
 |lst e=>
  obtain⟨o,ho,c,f,n,q⟩:=e
  exact⟨.lst ⟨o,(go o _ n ho q).1,c,f,n,q⟩,(go o _ n ho q).2⟩
 |arr e=>
  obtain⟨o,ho,c,n,q⟩:=e
  exact⟨.arr ⟨o,(go o _ n ho q).1,c,n,q⟩,(go o _ n ho q).2⟩
 |obj e e2 u2 k=>exact⟨.obj (S.keep a _ e (λvs z=>nomatch z) u).1 (S.keep _ _ e2 (λvs z=>nomatch z) u2).1 (S.keep _ _ e2 (λvs z=>nomatch z) u2).2 k,(S.keep a _ e (λvs z=>nomatch z) u).2⟩
theorem eD.get{ρ ext:List (Addr×Addr)}{i:Nat}{p:Addr×Addr}(e:ρ[i]?=some p):(ρ++ext)[i]?=some p:=
 (dH (bH.mp e).1).trans e
theorem Rd.stays(S:m9 U U' h Y)(hp:∃ext,k9=ρ++ext){v:Value}{d:D}(x:Rd ρ U h v d):Rd k9 U' Y v d:=by
 obtain⟨ext,rfl⟩:=hp
 induction x with
 |none=>exact .none
 |bool b=>exact .bool b
 |int i t=>exact .int i t
 |str x t=>exact .str x t
 |bytes b t=>exact .bytes b t
 |ref x u l _ ih=>exact .ref (x.stays S u).1 (x.stays S u).2 l ih
 |ab e=>exact .ab (eD.get e)
 |ext v=>exact .ext v
theorem bv.stays(S:m9 U U' h Y)(hp:∃ext,k9=ρ++ext)(r:bv ρ U h vs V):bv k9 U' Y vs V:=⟨r.length,λi v y e e'=>(r.pt i v y e e').stays S hp⟩
theorem dN.stays(S:m9 U U' h Y)(hp:∃ext,k9=ρ++ext)(r:dN ρ U h Z fs):dN k9 U' Y Z fs:=⟨r.keys,r.vals.stays S hp⟩
theorem Rd.weak(u:∀a,U' a->U a){v}{d}(r:Rd ρ U h v d):Rd ρ U' h v d:=r.stays ⟨λa J e J n=>⟨e,λq=>n (u a q)⟩⟩ ⟨[],(c9 _).symm⟩
end
structure Cx where
 w:World
 mg:Str->Option Value
 mb:Str->Option Value
 B:Heap
 env:Env
 bd:List Str
 A:Around
 fr:List Env
 ex:List Addr
 os:OsState
noncomputable abbrev Cx.M(c:Cx):Model:=model PW c.w
structure Ks where
 scope:Scope
 nm:List Str
 bd:List Str
 lv:Nat
set_option genCtorIdx true in
inductive Res(α:Type) where
 |ok (a:α) (st:List M)
 |bad (st:List M)
 |stuck
noncomputable def Res.bind{α β:Type}(x:Res α)(f:α->List M->Res β):Res β:=
 match x with
 |.ok a st=>f a st
 |.bad st=>.bad st
 |.stuck=>.stuck
@[simp] theorem Res.gF{α β:Type}(a:α)(st)(f:α->List M->Res β):(Res.ok a st).bind f=f a st:=rfl
@[simp] theorem Res.JR{α β:Type}(st)(f:α->List M->Res β):(Res.bad st:Res α).bind f=.bad st:=rfl
inductive kz:List (Str×Value)->List (Str×Int)->Prop where
 |nil:kz [] []
 |cons {k:Str} {u:Tok} {i:Int} {Z bj}:kz Z bj->kz ((k,.int i u)::Z) ((k,i)::bj)
inductive fT(w:World)(ρ:List (Addr×Addr))(U:Addr->Prop)(h:Heap)(p:Addr×Addr):M->Prop where
 |list {vs:Array Value} {V:List D}:PL h p.1 vs->p.2=p.1->bv ρ U h vs.toList V->fT w ρ U h p (.list V)
 |a8 {b:Array UInt8} {l:List UInt8} {o:Obj}:h.get? p.1=some o->o.cls=.type "bytearray"/\o.dict=none->o.data=.bytearray b 0->p.2=p.1->b.toList=l->fT w ρ U h p (.a8 l)
 |dict {JS:List (Str×Value)} {bj:List (Str×Int)}:h.DictOf (strKind PW w) p.1 JS->p.2=p.1/\(p.1==sysModules)=false->kz JS bj->fT w ρ U h p (.dict bj)
 |inst {C:Addr} {Z:Array DictEntry} {n:Nat} {fs:List (Str×D)}:h.get? p.1=some (instObj C p.2)->p.1≠p.2->h.get? p.2=some {cls:=.type "dict",data:=.dict Z n}->dN ρ U h Z.toList fs->fT w ρ U h p (.inst C fs)
 |gone:fT w ρ U h p .gone
def UX(c:Cx)(X:Sx):Addr->Prop:=UU X.ρ X.st c.ex
@[reducible] def bJ(c:Cx)(X:Sx)(v:Value)(d:D):Prop:=Rd X.ρ (UX c X) X.s.heap v d
@[reducible] def cq(c:Cx)(X:Sx)(v:List Value)(d:List D):Prop:=bv X.ρ (UX c X) X.s.heap v d
inductive qt(h:Heap)(ex:List Addr)(e:Env):Prop
 |mk (k:e.scope.kind≠.module) (L:Addr) (o:Obj) (f:e.frame=some L) (x:L∈ex) (g:h.get? L=some o) (Z:Array DictEntry) (n:Nat) (d:o.data=.dict Z n):qt h ex e
structure aC(c:Cx)(X:Sx):Prop where
 base:c.B.StaysIn X.s.heap
 gens:X.s.gens=#[]
 os:X.s.os=c.os
 len:X.ρ.length=X.st.length
 jC:∀(i:Nat) p m,X.ρ[i]?=some p->X.st[i]?=some m->fT c.w X.ρ (UX c X) X.s.heap p m
 new:∀a,UX c X a->c.B.get? a=none
 apart:∀(i j:Nat) p q a,X.ρ[i]?=some p->X.ρ[j]?=some q->jb X.st i->jb X.st j->(a=p.1\/a=p.2)->(a=q.1\/a=q.2)->i=j
 hM:∀a∈c.ex,¬iC X.ρ X.st a
 fC:∀a∈c.ex,∃o,X.s.heap.get? a=some o
 gf:∀e∈c.fr,qt X.s.heap c.ex e
def d9(c:Cx)(a:Addr):Prop:=∃e∈c.fr,e.frame=some a
structure Nx(c:Cx)(W:Addr->Prop)(X aa:Sx):Prop where
 ext:∃e,aa.ρ=X.ρ++e/\∀p∈e,∀a,(a=p.1\/a=p.2)->X.s.heap.get? a=none
 keep:∀a o,X.s.heap.get? a=some o->¬iC X.ρ X.st a->(a∉c.ex\/(¬W a/\¬d9 c a))->aa.s.heap.get? a=some o
 slot:∀a o,X.s.heap.get? a=some o->¬iC X.ρ X.st a->¬W a->∃sl,aa.s.heap.get? a=some {o with slots:=sl}
 there:∀a o,X.s.heap.get? a=some o->∃o',aa.s.heap.get? a=some o'
 dead:∀i,i<X.ρ.length->jb aa.st i->jb X.st i
def no:Addr->Prop:=λJ=>False
@[reducible] noncomputable def Sx.to(X:Sx)(s:Shared):Sx:=⟨X.ρ,X.st,s⟩
def eZ(h Y:Heap):Prop:=∀b o,h.get? b=some o->Y.get? b=some o
section
variable{c:Cx}{W W':Addr->Prop}{X aa ae:Sx}{s':Shared}
theorem BW(ρ:List (Addr×Addr))(h:Heap):∃e,ρ=ρ++e/\∀p∈e,∀a,(a=p.1\/a=p.2)->h.get? a=none:=⟨[],(c9 _).symm,λJ h=>nomatch h⟩
theorem Nx.keeps(k:eZ X.s.heap s'.heap):Nx c W X (X.to s'):=
 ⟨BW ..,λa o e J J=>k a o e,λa o e J J=>⟨o.slots,k a o e⟩,λa o e=>⟨o,k a o e⟩,λJ J h=>h⟩
theorem Nx.refl:Nx c W X X:=.keeps (X:=X) (s':=X.s) λJ J e=>e
theorem u6{h Y:Heap}(k:∀a o,h.get? a=some o->∃o',Y.get? a=some o'){a:Addr}(e:Y.get? a=none):h.get? a=none:=by
 cases q:h.get? a with
 |none=>rfl
 |some o=>obtain⟨o',e'⟩:=k a o q;exact nomatch e.symm.trans e'
theorem Nx.none(x:Nx c W X aa){a:Addr}(e:aa.s.heap.get? a=none):X.s.heap.get? a=none:=u6 x.there e
theorem Nx.live(x:Nx c W X aa){a}{o}(ha:X.s.heap.get? a=some o)(h:iC aa.ρ aa.st a):iC X.ρ X.st a:=by
 obtain⟨e,he,hn⟩:=x.ext
 obtain⟨i,p,hp,I,hq⟩:=h
 rw[he] at hp
 rcases lt_or_ge i X.ρ.length with hi | hi
 .exact⟨i,p,(dH hi).symm.trans hp,x.dead i hi I,hq⟩
 .rw[jz hi] at hp
  exact nomatch ha.symm.trans (hn p (cU hp) a hq)
theorem Nx.trans(x:Nx c W X aa)(y:Nx c W aa ae):Nx c W X ae:=by
 obtain⟨e,he,hn⟩:=x.ext
 refine⟨?_,λa o ha I q=>y.keep a o (x.keep a o ha I q) (λh=>I (x.live ha h)) q,λa o ha I q=>?_,λa o ha=>?_,λi hi h=>x.dead i hi (y.dead i ?_ h)⟩
 .obtain⟨e',jD,fD⟩:=y.ext
  refine⟨e++e',by rw[jD,he,dG],λp hp a ha=>?_⟩
  rcases cy.mp hp with hp | hp
  .exact hn p hp a ha
  .exact x.none (fD p hp a ha)
 .obtain⟨sl,e⟩:=x.slot a o ha I q
  obtain⟨sN,e'⟩:=y.slot a _ e (λh=>I (x.live ha h)) q
  exact⟨sN,e'⟩
 .obtain⟨o',e⟩:=x.there a o ha
  exact y.there a o' e
 .rw[he,aW];exact Nat.lt_add_right _ hi
theorem Nx.mono(x:Nx c W X aa)(h:∀a,W a->W' a):Nx c W' X aa:=
 ⟨x.ext,λa o ha I q=>x.keep a o ha I (q.imp_right λq=>⟨λz=>q.1 (h a z),q.2⟩),λa o ha I q=>x.slot a o ha I λz=>q (h a z),x.there,x.dead⟩
theorem Nx.kA(x:Nx c no X aa):Nx c W X aa:=x.mono λJ h=>h.elim
theorem Nx.stays(x:Nx c W X aa):m9 (UX c X) (UX c aa) X.s.heap aa.s.heap:=
 ⟨λa o ha J hu=>⟨x.keep a o ha (λh=>hu (.inl h)) (.inl λh=>hu (.inr h)),λh=>hu (h.imp_left (x.live ha))⟩⟩
theorem Nx.pre(x:Nx c W X aa):∃e,aa.ρ=X.ρ++e:=x.ext.elim λe h=>⟨e,h.1⟩
theorem Nx.rd(x:Nx c W X aa){v}{d}(h:bJ c X v d):bJ c aa v d:=h.stays x.stays x.pre
theorem Nx.gG(x:Nx c W X aa){v}{d}(h:cq c X v d):cq c aa v d:=h.stays x.stays x.pre
theorem fT.stays{w}{ρ k9}{U U'}{h Y}(S:m9 U U' h Y)(P:∃e,k9=ρ++e){p}(k:∀a o,(a=p.1\/a=p.2)->h.get? a=some o->Y.get? a=some o){m}(x:fT w ρ U h p m):fT w k9 U' Y p m:=by
 induction x with
 |list a b r=>obtain⟨o,ho,r1,r2,n,r3⟩:=a;exact .list ⟨o,k _ _ (.inl rfl) ho,r1,r2,n,r3⟩ b (r.stays S P)
 |a8 a b c d e=>exact .a8 (k _ _ (.inl rfl) a) b c d e
 |dict a b c=>obtain⟨o,Z,ep,ho,r⟩:=a;exact .dict ⟨o,Z,ep,k _ _ (.inl rfl) ho,r⟩ b c
 |inst a n b r=>exact .inst (k _ _ (.inl rfl) a) n (k _ _ (.inr rfl) b) (r.stays S P)
 |gone=>exact .gone
theorem fT.objs{w}{ρ}{U}{h}{p}{m}(x:fT w ρ U h p m)(l:m.live){a}(ha:a=p.1\/a=p.2):∃o,h.get? a=some o/\∀vs,o.data≠.fields vs:=by
 induction x with
 |list x e _=>obtain⟨o,ho,_,_,n,q⟩:=x;exact⟨o,(ha.elim id λz=>z.trans e)▸ho,λvs z=>nomatch q.symm.trans z⟩
 |a8 x _ q e _=>exact⟨_,(ha.elim id λz=>z.trans e)▸x,λvs z=>nomatch q.symm.trans z⟩
 |dict x e _=>obtain⟨o,Z,ep,ho,_,q,_⟩:=x;exact⟨o,(ha.elim id λz=>z.trans e.1)▸ho,λvs z=>nomatch q.symm.trans z⟩
 |inst x _ y _=>exact ha.elim (λz=>⟨_,z▸x,by intro vs z;cases z⟩) λz=>⟨_,z▸y,by intro vs z;cases z⟩
 |gone=>exact l.elim
theorem aC.BX(w:aC c X){a}(h:iC X.ρ X.st a):∃o,X.s.heap.get? a=some o/\∀vs,o.data≠.fields vs:=by
 obtain⟨i,p,hp,⟨m,hm,I⟩,ha⟩:=h
 exact(w.jC i p m hp hm).objs I ha
theorem aC.Vy(w:aC c X){a}(h:UX c X a):∃o,X.s.heap.get? a=some o:=h.elim (λh=>(w.BX h).imp λJ h=>h.1) (w.fC a)
theorem aC.fresh(w:aC c X){a}(hd:X.s.heap.get? a=none):¬UX c X a:=λh=>by
 obtain⟨o,e⟩:=w.Vy h
 exact nomatch hd.symm.trans e
theorem ia(h:Heap):h.get? h.objs.size=none:=by
 cases e:h.get? h.objs.size with
 |none=>rfl
 |some o=>exact absurd (Heap.lt_size e) (lt_irrefl _)
theorem aC.size(w:aC c X):¬UX c X X.s.heap.objs.size:=w.fresh (ia _)
theorem qt.keeps{h Y}{ex eN}{e}(f:qt h ex e)(k:∀L o,e.frame=some L->L∈ex->h.get? L=some o->L∈eN/\Y.get? L=some o):qt Y eN e:=by
 obtain⟨q,L,o,r1,r2,r3,Z,n,r4⟩:=f
 exact⟨q,L,o,r1,(k L o r1 r2 r3).1,(k L o r1 r2 r3).2,Z,n,r4⟩
theorem aC.keeps(x:aC c X)(k:eZ X.s.heap s'.heap)(hg:s'.gens=X.s.gens)(ho:s'.os=X.s.os):aC c (X.to s'):=
 ⟨λb o e=>k b o (x.base b o e),hg.trans x.gens,ho.trans x.os,x.len,λi p m a b=>(x.jC i p m a b).stays ⟨λa o e J u=>⟨k a o e,u⟩⟩ ⟨[],(c9 _).symm⟩ λa o J e=>k a o e,x.new,x.apart,x.hM,
  λa ha=>(x.fC a ha).imp λo e=>k a o e,λe he=>(x.gf e he).keeps λL o J a b=>⟨a,k L o b⟩⟩
end
def mi(env:Env)(h:Heap)(x:Str)(v:Value):Prop:=
 (env.kindOf x=some .local/\∃m,h.Ns env.locals m/\m x=some v)\/
 ((env.kindOf x=some .cell\/(env.kindOf x=some .free/\(x==("__classdict__" : Str))=false))/\∃a,env.cells.lookup x=some a/\h.IsCell a (some v))
structure CxA(lv:Nat)(c:Cx):Prop where
 frames:c.A.frames=some c.fr
 handled:c.A.handled=none
 guards:c.A.guards=some []
 depth:c.A.depth+6*lv<=900
 units:c.A.units+40*lv<=2000
 X:(KF c.w.params).In c.B
 T:TopRead Q (looseW Q jV) c.mg c.mb c.B
structure cj(K:Ks)(c:Cx):Prop extends CxA K.lv c where
 scope:c.env.scope=K.scope
 bd:c.bd=K.bd
 kind:K.scope.kind=.function
 loc:c.env.locals∈c.ex
 cell:∀x a,c.env.cells.lookup x=some a->a∈c.ex/\a≠c.env.locals
 inj:∀x y a,c.env.cells.lookup x=some a->c.env.cells.lookup y=some a->x=y
 top:∃pv iD L,c.fr=pv::iD/\pv.frame=some L/\c.env.frame=some L
 own:∀x,K.scope.names.lookup x=some .cell->(c.env.cells.lookup x).isSome=true
 globals:c.env.globals=mainGlobals
 builtins:c.env.builtins=builtinsNs
inductive JT(K:Ks)(c:Cx)(X:Sx)(i:Nat)(d:D):Prop
 |mk (x:Str) (v:Value) (n:K.nm[i]?=some x) (l:mi c.env X.s.heap x v) (r:bJ c X v d):JT K c X i d
structure Ok(K:Ks)(c:Cx)(σ:List (Option D))(X:Sx):Prop where
 w:aC c X
 loc:∃m,X.s.heap.Ns c.env.locals m
 jW:∀x a,c.env.cells.lookup x=some a->∃v,X.s.heap.IsCell a v
 var:∀(i:Nat) d,σ[i]?=some (some d)->JT K c X i d
def u7(P:Addr->Prop)(h Y:Heap):Prop:=∀a o,P a->h.get? a=some o->∃sl,Y.get? a=some {o with slots:=sl}
section
variable{P:Addr->Prop}{h Y:Heap}(Du:u7 P h Y){a:Addr}
include Du
theorem u7.ns(p:P a){m}(x:h.Ns a m):Y.Ns a m:=by
 obtain⟨o,Z,ep,ho,r⟩:=x
 obtain⟨sl,e⟩:=Du a o p ho
 exact⟨_,Z,ep,e,r⟩
theorem u7.cell(p:P a){v}(x:h.IsCell a v):Y.IsCell a v:=by
 obtain⟨o,ho,r⟩:=x
 obtain⟨sl,e⟩:=Du a o p ho
 exact⟨_,e,r⟩
theorem u7.look{env}(pl:P env.locals)(pc:∀x a,env.cells.lookup x=some a->P a){y}{v}(x:mi env h y v):mi env Y y v:=by
 rcases x with⟨k,m,n,e⟩ | ⟨k,a,e,n⟩
 .exact .inl ⟨k,m,Du.ns pl n,e⟩
 .exact .inr ⟨k,a,e,Du.cell (pc y a e) n⟩
theorem Ok.move{K}{c c'}{σ σ'}{X aa}(hX:X.s.heap=h)(hY:aa.s.heap=Y)(he:c'.env=c.env)(pl:P c.env.locals)(pc:∀x a,c.env.cells.lookup x=some a->P a)(rd:∀v d,bJ c X v d->bJ c' aa v d)(w:aC c' aa)(o:Ok K c σ X)(nc:∀(i:Nat) d,σ'[i]?=some (some d)->σ[i]?=some (some d)):Ok K c' σ' aa:=by
 subst hX hY
 refine⟨w,he▸o.loc.imp λm n=>Du.ns pl n,λx a e=>(o.jW x a (he▸e)).imp λv n=>Du.cell (pc x a (he▸e)) n,λi d e=>?_⟩
 obtain⟨x,v,n,l,r⟩:=o.var i d (nc i d e)
 exact⟨x,v,n,he▸Du.look pl pc l,rd v d r⟩
end
theorem Nx.xj{c}{W}{X aa}(w:aC c X)(x:Nx c W X aa):u7 (λa=>a∈c.ex/\¬W a) X.s.heap aa.s.heap:=λa o p e=>x.slot a o e (w.hM a p.1) p.2
theorem Ok.next{K}{c}{σ}{X aa}(C:cj K c)(o:Ok K c σ X)(w:aC c aa)(x:Nx c no X aa):Ok K c σ aa:=
 Ok.move (x.xj o.w) rfl rfl rfl ⟨C.loc,id⟩ (λy a e=>⟨(C.cell y a e).1,id⟩) (λJ J r=>x.rd r) w o λJ J e=>e
inductive BY(c:Cx)(db:Heap)(e:Addr)(vs:Array Value)(h:Heap):Prop
 |mk (T:Addr) (oT:Obj) (ts:Array Value) (fl:Value) (h1:vs[1]?=some (.ref T)) (h2:T≠e) (h3:T∉c.ex) (h4:db.get? T=none) (h5:h.get? T=some oT) (h6:oT.data=.fields ts) (h7:ts[3]?=some fl):BY c db e vs h
inductive mj(c:Cx)(db:Heap)(x:Value)(h:Heap):Prop
 |mk (e:Addr) (oe:Obj) (vs:Array Value) (h1:x=.ref e) (h2:e∉c.ex) (h3:db.get? e=none) (h4:h.get? e=some oe) (h5:oe.cls=.ref 57) (h6:oe.data=.fields vs) (h7:vs[1]?=some .none\/BY c db e vs h):mj c db x h
inductive Po{α β:Type}(c:Cx)(W:Addr->Prop)(X:Sx)(R:Res α)(P:α->β->Sx->Prop)(v:β):Shared->Prop
 |mk (a:α) (aa:Sx) (e:R=.ok a aa.st) (n:Nx c W X aa) (w:aC c aa) (p:P a v aa):Po c W X R P v aa.s
inductive dW{α:Type}(c:Cx)(W:Addr->Prop)(X:Sx)(R:Res α)(x:Value):Shared->Prop
 |mk (aa:Sx) (e:R=.bad aa.st) (n:Nx c W X aa) (w:aC c aa) (f:mj c X.s.heap x aa.s.heap):dW c W X R x aa.s
@[reducible] def cm(c:Cx)(d:D)(v:Value)(aa:Sx):Prop:=bJ c aa v d
@[reducible] def Vz(c:Cx)(d:List D)(v:List Value)(aa:Sx):Prop:=cq c aa v d
@[reducible] def sO(b v:Bool)(_:Sx):Prop:=v=b
structure PT(β:Type) where
 run:(β->Shared->Prop)->(Value->Shared->Prop)->Shared->Prop
 mono:∀{Q Q':β->Shared->Prop} {E E':Value->Shared->Prop} {s:Shared},run Q E s->(∀a s,Q a s->Q' a s)->(∀x s,E x s->E' x s)->run Q' E' s
noncomputable def PT.wp{β:Type}(c:Cx)(t:Sem β):PT β:=⟨λQ E s=>af c.M c.A t Q E s,λh a b=>aE h a b⟩
noncomputable def PT.bind{α β:Type}(F:PT α)(G:α->PT β):PT β:=⟨λQ E s=>F.run (λa s=>(G a).run Q E s) E s,λh a b=>F.mono h (λx J h=>(G x).mono h a b) b⟩
def Sm{α β:Type}(c:Cx)(W:Addr->Prop)(X:Sx)(R:Res α)(F:PT β)(P:α->β->Sx->Prop):Prop:=R≠.stuck->F.run (Po c W X R P) (dW c W X R) X.s
def c3{α β:Type}(c:Cx)(X:Sx)(R:Res α)(t:Sem β)(P:α->β->Sx->Prop):Prop:=R≠.stuck->PySem.wpAny c.M c.A t (Po c no X R P) (dW c no X R) X.s
section
variable{α β γ δ:Type}{c:Cx}{W:Addr->Prop}{X aa:Sx}{R:Res α}{F:PT β}{P:α->β->Sx->Prop}{P':γ->δ->Sx->Prop}{s':Shared}
theorem c3.g{t}(h:c3 c X R t P):Sm c no X R (.wp c t) P:=λhr=>gg (h hr)
theorem mj.back(n:Nx c W X aa){x}{h}(f:mj c aa.s.heap x h):mj c X.s.heap x h:=by
 obtain⟨e,oe,vs,h1,h2,h3,h4,h5,h6,h7⟩:=f
 exact⟨e,oe,vs,h1,h2,n.none h3,h4,h5,h6,h7.imp_right λ⟨T,oT,ts,fl,k1,k2,k3,k4,k5,k6,k7⟩=>⟨T,oT,ts,fl,k1,k2,k3,n.none k4,k5,k6,k7⟩⟩
theorem Po.back(n:Nx c W X aa){v}(p:Po c W aa R P v s'):Po c W X R P v s':=by induction p with | mk a ae e m w p=>exact⟨a,ae,e,n.trans m,w,p⟩
theorem dW.back(n:Nx c W X aa){x}(p:dW c W aa R x s'):dW c W X R x s':=by induction p with | mk ae e m w f=>exact⟨ae,e,n.trans m,w,f.back n⟩
theorem dW.bind{f:α->List M->Res γ}{x:Value}(p:dW c W X R x s'):dW c W X (R.bind f) x s':=by induction p with | mk ae e m w k=>exact⟨ae,by rw[e];rfl,m,w,k⟩
theorem Sm.back(n:Nx c W X aa)(h:Sm c W aa R F P)(hr:R≠.stuck):F.run (Po c W X R P) (dW c W X R) aa.s:=F.mono (h hr) (λJ J p=>p.back n) λJ J p=>p.back n
theorem gH{f:α->List M->Res γ}(h:R.bind f≠.stuck):R≠.stuck:=λq=>h (by rw[q];rfl)
theorem Sm.bind{f:α->List M->Res γ}{G:β->PT δ}(h:Sm c W X R F P)(k:∀a v aa,Nx c W X aa->aC c aa->P a v aa->Sm c W aa (f a aa.st) (G v) P'):Sm c W X (R.bind f) (F.bind G) P':=by
 intro hr
 refine F.mono (h (gH hr)) (λv s' p=>?_) λx s' p=>p.bind
 induction p with | mk a aa e n w p=>
 subst e
 exact(k a v aa n w p).back n hr
theorem Po.keeps{a}{v}(w:aC c X)(k:eZ X.s.heap s'.heap)(hg:s'.gens=X.s.gens)(ho:s'.os=X.s.os)(r:P a v (X.to s')):Po c W X (.ok a X.st) P v s':=⟨a,X.to s',rfl,.keeps k,w.keeps k hg ho,r⟩
theorem Po.same{a}{v}(w:aC c X)(hh:s'.heap=X.s.heap)(hg:s'.gens=X.s.gens)(ho:s'.os=X.s.os)(r:P a v (X.to s')):Po c W X (.ok a X.st) P v s':=.keeps w (λJ J e=>hh▸e) hg ho r
theorem Po.id{a}{v}(w:aC c X)(r:P a v X):Po c W X (.ok a X.st) P v X.s:=.mk a X rfl .refl w r
end
abbrev SE:=List (Option D)->List M->Res D
abbrev ST:=List (Option D)->List M->Res Bool
abbrev SL:=List (Option D)->List M->Res (List D)
def ay(K:Ks)(e:Expr)(r:SE):Prop:=∀c σ X,cj K c->Ok K c σ X->Sm c no X (r σ X.st) (.wp c (eval e c.env)) (cm c)
def ec(K:Ks)(e:Expr)(r:ST):Prop:=∀c σ X,cj K c->Ok K c σ X->Sm c no X (r σ X.st) (.wp c (isTrue e c.env (eval e c.env))) sO
def je(K:Ks)(pos:Pos)(Z:List Expr)(r:SL):Prop:=∀c σ X,cj K c->Ok K c σ X->Sm c no X (r σ X.st) (.wp c (spliced (backTo pos (starEach Z c.env)))) (Vz c)
section
variable{K:Ks}{e:Expr}{r:SE}
noncomputable def u8(i:Nat):SE:=λσ st=>match σ[i]? with | some (some d)=>.ok d st | _=>.stuck
noncomputable def qu(d:D):SE:=λJ st=>.ok d st
theorem ib{c}(C:cj K c)(y):c.env.kindOf y=K.scope.names.lookup y:=by show c.env.scope.names.lookup y=_;rw[C.scope]
theorem kB{c}(C:cj K c):c.env.scope.kind=.function:=C.scope▸C.kind
theorem VA{i}{σ}{st}(h:u8 i σ st≠.stuck):∃d,σ[i]?=some (some d)/\u8 i σ st=.ok d st:=by
 unfold u8 at h ⊢
 cases q:σ[i]? with
 |none=>rw[q] at h;exact absurd rfl h
 |some y=>cases y with
  |none=>rw[q] at h;exact absurd rfl h
  |some d=>exact⟨d,rfl,rfl⟩
theorem ay.var {i} {x} {pos} (hn:autoParam (K.nm[i]?=some x) rl) (hd:autoParam ((x==("__debug__" : Str))=false) dc):ay K (.Name x pos) (u8 i):=by
 intro c σ X C o hr
 obtain⟨d,nc,e⟩:=VA hr
 obtain⟨y,v,hy,I,hv⟩:=o.var i d nc
 cases hn.symm.trans hy
 rw[e]
 have bc:Po c no X (.ok d X.st) (cm c) v X.s:=.id o.w hv
 refine Jw ?_ hd
 rcases I with⟨h1,m,h2,h3⟩ | ⟨h1,a,h2,h3⟩
 .exact gg<|wpAny_loadName_local (kB C) h1 h2 h3 bc
 .exact gg<|h1.elim (λh1=>wpAny_loadName_cell (kB C) h1 h2 h3 bc) λh1=>wpAny_loadName_free (kB C) h1.1 h2 h3 bc h1.2
theorem ay.int{i}{k}{pos}:ay K (.Constant (.int i) k pos) (qu (.int i)):=λJ J J J o J=>gg<|wpAny_Constant_int (.same o.w rfl rfl rfl (.int ..))
theorem ay.none{k}{pos}:ay K (.Constant .none k pos) (qu .none):=λJ J J J o J=>gg<|wpAny_Constant_none (.same o.w rfl rfl rfl .none)
theorem ay.bool{b}{k}{pos}:ay K (.Constant (.bool b) k pos) (qu (.bool b)):=λJ J J J o J=>gg<|wpAny_Constant_bool (.same o.w rfl rfl rfl (.bool b))
theorem ay.str{x}{k}{pos}:ay K (.Constant (.str x) k pos) (qu (.str x)):=λJ J J J o J=>gg<|wpAny_Constant_str (.same o.w rfl rfl rfl (.str ..))
def fU(P:Params)(v:Value)(d:D):Prop:=∀(B:Heap) ρ U (h:Heap),(KF P).In B->(∀a,U a->B.get? a=Option.none)->B.StaysIn h->Rd ρ U h v d
theorem fU.int(P:Params)(i:Int)(t:Tok):fU P (.int i t) (.int i):=λJ J J J J J J=>.int i t
section
variable {x:Str} {c:Cx} {σ:List (Option D)} {X:Sx} (C:cj K c) (o:Ok K c σ X) (hx:K.scope.names.lookup x=some .globalImplicit) (hd:(x==("__debug__" : Str))=false) {v:Value} {Q:Value->Shared->Prop} {E:Value->Shared->Prop}
include C o hx hd
theorem BZ{pos}(e:∀P,nsIn (KF P) mainGlobals x=some (some v))(q:Q v X.s):af c.M c.A (eval (.Name x pos) c.env) Q E X.s:=
 JC (kB C) ((ib C x).trans hx) (gg<|loadGlobal_global (mg:=c.mg) (by rw[C.globals];exact C.T.g.keeps o.w.base) (mg_of C.X C.T.g (e _)) q) hd
theorem B0 {pos} (e:∀P,nsIn (KF P) mainGlobals x=some Option.none) (hb:bootBuiltins x=some v) (hn:x≠"__name__") (q:Q v X.s):af c.M c.A (eval (.Name x pos) c.env) Q E X.s:=
 JC (kB C) ((ib C x).trans hx) (gg<|loadGlobal_builtin (mg:=c.mg) (mb:=c.mb) (by rw[C.globals];exact C.T.g.keeps o.w.base) (mg_none_of C.X C.T.g (e _)) (by rw[C.builtins];exact C.T.b.keeps o.w.base) ((C.T.builtins x hn).trans hb) q) hd
end
theorem fU.at{c}{X}{v}{d}{lv}(C:CxA lv c)(w:aC c X)(h:∀P,fU P v d):bJ c X v d:=h _ _ _ _ _ C.X w.new w.base
theorem ay.glob{x}{pos}{v}{d}(hx:K.scope.names.lookup x=some .globalImplicit)(e:∀P,nsIn (KF P) mainGlobals x=some (some v))(hv:∀P,fU P v d)
  (hd:autoParam ((x==("__debug__" : Str))=false) dc):ay K (.Name x pos) (qu d):=λJ J J C o J=>BZ C o hx hd e (.id o.w (fU.at C.toCxA o.w hv))
abbrev F2:=D->D->List M->Res D
def cH(f:Value->Value->Sem Value)(r:F2):Prop:=∀(lv:Nat) c X a b x y,CxA lv c->aC c X->bJ c X a x->bJ c X b y->c3 c X (r x y X.st) (f a b) (cm c)
noncomputable def sP(r:F2)(a b:SE):SE:=λσ st=>(a σ st).bind λx st=>(b σ st).bind λy st=>r x y st
noncomputable def PT.two(c:Cx)(a b:Expr)(f:Value->Value->PT Value):PT Value:=(PT.wp c (eval a c.env)).bind λx=>(PT.wp c (eval b c.env)).bind (f x)
theorem ay.VB{a b}{ra rb}{f}{g}{c}{σ}{X}(ha:ay K a ra)(hb:ay K b rb)(C:cj K c)(o:Ok K c σ X)
  (k:∀x y v v' aa,Nx c no X aa->Ok K c σ aa->bJ c aa v x->bJ c aa v' y->Sm c no aa (g x y aa.st) (f v v') (cm c)):Sm c no X (sP g ra rb σ X.st) (.two c a b f) (cm c):=
 (ha c σ X C o).bind λx v aa n w p=>(hb c σ aa C (o.next C w n)).bind λy v' ae m w' p'=>k x y v v' ae (n.trans m) ((o.next C w n).next C w' m) (m.rd p) p'
theorem ay.two{a b}{ra rb}{f}{r}(hf:cH f r)(ha:ay K a ra)(hb:ay K b rb){c}{σ}{X}(C:cj K c)(o:Ok K c σ X):Sm c no X (sP r ra rb σ X.st) (.two c a b λx y=>.wp c (f x y)) (cm c):=
 VB ha hb C o λx y v v' aa J o p p'=>(hf _ c aa v v' x y C.toCxA o.w p p').g
theorem ay.bin{a b}{ra rb}{op}{pos}{r}(hf:cH (binaryOp op) r)(ha:ay K a ra)(hb:ay K b rb):ay K (.BinOp a op b pos) (sP r ra rb):=
 λJ J J C o hr=>Um (ay.two hf ha hb C o hr)
theorem ay.cmp{a b}{ra rb}{op}{pos}{r}(hf:cH (compareOp op) r)(ha:ay K a ra)(hb:ay K b rb)(hm:autoParam (behindInMarks op b=false) wu) :
  ay K (.Compare a [op] [b] pos) (sP r ra rb):=λJ J J C o hr=>Uo (ay.two hf ha hb C o hr) hm
noncomputable def JU{α:Type}(f:Int->List M->Res α):D->List M->Res α
 |.int i,st=>f i st
 |_,_=>.stuck
theorem VC{α:Type}{f:Int->List M->Res α}{d:D}{st:List M}(h:JU f d st≠.stuck):∃i,d=.int i:=by
 cases d with
 |int i=>exact⟨i,rfl⟩
 |_=>exact absurd rfl h
noncomputable def JV:D->List M->Res D:=JU λi st=>.ok (.int (-i)) st
noncomputable def VD(a:SE):SE:=λσ st=>(a σ st).bind JV
theorem ay.neg{a:Expr}{ra:SE}{pos:Pos}(ha:ay K a ra):ay K (.UnaryOp .USub a pos) (VD ra):=λc σ X C o hr=>
 Up ((ha c σ X C o).bind (G:=λx=>.wp c (unaryOp .USub x)) (λd v aa n w p hr=>by
  obtain⟨i,rfl⟩:=VC hr
  obtain⟨t,rfl⟩:=p.dv
  exact gg<|PySem.P.neg_int (.same w rfl rfl rfl (.int ..))) hr)
noncomputable def VE:D->Option Bool
 |.bool b=>some b
 |.int i=>some (i != 0)
 |.none=>some false
 |_=>none
noncomputable def sQ:D->List M->Res Bool:=λd st=>match VE d with | some b=>.ok b st | none=>.stuck
noncomputable def sR(a:SE):ST:=λσ st=>(a σ st).bind sQ
noncomputable def VF(a:ST):ST:=λσ st=>(a σ st).bind λb st=>.ok (!b) st
noncomputable def JX(a b:ST):ST:=λσ st=>(a σ st).bind λx st=>if x then b σ st else .ok false st
noncomputable def JY(a b:ST):ST:=λσ st=>(a σ st).bind λx st=>if x then .ok true st else b σ st
noncomputable def VG(t:ST)(a b:SE):SE:=λσ st=>(t σ st).bind λx st=>if x then a σ st else b σ st
noncomputable def JZ(a b:SE):SE:=λσ st=>(a σ st).bind λx st=>(sQ x st).bind λt st=>if t then b σ st else .ok x st
noncomputable def u9(σ:List (Option D))(e:SE)(cQ:F2)(y:D):D->List M->Res D
 |.bool true,st=>(e σ st).bind λz st=>cQ y z st
 |.bool false,st=>.ok (.bool false) st
 |_,_=>.stuck
noncomputable def sS(cV cQ:F2)(a b e:SE):SE:=λσ st=>(a σ st).bind λx st=>(b σ st).bind λy st=>(cV x y st).bind λt st=>u9 σ e cQ y t st
noncomputable def VH(_:Unit):ST:=λJ st=>.ok true st
noncomputable def VI(_:Unit):ST:=λJ st=>.ok false st
theorem xk{c}{X}{d}{v}(w:aC c X)(p:bJ c X v d):Sm c no X (sQ d X.st) (.wp c (truthy v)) sO:=by
 intro hr
 cases d with
 |none=>cases p.inv;exact gg<|truthy_none (.id w rfl)
 |bool b=>cases p.mf;exact gg<|wpAny_truthy_bool (.id w rfl)
 |int i=>obtain⟨t,rfl⟩:=p.dv;exact gg<|PySem.P.truthy_int (.id w rfl)
 |_=>exact absurd rfl hr
theorem ec.value{e}{r}(h:ay K e r)(he:∀env ja,isTrue e env ja=(do let v <- ja;standAt e.pos;holding [v] (truthy v)):=by intro _ _;rfl):ec K e (sR r):=
 λc σ X C o hr=>Us ((h c σ X C o).bind (G:=λv=>.wp c (truthy v)) (λJ J J J w p=>xk w p) hr) (he _ _)
theorem ec.not{e}{pos}{r}(h:ec K e r):ec K (.UnaryOp .Not e pos) (VF r):=
 λc σ X C o hr=>Ut ((h c σ X C o).bind (P':=sO) (G:=λb=>⟨λQ J s=>Q (!b) s,λh a J=>a _ _ h⟩) (λJ J J J w p J=>.id w (aw _ p)) hr)
def ic(K:Ks)(op:BoolOp)(Z:List Expr)(r:ST):Prop:=∀c σ X,cj K c->Ok K c σ X->Sm c no X (r σ X.st) (.wp c (allTrue op Z c.env)) sO
theorem ic.and_nil:ic K .And [] (VH ()):=λJ J J J o J=>Uz (.id o.w rfl)
theorem ic.or_nil:ic K .Or [] (VI ()):=λJ J J J o J=>UA (.id o.w rfl)
noncomputable def PT.cond{β:Type}(b:Bool)(F G:PT β):PT β:=⟨λQ E s=>if b then F.run Q E s else G.run Q E s,λh a e=>by
 cases b
 .exact G.mono h a e
 .exact F.mono h a e⟩
noncomputable def PT.pure{β:Type}(v:β):PT β:=⟨λQ J s=>Q v s,λh a J=>a _ _ h⟩
theorem Sm.cond{α β:Type}{c:Cx}{W:Addr->Prop}{X:Sx}{R R':Res α}{F G:PT β}{P:α->β->Sx->Prop}{b v:Bool}(e:v=b)(h:Sm c W X R F P)(Y:Sm c W X R' G P):Sm c W X (if b then R else R') (.cond v F G) P:=by
 subst e;cases v
 .exact Y
 .exact h
theorem Sm.pure{α β:Type}{c:Cx}{W:Addr->Prop}{X:Sx}{P:α->β->Sx->Prop}{a:α}{v:β}(w:aC c X)(p:P a v X):Sm c W X (.ok a X.st) (.pure v) P:=λJ=>.id w p
theorem ic.and_cons{e:Expr}{Z:List Expr}{r r':ST}(h:ec K e r)(Y:ic K .And Z r'):ic K .And (e::Z) (JX r r'):=λc σ X C o hr=>
 UB ((h c σ X C o).bind (G:=λb=>.cond b (.wp c (allTrue .And Z c.env)) (.pure false)) (λJ J aa n w p=>.cond p (Y c σ aa C (o.next C w n)) (.pure w rfl)) hr)
theorem ic.or_cons{e:Expr}{Z:List Expr}{r r':ST}(h:ec K e r)(Y:ic K .Or Z r'):ic K .Or (e::Z) (JY r r'):=λc σ X C o hr=>
 UC ((h c σ X C o).bind (G:=λb=>.cond b (.pure true) (.wp c (allTrue .Or Z c.env))) (λJ J aa n w p=>.cond p (.pure w rfl) (Y c σ aa C (o.next C w n))) hr)
theorem ec.boolOp{op}{Z}{pos}{r}(h:ic K op Z r):ec K (.BoolOp op Z pos) r:=λc σ X C o hr=>Uu (h c σ X C o hr)
theorem ec.cmp{a b}{ra rb}{op}{pos}{r}(hf:cH (compareOp op) r)(ha:ay K a ra)(hb:ay K b rb)(hm:autoParam (behindInMarks op b=false) wu) :
  ec K (.Compare a [op] [b] pos) (sR (sP r ra rb)):=λJ J J C o hr=>Uw ((ay.two hf ha hb C o).bind (G:=λv=>.wp _ (truthy v)) (λJ J J J w p=>xk w p) hr) hm
theorem ay.VJ{t a b:Expr}{pos:Pos}{rt:ST}{ra rb:SE}(ht:ec K t rt)(ha:ay K a ra)(hb:ay K b rb):ay K (.IfExp t a b pos) (VG rt ra rb):=λc σ X C o hr=>
 Uq ((ht c σ X C o).bind (G:=λx=>.cond x (.wp c (eval a c.env)) (.wp c (eval b c.env))) (λJ J aa n w p=>.cond p (ha c σ aa C (o.next C w n)) (hb c σ aa C (o.next C w n))) hr)
theorem ay.bo{a b:Expr}{pos:Pos}{ra rb:SE}(ha:ay K a ra)(hb:ay K b rb):ay K (.BoolOp .And [a,b] pos) (JZ ra rb):=λc σ X C o hr=>
 UD ((ha c σ X C o).bind (G:=λv=>(PT.wp c (truthy v)).bind λt=>.cond t (.wp c (eval b c.env)) (.pure v)) (λJ J aa n w p=>(xk w p).bind λJ J ae m w' q=>.cond q (hb c σ ae C ((o.next C w n).next C w' m)) (.pure w' (m.rd p))) hr)
end
section
variable{c c':Cx}{X:Sx}{s':Shared}{T W:Addr->Prop}
structure iE(c c':Cx)(X:Sx)(T:Addr->Prop)(s':Shared):Prop where
 gens:s'.gens=X.s.gens
 os:s'.os=X.s.os
 keep:∀a o,X.s.heap.get? a=some o->¬T a->s'.heap.get? a=some o
 own:∀a o,X.s.heap.get? a=some o->T a->a∈c.ex\/(c.B.get? a=none/\∃vs,o.data=.fields vs)
 ex:∀a∈c'.ex,(a∈c.ex\/X.s.heap.get? a=none)/\∃o,s'.heap.get? a=some o
theorem aC.stays(w:aC c X)(m:iE c c' X T s'):m9 (UX c X) (UX c' (X.to s')) X.s.heap s'.heap:=
 ⟨λa o e hd hu=>⟨m.keep a o e λt=>(m.own a o e t).elim (λq=>hu (.inr q)) λq=>q.2.elim hd,λq=>q.elim (λq=>hu (.inl q)) λq=>(m.ex a q).1.elim (λq=>hu (.inr q)) λq=>nomatch e.symm.trans q⟩⟩
theorem aC.B2(w:aC c X){a}(e:X.s.heap.get? a=none):c.B.get? a=none:=by
 cases q:c.B.get? a with
 |none=>rfl
 |some o=>exact nomatch e.symm.trans (w.base a o q)
theorem aC.move(w:aC c X)(m:iE c c' X T s')(hB:c'.B=c.B)(mc:c'.os=c.os)(hw:c'.w=c.w)(gf:∀e∈c'.fr,qt s'.heap c'.ex e):aC c' (X.to s'):=by
 refine⟨λb o e=>?_,m.gens.trans w.gens,(m.os.trans w.os).trans mc.symm,w.len,λi p x hp hx=>?_,λa ha=>?_,w.apart,λa ha I=>?_,λa ha=>(m.ex a ha).2,gf⟩
 .rw[hB] at e
  exact m.keep b o (w.base b o e) λt=>(m.own b o (w.base b o e) t).elim (λq=>nomatch e.symm.trans (w.new b (.inr q))) λq=>nomatch e.symm.trans q.1
 .have y:=w.jC i p x hp hx
  by_cases I:x.live
  .rw[hw]
   exact y.stays (w.stays m) ⟨[],(c9 _).symm⟩ λa o ha e=>m.keep a o e λt=>(m.own a o e t).elim (λq=>w.hM a q ⟨i,p,hp,⟨x,hx,I⟩,ha⟩) λq=>by
    obtain⟨o',e',hd⟩:=y.objs I ha
    cases e.symm.trans e'
    exact q.2.elim hd
  .cases x with
   |gone=>exact .gone
   |_=>exact absurd trivial I
 .rw[hB]
  exact ha.elim (λh=>w.new a (.inl h)) λh=>(m.ex a h).1.elim (λh=>w.new a (.inr h)) w.B2
 .exact(m.ex a ha).1.elim (λh=>w.hM a h I) λh=>by
   obtain⟨o,e,_⟩:=w.BX I
   exact nomatch h.symm.trans e
theorem J0(X:Sx):∃e,(X.to s').ρ=X.ρ++e/\∀p∈e,∀a,(a=p.1\/a=p.2)->X.s.heap.get? a=none:=BW X.ρ X.s.heap
theorem Nx.move(k:∀a o,X.s.heap.get? a=some o->¬W a->s'.heap.get? a=some o)(hW:∀a,W a->a∈c.ex)(ht:∀a o,X.s.heap.get? a=some o->W a->∃o',s'.heap.get? a=some o'):Nx c W X (X.to s'):=
 ⟨J0 X,λa o e J q=>k a o e λz=>q.elim (λq=>q (hW a z)) λq=>q.1 z,λa o e J q=>⟨o.slots,k a o e q⟩,λa o e=>by
  by_cases z:W a
  .exact ht a o e z
  .exact⟨o,k a o e z⟩,λJ J h=>h⟩
end
theorem sV{α:Type}{l:List α}{x y:α}{i:Nat}(h:(l++[x])[i]?=some y):l[i]?=some y\/(i=l.length/\y=x):=by
 rcases lt_or_ge i l.length with q | q
 .rw[dH q] at h;exact .inl h
 .have I:=(bH.mp h).1
  rw[aW,length_singleton] at I
  have:i=l.length:=eK (le_of_lt_succ I) q
  subst this
  rw[getElem?_concat_length] at h
  exact .inr ⟨rfl,(Option.some.inj h).symm⟩
theorem xm{st e}{i}(hi:i<st.length)(h:jb (st++e) i):jb st i:=by
 obtain⟨x,hx,I⟩:=h
 rw[dH hi] at hx
 exact⟨x,hx,I⟩
theorem B4{st:List M}{m:M}{i:Nat}(h:jb (st++[m]) i):jb st i\/i=st.length:=by
 obtain⟨x,hx,I⟩:=h
 exact(sV hx).imp (λh=>⟨x,h,I⟩) And.left
theorem VK{st:List M}{i:Nat}(h:jb st i):i<st.length:=by obtain⟨x,hx,_⟩:=h;exact(bH.mp hx).1
@[reducible] noncomputable def Sx.plus(X:Sx)(p:Addr×Addr)(m:M)(s:Shared):Sx:=⟨X.ρ++[p],X.st++[m],s⟩
section
variable{c:Cx}{X:Sx}{p:Addr×Addr}{m:M}{s':Shared}
theorem Nx.iF(l:X.ρ.length=X.st.length)(k:eZ X.s.heap s'.heap)(h:∀a,(a=p.1\/a=p.2)->X.s.heap.get? a=Option.none):Nx c no X (X.plus p m s'):=
 ⟨⟨[p],rfl,λq hq=>dT.mp hq▸h⟩,λa o e J J=>k a o e,λa o e J J=>⟨o.slots,k a o e⟩,λa o e=>⟨o,k a o e⟩,λi hi q=>xm (l▸hi) q⟩
theorem aC.iF(w:aC c X)(k:eZ X.s.heap s'.heap)(hg:s'.gens=X.s.gens)(ho:s'.os=X.s.os)(h:∀a,(a=p.1\/a=p.2)->X.s.heap.get? a=Option.none)(hm:(∀{vs V},cq c X vs V->cq c (X.plus p m s') vs V)->fT c.w (X.ρ++[p]) (UX c (X.plus p m s')) s'.heap p m):aC c (X.plus p m s'):=by
 have N:Nx c no X (X.plus p m s'):=.iF w.len k h
 have lv:∀a,iC (X.ρ++[p]) (X.st++[m]) a->iC X.ρ X.st a\/X.s.heap.get? a=Option.none:=λa ⟨i,q,hq,I,ha⟩=>(sV hq).elim (λg=>.inl ⟨i,q,g,xm (w.len▸(bH.mp g).1) I,ha⟩) λg=>.inr (h a (g.2▸ha))
 have old:∀{i q a},(X.ρ++[p])[i]?=some q->jb X.st i->(a=q.1\/a=q.2)->X.ρ[i]?=some q/\X.s.heap.get? a≠Option.none:=fun{i q a} hq I ha=>by
  rw[dH (w.len▸VK I)] at hq
  obtain⟨o,e,_⟩:=w.BX ⟨i,q,hq,I,ha⟩
  exact⟨hq,λz=>nomatch e.symm.trans z⟩
 have J1:∀{i q a},(X.ρ++[p])[i]?=some q->i=X.st.length->(a=q.1\/a=q.2)->X.s.heap.get? a=Option.none:=fun{i q a} hq hi ha=>(sV hq).elim (λg=>absurd (bH.mp g).1 (by rw[w.len,hi];exact lt_irrefl _)) λg=>h a (g.2▸ha)
 refine⟨λb o e=>k b o (w.base b o e),hg.trans w.gens,ho.trans w.os,by show(X.ρ++[p]).length=(X.st++[m]).length;rw[aW,aW,w.len];rfl,λi q x hq hx=>?_,λa ha=>?_,λi j q r a hq hr hi hj ha hb=>?_,λa ha I=>?_,λa ha=>(w.fC a ha).imp λo e=>k a o e,λe he=>(w.gf e he).keeps λL o J a b=>⟨a,k L o b⟩⟩
 .rcases sV hq with g | ⟨g,rfl⟩
  .exact(w.jC i q x g (by rwa [dH (w.len▸(bH.mp g).1)] at hx)).stays N.stays N.pre λa o J e=>k a o e
  .have hx:(X.st++[m])[i]?=some x:=hx
   rw[g,w.len,getElem?_concat_length] at hx
   cases hx
   exact hm λr=>N.gG r
 .exact ha.elim (λh=>(lv a h).elim (λh=>w.new a (.inl h)) w.B2) λh=>w.new a (.inr h)
 .rcases B4 hi with hi | hi
  .rcases B4 hj with hj | hj
   .exact w.apart i j q r a (old hq hi ha).1 (old hr hj hb).1 hi hj ha hb
   .exact absurd (J1 hr hj hb) (old hq hi ha).2
  .rcases B4 hj with hj | hj
   .exact absurd (J1 hq hi ha) (old hr hj hb).2
   .exact hi.trans hj.symm
 .exact(lv a I).elim (w.hM a ha) λz=>by
   obtain⟨o,e⟩:=w.fC a ha
   exact nomatch z.symm.trans e
end
theorem Rd.iF{c}{X}(w:aC c X){p}{U}{h}:Rd (X.ρ++[p]) U h (.ref p.1) (.ab X.st.length):=
 .ab (w.len▸getElem?_concat_length)
def sz:Nat:=16777216
theorem fo:sizeLine=sz:=by decide
noncomputable def xn:SL:=λJ st=>.ok [] st
noncomputable def B5(a:SE)(l:SL):SL:=λσ st=>(a σ st).bind λd st=>(l σ st).bind λV st=>.ok (d::V) st
theorem xp{α:Type}{p:Prop}[Decidable p]{x:Res α}(h:(if p then x else .stuck)≠.stuck):p:=Decidable.byContradiction λq=>h (aY q)
theorem Sm.iff{α β:Type}{c:Cx}{W:Addr->Prop}{X:Sx}{p:Prop}[Decidable p]{R:Res α}{F:PT β}{P:α->β->Sx->Prop}(h:p->Sm c W X R F P):Sm c W X (if p then R else .stuck) F P:=λhr=>by
 have hp:=xp hr
 rw[ax hp] at hr ⊢
 exact h hp hr
noncomputable def PT.display(k:String)(vs:List Value):PT Value:=⟨λQ J s=>vs.length<=sizeLine/\Q (.ref s.heap.objs.size) {s with heap:=s.heap.push {cls:=.type k,data:=.seq vs.toArray}},λh a J=>⟨h.1,a _ _ h.2⟩⟩
noncomputable def J2(V:List D)(st:List M):Res D:=if V.length<=sz then .ok (.tup V) st else .stuck
noncomputable def J3(V:List D)(st:List M):Res D:=if V.length<=sz then .ok (.lst V) st else .stuck
noncomputable def J4(V:List D)(st:List M):Res D:=if V.length<=sz then .ok (.ab st.length) (st++[.list V]) else .stuck
noncomputable def VL(l:SL):SE:=λσ st=>(l σ st).bind J2
noncomputable def VM(l:SL):SE:=λσ st=>(l σ st).bind J3
noncomputable def VN(l:SL):SE:=λσ st=>(l σ st).bind J4
@[reducible] noncomputable def kC(s:Shared)(o:Obj):Shared:={s with heap:=s.heap.push o}
section
variable{K:Ks}{c:Cx}{X:Sx}
theorem fV(h)(o):eZ h (h.push o):=λJ J e=>ga _ e
theorem J5 {vs} {V} (w:aC c X) (r:cq c X vs V):bJ c (X.to (kC X.s {cls:=.type "list",data:=.seq vs.toArray})) (.ref X.s.heap.objs.size) (.lst V):=
 .lst ⟨_,gi _ rfl,rfl,rfl,0,rfl⟩ w.size (Nx.gG (W:=no) (.keeps (fV _ _)) r)
theorem J6 {vs} {V} (w:aC c X) (r:cq c X vs V) {W}:Po c W X (.ok (.ab X.st.length) (X.st++[.list V])) (cm c) (.ref X.s.heap.objs.size) (kC X.s {cls:=.type "list",data:=.seq vs.toArray}):=
 .mk (.ab X.st.length) (X.plus (X.s.heap.objs.size,X.s.heap.objs.size) (.list V) (kC X.s {cls:=.type "list",data:=.seq vs.toArray})) rfl
  (Nx.kA (.iF w.len (fV _ _) λa ha=>ha.elim (·▸ia _) (·▸ia _)))
  (w.iF (fV _ _) rfl rfl (λa ha=>ha.elim (·▸ia _) (·▸ia _)) λup=>.list (vs:=vs.toArray) ⟨_,gi _ rfl,rfl,rfl,0,rfl⟩ rfl (up r))
  (Rd.iF w)
theorem je.nil{pos}:je K pos [] xn:=λJ J J J o J=>Ux (.id o.w .nil)
theorem je.cons{pos}{e}{Z}{r}{l}(h:ay K e r)(Y:je K pos Z l)(he:autoParam (∀env,starEach (e::Z) env=(false,eval e env)::starEach Z env) k2):je K pos (e::Z) (B5 r l):=λc σ X C o hr=>
 Uy ((h c σ X C o).bind (G:=λv=>(PT.wp c (spliced (backTo pos (starEach Z c.env)))).bind λvs=>.pure (v::vs)) (λJ J aa n w p=>(Y c σ aa C (o.next C w n)).bind λJ J ae m w' p'=>.pure w' (.cons (m.rd p) p')) hr) (he _)
theorem ay.tup{pos:Pos}{Z:List Expr}{k:Nat}{l:SL}(h:je K pos Z l):ay K (.Tuple Z k pos) (VL l):=λc σ X C o hr=>
 Ur ((h c σ X C o).bind (P':=cm c) (G:=PT.display "tuple") (λV vs aa n w p=>.iff λhz J=>
  ⟨by rw[p.length,fo];exact hz,.keeps w (fV _ _) rfl rfl (.tup ⟨_,gi _ rfl,rfl,0,rfl⟩ w.size (Nx.gG (W:=no) (.keeps (fV _ _)) p))⟩) hr)
theorem ay.lst{pos:Pos}{Z:List Expr}{l:SL}(h:je K pos Z l):ay K (.List Z pos) (VM l):=λc σ X C o hr=>
 Jv ((h c σ X C o).bind (P':=cm c) (G:=PT.display "list") (λV vs aa n w p=>.iff λhz J=>
  ⟨by rw[p.length,fo];exact hz,.keeps w (fV _ _) rfl rfl (J5 w p)⟩) hr)
theorem ay.jX{pos:Pos}{Z:List Expr}{l:SL}(h:je K pos Z l):ay K (.List Z pos) (VN l):=λc σ X C o hr=>
 Jv ((h c σ X C o).bind (P':=cm c) (G:=PT.display "list") (λV vs aa n w p=>.iff λhz J=>
  ⟨by rw[p.length,fo];exact hz,J6 w p⟩) hr)
theorem VO{σ}{e}{r}{y t}{st}(h:u9 σ e r y t st≠.stuck):∃b,t=.bool b:=by
 cases t with
 |bool b=>exact⟨b,rfl⟩
 |_=>exact absurd rfl h
theorem J7{l m e}{op ge}{ra rb re}{cV cQ}(a7:cH (compareOp op) cV)(b9:cH (compareOp ge) cQ)(ha:ay K l ra)(hb:ay K m rb)(he:ay K e re){σ}(C:cj K c)(o:Ok K c σ X)
  {γ δ:Type}{bc:D->List M->Res γ}{Fin Sh La:Value->PT δ}{P:γ->δ->Sx->Prop}(hf:∀d v aa,aC c aa->bJ c aa v d->Sm c no aa (bc d aa.st) (Fin v) P)(hs:∀aa,aC c aa->Sm c no aa (bc (.bool false) aa.st) (Sh (.bool false)) P)
  (I:∀{b:Value} {Q E s},((PT.wp c (eval e c.env)).bind λz=>(PT.wp c (compareOp ge b z)).bind Fin).run Q E s->(La b).run Q E s) :
  Sm c no X ((sS cV cQ ra rb re σ X.st).bind bc) ((PT.wp c (eval l c.env)).bind λa=>(PT.wp c (eval m c.env)).bind λb=>(PT.wp c (compareOp op a b)).bind λcv=>(PT.wp c (truthy cv)).bind λt=>.cond t (La b) (Sh cv)) P:=by
 have E:(sS cV cQ ra rb re σ X.st).bind bc=(ra σ X.st).bind λx st=>(rb σ st).bind λy st=>(cV x y st).bind λt st=>(u9 σ re cQ y t st).bind bc:=by
  unfold sS
  cases ra σ X.st with
  |ok x st=>show((rb σ st).bind _).bind bc=(rb σ st).bind _;cases rb σ st with
   |ok y st=>show((cV x y st).bind _).bind bc=(cV x y st).bind _;cases cV x y st <;> rfl
   |_=>rfl
  |_=>rfl
 rw[E]
 refine(ha c σ X C o).bind λx a bz nf sW qp=>(hb c σ bz C (o.next C sW nf)).bind λy b VP la mn sA=>((a7 _ c VP a b x y C.toCxA mn (la.rd qp) sA).g).bind λt cv sY jE sZ uW hr=>?_
 obtain⟨t,rfl⟩:=VO (gH hr)
 cases uW.mf
 refine gg<|wpAny_truthy_bool ?_
 cases t with
 |false=>exact hs sY sZ hr
 |true=>
  have E':(u9 σ re cQ y (.bool true) sY.st).bind bc=(re σ sY.st).bind λz st=>(cQ y z st).bind bc:=by show((re σ sY.st).bind _).bind bc=_;cases re σ sY.st <;> rfl
  rw[E'] at hr ⊢
  exact I (((he c σ sY C (((o.next C sW nf).next C mn la).next C sZ jE)).bind λz v VQ jf pz B6=>((b9 _ c VQ b v y z C.toCxA pz (jf.rd (jE.rd sA)) B6).g).bind λd v aa J w p=>hf d v aa w p) hr)
theorem Res.cb{α:Type}(x:Res α):x.bind Res.ok=x:=by cases x <;> rfl
theorem ay.chain{l m e}{op ge}{pos}{ra rb re}{cV cQ}(a7:cH (compareOp op) cV)(b9:cH (compareOp ge) cQ)(ha:ay K l ra)(hb:ay K m rb)(he:ay K e re)
  (hm:autoParam (lastMarks [op,ge] [m,e]=false) wu):ay K (.Compare l [op,ge] [m,e] pos) (sS cV cQ ra rb re):=λc σ X C o hr=>by
 have h:=J7 a7 b9 ha hb he C o (bc:=.ok) (Fin:=.pure) (Sh:=.pure) (P:=cm c) (La:=λb=>.wp c (compareChain pos b [ge] [eval e c.env])) (λJ J J w p=>.pure w p) (λJ w=>.pure w (.bool _)) λh=>U1 h
 rw[Res.cb] at h
 exact UY (aE (h hr) (λJ J h=>U0 h) λJ J p=>p) hm
theorem ec.chain{l m e}{op ge}{pos}{ra rb re}{cV cQ}(a7:cH (compareOp op) cV)(b9:cH (compareOp ge) cQ)(ha:ay K l ra)(hb:ay K m rb)(he:ay K e re)
  (hm:autoParam (lastMarks [op,ge] [m,e]=false) wu):ec K (.Compare l [op,ge] [m,e] pos) (sR (sS cV cQ ra rb re)):=λc σ X C o hr=>
 UZ (aE (J7 a7 b9 ha hb he C o (bc:=sQ) (Fin:=λv=>.wp c (truthy v)) (Sh:=λJ=>.pure false) (P:=sO) (La:=λb=>.wp c (testChain pos b [ge] [eval e c.env])) (λJ J J w p=>xk w p) (λJ w=>.pure w rfl) (λh=>U3 h) hr) (λJ J h=>U2 h) λJ J p=>p) hm
end
inductive Fl where
 |next
 |cont
 |ret (d:D)
abbrev SS:=List (Option D)->List M->Res (Fl×List (Option D))
def cK(c:Cx):Addr->Prop:=λa=>a=c.env.locals\/∃x∈c.bd,c.env.cells.lookup x=some a
inductive ng(c:Cx)(aa:Sx):Flow->Fl->Prop where
 |next:ng c aa .next .next
 |cont:ng c aa .cont .cont
 |ret {v:Value} {d:D}:bJ c aa v d->ng c aa (.ret v) (.ret d)
inductive eO(K:Ks)(c:Cx)(r:Fl×List (Option D))(f:Flow)(aa:Sx):Prop
 |mk (o:Ok K c r.2 aa) (g:ng c aa f r.1):eO K c r f aa
def bQ(K:Ks)(t:Stmt)(r:SS):Prop:=∀c σ X,cj K c->Ok K c σ X->Sm c (cK c) X (r σ X.st) (.wp c (exec t c.env)) (eO K c)
def eg(K:Ks)(ts:List Stmt)(r:SS):Prop:=∀c σ X,cj K c->Ok K c σ X->Sm c (cK c) X (r σ X.st) (.wp c (execs ts c.env)) (eO K c)
section
variable{α β:Type}{K:Ks}{c:Cx}{W:Addr->Prop}{X:Sx}{R:Res α}{P:α->β->Sx->Prop}{s':Shared}
theorem Po.up{v}(p:Po c no X R P v s'):Po c W X R P v s':=by induction p with | mk a aa e n w p=>exact⟨a,aa,e,n.kA,w,p⟩
theorem dW.up{x}(p:dW c no X R x s'):dW c W X R x s':=by induction p with | mk aa e n w f=>exact⟨aa,e,n.kA,w,f⟩
theorem Sm.up{F}(h:Sm c no X R F P):Sm c W X R F P:=λhr=>F.mono (h hr) (λJ J p=>p.up) λJ J p=>p.up
theorem Sm.jY{γ δ:Type}{σ:List (Option D)}(C:cj K c)(o:Ok K c σ X){F:PT β}{f:α->List M->Res γ}{G:β->PT δ}{P':γ->δ->Sx->Prop}(h:Sm c no X R F P)(k:∀a v aa,Nx c no X aa->Ok K c σ aa->P a v aa->Sm c W aa (f a aa.st) (G v) P'):Sm c W X (R.bind f) (F.bind G) P':=by
 intro hr
 refine F.mono (h (gH hr)) (λv s' p=>?_) λx s' p=>p.up.bind
 induction p with | mk a aa e n w p=>
 subst e
 exact(k a v aa n (o.next C w n) p).back n.kA hr
theorem Sm.pA{γ δ:Type}{σ:List (Option D)}(C:cj K c)(o:Ok K c σ X){F:PT β}{f:α->List M->Res γ}{G:β->PT δ}{P':γ->δ->Sx->Prop}(h:Sm c no X R F P)(k:∀a v aa,Ok K c σ aa->P a v aa->Sm c W aa (f a aa.st) (G v) P'):Sm c W X (R.bind f) (F.bind G) P':=
 .jY C o h λa v aa J=>k a v aa
theorem eO.next{σ}(o:Ok K c σ X):eO K c (.next,σ) .next X:=⟨o,.next⟩
noncomputable def B7(b:SS):Fl×List (Option D)->List M->Res (Fl×List (Option D))
 |(.next,σ),st=>b σ st
 |x,st=>.ok x st
noncomputable def VR:SS:=λσ st=>.ok (.next,σ) st
noncomputable def VS(a b:SS):SS:=λσ st=>(a σ st).bind (B7 b)
set_option backward.match.sparseCases true in
noncomputable def PT.andThen(F:PT Flow)(f:Flow):PT Flow:=⟨λQ E s=>match f with | .next=>F.run Q E s | f=>Q f s,λh a e=>by
 cases f with
 |next=>exact F.mono h a e
 |_=>exact a _ _ h⟩
theorem ng.andThen{f}{fl}{σ}{aa}(g:ng c aa f fl)(o:Ok K c σ aa){F}{r}(h:Sm c W aa (r σ aa.st) F (eO K c)):Sm c W aa (B7 r (fl,σ) aa.st) (.andThen F f) (eO K c):=by
 induction g with
 |next=>exact h
 |cont=>exact λJ=>.id o.w ⟨o,.cont⟩
 |ret r=>exact λJ=>.id o.w ⟨o,.ret r⟩
theorem eg.nil:eg K [] VR:=λJ J J J o J=>uY (.id o.w (.next o))
theorem eg.cons{t}{ts}{r r'}(h:bQ K t r)(Y:eg K ts r'):eg K (t::ts) (VS r r'):=λc σ X C o hr=>
 JA ((h c σ X C o).bind (G:=.andThen (.wp c (execs ts c.env))) (λr f aa n w p=>by
  obtain⟨o',g⟩:=p
  obtain⟨fl,σ'⟩:=r
  exact g.andThen o' (Y c σ' aa C o')) hr)
noncomputable def VT(a:SE):SS:=λσ st=>(a σ st).bind λd st=>.ok (.ret d,σ) st
theorem bQ.ret{e:Expr}{pos:Pos}{r:SE}(h:ay K e r):bQ K (.Return (some e) pos) (VT r):=λc σ X C o hr=>
 UM (Sm.pA C o (h c σ X C o) (G:=λv=>.pure (Flow.ret v)) (P':=eO K c) (λJ J J o p=>.pure o.w ⟨o,.ret p⟩) hr)
noncomputable def VU(t:ST)(a b:SS):SS:=λσ st=>(t σ st).bind λx st=>if x then a σ st else b σ st
theorem bQ.ite{t:Expr}{a b:List Stmt}{pos:Pos}{rt:ST}{ra rb:SS}(ht:ec K t rt)(ha:eg K a ra)(hb:eg K b rb):bQ K (.If t a b pos) (VU rt ra rb):=λc σ X C o hr=>
 Uv (Sm.pA C o (ht c σ X C o) (G:=λx=>.cond x (.wp c (execs a c.env)) (.wp c (execs b c.env))) (λJ J aa o p=>.cond p (ha c σ aa C o) (hb c σ aa C o)) hr)
noncomputable def VV:SS:=λσ st=>.ok (.cont,σ) st
theorem bQ.cont{pos}:bQ K (.Continue pos) VV:=λJ J J J o J=>gg<|wpAny_Continue (.id o.w ⟨o,.cont⟩)
noncomputable def VW:Value->Bool
 |.ref _=>false
 |_=>true
noncomputable def J8:D->Bool
 |.none | .bool _ | .int _ | .str _ | .bytes _=>true
 |_=>false
noncomputable def J9(σ:List (Option D))(d:D)(st:List M):Res (Fl×List (Option D)):=if J8 d then .ok (.next,σ) st else .stuck
noncomputable def VX(a:SE):SS:=λσ st=>(a σ st).bind (J9 σ)
theorem VY{v}{d}(r:bJ c X v d)(h:J8 d=true):VW v=true:=by
 cases d with
 |none=>cases r.inv;rfl
 |bool=>cases r.mf;rfl
 |int=>obtain⟨t,rfl⟩:=r.dv;rfl
 |str=>obtain⟨t,rfl⟩:=r.fS;rfl
 |bytes=>obtain⟨b,t,rfl,_⟩:=r.fm;rfl
 |_=>exact absurd h em
set_option backward.match.sparseCases true in
noncomputable def PT.drop(v:Value):PT Flow:=⟨λQ J s=>match v with | .ref _=>False | _=>Q .next s,λh a J=>by
 cases v with
 |ref=>exact h
 |_=>exact a _ _ h⟩
theorem bQ.expr{e:Expr}{pos:Pos}{r:SE}(h:ay K e r)(hs:autoParam (∀env,swapsWith e none pos.line env=pure false) k2):bQ K (.Expr e pos) (VX r):=λc σ X C o hr=>
 UN (Sm.pA C o (h c σ X C o) (G:=.drop) (P':=eO K c) (λd v aa o p=>.iff λhf J=>by
  have hi:=VY p hf
  have q:Po c (cK c) aa (.ok (.next,σ) aa.st) (eO K c) .next aa.s:=.id o.w (.next o)
  cases v with
  |ref=>exact absurd hi em
  |_=>exact q) hr) (by unfold interactive;rw[C.scope,C.kind];rfl) (hs _)
theorem Ka{σ:List (Option D)}{i j:Nat}{d e:D}(h:(σ.set i (some d))[j]?=some (some e)):(j=i/\e=d)\/(j≠i/\σ[j]?=some (some e)):=by
 by_cases q:i=j
 .subst q
  have I:i<(σ.set i (some d)).length:=(bH.mp h).1
  rw[getElem?_set_self (by rwa [et] at I)] at h
  exact .inl ⟨rfl,(Option.some.inj (Option.some.inj h)).symm⟩
 .exact .inr ⟨λz=>q z.symm,(di q).symm.trans h⟩
theorem VZ{l:List Str}(hn:l.Nodup){i j:Nat}{x:Str}(hi:l[i]?=some x)(hj:l[j]?=some x):i=j:=by
 obtain⟨h1,e1⟩:=bH.mp hi
 obtain⟨h2,e2⟩:=bH.mp hj
 have P:=List.pairwise_iff_getElem.mp hn
 rcases Nat.lt_trichotomy i j with q | q | q
 .exact absurd (e1.trans e2.symm) (P i j h1 h2 q)
 .exact q
 .exact absurd (e2.trans e1.symm) (P j i h2 h1 q)
theorem B8{a}(ha:a∈c.ex)(hs:Heap.SameBut a X.s.heap s'.heap)(hg:s'.gens=X.s.gens)(ho:s'.os=X.s.os)(w:aC c X)(h1:∃o,s'.heap.get? a=some o):iE c c X (· = a) s':=
 ⟨hg,ho,λb J e t=>(hs.2 b t).trans e,λJ J J t=>.inl (t▸ha),λb hb=>⟨.inl hb,by
  by_cases q:b=a
  .rw[q];exact h1
  .exact(w.fC b hb).imp λo e=>(hs.2 b q).trans e⟩⟩
theorem aC.own{a}(w:aC c X)(m:iE c c X (· = a) s')(h1:∃o,s'.heap.get? a=some o/\((∃Z n,o.data=.dict Z n)\/¬d9 c a)):aC c (X.to s'):=
 w.move m rfl rfl rfl λe he=>by
  obtain⟨q,L,o,r1,r2,r3,Z,n,r4⟩:=w.gf e he
  by_cases z:L=a
  .obtain⟨o',e',hd⟩:=h1
   rcases hd with⟨Z,n,hd⟩ | hd
   .exact⟨q,L,o',r1,r2,z▸e',Z,n,hd⟩
   .exact absurd ⟨e,he,z▸r1⟩ hd
  .exact⟨q,L,o,r1,r2,m.keep L o r3 z,Z,n,r4⟩
theorem Nx.own{a}(m:iE c c X (· = a) s')(hW:W a)(ha:a∈c.ex):Nx c W X (X.to s'):=
 ⟨J0 X,λb o e J q=>m.keep b o e λz=>q.elim (λq=>q (z▸ha)) λq=>q.1 (z▸hW),λb o e J q=>⟨o.slots,m.keep b o e λz=>q (z▸hW)⟩,λb o e=>by
  by_cases z:b=a
  .rw[z];exact(m.ex a ha).2
  .exact⟨o,m.keep b o e z⟩,λJ J h=>h⟩
theorem V0{h:Heap}{a:Addr}{m m':Str->Option Value}(x:h.Ns a m)(x':h.Ns a m'):m=m':=by
 obtain⟨o1,Z,ep,q1,q2,_,q3⟩:=x
 obtain⟨o2,es',ep',w1,w2,_,w3⟩:=x'
 cases q1.symm.trans w1
 cases q2.symm.trans w2
 funext y
 exact(q3 y).symm.trans (w3 y)
theorem Ok.put{σ:List (Option D)}{i:Nat}{x:Str}{v:Value}{d:D}{a:Addr}(o:Ok K c σ X)(hn:K.nm[i]?=some x)(hd:K.nm.Nodup)(r:bJ c X v d)(m:iE c c X (· = a) s')(w:aC c (X.to s'))
  (loc:∃m,s'.heap.Ns c.env.locals m)(jW:∀x b,c.env.cells.lookup x=some b->∃v,s'.heap.IsCell b v)(hx:mi c.env s'.heap x v)(hy:∀y u,y≠x->mi c.env X.s.heap y u->mi c.env s'.heap y u):Ok K c (σ.set i (some d)) (X.to s'):=by
 have up:∀{v d},bJ c X v d->bJ c (X.to s') v d:=λr=>r.stays (o.w.stays m) ⟨[],(c9 _).symm⟩
 refine⟨w,loc,jW,λj e he=>?_⟩
 rcases Ka he with⟨rfl,rfl⟩ | ⟨hj,he⟩
 .exact⟨x,v,hn,hx,up r⟩
 .obtain⟨y,u,Kb,I,hr⟩:=o.var j e he
  exact⟨y,u,Kb,hy y u (λq=>hj (VZ hd Kb (q▸hn))) I,up hr⟩
theorem Ok.store{σ:List (Option D)}{i:Nat}{x:Str}{v:Value}{d:D}(C:cj K c)(o:Ok K c σ X)(hn:K.nm[i]?=some x)(hd:K.nm.Nodup)
  (hk:(K.scope.names.lookup x=some .local\/K.scope.names.lookup x=some .cell)/\x∈K.bd)(r:bJ c X v d){E:Value->Shared->Prop}{Q:Unit->Shared->Prop}
  (h:∀s',Ok K c (σ.set i (some d)) (X.to s')->Nx c (cK c) X (X.to s')->Q () s'):af c.M c.A (storeName c.env x v) Q E X.s:=by
 rcases hk.1 with k | k
 .obtain⟨m,hm⟩:=o.loc
  refine gg<|wpAny_storeName_local ((ib C x).trans k) hm (λY fD nh=>?_) (by rw[kB C];rfl)
  have sb:∀b,b≠c.env.locals->Y.get? b=X.s.heap.get? b:=nh.2
  obtain⟨ob,Z,ep,e1,e2,_⟩:=id fD
  have M:=B8 (s':={X.s with heap:=Y,toks:=X.s.toks+1}) C.loc nh rfl rfl o.w ⟨ob,e1⟩
  refine h _ (o.put hn hd r M (o.w.own M ⟨ob,e1,.inl ⟨Z,ep,e2⟩⟩) ⟨_,fD⟩ (λy a hc=>?_) (.inl ⟨(ib C x).trans k,_,fD,ax rfl⟩) λy u B9 I=>?_) (.own M (.inl rfl) C.loc)
  .exact(o.jW y a hc).imp λu hu=>let ⟨ob,ho,hd⟩:=hu;⟨ob,(sb _ (C.cell y a hc).2).trans ho,hd⟩
  .rcases I with⟨h1,m',h2,h3⟩ | ⟨h1,a,h2,h3⟩
   .exact .inl ⟨h1,_,fD,(aY B9).trans (V0 hm h2▸h3)⟩
   .exact .inr ⟨h1,a,h2,h3.sameBut nh (C.cell y a h2).2⟩
 .cases hc:c.env.cells.lookup x with
  |none=>exact nomatch (C.own x k).symm.trans (aw Option.isSome hc)
  |some a=>
   obtain⟨jF,bq⟩:=C.cell x a hc
   obtain⟨kD,tc⟩:=o.jW x a hc
   refine gg<|wpAny_storeName_cell (kB C) ((ib C x).trans k) hc tc λY fD nh=>?_
   obtain⟨ob,e1,_⟩:=id fD
   have M:=B8 (s':={X.s with heap:=Y}) jF nh rfl rfl o.w ⟨ob,e1⟩
   refine h _ (o.put hn hd r M (o.w.own M ⟨ob,e1,.inr λ⟨e',jD,va⟩=>?_⟩) (o.loc.imp λm hm=>hm.sameBut nh (Ne.symm bq)) (λy b hb=>?_) (.inr ⟨.inl ((ib C x).trans k),a,hc,fD⟩) λy u B9 I=>?_) (.own M (.inr ⟨x,C.bd▸hk.2,hc⟩) jF)
   .obtain⟨_,L,o',r1,r2,r3,Z,en,gp⟩:=o.w.gf e' jD
    obtain⟨o0,h0,qv⟩:=tc
    cases va.symm.trans r1
    cases h0.symm.trans r3
    exact nomatch qv.symm.trans gp
   .by_cases q:b=a
    .exact⟨_,q▸fD⟩
    .exact(o.jW y b hb).imp λu hu=>hu.sameBut nh q
   .rcases I with⟨h1,m',h2,h3⟩ | ⟨h1,b,h2,h3⟩
    .exact .inl ⟨h1,m',h2.sameBut nh (Ne.symm bq),h3⟩
    .exact .inr ⟨h1,b,h2,h3.sameBut nh λq=>B9 (C.inj y x a (q▸h2) hc)⟩
def Bound(K:Ks)(i:Nat)(x:Str):Prop:=K.nm[i]?=some x/\K.nm.Nodup/\(K.scope.names.lookup x=some .local\/K.scope.names.lookup x=some .cell)/\x∈K.bd
noncomputable def PT.store(c:Cx)(x:Str)(v:Value):PT Flow:=⟨λQ E s=>af c.M c.A (storeName c.env x v) (λJ=>Q .next) E s,λh a e=>aE h (λJ=>a _) e⟩
theorem Sm.store{σ}{i}{x}{v}{d}(C:cj K c)(o:Ok K c σ X)(b:Bound K i x)(r:bJ c X v d):Sm c (cK c) X (.ok (.next,σ.set i (some d)) X.st) (.store c x v) (eO K c):=
 λJ=>o.store C b.1 b.2.1 b.2.2 r λs' o' n=>⟨_,X.to s',rfl,n,o'.w,.next o'⟩
noncomputable def Kd(i:Nat)(a:SE):SS:=λσ st=>(a σ st).bind λd st=>.ok (.next,σ.set i (some d)) st
theorem bQ.set{i:Nat}{x:Str}{px pos:Pos}{e:Expr}{r:SE}(hb:Bound K i x)(h:ay K e r)(hs:autoParam (∀env,swapsWith e (some (.Name x px)) pos.line env=pure false) k2):bQ K (.Assign [.Name x px] e pos) (Kd i r):=λc σ X C o hr=>
 BJ (Sm.pA C o (h c σ X C o) (G:=.store c x) (λJ J J o p=>.store C o hb p) hr) (hs _)
end
noncomputable def fE(c:Cx):List Addr:=c.fr.filterMap (·.frame)
theorem xq{c}{a}:a∈fE c↔d9 c a:=mem_filterMap
@[reducible] noncomputable def hp(X:Sx)(h:Heap):Sx:=⟨X.ρ,X.st,{X.s with heap:=h}⟩
section
variable{c:Cx}{W:Addr->Prop}{X ae:Sx}{Y:Heap}{F:List Addr}
theorem td(w:aC c X){a}{o}(h:d9 c a)(e:X.s.heap.get? a=some o):a∈c.ex/\∀vs,o.data≠.fields vs:=by
 obtain⟨e',he,hf⟩:=h
 obtain⟨_,L,o',r1,r2,r3,Z,en,hd⟩:=w.gf e' he
 cases hf.symm.trans r1
 cases e.symm.trans r3
 exact⟨r2,λvs z=>nomatch hd.symm.trans z⟩
structure jZ(c:Cx)(ae X:Sx)(F:List Addr):Prop where
 new:∀a∈F,ae.s.heap.get? a=none
 Ke:∀a∈F,∃o vs,X.s.heap.get? a=some o/\o.data=.fields vs
 out:∀a∈F,a∉c.ex
theorem jZ.Ca(r:jZ c ae X F){a}{o}(e:ae.s.heap.get? a=some o):a∉F:=λq=>nomatch e.symm.trans (r.new a q)
theorem vb(w:aC c X)(n:Nx c W ae X)(ie:c.B.StaysIn ae.s.heap)(r:jZ c ae X F)(hb:(hideAll X.s.heap (fE c++F)).StaysIn Y)(hu:X.s.heap.UpToSlots Y):Nx c W ae (hp X Y)/\aC c (hp X Y):=by
 have k:∀a o,X.s.heap.get? a=some o->¬(a∈F\/d9 c a)->Y.get? a=some o:=λa o e h=>hb a o (hideAll_get _ e λq=>h ((cy.mp q).elim (λq=>.inr (xq.mp q)) .inl))
 have kx:∀a o,X.s.heap.get? a=some o->a∉F->∃sl,Y.get? a=some {o with slots:=sl}:=λa o e h2=>by
  by_cases z:d9 c a
  .exact hu a o e (td w z e).2
  .exact⟨o.slots,k a o e λq=>q.elim h2 z⟩
 have fx:∀a o,X.s.heap.get? a=some o->a∉c.ex->¬d9 c a:=λa o e h z=>h (td w z e).1
 constructor
 .refine⟨n.ext,λa o e I q=>k a o (n.keep a o e I q) λz=>z.elim (r.Ca e) (q.elim (fx a o (n.keep a o e I q)) And.right),λa o e I q=>?_,λa o e=>?_,n.dead⟩
  .obtain⟨sl,e'⟩:=n.slot a o e I q
   obtain⟨sN,e3⟩:=kx a _ e' (r.Ca e)
   exact⟨sN,e3⟩
  .obtain⟨o',e'⟩:=n.there a o e
   obtain⟨sN,e3⟩:=kx a _ e' (r.Ca e)
   exact⟨_,e3⟩
 .have M:iE c c X (λa=>a∈F\/d9 c a) {X.s with heap:=Y}:=⟨rfl,rfl,k,λa o e t=>t.elim (λq=>.inr ⟨u6 (λa o e=>⟨o,ie a o e⟩) (r.new a q),by
    obtain⟨o',vs,e',hd⟩:=r.Ke a q
    cases e.symm.trans e'
    exact⟨vs,hd⟩⟩) λq=>.inl (td w q e).1,λa ha=>⟨.inl ha,by
   obtain⟨o,e⟩:=w.fC a ha
   obtain⟨sl,e'⟩:=kx a o e λhf=>r.out a hf ha
   exact⟨_,e'⟩⟩⟩
  refine w.move M rfl rfl rfl λe he=>?_
  obtain⟨q,L,o,r1,r2,r3,Z,en,hd⟩:=w.gf e he
  obtain⟨sl,e'⟩:=hu L o r3 λvs z=>nomatch hd.symm.trans z
  exact⟨q,L,_,r1,r2,e',Z,en,hd⟩
theorem vc(w:aC c X)(F:List Addr){l}(h:∀e∈l,e∈c.fr):X.s.heap.FunFrames (hideAll X.s.heap (fE c++F)) l:=by
 induction l with
 |nil=>trivial
 |cons e l ih=>
  obtain⟨q,L,o,r1,r2,r3,Z,en,hd⟩:=w.gf e (h e (.head _))
  exact⟨q,⟨L,o,r1,hideAll_none _ (fP _ (xq.mpr ⟨e,h e (.head _),r1⟩)),r3,λvs z=>nomatch hd.symm.trans z⟩,ih λe' he=>h e' (.tail _ he)⟩
theorem V1(w:aC c X)(V2:∀a∈F,a∉c.ex)(hu:X.s.heap.UpToSlots Y){T}{oT}{ts}(g5:(hideAll X.s.heap (fE c++F)).get? T=none)(g7:Y.get? T=some oT)(g8:oT.data=.fields ts):T∉c.ex:=λq=>by
 obtain⟨o,e⟩:=w.fC T q
 by_cases z:d9 c T
 .obtain⟨sl,e'⟩:=hu T o e (td w z e).2
  cases g7.symm.trans e'
  exact(td w z e).2 ts g8
 .exact nomatch g5.symm.trans (hideAll_get (fE c++F) e λq'=>(cy.mp q').elim (λq'=>z (xq.mp q')) λq'=>V2 T q' q)
theorem Kf(w:aC c X)(n:Nx c W ae X)(r:jZ c ae X F)(hu:X.s.heap.UpToSlots Y){T}{oT}{ts}(g5:(hideAll X.s.heap (fE c++F)).get? T=none)(g7:Y.get? T=some oT)(g8:oT.data=.fields ts):T∉c.ex/\ae.s.heap.get? T=none:=by
 have Kg:T∉c.ex:=V1 w r.out hu g5 g7 g8
 refine⟨Kg,?_⟩
 by_cases q:T∈F
 .exact r.new T q
 .cases z:ae.s.heap.get? T with
  |none=>rfl
  |some o=>
   obtain⟨o',e'⟩:=n.there T o z
   exact nomatch g5.symm.trans (hideAll_get (fE c++F) e' λz=>(cy.mp z).elim (λz=>Kg (td w (xq.mp z) e').1) q)
def Kh(c:Cx)(ae:Sx)(x:Value)(h:Heap):Prop:=∀c':Cx,(∀a∈c'.ex,a∈c.ex)->∀db:Heap,(∀a,ae.s.heap.get? a=none->db.get? a=none)->mj c' db x h
theorem Ki(w:aC c X)(n:Nx c W ae X)(r:jZ c ae X F){e}(he:e∈F){cls}(hc:cls=.ref 57)(hu:X.s.heap.UpToSlots Y)(t:Y.Traced (hideAll X.s.heap (fE c++F)) e cls):Kh c ae (.ref e) Y:=by
 intro c' Kj db hh
 obtain⟨Cb,jc,T,oT,ts,g1,g2,g3,g4,g5,g6,g7,g8,g9⟩:=t
 obtain⟨q1,q2⟩:=Kf w n r hu g5 g7 g8
 exact⟨e,Cb,jc,rfl,λq=>r.out e he (Kj _ q),hh _ (r.new e he),g1,g2.trans hc,g3,.inr ⟨T,oT,ts,.none,g4,g6,λq=>q1 (Kj _ q),hh _ q2,g7,g8,g9⟩⟩
theorem Cc{e}{oe}{vs}(h2:e∉c.ex)(h3:ae.s.heap.get? e=none)(h4:X.s.heap.get? e=some oe)(h6:oe.data=.fields vs):jZ c ae X [e]:=
 ⟨λa ha=>dT.mp ha▸h3,λa ha=>dT.mp ha▸⟨oe,vs,h4,h6⟩,λa ha=>dT.mp ha▸h2⟩
theorem Kk{e}(r:jZ c ae X [e]){T}{oT}{ts}(h2:T∉c.ex)(h3:ae.s.heap.get? T=none)(h4:X.s.heap.get? T=some oT)(h6:oT.data=.fields ts):jZ c ae X [e,T]:=
 ⟨λa ha=>(dI.mp ha).elim (λq=>r.new a (q▸.head _)) λha=>dT.mp ha▸h3,λa ha=>(dI.mp ha).elim (λq=>r.Ke a (q▸.head _)) λha=>dT.mp ha▸⟨oT,ts,h4,h6⟩,
  λa ha=>(dI.mp ha).elim (λq=>r.out a (q▸.head _)) λha=>dT.mp ha▸h2⟩
theorem V3{α:Type}{iD:List Env}{L:Addr}{R:Res α}{x:Value}{s:Shared}(hA:c.A.frames=some c.fr)(qw:c.fr=c.env::iD)(hL:c.env.frame=some L)(ie:c.B.StaysIn ae.s.heap)(p:dW c (cK c) ae R x s)
  {Q:Unit->Shared->Prop}{E:Value->Shared->Prop}(h:∀aa,R=.bad aa.st->Nx c (cK c) ae aa->aC c aa->Kh c ae x aa.s.heap->Q () aa.s):af c.M c.A (leaving c.env x) Q E s:=by
 have vd:c.A.frames=some (c.env::iD):=qw▸hA
 have tg:∀e'∈c.env::iD,e'∈c.fr:=λe' h=>qw▸h
 obtain⟨X,hR,n,w,e,oe,vs,rfl,jF,nk,he,kE,hd,ht⟩:=p
 have r1:jZ c ae X [e]:=Cc jF nk he hd
 rcases ht with h1 | ⟨T,oT,ts,fl,h1,nq,qx,qy,hT,gJ,h3⟩
 .refine gg<|wpAny_leaving_first (base:=hideAll X.s.heap (fE c++[e])) vd (vc w _ tg) hL he (λb o q=>of_hideAll _ q) (hideAll_none _ (cA _ (.head _))) hd h1 λY ⟨k1,k2,k3,k4⟩=>?_
  obtain⟨n',w'⟩:=vb w n ie r1 k1 k4
  exact h (hp X Y) hR n' w' (Ki w n r1 (.head _) kE k4 k3)
 .have r2:jZ c ae X [e,T]:=Kk r1 qx qy hT gJ
  have bc:∀Y,(hideAll X.s.heap (fE c++[e,T])).StaysIn Y->Y.Traced (hideAll X.s.heap (fE c++[e,T])) e oe.cls->X.s.heap.UpToSlots Y->Q () {X.s with heap:=Y}:=λY k1 k3 k4=>by
   obtain⟨n',w'⟩:=vb w n ie r2 k1 k4
   exact h (hp X Y) hR n' w' (Ki w n r2 (.head _) kE k4 k3)
  have be:(hideAll X.s.heap (fE c++[e,T])).get? e=none:=hideAll_none _ (cA _ (.head _))
  have bT:(hideAll X.s.heap (fE c++[e,T])).get? T=none:=hideAll_none _ (cA _ (.tail _ (.head _)))
  have fa:1<vs.size:=(Array.getElem?_eq_some_iff.mp h1).1
  by_cases hq:(fl==rawInt L)=true
  .cases eq_of_beq hq
   have tr:X.s.heap.TracedAtW (hideAll X.s.heap (fE c++[e,T])) e oe.cls vs[0] (rawInt L):=⟨oe,vs,T,oT,ts,he,⟨rfl,oC (Nat.lt_of_succ_lt fa)⟩,hd,h1,bT,nq,hT,gJ,h3⟩
   unfold leaving
   refine ak (gg<|wpAny_noteFrame_againW hL tr ?_)
   refine gg<|wpAny_landsW (base:=hideAll X.s.heap (fE c++[e,T])) (l:=c.env::iD) ⟨λb o q=>of_hideAll _ q,be,vc w _ tg,tr⟩ λY V4 hu=>?_
   obtain⟨k1,k2,k3,k4⟩:=V4.flying
   exact bc Y k1 k4 hu
  .unfold leaving noteFrame
   simp only[hL]
   refine ak (ak (gg<|wpAny_field he hd h1 ?_))
   rw[ax (show(Value.ref T != Value.none)=true from rfl)]
   refine ak (gg<|wpAny_field hT gJ h3 ?_)
   rw[aY hq]
   refine ak (gg<|wpAny_setField hT gJ (Array.getElem?_eq_some_iff.mp h3).1 ?_)
   have j3:∀b,b≠T->(X.s.heap.update T (Obj.mapFields (·.setIfInBounds 3 Value.none))).get? b=X.s.heap.get? b:=λb hb=>Heap.get?_update_other _ _ (Ne.symm hb)
   have ve:∀b o,X.s.heap.get? b=some o->(∀vs,o.data≠.fields vs)->b≠T:=λb o hb j4 q=>by
    subst q
    cases hT.symm.trans hb
    exact j4 ts gJ
   refine aE (gg<|wpAny_newEntry (Q:=Q) (E:=E) (base:=hideAll X.s.heap (fE c++[e,T])) vd ((vc w [e,T] tg).of_keeps λb o hb j4=>⟨o,(j3 b (ve b o hb j4)).trans hb,rfl⟩) hL ((j3 e (Ne.symm nq)).trans he)
    (λb o vf=>(j3 b λq=>nomatch (q▸vf:_=some o).symm.trans bT).trans (of_hideAll _ vf)) be hd fa λY ⟨x1,x2,x3,x4⟩=>?_) (λJ J h=>gg h) λJ J h=>h
   exact bc Y x1 x3 λb o hb j4=>x4 b o ((j3 b (ve b o hb j4)).trans hb) j4
end
section
variable{c c':Cx}{W W':Addr->Prop}{X aa:Sx}{F:List Addr}{s':Shared}
structure Inner(c c':Cx)(X:Sx)(F:List Addr)(s':Shared):Prop where
 B:c'.B=c.B
 os:c'.os=c.os
 w:c'.w=c.w
 ex:∀a,a∈c'.ex↔a∈F\/a∈c.ex
 ups:eZ X.s.heap s'.heap
 gens:s'.gens=X.s.gens
 same:s'.os=X.s.os
 new:∀a∈F,X.s.heap.get? a=none/\∃o,s'.heap.get? a=some o
 fr:∀e∈c'.fr,e∈c.fr\/(qt s'.heap c'.ex e/\∀L,e.frame=some L->L∈F)
 sub:∀e∈c.fr,e∈c'.fr
theorem Kl(w:aC c X){e}(he:e∈c.fr){L}(hL:e.frame=some L):L∈c.ex:=by
 obtain⟨_,L',o,r1,r2,_⟩:=w.gf e he
 exact Option.some.inj (r1.symm.trans hL)▸r2
section
variable(au:Inner c c' X F s')(w:aC c X)
include au w
theorem Inner.moves:iE c c' X no s':=⟨au.gens,au.same,λa o e J=>au.ups a o e,λJ J J t=>t.elim,λa ha=>by
 exact((au.ex a).mp ha).elim (λh=>⟨.inr (au.new a h).1,(au.new a h).2⟩) λh=>⟨.inl h,(w.fC a h).imp λo e=>au.ups a o e⟩⟩
theorem Inner.enter:aC c' (X.to s'):=w.move (au.moves w) au.B au.os au.w λe he=>(au.fr e he).elim (λh=>(w.gf e h).keeps λL o J a b=>⟨(au.ex L).mpr (.inr a),au.ups L o b⟩) And.left
theorem Inner.rd{v}{d}(r:bJ c X v d):bJ c' (X.to s') v d:=r.stays (w.stays (au.moves w)) ⟨[],(c9 _).symm⟩
theorem Inner.gG{v}{d}(r:cq c X v d):cq c' (X.to s') v d:=r.stays (w.stays (au.moves w)) ⟨[],(c9 _).symm⟩
theorem Inner.exit(w':aC c' aa):aC c aa:=
 w'.move (c':=c) (T:=no) (s':=aa.s) ⟨rfl,rfl,λJ J e J=>e,λJ J J t=>t.elim,λa ha=>⟨.inl ((au.ex a).mpr (.inr ha)),w'.fC a ((au.ex a).mpr (.inr ha))⟩⟩ au.B.symm au.os.symm au.w.symm λe he=>(w'.gf e (au.sub e he)).keeps λL o hL J b=>⟨Kl w he hL,b⟩
theorem Inner.Km(n:Nx c' W (X.to s') aa)(hW:∀a,W a->W' a\/X.s.heap.get? a=none):Nx c W' X aa:=by
 have lc:∀{a o},X.s.heap.get? a=some o->¬W' a->¬W a:=λe q z=>(hW _ z).elim q λz=>nomatch e.symm.trans z
 have hf:∀{a o},X.s.heap.get? a=some o->¬d9 c a->¬d9 c' a:=λe q ⟨e',he,hL⟩=>(au.fr e' he).elim (λh=>q ⟨e',h,hL⟩) λh=>nomatch e.symm.trans (au.new _ (h.2 _ hL)).1
 obtain⟨e,he,hn⟩:=n.ext
 refine⟨⟨e,he,λp hp a ha=>u6 (λa o e=>⟨o,au.ups a o e⟩) (hn p hp a ha)⟩,λa o e I q=>n.keep a o (au.ups a o e) I (q.imp (λq z=>?_) λq=>⟨lc e q.1,hf e q.2⟩),λa o e I q=>n.slot a o (au.ups a o e) I (lc e q),λa o e=>n.there a o (au.ups a o e),n.dead⟩
 exact((au.ex a).mp z).elim (λz=>nomatch e.symm.trans (au.new a z).1) q
omit w in
theorem Inner.back{v}{d}(r:bJ c' aa v d):bJ c aa v d:=r.weak λJ h=>h.imp_right λq=>(au.ex _).mpr (.inr q)
end
end
def bB(lv:Nat)(a:Addr)(r:List D->List M->Res D):Prop:=∀c X vs V,CxA lv c->aC c X->cq c X vs V->Sm c no X (r V X.st) (.wp c (call (.ref a) vs)) (cm c)
theorem Cd{α:Type}{l:List (Str×α)}{x:Str}{a:α}(h:(x,a)∈l):(l.lookup x).isSome=true:=by
 induction l with
 |nil=>exact nomatch h
 |cons p r ih=>
  rw[lookup_cons]
  cases hb:x==p.1 with
  |true=>rfl
  |false=>exact(dI.mp h).elim (λe=>by rw[<- e,beq_self_eq_true] at hb;cases hb) ih
theorem V5(names):∀n acc (p),p∈acc->p∈cellsFrom n names acc:=by
 induction names with
 |nil=>exact λJ J J h=>h
 |cons q r ih=>
  intro n acc p h
  unfold cellsFrom
  split
  .exact ih _ _ _ (.tail _ h)
  .exact ih _ _ _ h
theorem Kn(names)(x):∀n acc,(x,NameKind.cell)∈names->∃a,(x,a)∈cellsFrom n names acc:=by
 induction names with
 |nil=>exact λJ J h=>nomatch h
 |cons q r ih=>
  intro n acc h
  unfold cellsFrom
  rcases dI.mp h with e | h
  .cases e
   exact⟨n,V5 r _ _ _ (.head _)⟩
  .split
   .exact ih _ _ h
   .exact ih _ _ h
theorem Ce{names:List (Str×NameKind)}{x:Str}(n)(h:names.lookup x=some .cell):((cellsFrom n names []).lookup x).isSome=true:=
 let ⟨_,ha⟩:=Kn names x n [] (mem_of_lookup h)
 Cd ha
section
variable{k:Str->Option NameKind}{x:Str}{u:Value}{b:List (Str×Value)}
theorem V6(h:x∉b.map (·.1))(m:Str->Option Value):bindL k b m x=m x:=by
 induction b generalizing m with
 |nil=>rfl
 |cons p r ih=>
  obtain⟨y,z⟩:=p
  refine(ih (λq=>h (.tail _ q)) (if k y=some .local then λx=>if x=y then some z else m x else m)).trans ?_
  split
  .exact aY λq=>h (by rw[q];exact .head _)
  .rfl
theorem V7(h:x∉b.map (·.1))(m:Str->Option Value):bindC k b m x=m x:=by
 induction b generalizing m with
 |nil=>rfl
 |cons p r ih=>
  obtain⟨y,z⟩:=p
  refine(ih (λq=>h (.tail _ q)) (if k y=some .local then m else λx=>if x=y then some z else m x)).trans ?_
  split
  .rfl
  .exact aY λq=>h (by rw[q];exact .head _)
theorem Cf(hk:k x=some .local)(hn:(b.map (·.1)).Nodup)(h:(x,u)∈b)(m:Str->Option Value):bindL k b m x=some u:=by
 induction b generalizing m with
 |nil=>exact nomatch h
 |cons p r ih=>
  have hn:=nodup_cons.mp hn
  rcases dI.mp h with e | h
  .cases e;exact(V6 hn.1 (if k x=some .local then λy=>if y=x then some u else m y else m)).trans (by rw[ax hk];exact ax rfl)
  .exact ih hn.2 h _
theorem V8(hk:k x=some .cell)(hn:(b.map (·.1)).Nodup)(h:(x,u)∈b)(m:Str->Option Value):bindC k b m x=some u:=by
 induction b generalizing m with
 |nil=>exact nomatch h
 |cons p r ih=>
  have hn:=nodup_cons.mp hn
  rcases dI.mp h with e | h
  .cases e;exact(V7 hn.1 (if k x=some .local then m else λy=>if y=x then some u else m y)).trans (by rw[aY (by rw[hk];exact λq=>nomatch q)];exact ax rfl)
  .exact ih hn.2 h _
end
theorem map_fst_zip{α β:Type}(xs:List α)(ys:List β):(xs.zip ys).map (·.1)=xs.take ys.length:=by
 induction xs generalizing ys with
 |nil=>rw[List.take_nil];rfl
 |cons x xs ih=>cases ys with
  |nil=>rfl
  |cons y ys=>exact aw (x :: ·) (ih ys)
theorem V9{α β:Type}{xs:List α}{ys:List β}{i:Nat}{x:α}{y:β}(h1:xs[i]?=some x)(h2:ys[i]?=some y):(x,y)∈xs.zip ys:=
 cU (i:=i) (List.getElem?_zip_eq_some.mpr ⟨h1,h2⟩)
noncomputable def Cg(_:Unit):Fl×List (Option D)->List M->Res D
 |(.ret d,_),st=>.ok d st
 |(.next,_),st=>.ok .none st
 |(.cont,_),_=>.stuck
noncomputable def bK(k:Nat)(eE:List D)(n:Nat)(rb:SS):List D->List M->Res D:=λV st=>
 if V.length=k then(rb ((V++eE).map some++List.replicate n none) st).bind (Cg ()) else .stuck
theorem Wa{V:List D}{n i:Nat}{d:D}(h:(V.map some++List.replicate n none)[i]?=some (some d)):V[i]?=some d:=by
 rcases lt_or_ge i V.length with q | q
 .rw[dH (by rwa [aG]),getElem?_map] at h
  cases z:V[i]? with
  |none=>rw[z] at h;cases h
  |some d'=>rw[z] at h;cases h;rfl
 .rw[jz (by rwa [aG])] at h
  exact nomatch (mem_replicate.mp (cU h)).2
theorem qz{h:Heap}{a:Addr}(ha:h.objs.size<=a):h.get? a=none:=by
 cases e:h.get? a with
 |none=>rfl
 |some o=>exact absurd (Heap.lt_size e) (Nat.not_lt.mpr ha)
@[reducible] noncomputable def Cx.xr(c:Cx)(K:Ks)(bY:Env)(F:List Addr):Cx:={c with env:=bY,bd:=K.bd,A:=c.A.deeper bY,fr:=bY::c.fr,ex:=F++c.ex}
inductive Ko(K:Ks)(c:Cx)(X:Sx)(binds:List (Str×Value))(bY:Env)(s':Shared):Prop
 |mk (F:List Addr) (au:Inner c (c.xr K bY F) X F s') (C:cj K (c.xr K bY F))
  (L:Addr)(f:bY.frame=some L)(new:∀b,cK (c.xr K bY F) b->X.s.heap.get? b=none)(loc:∃m,s'.heap.Ns bY.locals m)(jW:∀y b,bY.cells.lookup y=some b->∃v,s'.heap.IsCell b v)
  (look:∀x u,(K.scope.names.lookup x=some .local\/K.scope.names.lookup x=some .cell)->(x,u)∈binds->mi bY s'.heap x u):Ko K c X binds bY s'
theorem Wb{K:Ks}{lv:Nat}{c:Cx}{X:Sx}{binds:List (Str×Value)}{qual:Str}{func:Option Addr}{code:Value}{bY:Env}{s':Shared}(jg:K.lv+1=lv)(m5:K.scope.kind=.function)(Ch:((cellsFrom 0 K.scope.names []).map (·.1)).Nodup)(ab:(binds.map (·.1)).Nodup)(C:CxA lv c)(he:bY=newEnv K.scope X.s.heap.objs.size mainGlobals (cellsFrom (X.s.heap.objs.size+1) K.scope.names []) qual func code none builtinsNs)
  (x:InCallC X.s bY.locals (bindL bY.kindOf binds λJ=>none) bY.cells (bindC bY.kindOf binds λJ=>none) s'):Ko K c X binds bY s':=by
 have Ci:bY.scope=K.scope:=by rw[he];rfl
 have Wc:bY.locals=X.s.heap.objs.size:=by rw[he];rfl
 have Cj:bY.cells=cellsFrom (X.s.heap.objs.size+1) K.scope.names []:=by rw[he];rfl
 have vg:bY.frame=some bY.locals:=by rw[he];rfl
 have ib:∀y,bY.kindOf y=K.scope.names.lookup y:=λy=>by show bY.scope.names.lookup y=_;rw[Ci]
 obtain⟨a7,tk,gd,_⟩:=x.done
 have tc:∀y b,(y,b)∈bY.cells->s'.heap.IsCell b (bindC bY.kindOf binds (λJ=>none) y):=λy b Wd=>x.cell y b (lookup_of_mem_nodup (by rw[Cj,cellsFrom_names K.scope.names _ 0 [] [] rfl];exact Ch) Wd)
 have Ck:∀y b,(y,b)∈bY.cells->bY.locals<b:=λy b h=>x.above y b h
 have fresh:∀b,bY.locals<=b->X.s.heap.get? b=none:=λb hb=>qz (Wc▸hb)
 obtain⟨oL,Z,ep,hL,We,_⟩:=id x.toInCall.ns
 refine⟨bY.locals::bY.cells.map (·.2),⟨rfl,rfl,rfl,λJ=>cy,x.toInCall.keep,by rw[gd],by rw[gd],λb hb=>?_,λe he=>?_,λe he=>.tail _ he⟩,⟨⟨?_,C.handled,C.guards,?_,?_,C.X,C.T⟩,Ci,rfl,m5,.head _,λy b hb=>⟨fP _ (.tail _ (mem_map_of_mem (f:=(·.2)) (mem_of_lookup hb))),Ne.symm (ne_of_lt (Ck y b (mem_of_lookup hb)))⟩,λy z b hy hz=>name_of_addr x.apart (mem_of_lookup hy) (mem_of_lookup hz),⟨bY,c.fr,_,rfl,vg,vg⟩,λy hy=>?_,by rw[he];rfl,by rw[he];rfl⟩,bY.locals,vg,λb hb=>?_,⟨_,x.toInCall.ns⟩,λy b hb=>⟨_,tc y b (mem_of_lookup hb)⟩,λy u hy hu=>?_⟩
 .rcases dI.mp hb with rfl | hb
  .exact⟨fresh _ (dC _),oL,hL⟩
  .obtain⟨⟨y,b'⟩,hm,rfl⟩:=da.mp hb
   obtain⟨o,h1,_⟩:=tc y b' hm
   exact⟨fresh _ (Nat.le_of_lt (Ck y b' hm)),o,h1⟩
 .rcases dI.mp he with rfl | he
  .exact .inr ⟨⟨(by rw[Ci,m5];exact nofun),_,oL,vg,.head _,hL,Z,ep,We⟩,λL hL=>Option.some.inj (vg.symm.trans hL)▸.head _⟩
  .exact .inl he
 .show c.A.frames.map _=_
  rw[C.frames];rfl
 .have:=C.depth
  show c.A.depth+1+6*K.lv<=900
  exact L2 [c.A.depth,K.lv,lv] 0x3843fa26b09021a19683843fa16b1a0994b jg this
 .have:=C.units
  show c.A.units+3+40*K.lv<=2000
  exact L2 [c.A.units,K.lv,lv] 0x7d03fa2282fb09021a19282f87d03fa1282fb3a0994b jg this
 .show(bY.cells.lookup y).isSome=true
  rw[Cj];exact Ce _ hy
 .exact hb.elim (λq=>fresh b (le_of_eq q.symm)) λ⟨y,_,q⟩=>fresh b (Nat.le_of_lt (Ck y b (mem_of_lookup q)))
 .rcases hy with q | q
  .exact .inl ⟨(ib y).trans q,_,x.toInCall.ns,Cf ((ib y).trans q) ab hu _⟩
  .have hs:(bY.cells.lookup y).isSome=true:=by rw[Cj];exact Ce _ q
   obtain⟨b,hc⟩:=isSome_iff_exists.mp hs
   exact .inr ⟨.inl ((ib y).trans q),b,hc,V8 ((ib y).trans q) ab hu _▸tc y b (mem_of_lookup hc)⟩
set_option backward.match.sparseCases true in
theorem bB.intro{lv:Nat}{a:Addr}{K:Ks}{k n:Nat}{rb:SS}{name qual:Str}{params:Arguments}{body:List Stmt}{dV pm Cm:Value}{iG:List Value}{eE:List D}
  (ho:∀P,(KF P).lookup a=some ⟨.type "function",none,.func (fnOf name qual params body K.scope dV .none .none pm none Cm .none),#[]⟩)
  (m0:∀P,codeIn (KF P) Cm qual=true)(jg:K.lv+1=lv)
  (m5:K.scope.kind=.function)(BD:K.scope.isCoroutine=false)(BE:K.scope.isGenerator=false)(ab:K.nm.Nodup)
  (nr:∀(s:Shared)(P:Params)(vs:List Value),(KF P).In s.heap->vs.length=k->BindsTo s (fnOf name qual params body K.scope dV .none .none pm none Cm .none) ⟨vs,[]⟩ (K.nm.zip (vs++iG)))
  (vh:∀(P:Params)(i:Nat)(v:Value)(d:D),iG[i]?=some v->eE[i]?=some d->fU P v d)(vi:iG.length=eE.length)(Ch:((cellsFrom 0 K.scope.names []).map (·.1)).Nodup)(Cn:k+eE.length<=K.nm.length)
  (Kp:∀x∈K.nm.take (k+eE.length),K.scope.names.lookup x=some .local\/K.scope.names.lookup x=some .cell)
  (hb:eg K body rb):bB lv a (bK k eE n rb):=by
 intro c X vs V C w r
 refine .iff λhk hr=>?_
 have vj:vs.length=k:=r.length.trans hk
 have XS:(KF c.w.params).In X.s.heap:=C.X.keeps w.base
 have I:(vs++iG).length=k+eE.length:=by rw[aW,vj,vi]
 have Kq:(K.nm.zip (vs++iG)).map (·.1)=K.nm.take (k+eE.length):=by rw[<- I];exact map_fst_zip _ _
 refine uV (UG (by have:=C.depth;show _<1000;exact L2 [c.A.depth,K.lv,lv] 0x3843fa26b09021a19683e83fa05b jg this) (XS _ _ (ho _)) rfl BD BE rfl (codeRec_of XS (m0 _)) (gg<|nr X.s c.w.params vs XS vj _ _ _ _ ?_))
 refine gg<|wpAny_newFunctionEnv_cells m5 (λx hx=>(Kp _ (Kq▸mem_map_of_mem hx)).imp id λq=>⟨q,Ce _ q⟩) λbY he s' x=>?_
 obtain⟨F,au,C',L,hf,Kr,loc,jW,look⟩:=Wb jg m5 Ch (by rw[Kq];exact(List.take_sublist _ _).nodup ab) C he x
 refine⟨(C.T.nolimit.keeps w.base).keeps au.ups,UF ?_⟩
 have W':=au.enter w
 have ie:c.B.StaysIn s'.heap:=λb o e=>au.ups b o (w.base b o e)
 have O':Ok K (c.xr K bY F) ((V++eE).map some++List.replicate n none) (X.to s'):=by
  refine⟨W',loc,jW,λi d hi=>?_⟩
  have hd:=Wa hi
  have gK:i<k+eE.length:=by have:=(bH.mp hd).1;rwa [aW,hk] at this
  have hv:(vs++iG)[i]?=some ((vs++iG)[i]'(I▸gK)):=c8 (I▸gK)
  have Kt:K.nm[i]?=some (K.nm[i]'(lt_of_lt_of_le gK Cn)):=c8 (lt_of_lt_of_le gK Cn)
  refine⟨_,_,Kt,look _ _ (Kp _ (List.mem_take_iff_getElem.mpr ⟨i,by rw[min_eq_left Cn];exact gK,rfl⟩)) (V9 Kt hv),?_⟩
  rcases lt_or_ge i k with q | q
  .rw[dH (vj▸q)] at hv
   rw[dH (hk▸q)] at hd
   exact au.rd w (r.pt i _ _ hv hd)
  .rw[jz (vj▸q),vj] at hv
   rw[jz (hk▸q),hk] at hd
   exact vh c.w.params _ _ _ hv hd c.B _ _ _ C.X W'.new W'.base
 refine aE (hb _ _ (X.to s') C' O' (gH hr)) (λf aX p=>?_) λy aX p=>?_
 .obtain⟨⟨fl,Ku⟩,aa,e,n,mn,⟨ig,g⟩⟩:=p
  rw[e] at hr ⊢
  have bc:∀d v,bJ _ aa v d->Po c no X (.ok d aa.st) (cm c) v aa.s:=λd v r=>⟨d,aa,rfl,au.Km w n λb q=>.inr (Kr b q),au.exit w mn,au.back r⟩
  have key:∀f fl,ng _ aa f fl->(Cg () (fl,Ku) aa.st)≠.stuck->Po c no X (Cg () (fl,Ku) aa.st) (cm c) (match(f:Flow) with | .ret v=>v | _=>.none) aa.s:=λf fl g=>by
   induction g with
   |next=>exact λJ=>bc _ _ .none
   |cont=>exact λh=>absurd rfl h
   |ret r=>exact λJ=>bc _ _ r
  exact key f fl g hr
 .refine V3 C'.frames rfl hf ie p λaa hR jE sZ fl=>⟨aa,by rw[hR];rfl,au.Km w jE λb q=>.inr (Kr b q),au.exit w sZ,fl c (λb nu=>cA _ nu) X.s.heap λb q=>u6 (λa o e=>⟨o,au.ups a o e⟩) q⟩
section
variable{c:Cx}{W:Addr->Prop}{X:Sx}
theorem Sm.bindM{α β γ δ:Type}{R:Res α}{P:α->β->Sx->Prop}{f:α->List M->Res γ}{P':γ->δ->Sx->Prop}{t:Sem β}{g:β->Sem δ}(h:Sm c W X R (.wp c t) P)(k:∀a v aa,Nx c W X aa->aC c aa->P a v aa->Sm c W aa (f a aa.st) (.wp c (g v)) P'):Sm c W X (R.bind f) (.wp c (t >>= g)) P':=
 λhr=>ak (Sm.bind (G:=λv=>.wp c (g v)) h k hr)
noncomputable def PT.guard{β:Type}(p:Shared->Prop)(F:PT β):PT β:=⟨λQ E s=>p s/\F.run Q E s,λh a e=>⟨h.1,F.mono h.2 a e⟩⟩
end
def fq(lv:Nat)(v:Value)(r:List D->List M->Res D):Prop:=∀c X vs V,CxA lv c->aC c X->cq c X vs V->Sm c no X (r V X.st) (.wp c (call v vs)) (cm c)
def cr(lv:Nat)(v:Value)(r:List D->List M->Res D):Prop:=∀c X vs V,CxA lv c->aC c X->cq c X vs V->c3 c X (r V X.st) (call v vs) (cm c)
theorem cr.c{lv}{v}{r}(h:cr lv v r):fq lv v r:=λc X vs V C w x=>(h c X vs V C w x).g
theorem bB.c{lv}{a}{r}(h:bB lv a r):fq lv (.ref a) r:=h
theorem CxA.le{lv Kv}{c}(C:CxA Kv c)(h:lv<=Kv):CxA lv c:=
 ⟨C.frames,C.handled,C.guards,bg (Nat.add_le_add_left (mul_le_mul_left _ h) _) C.depth,bg (Nat.add_le_add_left (mul_le_mul_left _ h) _) C.units,C.X,C.T⟩
@[reducible] def Wf(c:Cx)(V:List D)(a:Args)(aa:Sx):Prop:=a.kw=[]/\cq c aa a.pos V
section
variable{K:Ks}
def gL(K:Ks)(pos:Pos)(Z:List Expr)(r:SL):Prop:=∀c σ X f,cj K c->Ok K c σ X->Sm c no X (r σ X.st) (.wp c (evalArgs f true (backTo pos (starEach Z c.env)) [])) (Wf c)
theorem gL.nil{pos}:gL K pos [] xn:=λJ J J J J o J=>UQ (.id o.w ⟨rfl,.nil⟩)
theorem gL.cons{pos}{e}{Z}{l}(h:je K pos (e::Z) l)(he:autoParam (∀env,starEach (e::Z) env=(false,eval e env)::starEach Z env) k2):gL K pos (e::Z) l:=λc σ X f C o hr=>by
 have H:=h c σ X C o hr
 rw[he] at H ⊢
 exact Jy (aE H (λvs s' p=>by induction p with | mk a aa e n w p=>exact⟨a,aa,e,n,w,rfl,p⟩) λJ J p=>p)
noncomputable def nv(F:Frag)(v:Value):Bool:=match v with | .ref _=>keepIn F v | _=>true
theorem Kw{Md}{F}{v}(e:nv F v=true):∀h,F.In h->∃k,(k=Keeper.frame\/k=Keeper.machine\/k=Keeper.boundFrame)/\Looks Md h (keeperOf v) k:=by
 cases v <;> first
  |exact keeps_K e
  |exact λh J=>⟨.machine,.inr (.inl rfl),Looks.of_pure rfl⟩
noncomputable def Co(r:List D->List M->Res D)(l:SL):SE:=λσ st=>(l σ st).bind r
section
variable{lv:Nat}{v:Value}{r:List D->List M->Res D}{pos:Pos}{args:List Expr}{l:SL}{c:Cx}{σ:List (Option D)}{X:Sx}
theorem xt{first}{fd}(qA:∀P,nv (KF P) v=true)(hc:fq lv v r)(jg:lv<=K.lv)(ha:gL K pos args l)(fe:(backTo pos (starEach args c.env)).any (·.1)=false)(C:cj K c)(o:Ok K c σ X)(rf:cq c X first fd) :
  Sm c no X ((l σ X.st).bind λV st=>r (fd++V) st) (.wp c (callWith pos v first (backTo pos (starEach args c.env)) [])) (cm c):=λhr=>
 Jz (P:=λh=>(KF c.w.params).In h) (by rw[fe];rfl) (Kw (qA _)) ((ha c σ X v C o).bind (G:=λ(a:Args)=>.guard (λs=>(KF c.w.params).In s.heap) (.wp c (call v (first++a.pos) a.kw))) (P':=cm c) (λV a aa n w p hr=>by
  refine⟨C.X.keeps w.base,?_⟩
  rw[p.1]
  exact hc c aa _ _ (C.toCxA.le jg) w ((n.gG rf).append p.2) hr) hr)
variable {x:Str} {p:Pos} (hx:K.scope.names.lookup x=some .globalImplicit) (qA:∀P,nv (KF P) v=true) (hc:fq lv v r) (jg:lv<=K.lv) (ha:gL K pos args l) (fe:autoParam (∀env,(backTo pos (starEach args env)).any (·.1)=false) k2) (hd:autoParam ((x==("__debug__" : Str))=false) dc)
include hx qA hc jg ha fe hd
theorem ay.call(e:∀P,nsIn (KF P) mainGlobals x=some (some v)):ay K (.Call (.Name x p) args [] pos) (Co r l):=λJ J J C o hr=>uX (BZ C o hx hd e (xt (fd:=[]) qA hc jg ha (fe _) C o .nil hr))
theorem ay.Wg (e:∀P,nsIn (KF P) mainGlobals x=some Option.none) (hb:bootBuiltins x=some v) (hn:x≠"__name__"):ay K (.Call (.Name x p) args [] pos) (Co r l):=λJ J J C o hr=>uX (B0 C o hx hd e hb hn (xt (fd:=[]) qA hc jg ha (fe _) C o .nil hr))
end
noncomputable def lg(C:Addr)(st:List M):D->Option (List (Str×D))
 |.obj C' fs=>if C'=C then some fs else none
 |.ab i=>match st[i]? with
  |some (.inst C' fs)=>if C'=C then some fs else none
  |_=>none
 |_=>none
section
variable{ρ:List (Addr×Addr)}{U:Addr->Prop}{h:Heap}{name:Str}{Z:List DictEntry}{fs:List (Str×D)}
theorem dN.noRef(r:dN ρ U h Z fs):Z.any (·.refKey)=false:=by
 have k:=r.keys
 clear r
 induction k with
 |nil=>rfl
 |cons _ ih=>rw[List.any_cons,ih];rfl
theorem dN.get(r:dN ρ U h Z fs):(fs.lookup name=none->getL name Z=some none)/\∀d,fs.lookup name=some d->∃v,getL name Z=some (some v)/\Rd ρ U h v d:=by
 have hr:=r.noRef
 have go:(fs.lookup name=none->Z.find? (·.key.isStr name)=none)/\∀d,fs.lookup name=some d->∃x,Z.find? (·.key.isStr name)=some x/\Rd ρ U h x.val d:=by
  obtain⟨k,r⟩:=r
  clear hr
  induction k with
  |nil=>exact⟨λJ=>rfl,λd q=>nomatch q⟩
  |@cons hh k t v d Z fs _ ih=>
   have hi:(⟨hh,.str k t,v⟩:DictEntry).key.isStr name=(name==k):=by
    show(k==name)=_
    rw[Bool.eq_iff_iff,beq_iff_eq,beq_iff_eq];exact⟨Eq.symm,Eq.symm⟩
   rw[find?_cons,hi,lookup_cons]
   cases name==k with
   |true=>exact⟨(λz=>nomatch z),λd z=>⟨_,rfl,Option.some.inj z▸r.pt 0 _ _ rfl rfl⟩⟩
   |false=>exact ih r.tail
 unfold getL
 refine⟨λq=>?_,λd q=>?_⟩
 .rw[go.1 q,hr];rfl
 .obtain⟨x,e,rd⟩:=go.2 d q
  rw[e];exact⟨_,rfl,rd⟩
end
inductive xu(c:Cx)(X:Sx)(C:Addr)(v:Value)(fs:List (Str×D)):Prop
 |mk (x dx:Addr) (Z:List DictEntry) (n:Nat) (e:v=.ref x) (au:InstAt X.s.heap x (instObj C dx) C (some (dictOf Z n))) (r:dN X.ρ (UX c X) X.s.heap Z fs):xu c X C v fs
theorem xu.of {c} {X} {C x dx} {Z} {n} {fs} (a:X.s.heap.get? x=some (instObj C dx)) (b:X.s.heap.get? dx=some {cls:=.type "dict",data:=.dict Z n}) (r:dN X.ρ (UX c X) X.s.heap Z.toList fs):xu c X C (.ref x) fs:=
 ⟨x,dx,Z.toList,n,rfl,⟨a,rfl,rfl,b⟩,r⟩
theorem fT.xw {w} {ρ} {U} {h} {p} {m} (x:fT w ρ U h p m):∀{C fs},m=.inst C fs->∃Z n,h.get? p.1=some (instObj C p.2)/\h.get? p.2=some {cls:=.type "dict",data:=.dict Z n}/\dN ρ U h Z.toList fs/\p.1≠p.2:=by
 induction x with
 |inst a n b r=>intro C fs e;cases e;exact⟨_,_,a,b,r,n⟩
 |_=>exact λe=>nomatch e
theorem vk{α:Type}{p:Prop}[Decidable p]{x y:α}(h:(if p then some x else none)=some y):p/\x=y:=by
 by_cases q:p
 .exact⟨q,Option.some.inj ((ax q).symm.trans h)⟩
 .exact nomatch (aY q).symm.trans h
theorem M.xw{C:Addr}{fs:List (Str×D)}{m:Option M}(h:(match m with | some (.inst C' fs)=>if C'=C then some fs else none | _=>none)=some fs):m=some (.inst C fs):=by
 cases m with
 |none=>nomatch h
 |some m=>cases m with
  |inst C' Cq=>obtain⟨rfl,rfl⟩:=vk h;rfl
  |_=>nomatch h
theorem Wh{C:Addr}{st:List M}{d:D}{fs:List (Str×D)}(h:lg C st d=some fs):d=.obj C fs\/∃i,d=.ab i/\st[i]?=some (.inst C fs):=by
 cases d with
 |obj C' Cq=>obtain⟨rfl,rfl⟩:=vk h;exact .inl rfl
 |ab i=>exact .inr ⟨i,rfl,M.xw h⟩
 |_=>nomatch h
theorem Kx{c}{X}{v}{d}{C}{fs}(w:aC c X)(r:bJ c X v d)(hf:lg C X.st d=some fs):xu c X C v fs:=by
 rcases Wh hf with rfl | ⟨i,rfl,hm⟩
 .obtain⟨a,dx,Z,n,rfl,x,_,e2,_,re⟩:=r.Vx
  exact .of x e2 re
 .obtain⟨p,hp,rfl⟩:=r.qs
  obtain⟨Z,n,a,b,re,_⟩:=(w.jC _ _ _ hp hm).xw rfl
  exact .of a b re
noncomputable def pB:D->Bool
 |.ext _=>false
 |_=>true
theorem Wi{ρ}{U}{h}{v}{d}(r:Rd ρ U h v d)(hn:pB d=true):handedIn v=true:=by
 induction r with
 |ext=>exact nomatch hn
 |_=>rfl
noncomputable def li(C:Addr)(name:Str)(d:D)(st:List M):Res D:=match(lg C st d).bind (·.lookup name) with
 |some d'=>if pB d' then .ok d' st else .stuck
 |none=>.stuck
noncomputable def Wj(C:Addr)(name:Str)(a:SE):SE:=λσ st=>(a σ st).bind (li C name)
theorem Sm.opt{α β γ:Type}{c:Cx}{W:Addr->Prop}{X:Sx}{x:Option γ}{R:Res α}{f:γ->Res α}{F:PT β}{P:α->β->Sx->Prop}(e0:x=none->R=.stuck)(e:∀y,x=some y->R=f y)(h:∀y,x=some y->Sm c W X (f y) F P):Sm c W X R F P:=by
 cases x with
 |none=>exact λh=>absurd (e0 rfl) h
 |some y=>exact e y rfl▸h y rfl
theorem ay.attr{C:Addr}{name:Str}{e:Expr}{pos:Pos}{r:SE}{attr:Option Value}(h:ay K e r)(hg:∀P,plainGet (KF P) C name=true)(hh:∀P,hasDictIn (KF P) C=true)(ha:∀P,findIn (KF P) (.ref C) name=some attr)(hn:∀P,noGet (KF P) attr=true)
  (hb:autoParam (∀env,attributeBase e name env (eval e env)=eval e env) k2):ay K (.Attribute e name pos) (Wj C name r):=by
 intro c σ X Cx o
 have eq:eval (.Attribute e name pos) c.env=(eval e c.env >>= λo=>do
   standAt pos.atName
   let r <- holding [o] (getAttr o name true)
   letTemporaryGo e o r
   pure r):=by
  show(attributeBase e name c.env (eval e c.env) >>= _)=_
  rw[hb]
 rw[eq]
 refine(h c σ X Cx o).bindM λd v aa n w p=>.opt (x:=(lg C aa.st d).bind (·.lookup name)) (f:=λd'=>if pB d' then Res.ok d' aa.st else .stuck) (λq=>by unfold li;rw[q]) (λd' q=>by unfold li;rw[q]) λd' hq=>.iff λhx J=>?_
 obtain⟨fs,h1,h2⟩:=jx.mp hq
 obtain⟨x,dx,Z,n,rfl,au,re⟩:=Kx w p h1
 obtain⟨v',g1,g2⟩:=(re.get (name:=name)).2 d' h2
 refine ak (cB (ak (ci (gg<|get_value (Cx.X.keeps w.base) au (plainGet_of (hg _)).1 (findObj_own (hh _) (ha _) (hn _) (by rw[lookIn_dict];exact g1)) (Wi g2 hx) (ak (gg<|wpAny_letTemporaryGo (aT ?_)))))))
 exact .same w rfl rfl rfl g2
noncomputable def xy(C:Addr)(name:Str)(r:List D->List M->Res D)(σ:List (Option D))(l:SL)(d:D)(st:List M):Res D:=match lg C st d with
 |some fs=>if(fs.lookup name).isNone then(l σ st).bind λV st=>r ([d]++V) st else .stuck
 |none=>.stuck
noncomputable def Cr(C:Addr)(name:Str)(r:List D->List M->Res D)(a:SE)(l:SL):SE:=λσ st=>(a σ st).bind (xy C name r σ l)
theorem ay.bP{lv:Nat}{C f:Addr}{name:Str}{e:Expr}{apos pos:Pos}{args:List Expr}{ra:SE}{l:SL}{r:List D->List M->Res D}(h:ay K e ra)(hg:∀P,plainGet (KF P) C name=true)
  (hf:∀P,findIn (KF P) (.ref C) name=some (some (.ref f)))(ht:∀P,isFn (KF P) (.ref f)=true)(qA:∀P,nv (KF P) (.ref f)=true)(hc:bB lv f r)(jg:lv<=K.lv)(ha:gL K pos args l)
  (hb:autoParam (∀env,attributeBase e name env (eval e env)=eval e env) k2)(va:autoParam (∀env,methodCallForm args.length (backTo pos (starEach args env)) []=true) k2)(I:autoParam ((apos.endLine==pos.line)=true) rl)
  (fe:autoParam (∀env,(backTo pos (starEach args env)).any (·.1)=false) k2):ay K (.Call (.Attribute e name apos) args [] pos) (Cr C name r ra l):=by
 intro c σ X Cx o
 rw[BL (hb _) (va _) I]
 refine(h c σ X Cx o).bindM λd v aa n w p=>.opt (x:=lg C aa.st d) (f:=λfs=>if(fs.lookup name).isNone then(l σ aa.st).bind λV st=>r ([d]++V) st else .stuck) (λq=>by unfold xy;rw[q]) (λfs q=>by unfold xy;rw[q]) λfs hq=>.iff λhx hr=>?_
 obtain⟨x,dx,Z,m,rfl,au,re⟩:=Kx w p hq
 have g:=(re.get (name:=name)).1 (Option.isNone_iff_eq_none.mp hx)
 refine ak (cB (ak (ci (gg<|method_fn (Cx.X.keeps w.base) au (plainGet_of (hg _)).1 (plainGet_of (hg _)).2 (hf _) (beq_iff_eq.mp (ht _)) (by show(lookIn name (dictOf Z m)).map _=_;rw[lookIn_dict,g];rfl) ?_))))
 exact xt (v:=.ref f) (first:=[.ref x]) (fd:=[d]) qA hc jg ha (fe _) Cx (o.next Cx w n) (.cons p .nil) hr
end
noncomputable def ft(d:D):Option Int:=D.casesOn d none (λJ=>none) some (λJ=>none) (λJ=>none) (λJ=>none) (λJ=>none) (λJ=>none) (λJ J=>none) (λJ=>none) λJ=>none
noncomputable def j5(d:D):Option Str:=D.casesOn d none (λJ=>none) (λJ=>none) some (λJ=>none) (λJ=>none) (λJ=>none) (λJ=>none) (λJ J=>none) (λJ=>none) λJ=>none
noncomputable def mq(d:D):Option (List UInt8):=D.casesOn d none (λJ=>none) (λJ=>none) (λJ=>none) some (λJ=>none) (λJ=>none) (λJ=>none) (λJ J=>none) (λJ=>none) λJ=>none
noncomputable def Ct(d:D):Option (List D):=D.casesOn d none (λJ=>none) (λJ=>none) (λJ=>none) (λJ=>none) some (λJ=>none) (λJ=>none) (λJ J=>none) (λJ=>none) λJ=>none
noncomputable def iH(d:D):Option (List D):=D.casesOn d none (λJ=>none) (λJ=>none) (λJ=>none) (λJ=>none) (λJ=>none) some (λJ=>none) (λJ J=>none) (λJ=>none) λJ=>none
theorem gq{d}{a}(h:ft d=some a):d=.int a:=by cases d with
 |int=>exact aw D.int (Option.some.inj h)
 |_=>nomatch h
theorem lj{d}{a}(h:j5 d=some a):d=.str a:=by cases d with
 |str=>exact aw D.str (Option.some.inj h)
 |_=>nomatch h
theorem pE{d}{a}(h:mq d=some a):d=.bytes a:=by cases d with
 |bytes=>exact aw D.bytes (Option.some.inj h)
 |_=>nomatch h
theorem Ky{d}{a}(h:Ct d=some a):d=.tup a:=by cases d with
 |tup=>exact aw D.tup (Option.some.inj h)
 |_=>nomatch h
theorem jG{d}{a}(h:iH d=some a):d=.lst a:=by cases d with
 |lst=>exact aw D.lst (Option.some.inj h)
 |_=>nomatch h
def aI{α β:Type}(x:Option β)(f:β->List M->Res α)(st:List M):Res α:=x.rec .stuck λa=>f a st
section
variable{c:Cx}{X:Sx}{α β γ:Type}{P:α->γ->Sx->Prop}{t:Sem γ}
theorem c3.iff{p:Prop}[Decidable p]{R}(h:p->c3 c X R t P):c3 c X (if p then R else .stuck) t P:=λhr=>by
 have hp:=xp hr
 rw[ax hp] at hr ⊢
 exact h hp hr
theorem c3.Kz{p:Prop}[Decidable p]{R}(h:¬p->c3 c X R t P):c3 c X (if p then .stuck else R) t P:=λhr=>by
 have hp:¬p:=λq=>hr (ax q)
 rw[aY hp] at hr ⊢
 exact h hp hr
theorem c3.aI{x:Option β}{f:β->List M->Res α}(h:∀a,x=some a->c3 c X (f a X.st) t P):c3 c X (aI x f X.st) t P:=by
 cases x with
 |none=>exact λh=>absurd rfl h
 |some a=>exact h a rfl
end
section
variable{op:Value->Value->Sem Value}
def dm(g:Int->Int->List M->Res D):F2:=λx y st=>aI (ft x) (λa st=>aI (ft y) (g a) st) st
theorem cH.dm{g:Int->Int->List M->Res D}(k:∀lv c X i j t u,CxA lv c->aC c X->c3 c X (g i j X.st) (op (.int i t) (.int j u)) (cm c)):cH op (dm g):=λlv c X a b x y C w ha hb=>
 .aI λi hi=>.aI λj hj=>by
  cases gq hi
  cases gq hj
  obtain⟨t,rfl⟩:=ha.dv
  obtain⟨u,rfl⟩:=hb.dv
  exact k lv c X i j t u C w
end
def xz:F2:=dm λa b st=>.ok (.int (a-b)) st
def pF:F2:=dm λa b st=>if a.natAbs<2^64\/b.natAbs<2^64 then .ok (.int (a*b)) st else .stuck
def pG:F2:=dm λa b st=>if b=0 then .stuck else .ok (.int (a.fmod b)) st
def xA:F2:=dm λa b st=>if b=0\/2^64<=b.natAbs then .stuck else .ok (.int (a.fdiv b)) st
def xB:F2:=dm λa b st=>if 0<=b/\b<=1000000/\a.natAbs<2^64 then .ok (.int (a^b.toNat)) st else .stuck
def Cu:F2:=dm λa b st=>if 0<=b/\b<=1000000/\a.natAbs<2^64 then .ok (.int (a*2^b.toNat)) st else .stuck
def Cv:F2:=dm λa b st=>if 0<=b then .ok (.int (a.fdiv (2^b.toNat))) st else .stuck
def xC:F2:=dm λa b st=>.ok (.int (Builtin.bitAnd a b)) st
def xD:F2:=dm λa b st=>.ok (.int (Builtin.bitOr a b)) st
def tj:F2:=dm λa b st=>.ok (.bool (decide (a<b))) st
def xE:F2:=dm λa b st=>.ok (.bool (decide (a<=b))) st
def tm:F2:=dm λa b st=>.ok (.bool (decide (a>b))) st
def tu:F2:=dm λa b st=>.ok (.bool (decide (a≥b))) st
theorem Cw{a}(h:a.natAbs<2^64):Builtin.Int.intBits a<=64:=intBits_le_64 (by lia) (by lia)
theorem Wm:cH (binaryOp .Sub) xz:=.dm λJ J J J J J J J w J=>PySem.P.sub_int (.same w rfl rfl rfl (.int ..))
theorem KB:cH (binaryOp .Mult) pF:=.dm λJ J J J J J J J w=>.iff λhz J=>PySem.P.mul_int (.same w rfl rfl rfl (.int ..)) (hz.elim (λh=>.of_left (Cw h)) λh=>.of_right (Cw h))
theorem Wn:cH (binaryOp .Mod) pG:=.dm λJ J J J J J J J w=>.Kz λhz J=>mod_int hz (.same w rfl rfl rfl (.int ..))
theorem Wo{i j:Int}(h2:j.natAbs<2^64):Builtin.divisionGoesByPylong i j=false:=by
 have:j.natAbs.log2<64:=by
  by_cases h1:j.natAbs=0
  .rw[h1];decide
  .exact(Nat.log2_lt h1).mpr h2
 delta Builtin.divisionGoesByPylong
 simp only[Bool.and_eq_false_iff,decide_eq_false_iff_not]
 refine Classical.or_iff_not_imp_left.mpr λq=>?_
 split at q <;> lia
theorem Wp:cH (binaryOp .FloorDiv) xA:=.dm λJ J J J J J J J w=>.Kz λhz J=>AutoIntOps.floordiv_1 (by simpa using λq=>hz (.inl q)) (by rw[Wo (lt_of_not_le λq=>hz (.inr q))];exact em) (.same w rfl rfl rfl (.int ..))
theorem Wq:cH (binaryOp .Pow) xB:=.dm λJ J J J J J J J w=>.iff λhz J=>pow_int_small hz.1 hz.2.1 hz.2.2 (.same w rfl rfl rfl (.int ..))
theorem Wt:cH (binaryOp .LShift) Cu:=.dm λJ J J J J J J J w=>.iff λhz J=>lshift_int hz.1 (by have:=Cw hz.2.2;lia) (.same w rfl rfl rfl (.int ..))
theorem Wu:cH (binaryOp .RShift) Cv:=.dm λJ J J J J J J J w=>.iff λhz J=>rshift_int hz (.same w rfl rfl rfl (.int ..))
theorem Wv:cH (binaryOp .BitAnd) xC:=.dm λJ J J J J J J J w J=>and_int (.same w rfl rfl rfl (.int ..))
theorem Ww:cH (binaryOp .BitOr) xD:=.dm λJ J J J J J J J w J=>or_int (.same w rfl rfl rfl (.int ..))
theorem Wx:cH (compareOp .Lt) tj:=.dm λJ J J J J J J J w J=>PySem.P.lt_int (.same w rfl rfl rfl (.bool _))
theorem Wy:cH (compareOp .LtE) xE:=.dm λJ J J J J J J J w J=>PySem.P.le_int (.same w rfl rfl rfl (.bool _))
theorem Wz:cH (compareOp .Gt) tm:=.dm λJ J J J J J J J w J=>PySem.P.gt_int (.same w rfl rfl rfl (.bool _))
theorem WA:cH (compareOp .GtE) tu:=.dm λJ J J J J J J J w J=>PySem.P.ge_int (.same w rfl rfl rfl (.bool _))
def pH:F2:=λx y st=>match x with
 |.int a=>aI (ft y) (λb st=>.ok (.int (a+b)) st) st
 |.bytes a=>aI (mq y) (λb st=>if a.length+b.length<=sz then .ok (.bytes (a++b)) st else .stuck) st
 |.str a=>aI (j5 y) (λb st=>if a.length+b.length<=sz then .ok (.str (a++b)) st else .stuck) st
 |.lst a=>aI (iH y) (λb st=>if a.length+b.length<=sz then .ok (.lst (a++b)) st else .stuck) st
 |_=>.stuck
theorem WB:cH (binaryOp .Add) pH:=by
 intro lv c X a b x y C w ha hb
 cases x with
 |int i=>
  obtain⟨t,rfl⟩:=ha.dv
  refine .aI λj hj J=>?_
  cases gq hj
  obtain⟨u,rfl⟩:=hb.dv
  exact PySem.P.add_int (.same w rfl rfl rfl (.int ..))
 |bytes l=>
  obtain⟨i,t,rfl,rfl⟩:=ha.fm
  refine c3.aI (x:=mq y) (f:=λb st=>if i.toList.length+b.length<=sz then .ok (D.bytes (i.toList++b)) st else .stuck) λj hj=>?_
  refine .iff λhz J=>?_
  cases pE hj
  obtain⟨j,u,rfl,rfl⟩:=hb.fm
  exact KBy.add_bytes hz λt' k=>.same w rfl rfl rfl (show Rd _ _ _ _ _ from toList_append▸.bytes ..)
 |str l=>
  obtain⟨t,rfl⟩:=ha.fS
  refine c3.aI (x:=j5 y) (f:=λb st=>if l.length+b.length<=sz then .ok (D.str (l++b)) st else .stuck) λj hj=>?_
  refine .iff λhz J=>?_
  cases lj hj
  obtain⟨u,rfl⟩:=hb.fS
  exact KXadd.add (dC _) (dC _) hz λt' k J=>.same w rfl rfl rfl (.str ..)
 |lst l=>
  refine c3.aI (x:=iH y) (f:=λb st=>if l.length+b.length<=sz then .ok (D.lst (l++b)) st else .stuck) λj hj=>?_
  refine .iff λhz J=>?_
  cases jG hj
  obtain⟨a,xs,rfl,h1,_,r1⟩:=ha.dO
  obtain⟨b,ys,rfl,h2,_,r2⟩:=hb.dO
  obtain⟨⟨cls,dd,data,sl⟩,ho,hc,_,n,hd⟩:=h1
  obtain⟨⟨agS,WC,data2,WD⟩,KC,KD,_,n2,tv⟩:=h2
  simp only at hc hd KD tv
  subst hc hd KD tv
  refine concat_meets ⟨_,ho,rfl⟩ ⟨_,KC,rfl⟩ noFill_list_add seq_list_add PySem.F.slot_list_add PySem.F.entry_list_add (PySem.F.args_list_add_2 _ _) (list_addW _ _ xs ys n n2 dd WC sl WD (by
   rw[<- du,<- du,r1.length,r2.length,fo];exact hz)) ⟨ho,KC,.keeps w (fV _ _) rfl rfl (.lst ⟨_,gi _ rfl,rfl,rfl,0,rfl⟩ w.size ?_)⟩
  rw[toList_append]
  exact(Nx.gG (W:=no) (.keeps (fV _ _)) r1).append (Nx.gG (W:=no) (.keeps (fV _ _)) r2)
 |_=>exact λh=>absurd rfl h
noncomputable def isNone:D->Bool
 |.none=>true
 |_=>false
noncomputable def qB:F2:=λx y st=>if(pB x&&isNone y)=true then .ok (.bool (isNone x)) st else .stuck
theorem WE{d}(h:isNone d=true):d=.none:=by cases d with
 |none=>rfl
 |_=>nomatch h
theorem WF{ρ}{U}{h}{v}{x}(r:Rd ρ U h v x)(hx:pB x=true):(v == .none)=isNone x:=by
 induction r with
 |ext w=>nomatch hx
 |ref s=>induction s <;> rfl
 |_=>rfl
theorem WG:cH (compareOp .Is) qB:=λlv c X a b x y C w ha hb=>.iff λh J=>by
 have h:=(and_eq_true _ _).mp h
 cases WE h.2
 cases hb.inv
 rw[<- WF ha h.1]
 exact is_none_gen (.same w rfl rfl rfl (.bool _))
noncomputable def KE(d:D):Option Bool:=D.casesOn d none some (λJ=>none) (λJ=>none) (λJ=>none) (λJ=>none) (λJ=>none) (λJ=>none) (λJ J=>none) (λJ=>none) λJ=>none
theorem WH{d}{a}(h:KE d=some a):d=.bool a:=by cases d with
 |bool=>exact aw D.bool (Option.some.inj h)
 |_=>nomatch h
noncomputable def iI(f:D->D->Option Bool):List D->List D->Option Bool
 |[],[]=>some true
 |x::xs,y::ys=>match f x y,iI f xs ys with
  |some a,some b=>some (a&&b)
  |_,_=>none
 |_,_=>none
noncomputable def fu:Nat->D->D->Option Bool
 |0,_,_=>none
 |n+1,x,y=>match x with
  |.int a=>(ft y).map (a == ·)
  |.bool a=>(KE y).map (a == ·)
  |.str a=>(j5 y).map (a == ·)
  |.bytes a=>(mq y).map λb=>decide (a=b)
  |.lst xs=>(iH y).bind λys=>if xs.length=ys.length then iI (fu n) xs ys else some false
  |.tup xs=>(Ct y).bind λys=>if xs.length=ys.length then iI (fu n) xs ys else none
  |_=>none
inductive pI(n:Nat):D->D->Bool->Prop
 |int (i j:Int):pI n (.int i) (.int j) (i==j)
 |bool (i j:Bool):pI n (.bool i) (.bool j) (i==j)
 |str (i j:Str):pI n (.str i) (.str j) (i==j)
 |bytes (i j:List UInt8):pI n (.bytes i) (.bytes j) (decide (i=j))
 |lst {b:Bool} (i j:List D) (I:i.length=j.length) (e:iI (fu n) i j=some b):pI n (.lst i) (.lst j) b
 |xF (i j:List D) (I:i.length≠j.length):pI n (.lst i) (.lst j) false
 |tup {b:Bool} (i j:List D) (I:i.length=j.length) (e:iI (fu n) i j=some b):pI n (.tup i) (.tup j) b
theorem pJ{α β:Type}{f:α->β}{x:Option α}{b:β}(h:x.map f=some b):∃a,x=some a/\f a=b:=map_eq_some_iff.mp h
theorem Cy{n:Nat}{x y:D}{b:Bool}(e:fu (n+1) x y=some b):pI n x y b:=by
 cases x with
 |int i=>obtain⟨j,h,rfl⟩:=pJ e;cases gq h;exact .int i j
 |bool i=>obtain⟨j,h,rfl⟩:=pJ e;cases WH h;exact .bool i j
 |str i=>obtain⟨j,h,rfl⟩:=pJ e;cases lj h;exact .str i j
 |bytes i=>obtain⟨j,h,rfl⟩:=pJ e;cases pE h;exact .bytes i j
 |lst i=>
  obtain⟨j,h,e⟩:=jx.mp e
  cases jG h
  by_cases q:i.length=j.length
  .exact .lst i j q ((ax q).symm.trans e)
  .cases (aY q).symm.trans e;exact .xF i j q
 |tup i=>
  obtain⟨j,h,e⟩:=jx.mp e
  cases Ky h
  by_cases q:i.length=j.length
  .exact .tup i j q ((ax q).symm.trans e)
  .exact nomatch (aY q).symm.trans e
 |_=>nomatch e
theorem Cz{f}{xs ys}{b}(h:iI f xs ys=some b):∃e:Nat->Bool,(∀i x y,xs[i]?=some x->ys[i]?=some y->f x y=some (e i))/\((List.range xs.length).all e)=b:=by
 induction xs generalizing ys b with
 |nil=>cases ys with
  |nil=>exact⟨λJ=>true,(λJ J J h=>nomatch h),Option.some.inj h⟩
  |cons=>nomatch h
 |cons x xs ih=>cases ys with
  |nil=>nomatch h
  |cons y ys=>
   have h:(match f x y,iI f xs ys with | some a,some b=>some (a&&b) | _,_=>none)=some b:=h
   cases e1:f x y with
   |none=>rw[e1] at h;nomatch h
   |some p=>cases e2:iI f xs ys with
    |none=>rw[e1,e2] at h;nomatch h
    |some q=>
     rw[e1,e2] at h
     obtain⟨e,h1,h2⟩:=ih e2
     refine⟨λi=>i.rec p λi J=>e i,λi=>i.casesOn (λa b ha hb=>by cases ha;cases hb;exact e1) h1,?_⟩
     rw[length_cons,List.range_succ_eq_map,List.all_cons,List.all_map,<- Option.some.inj h,<- h2]
     rfl
section
variable{ρ:List (Addr×Addr)}{U:Addr->Prop}{h:Heap}
theorem KG{f}{vs}{xs ys}{b}(hf:∀{v x y b},Rd ρ U h v x->Rd ρ U h v y->f x y=some b->b=true)(r1:bv ρ U h vs xs)(r2:bv ρ U h vs ys)(e:iI f xs ys=some b):b=true:=by
 obtain⟨g,g1,rfl⟩:=Cz e
 refine all_eq_true.mpr λi hi=>?_
 have hi:=mem_range.mp hi
 have l1:=r1.length
 have l2:=r2.length
 have hv:vs[i]?=some (vs[i]'(l1▸hi)):=c8 _
 have hy:ys[i]?=some (ys[i]'(l2▸l1▸hi)):=c8 _
 exact hf (r1.pt i _ _ hv (c8 hi)) (r2.pt i _ _ hv hy) (g1 i _ _ (c8 hi) hy)
theorem WI(n):∀{v:Value} {x y:D} {b:Bool},Rd ρ U h v x->Rd ρ U h v y->fu n x y=some b->b=true:=by
 induction n with
 |zero=>exact λJ J e=>nomatch e
 |succ n ih=>
  intro v x y b h1 h2 e
  replace e:=Cy e
  induction e with
  |int i j=>obtain⟨t,rfl⟩:=h1.dv;obtain⟨u,q⟩:=h2.dv;cases q;exact beq_self_eq_true i
  |bool i j=>cases h1.mf.symm.trans h2.mf;exact beq_self_eq_true i
  |str i j=>obtain⟨t,rfl⟩:=h1.fS;obtain⟨u,q⟩:=h2.fS;cases q;exact beq_self_eq_true i
  |bytes i j=>obtain⟨c,t,rfl,rfl⟩:=h1.fm;obtain⟨c',u,q,rfl⟩:=h2.fm;cases q;exact gc rfl
  |lst i j I e=>
   obtain⟨a,vs,rfl,⟨o,ho,_,_,n1,hd⟩,_,r1⟩:=h1.dO
   obtain⟨a',jc,q,⟨o',mr,_,_,n2,gp⟩,_,r2⟩:=h2.dO
   cases q;cases ho.symm.trans mr;cases hd.symm.trans gp
   exact KG ih r1 r2 e
  |xF i j I=>
   obtain⟨a,vs,rfl,⟨o,ho,_,_,n1,hd⟩,_,r1⟩:=h1.dO
   obtain⟨a',jc,q,⟨o',mr,_,_,n2,gp⟩,_,r2⟩:=h2.dO
   cases q;cases ho.symm.trans mr;cases hd.symm.trans gp
   exact absurd (r1.length.symm.trans r2.length) I
  |tup i j I e=>
   obtain⟨a,vs,rfl,⟨o,ho,_,n1,hd⟩,_,r1⟩:=h1.mh
   obtain⟨a',jc,q,⟨o',mr,_,n2,gp⟩,_,r2⟩:=h2.mh
   cases q;cases ho.symm.trans mr;cases hd.symm.trans gp
   exact KG ih r1 r2 e
open SeqAt in
structure KH(A:Around)(s:Shared)(v u:Value)(b:Bool):Prop where
 at_:EqAt A s v u b
 rc:∀a,v=.ref a->RcAt A s v u b
open SeqAt in
theorem WJ(n):∀{A:Around} {s:Shared} {v u:Value} {x y:D} {b:Bool},A.units+n<cLine->Rd ρ U s.heap v x->Rd ρ U s.heap u y->fu n x y=some b->KH A s v u b:=by
 induction n with
 |zero=>exact λJ J J e=>nomatch e
 |succ n ih=>
  intro A s v u x y b hu h1 h2 e
  have u3:=λ(q:v=u)=>WI (n+1) h1 (q▸h2) e
  have up:∀{l1 l2:Addr},v=.ref l1->u=.ref l2->RcAt A s v u b->KH A s v u b:=fun{l1 l2} q1 q2 hr=>⟨by
   by_cases hq:v=u
   .rw[u3 hq,<- hq];exact .same v
   .subst q1 q2;exact .of_refs (λq=>hq (aw _ q)) hr,λJ J=>hr⟩
  have each:∀{xs ys:Array Value} {i j:List D} {f:Nat->Bool},bv ρ U s.heap xs.toList i->bv ρ U s.heap ys.toList j->(∀k x y,i[k]?=some x->j[k]?=some y->fu n x y=some (f k))->∀k (h1:k<xs.size) (h2:k<ys.size),EqAt A.in1 s xs[k] ys[k] (f k):=fun{xs ys i j f} r1 r2 hf k KI KJ=>
   have g1:i[k]?=some (i[k]'(r1.length▸KI)):=c8 _
   have g2:j[k]?=some (j[k]'(r2.length▸KJ)):=c8 _
   (ih (A:=A.in1) (by rw[Around.in1_units];exact Nat.lt_of_le_of_lt (le_of_eq (eK (L0 [A.units,n] 7345876135614793) (L0 [A.units,n] 4961654032369993))) hu) (r1.pt k _ _ (by rw[jA];exact oC KI) g1) (r2.pt k _ _ (by rw[jA];exact oC KJ) g2) (hf k _ _ g1 g2)).at_
  replace e:=Cy e
  clear u3
  induction e with
  |int i j=>obtain⟨t,rfl⟩:=h1.dv;obtain⟨w,rfl⟩:=h2.dv;exact⟨.int_int _ _ _ _,nofun⟩
  |bool i j=>cases h1.mf;cases h2.mf;exact⟨.bool_bool _ _,nofun⟩
  |str i j=>obtain⟨t,rfl⟩:=h1.fS;obtain⟨w,rfl⟩:=h2.fS;exact⟨.str_str _ _ _ _,nofun⟩
  |bytes i j=>obtain⟨c,t,rfl,rfl⟩:=h1.fm;obtain⟨c',w,rfl,rfl⟩:=h2.fm;exact⟨λprog w E Q q=>eqBool_bytes q,nofun⟩
  |tup i j I e'=>
   obtain⟨a,xs,rfl,i1,_,r1⟩:=h1.mh
   obtain⟨a',ys,rfl,i2,_,r2⟩:=h2.mh
   obtain⟨f,f1,rfl⟩:=Cz e'
   have l1:xs.size=i.length:=r1.length
   have l2:ys.size=j.length:=r2.length
   have:=RcAt.tuples (A:=A) (e:=f) i1 i2 (L1 [A.units,cLine,n] 19389907800154 hu) (each r1 r2 f1)
   rw[l1,l2,<- I,min_self,beq_self_eq_true,Bool.and_true] at this
   exact up rfl rfl this
  |lst i j I e'=>
   obtain⟨a,xs,rfl,i1,_,r1⟩:=h1.dO
   obtain⟨a',ys,rfl,i2,_,r2⟩:=h2.dO
   obtain⟨f,f1,rfl⟩:=Cz e'
   have l1:xs.size=i.length:=r1.length
   have l2:ys.size=j.length:=r2.length
   have:=RcAt.lists (A:=A) (e:=f) i1.isList i2.isList (eK (L3 [xs.size,ys.size,i.length,j.length] 865453679448140 I l1 l2) (L3 [ys.size,xs.size,i.length,j.length] 846766545244236 I l1 l2)) (L1 [A.units,cLine,n] 19389907800154 hu) (each r1 r2 f1)
   rw[l1] at this
   exact up rfl rfl this
  |xF i j I=>
   obtain⟨a,xs,rfl,i1,_,r1⟩:=h1.dO
   obtain⟨a',ys,rfl,i2,_,r2⟩:=h2.dO
   have l1:xs.size=i.length:=r1.length
   have l2:ys.size=j.length:=r2.length
   exact up rfl rfl (RcAt.lists_lengths i1.isList i2.isList (by lia) (L1 [A.units,cLine,n] 19389907800154 hu))
end
noncomputable def lm:F2:=λx y st=>match fu 8 x y with | some b=>.ok (.bool b) st | none=>.stuck
theorem KL{lv}{c}(C:CxA lv c):c.A.units+64<cLine:=by
 have:=C.units
 show _<9900
 exact L1 [c.A.units,lv] 0x7d03fa1282fb09026ac4fa402fa095a this
theorem WK:cH (compareOp .Eq) lm:=by
 intro lv c X a b x y C w ha hb hr
 obtain⟨r,hx⟩:∃r,fu 8 x y=some r:=by
  unfold lm at hr
  cases q:fu 8 x y with
  |none=>rw[q] at hr;exact absurd rfl hr
  |some r=>exact⟨r,rfl⟩
 have E:lm x y X.st=.ok (.bool r) X.st:=by unfold lm;rw[hx]
 rw[E]
 have bc:Po c no X (.ok (.bool r) X.st) (cm c) (.bool r) X.s:=.id w (.bool r)
 have H:=(WJ 8 (Nat.lt_of_le_of_lt (Nat.add_le_add_left (by decide) _) (KL C)) ha hb hx).rc
 have e:=Cy hx
 clear hx E
 induction e with
 |int i j=>obtain⟨t,rfl⟩:=ha.dv;obtain⟨w,rfl⟩:=hb.dv;exact PySem.P.eq_int bc
 |bool i j=>cases ha.mf;cases hb.mf;exact SeqAt.RcAt.bool_bool _ _ _ _ _ _ bc
 |str i j=>obtain⟨t,rfl⟩:=ha.fS;obtain⟨w,rfl⟩:=hb.fS;exact SeqAt.RcAt.str_str _ _ _ _ _ _ _ _ bc
 |bytes i j=>
  obtain⟨c,t,rfl,rfl⟩:=ha.fm;obtain⟨c',w,rfl,rfl⟩:=hb.fm
  refine eq_bytes ?_
  rw[show(c.toList==c'.toList)=decide (c.toList=c'.toList) by rw[Bool.eq_iff_iff,beq_iff_eq,decide_eq_true_iff]]
  exact bc
 |tup i j=>obtain⟨a',xs,rfl,_⟩:=ha.mh;exact H _ rfl _ _ _ _ bc
 |lst i j=>obtain⟨a',xs,rfl,_⟩:=ha.dO;exact H _ rfl _ _ _ _ bc
 |xF i j=>obtain⟨a',xs,rfl,_⟩:=ha.dO;exact H _ rfl _ _ _ _ bc
noncomputable def mu:List D->Option (List Int)
 |[]=>some []
 |d::r=>(ft d).bind λi=>(mu r).map (i :: ·)
section
variable{ρ:List (Addr×Addr)}{U:Addr->Prop}{h:Heap}
theorem vm{vs}{V}{ns}(r:bv ρ U h vs V)(e:mu V=some ns):IntsAre vs ns:=by
 induction V generalizing vs ns with
 |nil=>cases r.jd;cases e;exact .nil
 |cons d V ih=>
  obtain⟨v,vs,rfl,a,b⟩:=r.inv
  obtain⟨i,hi,e⟩:=jx.mp e
  obtain⟨ms,hm,rfl⟩:=pJ e
  cases gq hi
  obtain⟨t,rfl⟩:=a.dv
  exact .cons _ _ (ih b hm)
end
def qC:F2:=λx y st=>match x with
 |.int a=>aI (ft y) (λb st=>.ok (.bool (a != b)) st) st
 |.bytes a=>aI (mq y) (λb st=>.ok (.bool (a != b)) st) st
 |.lst a=>aI (iH y) (λb st=>aI (mu a) (λx st=>aI (mu b) (λy st=>.ok (.bool (!decide (x=y))) st) st) st) st
 |_=>.stuck
theorem WL:cH (compareOp .NotEq) qC:=by
 intro lv c X a b x y C w ha hb
 cases x with
 |int i=>
  refine .aI λj hj J=>?_
  cases gq hj
  obtain⟨t,rfl⟩:=ha.dv
  obtain⟨u,rfl⟩:=hb.dv
  exact PySem.P.ne_int (.same w rfl rfl rfl (.bool _))
 |bytes i=>
  refine .aI λj hj J=>?_
  cases pE hj
  obtain⟨i,t,rfl,rfl⟩:=ha.fm
  obtain⟨j,u,rfl,rfl⟩:=hb.fm
  exact ne_bytes (.same w rfl rfl rfl (.bool _))
 |lst i=>
  refine .aI λj hj=>?_
  refine .aI λns hn=>?_
  refine .aI λms hm J=>?_
  cases jG hj
  obtain⟨a,xs,rfl,h1,_,r1⟩:=ha.dO
  obtain⟨b,ys,rfl,h2,_,r2⟩:=hb.dO
  exact ke_ne_ints (xs:=xs.toList) (ys:=ys.toList) h1.isList h2.isList (vm r1 hn) (vm r2 hm) (KL C) (.same w rfl rfl rfl (.bool _))
 |_=>exact λh=>absurd rfl h
def vn:F2:=λx y st=>aI (ft x) (λa st=>aI (Ct y) (λb st=>aI (mu b) (λns st=>.ok (.bool (ns.any λn=>n==a)) st) st) st) st
theorem WM:cH (compareOp .In) vn:=by
 intro lv c X a b x y C w ha hb
 refine .aI λi hi=>?_
 refine .aI λZ he=>?_
 refine .aI λns hn J=>?_
 cases gq hi
 cases Ky he
 obtain⟨t,rfl⟩:=ha.dv
 obtain⟨b1,ys,rfl,h2,_,r2⟩:=hb.mh
 have au:=vm r2 hn
 refine SeqAt.in_tupleAt (isInt i) h2 (λy hy=>(eq_isInt i t au y (Array.mem_toList_iff.mpr hy)).at _ _) ?_
 rw[<- any_toList,any_isInt i au]
 exact .same w rfl rfl rfl (.bool _)
noncomputable def iJ{α:Type}(st:List M)(k:Nat)(f:List D->Res α):Res α:=match st[k]? with
 |some (.list V)=>f V
 |_=>.stuck
theorem KM{α:Type}{st:List M}{k:Nat}{f:List D->Res α}(h:iJ st k f≠.stuck):∃V,st[k]?=some (.list V)/\iJ st k f=f V:=by
 unfold iJ at h ⊢
 cases e:st[k]? with
 |none=>rw[e] at h;exact absurd rfl h
 |some m=>cases m with
  |list V=>exact⟨V,rfl,rfl⟩
  |_=>rw[e] at h;exact absurd rfl h
inductive KN(c:Cx)(X:Sx)(k:Nat)(v:Value)(V:List D):Prop
 |mk (a:Addr) (vs:Array Value) (e:v=.ref a) (g:X.ρ[k]?=some (a,a)) (x:PL X.s.heap a vs) (r:cq c X vs.toList V):KN c X k v V
theorem fT.KO{w}{ρ}{U}{h}{p}{m}(x:fT w ρ U h p m):∀{V},m=.list V->p.2=p.1/\∃vs,PL h p.1 vs/\bv ρ U h vs.toList V:=by
 induction x with
 |list a b r=>intro V e;cases e;exact⟨b,_,a,r⟩
 |_=>exact λe=>nomatch e
theorem aC.pK{c}{X}(w:aC c X){k}{v}{V}(r:bJ c X v (.ab k))(h:X.st[k]?=some (.list V)):KN c X k v V:=by
 obtain⟨⟨a,b⟩,hp,rfl⟩:=r.qs
 obtain⟨q,vs,x,rl⟩:=(w.jC _ _ _ hp h).KO rfl
 cases q
 exact⟨a,vs,rfl,hp,x,rl⟩
theorem c3.iJ{α β:Type}{c:Cx}{X:Sx}{P:α->β->Sx->Prop}{t:Sem β}{k:Nat}{f:List D->Res α}(h:∀V,X.st[k]?=some (.list V)->c3 c X (f V) t P):c3 c X (iJ X.st k f) t P:=λhr=>by
 obtain⟨V,e,e'⟩:=KM hr
 rw[e'] at hr ⊢
 exact h V e hr
noncomputable def tw(n:Nat)(i:Int):Option Nat:=
 if 0<=i/\i<n/\i<4611686018427387904 then some i.toNat
 else if i<0/\-(n:Int)<=i/\-4611686018427387904<=i then some (i+n).toNat else none
noncomputable def qD(x:Option D)(st:List M):Res D:=match x with
 |some d=>.ok d st
 |none=>.stuck
noncomputable def lq(V:List D)(i:Int)(st:List M):Res D:=qD ((tw V.length i).bind (V[·]?)) st
def iK:F2:=λx y st=>aI (ft y) (λi st=>match x with
 |.lst V=>lq V i st
 |.tup V=>lq V i st
 |.bytes b=>qD (if 0<=i/\i<b.length/\b.length<=sz then some (.int (b.getD i.toNat 0).toNat) else none) st
 |.str x=>qD (if 0<=i/\i<x.length/\i<4611686018427387904 then some (.str (Txt.item x i)) else none) st
 |.ab k=>iJ st k λV=>lq V i st
 |_=>.stuck) st
theorem KP{i:Int}{n:Nat}(q1:0<=i)(q2:i<n):seqIndex? i n=some i.toNat:=by
 unfold seqIndex?
 simp only[Int.not_lt.mpr q1,if_false]
 exact ax (by rw[and_eq_true,decide_eq_true_eq,decide_eq_true_eq];exact⟨q1,q2⟩)
set_option tactic.hygienic true in
theorem KQ{n j}{i}(h:tw n i=some j):(0<=i/\i<n/\i<4611686018427387904/\j=i.toNat)\/(i<0/\-(n:Int)<=i/\-4611686018427387904<=i/\j=(i+n).toNat):=by
 unfold tw at h
 split at h
 .rename_i q;cases h;exact .inl ⟨q.1,q.2.1,q.2.2,rfl⟩
 .split at h
  .rename_i q;cases h;exact .inr ⟨q.1,q.2.1,q.2.2,rfl⟩
  .cases h
section
variable{c:Cx}{X:Sx}{α β:Type}{t:Sem β}
theorem c3.one{x}{P}(h:∀d,x=some d->c3 c X (.ok d X.st) t P):c3 c X (qD x X.st) t P:=by
 cases x with
 |none=>exact λh=>absurd rfl h
 |some d=>exact h d rfl
theorem c3.item{vs:Array Value}{V:List D}{i:Int}{t:Sem Value}(w:aC c X)(r:cq c X vs.toList V)(h:∀v j,tw vs.size i=some j->vs[j]?=some v->(∀{Q:Value->Shared->Prop} {E:Value->Shared->Prop},Q v X.s->PySem.wpAny c.M c.A t Q E X.s)):c3 c X (lq V i X.st) t (cm c):=
 .one λd hd J=>by
  obtain⟨j,h1,h2⟩:=jx.mp hd
  obtain⟨v,g1,g2⟩:=r.get h2
  rw[<- r.length,du] at h1
  rw[jA] at g1
  exact h v j h1 g1 (.id w g2)
theorem KR{a:Addr}{vs:Array Value}{V:List D}{i:Int}{t:Tok}{value slice:Expr}(w:aC c X)(I:X.s.heap.IsList a vs)(r:cq c X vs.toList V)(hs:∀o i t,subscripted slice false o (.int i t)=operate [o,.int i t] (getItem o (.int i t))) :
  c3 c X (lq V i X.st) (subscriptTail value slice (.ref a) (.int i t)) (cm c):=.item w r λv j h1 g1 J J q=>by
 refine tail_any I.typeIs slot_list_getitem.lookup ?_ (hs ..)
 rcases KQ h1 with⟨q1,q2,q3,rfl⟩ | ⟨q1,q2,q3,rfl⟩
 .exact PySem.wpAny_getItem_list I q1 (by lia) g1 q
 .exact PySem.wpAny_getItem_list_neg I q1 q2 (by lia) g1 q
theorem WN{a:Addr}{vs:Array Value}{V:List D}{i:Int}{t:Tok}{value slice:Expr}(w:aC c X)(I:X.s.heap.IsTuple a vs)(r:cq c X vs.toList V)(hs:∀o i t,subscripted slice false o (.int i t)=operate [o,.int i t] (getItem o (.int i t))) :
  c3 c X (lq V i X.st) (subscriptTail value slice (.ref a) (.int i t)) (cm c):=.item w r λv j h1 g1 J J q=>by
 have ht:IsTup X.s.heap a vs:=I
 refine tail_any ht.typeIs slot_tuple_getitem.lookup ?_ (hs ..)
 rcases KQ h1 with⟨q1,q2,q3,rfl⟩ | ⟨q1,q2,q3,rfl⟩
 .exact getItem_tuple ht (by lia) (by lia) (KP q1 q2) g1 q
 .exact getItem_tuple ht (by lia) (by lia) (seqIndex_neg q1 q2) g1 q
theorem KS{p:Prop}[Decidable p]{x y:α}(h:(if p then some x else none)=some y):p/\x=y:=vk h
theorem WO{value slice:Expr}(hs:∀o i t,subscripted slice false o (.int i t)=operate [o,.int i t] (getItem o (.int i t))):cH (subscriptTail value slice) iK:=λlv c X a b x y C w ra rb=>.aI λi hi=>by
 cases gq hi
 obtain⟨t,rfl⟩:=rb.dv
 cases x with
 |tup V=>obtain⟨a,vs,rfl,h1,_,h3⟩:=ra.mh;exact WN w h1 h3 hs
 |lst V=>obtain⟨a,vs,rfl,h1,_,h3⟩:=ra.dO;exact KR w h1.isList h3 hs
 |ab k=>exact .iJ λV hk=>by obtain⟨a,vs,rfl,_,h1,h3⟩:=w.pK ra hk;exact KR w h1.isList h3 hs
 |bytes l=>
  obtain⟨b,u,rfl,rfl⟩:=ra.fm
  refine .one λd hd J=>?_
  obtain⟨q,rfl⟩:=KS hd
  rw[du] at q
  refine tail_any (typeIs_bytes _ _ _) FB.slot_bytes_getitem.lookup ?_ (hs ..)
  refine getItem_gives (typeIs_bytes X.s _ u) (by decide) FB.slot_bytes_getitem FB.entry_bytes_getitem (FB.args_bytes_getitem_2 _ _) (gives_bytes_getitem _ i u t (b.toList.getD i.toNat 0) ?_ ?_) (.same w rfl rfl rfl (.int ..))
  .have:=q.2.2
   unfold sz at this
   unfold Builtin.Bytes.fitsIndex
   rw[and_eq_true,decide_eq_true_eq,decide_eq_true_eq];lia
  .have I:i.toNat<b.size:=by lia
   rw[KP q.1 q.2.1]
   simp[I]
 |str z=>
  obtain⟨u,rfl⟩:=ra.fS
  refine .one λd hd J=>?_
  obtain⟨q,rfl⟩:=KS hd
  refine tail_any (typeIs_str _ _ _) F.slot_str_getitem.lookup ?_ (hs ..)
  exact SB.getItem (fitsSsize_of (N:=4611686018427387904) (by lia) (by lia) (by decide)) (charAt_isSome (by lia) q.2.1) (.same w rfl rfl rfl (.str ..))
 |_=>exact λh=>absurd rfl h
end
noncomputable def cut{α:Type}(lo hi:Option Int)(l:List α):List α:=(match hi with | none=>l | some h=>l.take h.toNat).drop (match lo with | none=>0 | some a=>a.toNat)
noncomputable def j6:Option Int->Bool
 |none=>true
 |some i=>decide (0<=i)
noncomputable def mw(V:List D)(lo hi:Option Int)(st:List M):Res D:=if(j6 lo&&j6 hi)=true/\V.length<=sz then .ok (.lst (cut lo hi V)) st else .stuck
noncomputable def kF(x:D)(lo hi:Option Int)(st:List M):Res D:=match x with
 |.lst V=>mw V lo hi st
 |.arr V=>mw V lo hi st
 |.bytes b=>if(j6 lo&&j6 hi)=true/\b.length<=sz then .ok (.bytes (cut lo hi b)) st else .stuck
 |.ab k=>iJ st k λV=>mw V lo hi st
 |_=>.stuck
theorem KT{x}(h:j6 x=true):∃y:Option Nat,x=y.map λ(n:Nat)=>(n:Int):=by
 cases x with
 |none=>exact⟨none,rfl⟩
 |some a=>obtain⟨a,rfl⟩:=Int.eq_ofNat_of_zero_le (dJ h);exact⟨some a,rfl⟩
theorem WP{α:Type}(l:List α)(a b:Nat):(l.drop (min a l.length)).take (min b l.length-min a l.length)=(l.take b).drop a:=by
 rw[<- drop_take,List.take_eq_take_min,Nat.min_assoc,min_self,<- List.take_eq_take_min]
 rcases Nat.le_total a l.length with h | h
 .rw[min_eq_left h]
 .rw[Nat.min_eq_right h,List.drop_of_length_le (length_take_le' ..),List.drop_of_length_le (bg (length_take_le' ..) h)]
theorem KU{α:Type}(l:List α){lo hi}(h:(j6 lo&&j6 hi)=true) :
  (l.drop (lo.elim 0 (clipAt l.length))).take (hi.elim l.length (clipAt l.length)-lo.elim 0 (clipAt l.length))=cut lo hi l:=by
 obtain⟨h1,h2⟩:=(and_eq_true _ _).mp h
 obtain⟨a,rfl⟩:=KT h1
 obtain⟨b,rfl⟩:=KT h2
 have ea:(a.map λ(n:Nat)=>(n:Int)).elim 0 (clipAt l.length)=min (a.elim 0 id) l.length:=by
  cases a with
  |none=>exact(Nat.zero_min _).symm
  |some a=>exact clipAt_nat ..
 have eb:(b.map λ(n:Nat)=>(n:Int)).elim l.length (clipAt l.length)=min (b.elim l.length id) l.length:=by
  cases b with
  |none=>exact(min_self _).symm
  |some b=>exact clipAt_nat ..
 rw[ea,eb,WP]
 cases a <;> cases b <;> simp[cut]
section
variable{ρ:List (Addr×Addr)}{U:Addr->Prop}{h:Heap}{vs:List Value}{V:List D}
theorem bv.drop(n)(r:bv ρ U h vs V):bv ρ U h (vs.drop n) (V.drop n):=
 ⟨by rw[length_drop,length_drop,r.length],λi v y e e'=>r.pt (n+i) v y (by rwa [getElem?_drop] at e) (by rwa [getElem?_drop] at e')⟩
theorem CD{α:Type}{p:Prop}[Decidable p]{x:Option α}{y:α}(h:(if p then x else none)=some y):p/\x=some y:=by
 by_cases q:p
 .exact⟨q,(ax q).symm.trans h⟩
 .exact nomatch (aY q).symm.trans h
theorem KV{α:Type}{l:List α}{n i:Nat}{x:α}(e:(l.take n)[i]?=some x):l[i]?=some x:=by
 rw[List.getElem?_take] at e
 exact(CD e).2
theorem bv.take(n)(r:bv ρ U h vs V):bv ρ U h (vs.take n) (V.take n):=
 ⟨by rw[length_take,length_take,r.length],λi v y e e'=>r.pt i v y (KV e) (KV e')⟩
theorem bv.cut(lo hi)(r:bv ρ U h vs V):bv ρ U h (Internal.cut lo hi vs) (Internal.cut lo hi V):=by
 refine bv.drop _ ?_
 cases hi with
 |none=>exact r
 |some b=>exact r.take _
end
section
variable{K:Ks}
def mx(K:Ks)(e:Option Expr)(r:List (Option D)->List M->Res (Option Int)):Prop:=∀c σ X,cj K c->Ok K c σ X->Sm c no X (r σ X.st) (.wp c (evalPart e c.env)) (λd v J=>IsPart v d)
noncomputable def WQ:List (Option D)->List M->Res (Option Int):=λJ st=>.ok none st
def CG:D->List M->Res (Option Int):=λd st=>aI (ft d) (λi st=>.ok (some i) st) st
def WR(r:SE):List (Option D)->List M->Res (Option Int):=λσ st=>(r σ st).bind CG
theorem mx.no:mx K Option.none WQ:=λJ J J J o J=>aT (.id o.w .none)
theorem Sm.aI{α β γ:Type}{c:Cx}{W:Addr->Prop}{X:Sx}{P:α->γ->Sx->Prop}{F:PT γ}{x:Option β}{f:β->List M->Res α}(h:∀a,x=some a->Sm c W X (f a X.st) F P):Sm c W X (aI x f X.st) F P:=by
 cases x with
 |none=>exact λh=>absurd rfl h
 |some a=>exact h a rfl
theorem Sm.iJ{α β:Type}{c:Cx}{W:Addr->Prop}{X:Sx}{P:α->β->Sx->Prop}{F:PT β}{k:Nat}{f:List D->Res α}(h:∀V,X.st[k]?=some (.list V)->Sm c W X (f V) F P):Sm c W X (iJ X.st k f) F P:=λhr=>by
 obtain⟨V,e,e'⟩:=KM hr
 rw[e'] at hr ⊢
 exact h V e hr
theorem mx.some{e:Expr}{r:SE}(h:ay K e r):mx K (Option.some e) (WR r):=λc σ X C o hr=>by
 have:=(h c σ X C o).bind (f:=CG) (G:=λv=>.pure v) (P':=λd v J=>IsPart v d) (λd v aa n w p=>.aI λi hi J=>by
  cases gq hi
  obtain⟨t,rfl⟩:=p.dv
  exact .id w (.int i t)) hr
 exact this
noncomputable def WS(ra:SE)(lo hi:List (Option D)->List M->Res (Option Int)):SE:=λσ st=>(ra σ st).bind λx st=>(lo σ st).bind λl st=>(hi σ st).bind λh st=>kF x l h st
noncomputable def PT.sliced (c:Cx) (a e:Expr) (st:Option Expr) (x vl vu:Value):PT Value:=⟨λQ E s=>af c.M c.A (evalPart st c.env) (λt cF=>af c.M c.A (subscriptTail a e x (.ref cF.heap.objs.size)) Q E {cF with heap:=cF.heap.push {cls:=.type "slice",data:=.fields #[vl,vu,t]}}) E s,
 λh q e=>aE h (λJ J h=>aE h q e) e⟩
section
variable{c:Cx}{X:Sx}{a:Expr}{lo hi:Option Expr}{p:Pos}{vl vu:Value}{dl dh:Option Int}(w:aC c X)(pl:IsPart vl dl)(ph:IsPart vu dh)
include w pl ph
theorem CH{l}{items}{V}(I:X.s.heap.IsList l items)(r:cq c X items.toList V):Sm c no X (mw V dl dh X.st) (.sliced c a (.Slice lo hi Option.none p) Option.none (.ref l) vl vu) (cm c):=.iff λhq J=>by
 have k:eZ X.s.heap ((X.s.heap.push {cls:=.type "slice",data:=.fields #[vl,vu,.none]}).push {cls:=.type "list",data:=.seq (slicePick items dl dh Option.none)}):=λb o e=>fV _ _ _ _ (fV _ _ _ _ e)
 show af _ _ (evalPart none c.env) _ _ _
 rw[evalPart_none]
 refine aT (gg<|tail_any (ops:=[.ref X.s.heap.objs.size,.ref l]) (I.push _).typeIs slot_list_getitem.lookup (wpAny_getItem_list_slice (I.push _) (Heap.IsSliceOf.new ..) pl ph .none (by simp) ?_ (by rw[<- du,r.length,fo];exact hq.2)) rfl)
 refine .keeps w k rfl rfl (.lst ⟨_,gi _ rfl,rfl,rfl,0,rfl⟩ (w.fresh (qz (by rw[Heap.size_push];exact le_succ _))) ?_)
 rw[show(slicePick items dl dh Option.none).toList=Internal.cut dl dh items.toList by rw[slicePick_plain];exact KU items.toList hq.1]
 exact Nx.gG (W:=no) (aa:=X.to {X.s with heap:=_}) (.keeps k) (r.cut dl dh)
theorem WT{b}{u}:Sm c no X (kF (.bytes b.toList) dl dh X.st) (.sliced c a (.Slice lo hi Option.none p) Option.none (.bytes b u) vl vu) (cm c):=.iff λhq J=>by
 show af _ _ (evalPart none c.env) _ _ _
 rw[evalPart_none]
 refine aT (gg<|tail_any (ops:=[.ref X.s.heap.objs.size,.bytes b u]) (typeIs_bytes _ _ _) FB.slot_bytes_getitem.lookup ?_ rfl)
 refine getItem_meets (typeIs_bytes _ _ _) (by decide) FB.slot_bytes_getitem FB.entry_bytes_getitem (FB.args_bytes_getitem_2 _ _) (KBc.meets_slice2 b u _ pl ph) ⟨Heap.IsSliceOf.new _ _ _ _,bg (KBc.size_picked_le b dl dh) (by rw[<- du,fo];exact hq.2),λt' k=>?_⟩
 refine .keeps w (fV _ _) rfl rfl ?_
 rw[<- KU b.toList hq.1]
 exact KBc.picked_eq b dl dh▸.bytes _ _
theorem WU{x}{dx}(r:bJ c X x dx):Sm c no X (kF dx dl dh X.st) (.sliced c a (.Slice lo hi Option.none p) Option.none x vl vu) (cm c):=by
 cases dx with
 |lst V=>obtain⟨a,vs,rfl,h1,_,h3⟩:=r.dO;exact CH w pl ph h1.isList h3
 |arr V=>obtain⟨a,vs,rfl,h1,_,h3⟩:=r.BV;exact CH w pl ph h1 h3
 |bytes l=>obtain⟨b,u,rfl,rfl⟩:=r.fm;exact WT w pl ph
 |ab k=>
  refine .iJ λV hk=>?_
  obtain⟨a,vs,rfl,_,h1,h3⟩:=w.pK r hk
  exact CH w pl ph h1.isList h3
 |_=>exact λh=>absurd rfl h
end
theorem ay.slice{a}{lo hi}{ra}{rl rh}{p pos}(ha:ay K a ra)(I:mx K lo rl)(hh:mx K hi rh) :
  ay K (.Subscript a (.Slice lo hi Option.none p) pos) (WS ra rl rh):=λc σ X C o hr=>
 BK ((ha c σ X C o).bind (G:=λx=>(PT.wp c (eval (.Slice lo hi Option.none p) c.env)).bind λy=>.wp c (subscriptTail a (.Slice lo hi Option.none p) x y)) (P':=cm c) (λdx x aa n w r hr=>JG
  (((I c σ aa C (o.next C w n)).bind (G:=λvl=>(PT.wp c (evalPart hi c.env)).bind (PT.sliced c a (.Slice lo hi Option.none p) Option.none x vl)) λdl vl ae m mn pl=>(hh c σ ae C ((o.next C w n).next C mn m)).bind λdh vu ai WV sZ ph=>WU sZ pl ph (WV.rd (m.rd r))) hr)) hr)
def CJ(x:D)(p:Option Int)(st:List M):Res D:=aI (mq x) (λb st=>aI p (λk st=>if k = -1/\b.length<=sz then .ok (.bytes b.reverse) st else .stuck) st) st
def WW(ra:SE)(rp:List (Option D)->List M->Res (Option Int)):SE:=λσ st=>(ra σ st).bind λx st=>(rp σ st).bind λp st=>CJ x p st
theorem WX(b)(t)(a)(ts) :
  Meets (PySem.Builtin.«bytes.__getitem__» ⟨[.bytes b t,.ref a],[]⟩) (λJ R s=>s.heap.IsSliceOf a .none .none (.int (-1) ts)/\b.size<=sizeLine/\∀t' k,R (.ok (.ret (.bytes b.toList.reverse.toArray t'))) {s with toks:=k}):=by
 refine .of_wp λprog w A R s hS=>?_
 obtain⟨⟨o,ho,hc,hd⟩,fa,h⟩:=hS
 have hT:s.TypeIs (.ref a) "slice":=⟨o,ho,hc⟩
 show PySem.wpAny _ _ (Builtin.Bytes.payload (.bytes b t) >>= λr=>_) _ _ s
 refine br (jw (a:=b) rfl ?_)
 show PySem.wpAny _ _ (Builtin.Bytes.subscript? (.ref a) >>= λr=>_) _ _ s
 refine br ?_
 unfold Builtin.Bytes.subscript?
 refine br (PySem.wpAny_specialOf hT slice_no_index (dD ?_))
 refine br (PySem.wpAny_typeOf hT ?_)
 show PySem.wpAny _ _ (Builtin.Bytes.sliceParts (.ref a) >>= λr=>_) _ _ s
 refine br ?_
 unfold Builtin.Bytes.sliceParts
 refine br (PySem.wpAny_field (x:=.int (-1) ts) ho hd rfl ?_)
 kby_int
 refine PySem.wpAny_ite (KBy.ite_no (show¬((rawInt (-1)==rawInt 0)=true) from by decide) ?_)
 refine br (PySem.wpAny_field (x:=.none) ho hd rfl ?_)
 have go:PySem.wpAny (model prog w) A.in1 (sliceIndices (rawPart none) (rawPart none) (rawPart (some (-1))) b.size) (λr s'=>r=sliceBounds none none (some (-1)) b.size/\s'=s) (λJ J=>False) s:=
  jw (sliceIndices_raw none none (some (-1)) b.size (by decide)) ⟨rfl,rfl⟩
 kby_none
 refine br (PySem.wpAny_field (x:=.none) ho hd rfl ?_)
 kby_none
 refine dD ?_
 refine br (PySem.wpAny_mono go (λr s' hr=>?_) λJ J e=>e.elim)
 obtain⟨WY,WZ⟩:=hr
 subst WY WZ
 refine PySem.wpAny_ite (KBy.ite_no ?_ ?_)
 .intro z
  simp at z
 .have e:Builtin.Bytes.sliced b (sliceBounds none none (some (-1)) b.size).1 (sliceBounds none none (some (-1)) b.size).2.1 (sliceBounds none none (some (-1)) b.size).2.2=b.toList.reverse.toArray:=by
   unfold Builtin.Bytes.sliced
   rw[krv_bounds,krv_sliceRange,krv_range,List.filterMap_reverse,krv_all]
  show PySem.wpAny _ _ (mkBytes (Builtin.Bytes.sliced b (sliceBounds none none (some (-1)) b.size).1 (sliceBounds none none (some (-1)) b.size).2.1 (sliceBounds none none (some (-1)) b.size).2.2) >>= λr=>ret r) _ _ _
  rw[e]
  exact br (PySem.wpAny_mkBytes (dD ⟨_,rfl,h _ _⟩) (by rw[size_toArray,length_reverse,du];exact fa))
theorem W5{v}{i}(p:IsPart v (some i)):∃t,v=.int i t:=by cases p with | int _ t=>exact⟨t,rfl⟩
theorem ay.rev{a e:Expr}{ra:SE}{rp:List (Option D)->List M->Res (Option Int)}{p pos:Pos}(ha:ay K a ra)(hp:mx K (Option.some e) rp) :
  ay K (.Subscript a (.Slice Option.none Option.none (Option.some e) p) pos) (WW ra rp):=λc σ X C o hr=>
 BK ((ha c σ X C o).bind (G:=λx=>(PT.wp c (eval (.Slice Option.none Option.none (Option.some e) p) c.env)).bind λy=>.wp c (subscriptTail a (.Slice Option.none Option.none (Option.some e) p) x y)) (P':=cm c) (λdx x aa n w r hr=>JG (by
  rw[evalPart_none]
  refine aT (aT ?_)
  refine((hp c σ aa C (o.next C w n)).bind (G:=λt=>⟨λQ E s=>af c.M c.A (subscriptTail a (.Slice Option.none Option.none (Option.some e) p) x (.ref s.heap.objs.size)) Q E {s with heap:=s.heap.push {cls:=.type "slice",data:=.fields #[.none,.none,t]}},λh q e=>aE h q e⟩) (P':=cm c) (λdl vl ae m mn pl=>.aI λl I=>.aI λk hk=>.iff λhq J=>?_) hr)
  cases pE I
  subst hk
  obtain⟨rfl,hz⟩:=hq
  obtain⟨b,u,rfl,rfl⟩:=(m.rd r).fm
  obtain⟨t,rfl⟩:=W5 pl
  refine gg<|tail_any (ops:=[.bytes b u,.ref ae.s.heap.objs.size]) (typeIs_bytes _ _ _) FB.slot_bytes_getitem.lookup ?_ rfl
  exact getItem_meets (typeIs_bytes _ _ _) (by decide) FB.slot_bytes_getitem FB.entry_bytes_getitem (FB.args_bytes_getitem_2 _ _) (WX b u _ t) ⟨Heap.IsSliceOf.new _ _ _ _,by rw[<- du,fo];exact hz,λt' k=>.keeps mn (fV _ _) rfl rfl (.bytes _ _)⟩)) hr)
end
section
variable{α:Type}
def sk(t:Sem α):Sem α:=
 t.rec (motive:=λJ=>Sem α) (λa=>.pure a) (λe=>.raise e) (λw=>.unsupported w) (λe=>.finish e) (λJ J ih=>ih ()) (λJ J ih=>ih ()) (λa p k J=>.load a p k) (λa p f k J=>.update a p f k) (λo k J=>.alloc o k) (λa k J=>.loadIfAlive a k) (λJ J ih=>ih ())
  (λa k J=>.register a k) (λk J=>.fresh k) (λk J=>.ask k) (λs n k J=>.choose s n k) (λq l k J=>.os q l k) (λc h g l k J=>.call c h g l k) (λo k J=>.handled o k) (λc k J=>.newGen c k) (λg k J=>.genState g k) (λg r l k J=>.resume g r l k)
  (λv g l k J=>.yield v g l k) (λk J=>.stack k) (λc k J=>.fork c k) (λk J=>.thread k) (λa t d l k J=>.await a t d l k)
structure Nd(α:Type) where
 p:Option Value:=none
 f:Obj->Obj:=id
 g:Bool:=false
 l:List Value:=[]
 L:Obj->Sem α:=λJ=>.unsupported ""
 au:Option Obj->Sem α:=λJ=>.unsupported ""
 U:Unit->Sem α:=λJ=>.unsupported ""
 A:Addr->Sem α:=λJ=>.unsupported ""
 F:Tok->Sem α:=λJ=>.unsupported ""
 K:Setting->Sem α:=λJ=>.unsupported ""
 C:Result->Sem α:=λJ=>.unsupported ""
 H:Option Value->Sem α:=λJ=>.unsupported ""
 S:List (Code×Pos)->Sem α:=λJ=>.unsupported ""
def nd(t:Sem α):Nd α:=
 (sk t).casesOn (λJ=>{}) (λJ=>{}) (λJ=>{}) (λJ=>{}) (λJ J=>{}) (λJ J=>{}) (λJ p k=>{p:=p,L:=k}) (λJ p f k=>{p:=p,f:=f,U:=k}) (λJ k=>{A:=k}) (λJ k=>{au:=k}) (λJ J=>{})
  (λJ J=>{}) (λk=>{F:=k}) (λk=>{K:=k}) (λJ J J=>{}) (λJ J J=>{}) (λJ J g l k=>{g:=g,l:=l,C:=k}) (λJ k=>{H:=k}) (λJ J=>{}) (λJ J=>{}) (λJ J J J=>{})
  (λJ J J J=>{}) (λk=>{S:=k}) (λJ J=>{}) (λJ=>{}) (λJ J J J J=>{})
variable{Md:Model}{A:Around}{t:Sem α}{Q:α->Shared->Prop}{E:Value->Shared->Prop}{s:Shared}
theorem nw(r:PySem.wpAny Md A (sk t) Q E s):PySem.wpAny Md A t Q E s:=by
 induction t with
 |rule _ k ih=>exact λΓ p h=>ih () r Γ p h
 |«at» p' k ih=>exact λΓ p h=>ih () r Γ p' h
 |point _ k ih=>exact λΓ p h=>ih () r Γ p h
 |_=>exact r
noncomputable def s1(t:Sem α):Sem α:=
 t.casesOn (λJ=>t) (λJ=>t) (λJ=>t) (λJ=>t) (λJ k=>k ()) (λJ k=>k ()) (λJ J J=>t) (λJ J J J=>t) (λJ J=>t) (λJ J=>t) (λJ k=>k ()) (λJ J=>t) (λJ=>t) (λJ=>t) (λJ J J=>t) (λJ J J=>t) (λJ J J J J=>t) (λJ J=>t) (λJ J=>t) (λJ J=>t) (λJ J J J=>t)
  (λJ J J J=>t) (λJ=>t) (λJ J=>t) (λJ=>t) (λJ J J J J=>t)
theorem zS(r:PySem.wpAny Md A (s1 t) Q E s):PySem.wpAny Md A t Q E s:=by
 cases t with
 |rule _ k=>exact λΓ p h=>r Γ p h
 |«at» p' k=>exact λΓ p h=>r Γ p' h
 |point _ k=>exact λΓ p h=>r Γ p h
 |_=>exact r
theorem KW{t'}(r:PySem.wpAny Md A t' Q E s)(e:autoParam (t=t') kr):PySem.wpAny Md A t Q E s:=e▸r
theorem zL{a}{o}(h:s.heap.get? a=some o)(r:PySem.wpAny Md A ((nd t).L o) Q E s)(e:autoParam (sk t=.load a (nd t).p (nd t).L) kr):PySem.wpAny Md A t Q E s:=
 nw (e▸λΓ p bx=>⟨o,h,r Γ p bx⟩)
theorem zU{a}{o}(h:s.heap.get? a=some o)(r:PySem.wpAny Md A ((nd t).U ()) Q E {s with heap:=s.heap.update a (nd t).f})(e:autoParam (sk t=.update a (nd t).p (nd t).f (nd t).U) kr):PySem.wpAny Md A t Q E s:=
 nw (e▸λΓ p bx=>⟨by rw[h];rfl,r Γ p bx⟩)
theorem zA{o}(r:PySem.wpAny Md A ((nd t).A s.heap.objs.size) Q E {s with heap:=s.heap.push o})(e:autoParam (sk t=.alloc o (nd t).A) kr):PySem.wpAny Md A t Q E s:=
 nw (e▸λΓ p bx=>r Γ p bx)
theorem zF(r:PySem.wpAny Md A ((nd t).F s.toks) Q E {s with toks:=s.toks+1})(e:autoParam (sk t=.fresh (nd t).F) kr):PySem.wpAny Md A t Q E s:=
 nw (e▸λΓ p bx=>r Γ p bx)
theorem zK(r:PySem.wpAny Md A ((nd t).K ⟨Md.prog,Md.w.params⟩) Q E s)(e:autoParam (sk t=.ask (nd t).K) kr):PySem.wpAny Md A t Q E s:=
 nw (e▸λΓ p bx=>r Γ p bx)
theorem zH{x}(h:A.handled=x)(r:PySem.wpAny Md A ((nd t).H x) Q E s)(e:autoParam (sk t=.handled false (nd t).H) kr):PySem.wpAny Md A t Q E s:=
 nw (e▸λΓ p bx=>by
  show Sem.wp Md Γ ((nd t).H Γ.handled) _ _ p s
  rw[bx.1,h];exact r Γ p bx)
theorem W7{c}(r:PySem.wpAt Md A c (sk t) Q E s):PySem.wpAt Md A c t Q E s:=by
 induction t with
 |rule _ k ih=>exact λΓ p hc h=>ih () r Γ p hc h
 |«at» p' k ih=>exact λΓ p hc h=>ih () r Γ p' hc h
 |point _ k ih=>exact λΓ p hc h=>ih () r Γ p hc h
 |_=>exact r
theorem zT{c}(r:∀p below,PySem.wpAny Md A ((nd t).S ((c,p)::below)) Q E s)(e:autoParam (sk t=.stack (nd t).S) kr):PySem.wpAt Md A c t Q E s:=
 W7 (e▸λΓ p hc bx=>by
  show Sem.wp Md Γ ((nd t).S ((Γ.code,p)::Γ.below)) _ _ p s
  rw[hc];exact r p Γ.below Γ p bx)
theorem zP{a}(q:Q a s)(e:autoParam (sk t=.pure a) kr):PySem.wpAny Md A t Q E s:=nw (e▸λJ J J=>q)
theorem zR{v}(q:E v s)(e:autoParam (sk t=.raise v) kr):PySem.wpAny Md A t Q E s:=nw (e▸λJ J J=>q)
theorem zC{c}{h}(hc:PySem.codeAny Md (A.mark h) c (λr s'=>PySem.wpAny Md A ((nd t).C r) Q E s') s)(hn:h≠some byPass:=by nofun)(e:autoParam (sk t=.call c h (nd t).g (nd t).l (nd t).C) kr):PySem.wpAny Md A t Q E s:=
 nw (e▸λΓ p bx=>by
  show wpCode Md (Γ.enter c h p) (λr s'=>Sem.wp Md Γ ((nd t).C r) _ _ p s') p s
  exact wpCode_mono (λr s' k=>k Γ p bx) (hc _ p rfl (bx.enter c h p hn)))
end
noncomputable def eF{α:Type}(f:D->List M->Res α):List D->List M->Res α:=λV st=>V.casesOn .stuck λd r=>r.casesOn (f d st) λJ J=>.stuck
noncomputable def gM{α:Type}(f:D->D->List M->Res α):List D->List M->Res α:=λV st=>V.casesOn .stuck λd r=>eF (f d) r st
section
variable{lv:Nat}{kD:Value}
theorem cr.eF{f}(h:∀c X v d,CxA lv c->aC c X->bJ c X v d->c3 c X (f d X.st) (call kD [v]) (cm c)):cr lv kD (eF f):=λc X vs V C w r=>by
 cases V with
 |nil=>exact λh=>absurd rfl h
 |cons d V=>cases V with
  |cons=>exact λh=>absurd rfl h
  |nil=>
   obtain⟨v,vs,rfl,a,b⟩:=r.inv
   cases b.jd
   exact h c X v d C w a
theorem cr.gM{f}(h:∀c X v d v' d',CxA lv c->aC c X->bJ c X v d->bJ c X v' d'->c3 c X (f d d' X.st) (call kD [v,v']) (cm c)):cr lv kD (gM f):=λc X vs V C w r=>by
 cases V with
 |nil=>exact λh=>absurd rfl h
 |cons d V=>cases V with
  |nil=>exact λh=>absurd rfl h
  |cons d' V=>cases V with
   |cons=>exact λh=>absurd rfl h
   |nil=>
    obtain⟨v,vs,rfl,a,b⟩:=r.inv
    obtain⟨v',vs,rfl,a',b1⟩:=b.inv
    cases b1.jd
    exact h c X v d v' d' C w a a'
theorem cr.vo{g}(h:∀c X i t,CxA lv c->aC c X->c3 c X (g i X.st) (call kD [.int i t]) (cm c)):cr lv kD (Internal.eF λd st=>aI (ft d) g st):=.eF λc X v d C w r=>.aI λi hi=>by
 cases gq hi
 obtain⟨t,rfl⟩:=r.dv
 exact h c X i t C w
noncomputable def xG:D->List M->Option Nat
 |.lst V,_=>some V.length
 |.tup V,_=>some V.length
 |.bytes b,_=>some b.length
 |.str x,_=>some x.length
 |.ab i,st=>match st[i]? with
  |some (.list V)=>some V.length
  |some (.a8 b)=>some b.length
  |_=>none
 |_,_=>none
def pM:List D->List M->Res D:=eF λd st=>aI (xG d st) (λn st=>if n<=sz then .ok (.int (n:Int)) st else .stuck) st
theorem W8:PlainAttrs "bytearray":=
 ⟨⟨"bytearray.__getattribute__",by rw[typeLookup_type,builtinLookup_eq_fast];kernel_rfl,by decide +kernel⟩,by rw[typeLookup_type,builtinLookup_eq_fast];kernel_rfl⟩
theorem xH:Manifest.owners.lookup (ofList ['y','a','r','r','a','e','t','y','b'].reverse)=some Manifest.sig_bytearray:=by kernel_rfl
theorem KX:Slot "bytearray" "__len__" "bytearray.__len__":=
 .of (owner:="bytearray") (n:="__len__") (by rw[typeLookup_type,builtinLookup_eq_fast];kernel_rfl) (by decide +kernel) (by decide +kernel) (by decide +kernel)
  (by first | exact .inl (by decide +kernel) | exact .inr (by decide +kernel)) (by rw[isSubtype_type];kernel_rfl)
theorem Xa:entryFor table "bytearray.__len__" = some Builtin.«bytearray.__len__»:=entryFor_of_tree (by kernel_rfl)
theorem Xb (a):argsOk "bytearray.__len__" ⟨[a],[]⟩:=by unfold argsOk;rw[signature?_of (id:="bytearray.__len__") (n:=['_','_','n','e','l','_','_']) (o:=['y','a','r','r','a','e','t','y','b']) (by kernel_rfl) xH];kernel_rfl
def ty (h:Heap) (a:Addr) (b:Array UInt8):Prop:=∃o,h.get? a=some o/\o.cls=.type "bytearray"/\o.data=.bytearray b 0
theorem ty.typeIs {s:Shared} {a b} (x:ty s.heap a b):s.TypeIs (.ref a) "bytearray":=let ⟨o,ho,hc,_⟩:=x;⟨o,ho,hc⟩
theorem KY{M}{A}{E}{s}{a}{b}{Q}(h:ty s.heap a b)(q:Q b s):PySem.wpAny M A (Builtin.Bytes.payload (.ref a)) Q E s:=by
 obtain⟨o,ho,hc,hd⟩:=h
 unfold Builtin.Bytes.payload Builtin.Bytes.payload?
 refine br (br (PySem.wpAny_load ho ?_))
 rw[hd]
 exact dD (dD q)
theorem Xc{prog:Program}{w:World}{A:Around}{E:Value->Shared->Prop}{s:Shared}{a:Addr}{b:Array UInt8}{Q:Value->Shared->Prop}(h:ty s.heap a b)(CL:b.size<=1099511627776)
  (q:Q (.int b.size (s.toks+1)) {s with toks:=s.toks+1+1}):PySem.wpAny (model prog w) A (PySem.call (.builtin "len") [.ref a]) Q E s:=by
 refine Calls.call_function_entry kind_len plain_len entry_len (args_len1 _) ?_
 unfold Builtin.«len»
 refine br (m:=oneArg "len" _) (dD ?_)
 refine br (m:=callSpecial? (.ref a) (Str.ofString "__len__")) (PySem.wpAny_callSpecial?_slot (name:=Str.ofString "__len__") h.typeIs KX
  (PySem.wpAny_call_entry KX h.typeIs Xa ?_ (Xb _)))
 show PySem.wpAny _ _ (Builtin.Bytes.payload (.ref a) >>= λb=>retInt b.size) _ _ s
 refine br (KY h ?_)
 refine br (PySem.wpAny_mkInt (dD ⟨_,rfl,?_⟩))
 refine br (PySem.wpAny_holding (dD ?_))
 refine br (PySem.wpAny_letGo ?_)
 show PySem.wpAny _ _ (if((b.size:Nat):Int)<0 then _ else _) _ _ _
 rw[aY (by lia)]
 show PySem.wpAny _ _ (if((b.size:Nat):Int)≥2^63 then _ else _) _ _ _
 rw[aY (by lia)]
 exact br (PySem.wpAny_mkInt (dD ⟨_,rfl,q⟩))
inductive qE(st:List M):D->Nat->Prop
 |lst (V:List D):qE st (.lst V) V.length
 |tup (V:List D):qE st (.tup V) V.length
 |bytes (b:List UInt8):qE st (.bytes b) b.length
 |str (x:Str):qE st (.str x) x.length
 |list (k:Nat) (V:List D) (h:st[k]?=some (.list V)):qE st (.ab k) V.length
 |a8 (k:Nat) (b:List UInt8) (h:st[k]?=some (.a8 b)):qE st (.ab k) b.length
theorem Xd{d}{st}{n}(h:xG d st=some n):qE st d n:=by
 cases d with
 |lst V=>cases h;exact .lst V
 |tup V=>cases h;exact .tup V
 |bytes b=>cases h;exact .bytes b
 |str x=>cases h;exact .str x
 |ab k=>
  have h:(match st[k]? with | some (.list V)=>some V.length | some (.a8 b)=>some b.length | _=>none)=some n:=h
  cases e:st[k]? with
  |none=>rw[e] at h;nomatch h
  |some m=>cases m with
   |list V=>rw[e] at h;cases h;exact .list k V e
   |a8 b=>rw[e] at h;cases h;exact .a8 k b e
   |_=>rw[e] at h;nomatch h
 |_=>nomatch h
theorem fT.Xe {w} {ρ} {U} {h} {p} {m} (x:fT w ρ U h p m):∀{l},m=.a8 l->p.2=p.1/\∃b o,h.get? p.1=some o/\o.cls=.type "bytearray"/\o.dict=none/\o.data=.bytearray b 0/\l=b.toList:=by
 induction x with
 |a8 a b c d e=>intro l q;cases q;exact⟨d,_,_,a,b.1,b.2,c,e.symm⟩
 |_=>exact λe=>nomatch e
inductive KZ(c:Cx)(X:Sx)(k:Nat)(v:Value)(l:List UInt8):Prop
 |mk (a:Addr) (b:Array UInt8) (e:v=.ref a) (g:X.ρ[k]?=some (a,a)) (o:Obj) (x:X.s.heap.get? a=some o) (hc:o.cls=.type "bytearray") (hd:o.dict=none) (h:o.data=.bytearray b 0) (q:l=b.toList):KZ c X k v l
theorem aC.xI{c}{X}(w:aC c X){k}{v}{l}(r:bJ c X v (.ab k))(h:X.st[k]?=some (.a8 l)):KZ c X k v l:=by
 obtain⟨⟨a,b⟩,hp,rfl⟩:=r.qs
 obtain⟨q,bs,o,x1,x2,x3,x4,x5⟩:=(w.jC _ _ _ hp h).Xe rfl
 cases q
 exact⟨a,bs,rfl,hp,o,x1,x2,x3,x4,x5⟩
theorem cr.len:cr lv (.builtin "len") pM:=.eF λc X v d C w r=>.aI λn hn=>.iff λhz J=>by
 have z2:(n:Int)<2^63:=Int.lt_of_le_of_lt (ofNat_le.mpr hz) (by decide)
 have z1:n<=1099511627776:=bg hz (by decide)
 have bc:∀{k},Po c no X (.ok (.int (n:Int)) X.st) (cm c) (.int (n:Int) k) {X.s with toks:=X.s.toks+1+1}:=.same w rfl rfl rfl (.int ..)
 replace hn:=Xd hn
 induction hn with
 |tup V=>
  obtain⟨a,vs,rfl,h1,_,h3⟩:=r.mh
  rw[<- h3.length,du] at z2 ⊢
  exact len_tuple h1 z2 (.same w rfl rfl rfl (.int ..))
 |lst V=>
  obtain⟨a,vs,rfl,h1,_,h3⟩:=r.dO
  rw[<- h3.length,du] at z2 ⊢
  exact Calls.call_len_list h1.isList z2 (.same w rfl rfl rfl (.int ..))
 |bytes l=>
  obtain⟨b,u,rfl,rfl⟩:=r.fm
  rw[du] at z1 ⊢
  exact len_bytes z1 (.same w rfl rfl rfl (.int ..))
 |str x=>
  obtain⟨u,rfl⟩:=r.fS
  exact P.len_str (Int.not_le.mpr z2) (.same w rfl rfl rfl (.int ..))
 |list k V hm=>
  obtain⟨a,vs,rfl,_,h1,h3⟩:=w.pK r hm
  rw[<- h3.length,du] at z2 ⊢
  exact Calls.call_len_list h1.isList z2 (.same w rfl rfl rfl (.int ..))
 |a8 k l hm=>
  obtain⟨a,b,rfl,_,o,x,hc,_,hd,rfl⟩:=w.xI r hm
  rw[du] at z1 ⊢
  exact Xc ⟨o,x,hc,hd⟩ z1 (.same w rfl rfl rfl (.int ..))
def CN:List D->List M->Res D:=eF λd st=>aI (ft d) (λa st=>.ok (.int (if a<0 then -a else a)) st) st
theorem cr.abs:cr lv (.builtin "abs") CN:=.vo λJ J J J J w J=>call_abs_int λu tk=>.same w rfl rfl rfl (.int ..)
def CO:List D->List M->Res D:=eF λd st=>aI (j5 d) (λx st=>if x.length=1 then .ok (.int (x.cps.getD 0 0:Nat)) st else .stuck) st
theorem cr.ord:cr lv (.builtin "ord") CO:=.eF λc X v d C w r=>.aI λx hx=>.iff λh1 J=>by
 cases lj hx
 obtain⟨t,rfl⟩:=r.fS
 exact ord_of_one h1 (.same w rfl rfl rfl (.int ..))
def CP:List D->List M->Res D:=eF λd st=>aI (ft d) (λi st=>if 0<=i/\i<=1114111 then .ok (.str ⟨#[i.toNat]⟩) st else .stuck) st
theorem cr.chr:cr lv (.builtin "chr") CP:=.vo λJ J J J J w=>.iff λh1 J=>chr_of_range h1.1 h1.2 (.same w rfl rfl rfl (.str ..))
noncomputable def tz:List D->List M->Res D:=eF λd st=>match d with | .bool b=>.ok (.int (if b then 1 else 0)) st | .int i=>.ok (.int i) st | _=>.stuck
theorem cr.int:cr lv (.type "int") tz:=.eF λc X v d C w r=>by
 cases d with
 |bool b=>cases r.mf;exact λJ=>call_int_bool (.same w rfl rfl rfl (.int ..))
 |int i=>obtain⟨t,rfl⟩:=r.dv;exact λJ=>call_int_int (.same w rfl rfl rfl (.int ..))
 |_=>exact λh=>absurd rfl h
def CQ:List D->List M->Res D:=eF λd st=>aI (iH d) (λV st=>aI (mu V) (λns st=>.ok (.int ns.sum) st) st) st
theorem cr.sum:cr lv (.builtin "sum") CQ:=.eF λc X v d C w r=>.aI λV hd=>.aI λns hn J=>by
 cases jG hd
 obtain⟨a,vs,rfl,I,_,rl⟩:=r.dO
 have hi:=vm rl hn
 obtain⟨xs,CR⟩:=hi.allInts.items
 cases (show vs=intItems xs by rw[<- CR])
 refine sum_intListG C.handled I.isList λY tk t' hk=>?_
 rw[preSum_eq,List.take_of_length_le (by simp),<- nums_intItems,hi.numsOf]
 exact .keeps w hk rfl rfl (.int ..)
def Xf(a b:Int):List D->List M->Res D:=λV st=>V.casesOn (.ok (.int (if b>a then b else a)) st) λd r=>r.casesOn (aI (ft d) (λc st=>.ok (.int (if b>a then(if c>b then c else b) else(if c>a then c else a))) st) st) λJ J=>.stuck
def vp:List D->List M->Res D:=λV st=>V.casesOn .stuck λx r=>r.casesOn .stuck λy r=>aI (ft x) (λa st=>aI (ft y) (λb st=>Xf a b r st) st) st
theorem cr.max:cr lv (.builtin "max") vp:=λc X vs V C w r=>by
 cases V with
 |nil=>exact λh=>absurd rfl h
 |cons x V=>cases V with
  |nil=>exact λh=>absurd rfl h
  |cons y V=>
   refine .aI λi hi=>.aI λj hj=>?_
   cases gq hi
   cases gq hj
   obtain⟨v,vs,rfl,a,b⟩:=r.inv
   obtain⟨v',vs,rfl,a',b1⟩:=b.inv
   obtain⟨t,rfl⟩:=a.dv
   obtain⟨u,rfl⟩:=a'.dv
   cases V with
   |nil=>
    cases b1.jd
    exact λJ=>max_two_ints C.handled λY tk hk=>.keeps w hk rfl rfl (by split <;> exact .int ..)
   |cons z V=>cases V with
    |cons=>exact λh=>absurd rfl h
    |nil=>
     refine .aI λk hk J=>?_
     cases gq hk
     obtain⟨v'',vs,rfl,Xg,b2⟩:=b1.inv
     cases b2.jd
     obtain⟨x,rfl⟩:=Xg.dv
     exact max_three_ints C.handled λY tk hk=>.keeps w hk rfl rfl (by split <;> split <;> exact .int ..)
end
section
variable{prog:Program}{w:World}{A:Around}{E:Value->Shared->Prop}{s:Shared}
theorem Xh:typeLookup (.type "int") "__bytes__" = pure none:=by rw[typeLookup_type,builtinLookup_eq_fast];kernel_rfl
theorem CU{a}{Q}
  (h:PySem.wpAny (model prog w) A.in1.in1 (Builtin.«bytes.__new__» ⟨[.type "bytes",a],[]⟩)
   (λbc s'=>match bc with | .done f=>wants (λobj am=>am.TypeIs obj "bytes"/\Q obj am) E (.ok f) s' | .again c'=>c'.quiet=true/\PySem.codeAny (model prog w) A.in1 c' (wants (λobj am=>am.TypeIs obj "bytes"/\Q obj am) E) s') (λe s'=>wants (λobj am=>am.TypeIs obj "bytes"/\Q obj am) E (.error e) s') s) :
  PySem.wpAny (model prog w) A (PySem.call (.type "bytes") [a]) Q E s:=by
 refine callType_codes (Q₁:=λobj am=>am.TypeIs obj "bytes"/\Q obj am) F.bm_called (F.bm_typeCall _) F.entry_object_init ?_ λobj am a7=>?_
 .refine PySem.codeAny_of_tree ?_
  show PySem.wpAny _ A.in1.in1 (do checkBuiltinCall "bytes.__new__" ⟨[.type "bytes",a],[]⟩;again (.builtin "bytes.__new__" ⟨[.type "bytes",a],[]⟩)) _ _ s
  refine br (jw (F.bm_newCall _) (dD ⟨plainId_quiet F.bm_plain _,PySem.codeAny_builtin F.bm_entry ?_⟩))
  rw[Around.under_plainId F.bm_plain _]
  exact h
 .exact⟨a7.1,F.args_object_init_2 obj _,object_init_meets F.bm_called.init.lookup F.bm_called.made (by decide) prog w A.in1 _ am ⟨a7.1,rfl,a7.2⟩⟩
theorem Xi {M} {X} {v} {Q} (h:PySem.wpAny M A (ret v) Q E s):PySem.wpAny M A (if(Value.type "bytes" == Value.type "bytes")=true then(do return<- ret v) else X) Q E s:=by
 refine bm_if_true (by decide) ?_
 exact h
theorem Xj {b} {t} {Q} (q:Q (.bytes b t) s):PySem.wpAny (model prog w) A (PySem.call (.type "bytes") [.bytes b t]) Q E s:=
 CU (zP (a:=.done (.ret (.bytes b t))) ⟨typeIs_bytes _ _ _,q⟩)
theorem Xk {n:Int} {u:Tok} {Q:Value->Shared->Prop} (h0:0<=n) (hz:n<=(sizeLine)) (q:Q (.bytes (Array.replicate n.toNat 0) s.toks) {s with toks:=s.toks+1}):PySem.wpAny (model prog w) A (PySem.call (.type "bytes") [.int n u]) Q E s:=by
 have I:sizeLine=16777216:=fo
 refine CU ?_
 unfold Builtin.«bytes.__new__»
 refine br (jw (a:=true) rfl ?_)
 refine bm_if_false rfl ?_
 refine br (jw F.bm_sub ?_)
 refine bm_if_false rfl ?_
 refine br (jw (F.bm_bind _) ?_)
 refine br (jw (a:=()) rfl ?_)
 refine br (jw (a:=()) rfl ?_)
 refine bm_if_false rfl ?_
 refine br (PySem.wpAny_specialOf (typeIs_int _ _ _) Xh ?_)
 refine br (jw (a:=false) rfl ?_)
 refine bm_if_false rfl ?_
 refine br (PySem.wpAny_specialOf (typeIs_int _ _ _) F.slot_int_index.lookup ?_)
 refine bm_if_false rfl ?_
 refine br (PySem.wpAny_attempt (jw (rfl:asIndex (.int n u)=pure n) ?_))
 refine bm_if_false (by simp only[Builtin.Bytes.fitsIndex,Bool.not_eq_false',and_eq_true,decide_eq_true_eq];lia) ?_
 rw[aY (by lia),aY (by lia)]
 refine bm_if_false (show decide (n.toNat>sizeLine)=false from decide_eq_false (by lia)) ?_
 refine br (PySem.wpAny_rule ?_)
 refine br (PySem.wpAny_mkBytes ?_ (by simp;lia))
 exact Xi (dD ⟨typeIs_bytes _ _ _,q⟩)
theorem Xl {a} {b} {d} {sl} {Q} (h:s.heap.get? a=some ⟨.type "bytearray",d,.bytearray b 0,sl⟩) (hz:b.size<=sizeLine) (q:Q (.bytes b s.toks) {s with toks:=s.toks+1}):PySem.wpAny (model prog w) A (PySem.call (.type "bytes") [.ref a]) Q E s:=
 CU (zL h<|zL h<|zL h<|zL h<|zL h<|zL h<|zL h<|zL h<|zL h<|zL h<|zS<|KW (t':=mkBytes b >>= λv=>ret v) (br (PySem.wpAny_mkBytes (dD ⟨typeIs_bytes _ _ _,q⟩) hz)))
end
noncomputable def vq:List D->Option (List UInt8)
 |[]=>some []
 |d::V=>(ft d).bind λi=>if 0<=i/\i<256 then(vq V).map (i.toNat.toUInt8 :: ·) else none
def xJ(V:List D)(st:List M):Res D:=aI (vq V) (λb st=>if V.length<=sz then .ok (.bytes b) st else .stuck) st
noncomputable def iL{α:Type}(st:List M)(k:Nat)(f:List D->Res α)(g:List UInt8->Res α):Res α:=match st[k]? with
 |some (.list V)=>f V
 |some (.a8 b)=>g b
 |_=>.stuck
def ny:List D->List M->Res D:=eF λd st=>match d with
 |.bytes b=>.ok (.bytes b) st
 |.int n=>if 0<=n/\n<=sz then .ok (.bytes (List.replicate n.toNat 0)) st else .stuck
 |.lst V=>xJ V st
 |.ab i=>iL st i (λV=>xJ V st) λb=>if b.length<=sz then .ok (.bytes b) st else .stuck
 |_=>.stuck
theorem K0{α:Type}{st:List M}{k:Nat}{f:List D->Res α}{g:List UInt8->Res α}(h:iL st k f g≠.stuck):(∃V,st[k]?=some (.list V)/\iL st k f g=f V)\/∃b,st[k]?=some (.a8 b)/\iL st k f g=g b:=by
 unfold iL at h ⊢
 cases e:st[k]? with
 |none=>rw[e] at h;exact absurd rfl h
 |some m=>cases m with
  |list V=>exact .inl ⟨V,rfl,rfl⟩
  |a8 b=>exact .inr ⟨b,rfl,rfl⟩
  |_=>rw[e] at h;exact absurd rfl h
theorem c3.iL{α β:Type}{c:Cx}{X:Sx}{P:α->β->Sx->Prop}{t:Sem β}{k:Nat}{f:List D->Res α}{g:List UInt8->Res α}(h:∀V,X.st[k]?=some (.list V)->c3 c X (f V) t P)(Y:∀b,X.st[k]?=some (.a8 b)->c3 c X (g b) t P):c3 c X (iL X.st k f g) t P:=λhr=>by
 rcases K0 hr with⟨V,e,e'⟩ | ⟨V,e,e'⟩
 .rw[e'] at hr ⊢;exact h V e hr
 .rw[e'] at hr ⊢;exact Y V e hr
structure Xm(vs:List Value)(b:List UInt8)(ns:List Int):Prop where
 are:PyProof.Rows.IntsAre vs ns
 low:∀n∈ns,0<=n/\n<256
 eq:(byteArr ns).toList=b
theorem Xn{ρ}{U}{h}{vs}{V}{b}(r:bv ρ U h vs V)(e:vq V=some b):∃ns,Xm vs b ns:=by
 induction V generalizing vs b with
 |nil=>cases r.jd;cases e;exact⟨[],.nil,(λJ h=>nomatch h),rfl⟩
 |cons d V ih=>
  obtain⟨v,vs,rfl,ra,rb⟩:=r.inv
  obtain⟨i,hi,e⟩:=jx.mp e
  obtain⟨q,e⟩:=CD e
  obtain⟨b',e1,rfl⟩:=pJ e
  cases gq hi
  obtain⟨t,rfl⟩:=ra.dv
  obtain⟨ns,h1,h2,h3⟩:=ih rb e1
  exact⟨i::ns,.cons i t h1,λn hn=>(dI.mp hn).elim (λz=>z▸q) (h2 n),by simp[byteArr,<- h3]⟩
theorem K1 {lv} {c} {X} {a} {vs} {V} (C:CxA lv c) (w:aC c X) (I:X.s.heap.IsList a vs) (r:cq c X vs.toList V):c3 c X (xJ V X.st) (PySem.call (.type "bytes") [.ref a]) (cm c):=.aI λb hb=>.iff λhz J=>by
 obtain⟨ns,h1,h2,rfl⟩:=Xn r hb
 exact call_bytes_ints (vs:=vs.toList) I h1 h2 (by rw[r.length,fo];exact hz) C.handled λY t k hk=>.keeps w hk rfl rfl (.bytes _ _)
theorem cr.bytes {lv:Nat}:cr lv (.type "bytes") ny:=.eF λc X v d C w r=>by
 cases d with
 |bytes l=>obtain⟨b,t,rfl,rfl⟩:=r.fm;exact λJ=>Xj (.same w rfl rfl rfl (.bytes _ _))
 |int i=>
  obtain⟨t,rfl⟩:=r.dv
  exact .iff λhz J=>Xk hz.1 (by rw[fo];exact hz.2) (.same w rfl rfl rfl (show Rd _ _ _ _ (.bytes (List.replicate i.toNat 0)) from(Array.toList_replicate (n:=i.toNat) (a:=(0:UInt8)))▸.bytes _ _))
 |lst V=>obtain⟨a,vs,rfl,h1,_,h3⟩:=r.dO;exact K1 C w h1.isList h3
 |ab k=>
  refine .iL (λV hk=>?_) λl hk=>.iff λhz J=>?_
  .obtain⟨a,vs,rfl,_,h1,h3⟩:=w.pK r hk
   exact K1 C w h1.isList h3
  .obtain⟨a,b,rfl,_,⟨_,d,_,sl⟩,x,rfl,hd,rfl,rfl⟩:=w.xI r hk
   exact Xl x (by rw[<- du,fo];exact hz) (.same w rfl rfl rfl (.bytes _ _))
 |_=>exact λh=>absurd rfl h
@[reducible] noncomputable def Sx.put(X:Sx)(i:Nat)(m:M)(s:Shared):Sx:=⟨X.ρ,X.st.set i m,s⟩
theorem vr{st}{i j}{m qn}(h0:st[i]?=some qn)(I:qn.live)(h:jb (st.set i m) j):jb st j:=by
 obtain⟨x,hx,fW⟩:=h
 by_cases q:i=j
 .exact⟨qn,q▸h0,I⟩
 .exact⟨x,(di q).symm.trans hx,fW⟩
section
variable{c:Cx}{X:Sx}{i:Nat}{p:Addr×Addr}{m m':M}{s':Shared}
structure jh(c:Cx)(X:Sx)(i:Nat)(p:Addr×Addr)(m m':M)(s':Shared):Prop where
 hp:X.ρ[i]?=some p
 hm:X.st[i]?=some m
 I:m.live
 keep:∀b o,¬(b=p.1\/b=p.2)->X.s.heap.get? b=some o->s'.heap.get? b=some o
 gens:s'.gens=X.s.gens
 os:s'.os=X.s.os
 own:∀a,(a=p.1\/a=p.2)->∃o,s'.heap.get? a=some o
section
variable(P:jh c X i p m m' s')
include P
theorem jh.sub{a}(h:iC X.ρ (X.st.set i m') a):iC X.ρ X.st a:=by
 obtain⟨j,q,hq,hj,ha⟩:=h
 exact⟨j,q,hq,vr P.hm P.I hj,ha⟩
theorem jh.nl{b}(h:¬iC X.ρ X.st b):¬(b=p.1\/b=p.2):=λhb=>h ⟨i,p,P.hp,⟨m,P.hm,P.I⟩,hb⟩
theorem jh.there{a}{o}(e:X.s.heap.get? a=some o):∃o',s'.heap.get? a=some o':=by
 by_cases q:a=p.1\/a=p.2
 .exact P.own a q
 .exact⟨o,P.keep a o q e⟩
theorem jh.nx{W}:Nx c W X (X.put i m' s'):=
 ⟨BW ..,λa o e h J=>P.keep a o (P.nl h) e,λa o e h J=>⟨o.slots,P.keep a o (P.nl h) e⟩,λJ J e=>P.there e,λJ J h=>vr P.hm P.I h⟩
theorem aC.lr(w:aC c X)(fX:(∀{v d},bJ c X v d->bJ c (X.put i m' s') v d)->fT c.w X.ρ (UX c (X.put i m' s')) s'.heap p m'):aC c (X.put i m' s'):=by
 have N:Nx c no X (X.put i m' s'):=P.nx
 refine⟨λb o e=>P.keep b o (λq=>?_) (w.base b o e),P.gens.trans w.gens,P.os.trans w.os,w.len.trans et.symm,λj q x hq hx=>?_,λa ha=>w.new a (ha.imp_left P.sub),λj j' q q' a hq pN hj Xo=>w.apart j j' q q' a hq pN (vr P.hm P.I hj) (vr P.hm P.I Xo),
  λa ha q=>w.hM a ha (P.sub q),λa ha=>(w.fC a ha).elim λo e=>P.there e,λe he=>(w.gf e he).keeps λL o J r2 r3=>⟨r2,P.keep L o (P.nl (w.hM L r2)) r3⟩⟩
 .exact nomatch e.symm.trans (w.new b (.inl ⟨i,p,P.hp,⟨m,P.hm,P.I⟩,q⟩))
 .by_cases z:i=j
  .subst z
   cases P.hp.symm.trans hq
   have hx:(X.st.set i m')[i]?=some x:=hx
   rw[getElem?_set_self (bH.mp P.hm).1] at hx
   cases hx
   exact fX λr=>N.rd r
  .have hx:X.st[j]?=some x:=(di z).symm.trans hx
   have Xp:=w.jC j q x hq hx
   by_cases lx:x.live
   .exact Xp.stays N.stays N.pre λa o ha e=>P.keep a o (λhb=>z (w.apart i j p q a P.hp hq ⟨m,P.hm,P.I⟩ ⟨x,hx,lx⟩ hb ha)) e
   .cases x with
    |gone=>exact .gone
    |_=>exact absurd trivial lx
end
end
theorem CV{α:Type}{l:List α}{n i:Nat}{x y:α}(h:(l.set n x)[i]?=some y):(i=n/\y=x)\/(i≠n/\l[i]?=some y):=by
 by_cases q:n=i
 .subst q
  have I:n<(l.set n x).length:=(bH.mp h).1
  rw[getElem?_set_self (by rwa [et] at I)] at h
  exact .inl ⟨rfl,(Option.some.inj h).symm⟩
 .exact .inr ⟨λz=>q z.symm,(di q).symm.trans h⟩
theorem bv.set{ρ:List (Addr×Addr)}{U:Addr->Prop}{h:Heap}{vs:List Value}{V:List D}(r:bv ρ U h vs V){v:Value}{d:D}(x:Rd ρ U h v d)(n):bv ρ U h (vs.set n v) (V.set n d):=
 ⟨by rw[et,et,r.length],λi u y e e'=>by
  rcases CV e with⟨q,rfl⟩ | ⟨q,e⟩
  .exact(CV e').elim (λz=>z.2▸x) λz=>absurd q z.1
  .exact(CV e').elim (λz=>absurd z.1 q) λz=>r.pt i u y e z.2⟩
theorem Xq{prog:Program}{w:World}{A:Around}{E:Value->Shared->Prop}{s:Shared}{l:Addr}{items:Array Value}{k:Int}{t:Tok}{v:Value}{Q:Unit->Shared->Prop}(I:PL s.heap l items)
  (h0:0<=k)(CL:k<2^63)(hn:k<items.size)(hQ:∀Y,PL Y l (items.setIfInBounds k.toNat v)->Heap.SameBut l s.heap Y->Q () {s with heap:=Y}) :
  PySem.wpAny (model prog w) A (setItem (.ref l) (.int k t) v) Q E s:=by
 obtain⟨o,ho,hc,Xr,ne,hd⟩:=id I
 have hT:=I.isList.typeIs
 unfold setItem
 refine PySem.wpAny_holding (br (wpAny_sequenceKey hT (by decide) ?_))
 refine br (wpAny_callSpecial?_slot (name:=Str.ofString "__setitem__") hT slot_list_setitem (wpAny_call_entry slot_list_setitem hT entry_list_setitem ?_ (args_list_setitem _ _ _)))
 show PySem.wpAny _ _ (Builtin.List.listSubscript? (.int k t) >>= _) _ _ s
 refine br (wpAny_listSubscript_int (fitsIndex_of h0 CL) ?_)
 clear CL
 obtain⟨j,rfl⟩:=Int.eq_ofNat_of_zero_le h0
 have hj:j<items.size:=L1 [j,items.size] 16846938 (show j<items.size from ofNat_lt.mp hn)
 have lu:items[j]?=some items[j]:=oC hj
 show PySem.wpAny _ _ ((seqItemAt l j >>= λr=>pure (r.map (j,·))) >>= _) _ _ s
 refine br (br (wpAny_seqItemAt ho hd (dD ?_)))
 rw[lu]
 show PySem.wpAny _ _ (setSeqItemAt l j v >>= _) _ _ s
 obtain⟨n',gp⟩:=Obj.data_mapSeq hd (·.setIfInBounds j v)
 have K2:PL (s.heap.update l (Obj.mapSeq (·.setIfInBounds j v))) l (items.setIfInBounds j v):=
  ⟨_,Heap.get?_update_self _ ho (Obj.isFreed_of_seq gp),(Obj.cls_mapSeq ..).trans hc,by obtain⟨c,d,dt,sl⟩:=o;subst hd;exact Xr,n',gp⟩
 refine br (wpAny_setSeqItemAt ho hd ?_)
 first
  |exact br (dD (dD ⟨.none,rfl,dD (hQ _ K2 (Heap.SameBut.update ..))⟩))
  |exact dD ⟨.none,rfl,dD (hQ _ K2 (Heap.SameBut.update ..))⟩
section
variable{K:Ks}
def tA(v x i:D)(st:List M):Res Unit:=match x with
 |.ab k=>aI (ft i) (λi st=>iJ st k λV=>if 0<=i/\i<V.length/\i<4611686018427387904 then .ok () (st.set k (.list (V.set i.toNat v))) else .stuck) st
 |_=>.stuck
def Xu(rv ra ri:SE):SS:=λσ st=>(rv σ st).bind λv st=>(ra σ st).bind λx st=>(ri σ st).bind λi st=>(tA v x i st).bind λJ st=>.ok (.next,σ) st
theorem K3{M}{A}{E}{s}{env}{o i value}{p pos}{Q}
  (h:af M A (eval value env) (λv am=>af M A (eval o env) (λov aX=>af M A (eval i env) (λiv cF=>af M A (setItem ov iv v) (λJ=>Q .next) E cF) E aX) E am) E s)
  (hs:swapsWith value (some (.Subscript o i p)) pos.line env=pure false):af M A (exec (.Assign [.Subscript o i p] value pos) env) Q E s:=by
 rw[exec_Assign_Subscript (env:=env) o i p value pos hs]
 refine ak (cB (ak (aE h (λv am a7=>?_) λJ J x=>x)))
 rw[PySem.assign_Subscript]
 refine ak (ak (ci (aE a7 (λov aX b9=>ak (ci (aE b9 (λiv cF eL=>ak (cB (ak (ci (aE eL (λJ ku m6=>?_) λJ J x=>x))))) λJ J x=>x))) λJ J x=>x)))
 exact xh (aT m6)
@[reducible] def CW(_ _:Unit)(_:Sx):Prop:=True
theorem Xv{c:Cx}{X:Sx}{v x y:Value}{d dx dy:D}(w:aC c X)(rv:bJ c X v d)(rx:bJ c X x dx)(ry:bJ c X y dy):Sm c no X (tA d dx dy X.st) (.wp c (PySem.setItem x y v)) CW:=by
 cases dx with
 |ab k=>
  refine Sm.aI (x:=ft dy) (f:=λj st=>iJ st k λV=>if 0<=j/\j<V.length/\j<4611686018427387904 then .ok () (st.set k (.list (V.set j.toNat d))) else .stuck) λj hj=>?_
  refine .iJ λV hk=>.iff λhq J=>?_
  cases gq hj
  obtain⟨t,rfl⟩:=ry.dv
  obtain⟨a,vs,rfl,g,h1,h3⟩:=w.pK rx hk
  have iB:vs.size=V.length:=h3.length
  refine gg<|Xq h1 hq.1 (by lia) (by rw[iB];exact hq.2.1) λY I hs=>?_
  have P:jh c X k (a,a) (.list V) (.list (V.set j.toNat d)) {X.s with heap:=Y}:=⟨g,hk,trivial,λb ob hb e=>(hs.2 b λq=>hb (.inl q)).trans e,rfl,rfl,λb hb=>by
   obtain⟨ob,e,_⟩:=I
   exact⟨ob,(hb.elim id id:b=a)▸e⟩⟩
  exact⟨(),X.put k (.list (V.set j.toNat d)) {X.s with heap:=Y},rfl,P.nx,w.lr P λup=>.list I rfl (by
   rw[Array.toList_setIfInBounds]
   exact bv.set ⟨h3.length,λi v y e e'=>up (h3.pt i v y e e')⟩ (up rv) _),trivial⟩
 |_=>exact λh=>absurd rfl h
theorem bQ.setItem{o i value:Expr}{p pos:Pos}{rv ra ri:SE}(hv:ay K value rv)(ha:ay K o ra)(hi:ay K i ri)(hs:autoParam (∀env,swapsWith value (some (.Subscript o i p)) pos.line env=pure false) k2) :
  bQ K (.Assign [.Subscript o i p] value pos) (Xu rv ra ri):=λc σ X C ok hr=>
 K3 (Sm.jY C ok (hv c σ X C ok) (G:=λv=>(PT.wp c (eval o c.env)).bind λov=>(PT.wp c (eval i c.env)).bind λiv=>(PT.wp c (PySem.setItem ov iv v)).bind λJ=>.pure Flow.next) (P':=eO K c) (λd v aa J lw cV=>
  .jY C lw (ha c σ aa C lw) λdx x ae la ig cQ=>.jY C ig (hi c σ ae C ig) λdy y ai jE j7 CY=>.jY C j7 (Xv j7.w (jE.rd (la.rd cV)) (jE.rd cQ) CY) λJ J U J iM J=>.pure iM.w (.next iM)) hr) (hs _)
end
noncomputable def iN(name:Str)(d:D):List (Str×D)->List (Str×D)
 |[]=>[(name,d)]
 |(k,x)::r=>if(k==name)=true then(k,d)::r else(k,x)::iN name d r
section
variable{ρ:List (Addr×Addr)}{U:Addr->Prop}{h:Heap}{Z:List DictEntry}{fs:List (Str×D)}
theorem dN.length(r:dN ρ U h Z fs):Z.length=fs.length:=by
 have:=r.vals.length
 rwa [aG,aG] at this
theorem dN.put{name}{v}{d}{xK}{tk}(r:Rd ρ U h v d)(x:dN ρ U h Z fs):dN ρ U h (putL name xK (.str name tk) v Z) (iN name d fs):=by
 obtain⟨k,l⟩:=x
 induction k with
 |nil=>exact .cons r .nil
 |@cons hh k t v' d' Z fs ks ih=>
  have e:(({hash:=hh,key:=.str k t,val:=v'}:DictEntry).key.isStr name)=(k==name):=rfl
  have a:Rd ρ U h v' d':=l.pt 0 _ _ rfl rfl
  show dN ρ U h (if(({hash:=hh,key:=.str k t,val:=v'}:DictEntry).key.isStr name)=true then _ else _) (if(k==name)=true then _ else _)
  rw[e]
  cases k==name with
  |true=>exact .cons r ⟨ks,l.tail⟩
  |false=>exact .cons a (ih l.tail)
end
structure fG(C:Addr)(name:Str):Prop where
 set:autoParam (∀P,findIn (KF P) (.ref C) "__setattr__" = some (some (.builtin "object.__setattr__"))) k1
 over:autoParam (∀P,plainOver (KF P) C=true) k1
 Xw:autoParam (∀P,takerIn (KF P) C name=some none) k1
 dict:autoParam (∀P,hasDictIn (KF P) C=true) k1
theorem Xx{prog}{w}{A}{E}{s}{P}{x C dx}{Z}{n}{name}{v}{Q}(X:(KF P).In s.heap)(T:fG C name)
  (hx:s.heap.get? x=some (instObj C dx))(hd:s.heap.get? dx=some {cls:=.type "dict",data:=.dict Z n})(I:(getL name Z.toList).isSome=true)(hz:Z.size<=900)
  (h:∀Y xK tk n',Y.get? dx=some {cls:=.type "dict",data:=.dict (putL name xK (.str name tk) v Z.toList).toArray n'}->Heap.SameBut dx s.heap Y->Q () {s with heap:=Y,toks:=s.toks+2}) :
  PySem.wpAny (model prog w) A (setAttr (.ref x) name v) Q E s:=by
 have au:InstAt s.heap x (instObj C dx) C (some (dictOf Z.toList n)):=⟨hx,rfl,rfl,by simpa [dictOf] using hd⟩
 refine set_plain X au (T.set P) ?_
 refine osa_open (s:={s with toks:=s.toks+1}) X au (T.over P) (T.Xw P) λb=>?_
 obtain⟨cd,hc,gp⟩:=any_some (show(clsIn (KF P) C).any (·.hasDict)=true from T.dict P)
 have D:s.heap.get? dx=some (dictOf Z.toList n):=by simpa [dictOf] using hd
 let f:=Obj.putName name (PyData.keyHash w.params name) (.str name (s.toks+1)) v
 have ef:f (dictOf Z.toList n)=dictOf (putL name (PyData.keyHash w.params name) (.str name (s.toks+1)) v Z.toList) (putN name Z.toList n):=putName_dict ..
 have D':(s.heap.update dx f).get? dx=some (dictOf (putL name (PyData.keyHash w.params name) (.str name (s.toks+1)) v Z.toList) (putN name Z.toList n)):=ef▸Heap.get?_update_self _ D (ef▸rfl)
 have iB:(putL name (PyData.keyHash w.params name) (.str name (s.toks+1)) v Z.toList).length<=Z.size+1:=by
  have:∀l:List DictEntry,(putL name (PyData.keyHash w.params name) (.str name (s.toks+1)) v l).length<=l.length+1:=λl=>by
   induction l with
   |nil=>exact dC _
   |cons e r ih=>simp only[putL];split <;> simp <;> lia
  rw[<- du];exact this _
 have fa:sizeLine=16777216:=fo
 have X':(KF P).In ({s with toks:=s.toks+1}:Shared).heap:=X
 refine br (dD (br (br (wpAny_loadPart hx (br ((Looks.here (s:={s with toks:=s.toks+1}) (looks_clsIn X' hc)) ?_))))))
 rw[gp]
 refine dD (a:=some dx) (br (dD (br ?_)))
 unfold nsSet
 refine br (br (PySem.wpAny_askSetting (dD (br (wpAny_mkText (br (wpAny_loadPart D ?_)))))))
 have c:(!Z.toList.toArray.any (·.key.isStr name)&&Z.toList.toArray.any (·.refKey))=false:=by
  rw[<- any_toList,<- any_toList]
  cases he:Z.toList.find? (·.key.isStr name) with
  |some en=>rw[List.any_eq_true.mpr ⟨en,List.mem_of_find?_eq_some he,find?_some he⟩];rfl
  |none=>
   cases z:Z.toList.any (·.refKey) with
   |false=>exact Bool.and_false _
   |true=>
    have e:getL name Z.toList=none:=by delta getL;rw[he];exact ax z
    rw[e] at I;exact nomatch I
 dsimp only [dictOf]
 rw[aRefKeyMayBeTheName_at,c]
 refine PySem.wpAny_updatePart D ?_
 refine br (wpAny_lookBehind D' (pastItsLine_dict (by rw[size_toArray];exact L3 [(putL name (PyData.keyHash w.params name) (Value.str name (s.toks+1)) v Z.toList).length,sizeLine,Z.size] 0x10000007fa131a29003843fa201a1904c hz iB fa)) ?_)
 exact dD (h _ _ _ _ D' (Heap.SameBut.update ..))
noncomputable def qF{α:Type}(st:List M)(k:Nat)(f:Addr->List (Str×D)->Res α):Res α:=match st[k]? with
 |some (.inst C fs)=>f C fs
 |_=>.stuck
theorem Xy{α:Type}{st:List M}{k:Nat}{f:Addr->List (Str×D)->Res α}(h:qF st k f≠.stuck):∃C fs,st[k]?=some (.inst C fs)/\qF st k f=f C fs:=by
 unfold qF at h ⊢
 cases e:st[k]? with
 |none=>rw[e] at h;exact absurd rfl h
 |some m=>cases m with
  |inst C fs=>exact⟨C,fs,rfl,rfl⟩
  |_=>rw[e] at h;exact absurd rfl h
theorem Sm.qF{α β:Type}{c:Cx}{W:Addr->Prop}{X:Sx}{P:α->β->Sx->Prop}{F:PT β}{k:Nat}{f:Addr->List (Str×D)->Res α}(h:∀C fs,X.st[k]?=some (.inst C fs)->Sm c W X (f C fs) F P):Sm c W X (qF X.st k f) F P:=λhr=>by
 obtain⟨C,fs,e,e'⟩:=Xy hr
 rw[e'] at hr ⊢
 exact h C fs e hr
inductive K4(c:Cx)(X:Sx)(k:Nat)(v:Value)(C:Addr)(fs:List (Str×D)):Prop
 |mk (a dx:Addr) (e:v=.ref a) (g:X.ρ[k]?=some (a,dx)) (Z:Array DictEntry) (n:Nat) (x:X.s.heap.get? a=some (instObj C dx)) (y:X.s.heap.get? dx=some {cls:=.type "dict",data:=.dict Z n}) (ne:a≠dx) (r:dN X.ρ (UX c X) X.s.heap Z.toList fs):K4 c X k v C fs
theorem aC.C0{c}{X}(w:aC c X){k}{v}{C}{fs}(r:bJ c X v (.ab k))(h:X.st[k]?=some (.inst C fs)):K4 c X k v C fs:=by
 obtain⟨⟨a,b⟩,hp,rfl⟩:=r.qs
 obtain⟨Z,n,x,y,rl,q⟩:=(w.jC _ _ _ hp h).xw rfl
 exact⟨a,b,rfl,hp,Z,n,x,y,q,rl⟩
noncomputable def pO(C:Addr)(name:Str)(v x:D)(st:List M):Res Unit:=match x with
 |.ab k=>qF st k λC' fs=>if C'=C/\fs.length<=900 then .ok () (st.set k (.inst C (iN name v fs))) else .stuck
 |_=>.stuck
noncomputable def Xz(C:Addr)(name:Str)(rv ra:SE):SS:=λσ st=>(rv σ st).bind λv st=>(ra σ st).bind λx st=>(pO C name v x st).bind λJ st=>.ok (.next,σ) st
section
variable{K:Ks}
theorem XA{M}{A}{E}{s}{env}{o value}{name}{p pos}{Q}
  (h:af M A (eval value env) (λv am=>af M A (eval o env) (λov aX=>af M A (setAttr ov name v) (λJ=>Q .next) E aX) E am) E s)
  (hs:swapsWith value (some (.Attribute o name p)) pos.line env=pure false):af M A (exec (.Assign [.Attribute o name p] value pos) env) Q E s:=by
 rw[plainObj_exec_Assign_Attribute (env:=env) o name p value pos hs]
 refine ak (cB (ak (aE h (λv am a7=>?_) λJ J x=>x)))
 rw[PySem.assign_Attribute]
 refine ak (ak (ci (aE a7 (λov aX b9=>ak (cB (ak (ci (aE b9 (λJ ku m6=>?_) λJ J x=>x))))) λJ J x=>x)))
 exact xh (aT m6)
theorem XC{lv:Nat}{C:Addr}{name:Str}{c:Cx}{X:Sx}{v x:Value}{d dx:D}(T:fG C name)(Cx:CxA lv c)(w:aC c X)(rv:bJ c X v d)(rx:bJ c X x dx):Sm c no X (pO C name d dx X.st) (.wp c (PySem.setAttr x name v)) CW:=by
 cases dx with
 |ab k=>
  refine .qF λC' fs hk=>.iff λhq J=>?_
  obtain⟨rfl,hz⟩:=hq
  obtain⟨a,b,rfl,g,Z,n,h1,h3,h2,h4⟩:=w.C0 rx hk
  have gt:=h4.get (name:=name)
  have hg:(getL name Z.toList).isSome=true:=by
   cases q:fs.lookup name with
   |none=>rw[gt.1 q];rfl
   |some d'=>obtain⟨v',e,_⟩:=gt.2 d' q;rw[e];rfl
  refine gg<|Xx (Cx.X.keeps w.base) T h1 h3 hg (by rw[<- du,h4.length];exact hz) λY xK tk n' gp hs=>?_
  have lu:Y.get? a=some (instObj C' b):=(hs.2 _ h2).trans h1
  have P:jh c X k (a,b) (.inst C' fs) (.inst C' (iN name d fs)) {X.s with heap:=Y,toks:=X.s.toks+2}:=⟨g,hk,trivial,λz ob hb e=>(hs.2 z λq=>hb (.inr q)).trans e,rfl,rfl,λz hz=>hz.elim (λq=>⟨_,(aw Y.get? q).trans lu⟩) λq=>⟨_,(aw Y.get? q).trans gp⟩⟩
  exact⟨(),X.put k (.inst C' (iN name d fs)) {X.s with heap:=Y,toks:=X.s.toks+2},rfl,P.nx,w.lr P λup=>.inst lu h2 gp (dN.put (up rv) ⟨h4.keys,h4.vals.length,λi v y e e'=>up (h4.vals.pt i v y e e')⟩),trivial⟩
 |_=>exact λh=>absurd rfl h
theorem bQ.setAttr{C}{name}{o value}{p pos}{rv ra}(T:fG C name)(hv:ay K value rv)(ha:ay K o ra)(hs:autoParam (∀env,swapsWith value (some (.Attribute o name p)) pos.line env=pure false) k2) :
  bQ K (.Assign [.Attribute o name p] value pos) (Xz C name rv ra):=λc σ X Cx ok hr=>
 XA (Sm.jY Cx ok (hv c σ X Cx ok) (G:=λv=>(PT.wp c (eval o c.env)).bind λov=>(PT.wp c (PySem.setAttr ov name v)).bind λJ=>.pure Flow.next) (P':=eO K c) (λd v aa J lw cV=>
  .jY Cx lw (ha c σ aa Cx lw) λdx x ae la ig cQ=>.jY Cx ig (XC T Cx.toCxA ig.w (la.rd cV) cQ) λJ J U J iM J=>.pure iM.w (.next iM)) hr) (hs _)
end
section
variable{c:Cx}{X:Sx}{k:Nat}{p:Addr×Addr}{m:M}
theorem aC.xL(w:aC c X)(P:jh c X k p m .gone X.s){b}(hb:b=p.1\/b=p.2):¬UX c (X.put k .gone X.s) b:=by
 rintro(⟨j,q,hq,hj,ha⟩ | hx)
 .have z:=w.apart j k q p b hq P.hp (vr P.hm P.I hj) ⟨m,P.hm,P.I⟩ ha hb
  subst z
  obtain⟨x,hx,fW⟩:=hj
  have hx:(X.st.set j .gone)[j]?=some x:=hx
  rw[getElem?_set_self (bH.mp P.hm).1] at hx
  cases hx
  exact fW
 .exact w.hM b hx ⟨k,p,P.hp,⟨m,P.hm,P.I⟩,hb⟩
end
noncomputable def lz:D->List M->Res D
 |.ab k,st=>match st[k]? with
  |some (.list V)=>.ok (.lst V) (st.set k .gone)
  |some (.inst C fs)=>.ok (.obj C fs) (st.set k .gone)
  |_=>.stuck
 |_,_=>.stuck
inductive C4(st:List M)(d:D)(R:Res D):Prop
 |list (k:Nat) (V:List D) (h:d=.ab k) (e:st[k]?=some (.list V)) (q:R=.ok (.lst V) (st.set k .gone)):C4 st d R
 |inst (k:Nat) (C:Addr) (fs:List (Str×D)) (h:d=.ab k) (e:st[k]?=some (.inst C fs)) (q:R=.ok (.obj C fs) (st.set k .gone)):C4 st d R
theorem XD{d}{st}(h:lz d st≠.stuck):C4 st d (lz d st):=by
 cases d with
 |ab k=>
  have E:lz (.ab k) st=(match st[k]? with | some (.list V)=>Res.ok (D.lst V) (st.set k .gone) | some (.inst C fs)=>.ok (.obj C fs) (st.set k .gone) | _=>.stuck):=rfl
  rw[E] at h ⊢
  cases e:st[k]? with
  |none=>rw[e] at h;exact absurd rfl h
  |some m=>cases m with
   |list V=>exact .list k V rfl e rfl
   |inst C fs=>exact .inst k C fs rfl e rfl
   |_=>rw[e] at h;exact absurd rfl h
 |_=>exact absurd rfl h
theorem K5{c}{W}{X}{v}{d}(w:aC c X)(r:bJ c X v d)(hr:lz d X.st≠.stuck):Po c W X (lz d X.st) (cm c) v X.s:=by
 cases XD hr with
 |list k V h e q=>
  subst h
  obtain⟨a,vs,rfl,g,h1,h3⟩:=w.pK r e
  obtain⟨o,ho,_⟩:=id h1
  have P:jh c X k (a,a) (.list V) .gone X.s:=⟨g,e,trivial,λJ J J e=>e,rfl,rfl,λb hb=>⟨o,(aw _ (hb.elim id id:b=a)).trans ho⟩⟩
  exact⟨_,X.put k .gone X.s,q,P.nx,w.lr P λJ=>.gone,.lst h1 (w.xL P (.inl rfl)) (P.nx (W:=no).gG h3)⟩
 |inst k C fs h e q=>
  subst h
  obtain⟨a,b,rfl,g,Z,n,h1,h3,h2,h4⟩:=w.C0 r e
  have P:jh c X k (a,b) (.inst C fs) .gone X.s:=⟨g,e,trivial,λJ J J e=>e,rfl,rfl,λz hz=>hz.elim (λq=>⟨_,(aw _ q).trans h1⟩) λq=>⟨_,(aw _ q).trans h3⟩⟩
  exact⟨_,X.put k .gone X.s,q,P.nx,w.lr P λJ=>.gone,.obj h1 (w.xL P (.inl rfl)) h3 (w.xL P (.inr rfl)) ⟨h4.keys,P.nx (W:=no).gG h4.vals⟩⟩
noncomputable def kG(r:List D->List M->Res D):List D->List M->Res D:=λV st=>(r V st).bind lz
noncomputable def K6(i:Nat)(r:SS)(σ:List (Option D)):Option (Option D)->List M->Res (Fl×List (Option D))
 |some (some d),st=>(lz d st).bind λd' st=>r (σ.set i (some d')) st
 |_,_=>.stuck
noncomputable def xM(i:Nat)(r:SS):SS:=λσ st=>K6 i r σ σ[i]? st
theorem Sm.after{α β γ:Type}{c:Cx}{W:Addr->Prop}{X:Sx}{R:Res α}{F:PT β}{P:α->β->Sx->Prop}{f:α->List M->Res γ}{P':γ->β->Sx->Prop}(h:Sm c W X R F P)(k:∀a v aa,aC c aa->P a v aa->f a aa.st≠.stuck->Po c W aa (f a aa.st) P' v aa.s):Sm c W X (R.bind f) F P':=by
 intro hr
 refine F.mono (h (gH hr)) (λv s' p=>?_) λx s' p=>p.bind
 induction p with | mk a aa e n w p=>
 subst e
 exact(k a v aa w p hr).back n
section
variable{K:Ks}
theorem fq.XE{lv:Nat}{v:Value}{r:List D->List M->Res D}(h:fq lv v r):fq lv v (kG r):=λc X vs V C w x=>(h c X vs V C w x).after λJ J J w p hr=>K5 w p hr
theorem XF{i}{r}{σ}{st}(h:xM i r σ st≠.stuck):∃d,σ[i]?=some (some d)/\xM i r σ st=(lz d st).bind λd' st=>r (σ.set i (some d')) st:=by
 unfold xM at h ⊢
 cases q:σ[i]? with
 |none=>rw[q] at h;exact absurd rfl h
 |some y=>cases y with
  |none=>rw[q] at h;exact absurd rfl h
  |some d=>exact⟨d,rfl,rfl⟩
theorem eg.XG{ts}{i}{r}(h:eg K ts r):eg K ts (xM i r):=by
 intro c σ X C o hr
 obtain⟨d,nc,e⟩:=XF hr
 rw[e] at hr ⊢
 obtain⟨y,v,hy,I,hv⟩:=o.var i d nc
 have p:=K5 (W:=no) o.w hv (gH hr)
 generalize hs:X.s=s' at p
 induction p with | mk d' aa e n w p=>
 rw[e] at hr ⊢
 have o':=o.next C w n
 have O:Ok K c (σ.set i (some d')) aa:=⟨o'.w,o'.loc,o'.jW,λj XH qG=>by
  rcases Ka qG with⟨rfl,rfl⟩ | ⟨_,qG⟩
  .exact⟨y,v,hy,(n.xj o.w).look ⟨C.loc,id⟩ (λy a e=>⟨(C.cell y a e).1,id⟩) I,p⟩
  .exact o'.var j XH qG⟩
 exact Sm.back n.kA (h c _ aa C O) hr
end
section
variable{α β:Type}{M:Model}{A:Around}{E:Value->Shared->Prop}{s:Shared}
theorem XI{Q:α->Shared->Prop}{a:Addr}{p:Option Value}{k:Obj->Sem α}{o:Obj}(ho:s.heap.get? a=some o)(h:af M A (k o) Q E s):af M A (.load a p k) Q E s:=eM λΓ q bx hG=>⟨o,ho,h.run Γ q bx hG⟩
theorem tB{Q:β->Shared->Prop}{t:Sem α}{f:α->Sem β}{a:α}(L:Looks M s.heap t a)(h:af M A (f a) Q E s):af M A (t >>= f) Q E s:=
 ak (aE (gg (L.here (A:=A) (E:=E) (Q:=λx s'=>x=a/\s'=s) ⟨rfl,rfl⟩)) (λx s' ⟨e,e'⟩=>by subst e e';exact h) λJ J x=>x)
end
section
variable{prog:Program}{w:World}{A:Around}{E:Value->Shared->Prop}{R:Result->Shared->Prop}{s:Shared}
theorem K7{id}{args}{b}(hq:(Code.builtin id args).quiet=true)(hd:gD (.builtin id args)=false)(hb:entryFor table id=some b)
  (h:af (model prog w) A.in1 (checkBuiltinCall id args) (λJ am=>af (model prog w) (A.under (.builtin id args)) (b args)
   (λbc s'=>match bc with | .done f=>R (.ok f) s' | .again c'=>c'.quiet=true/\gD c'=false/\dk (model prog w) A c' R s') (λe s'=>R (.error e) s') am)
   (λe s'=>R (.error e) s') s):dk (model prog w) A (.call (.builtin id) args) R s:=by
 refine kY ?_
 show af _ A.in1 (checkBuiltinCall id args >>= λJ=>again (.builtin id args)) _ _ s
 refine ak (aE h (λJ am a7=>aT ⟨hq,hd,kY ?_⟩) λJ J Y=>Y)
 show af _ _ (match entryFor table id with | some b=>b args | none=>unsupported ((withoutEnding? id "#data").getD id)) _ _ am
 rw[hb];exact a7
end
noncomputable def pP (C:Addr) (args:List Value):Code:=.builtin "type.__call__" ⟨.ref C::args,[]⟩
theorem XJ(C:Addr)(args:List Value)(A:Around):(A.under (pP C args)).handled=A.handled/\(A.under (pP C args)).depth=A.depth+1/\(A.under (pP C args)).frames=A.frames/\(A.under (pP C args)).guards=A.guards/\(A.under (pP C args)).units=A.units+1:=⟨rfl,rfl,rfl,rfl,rfl⟩
theorem XK{prog:Program}{w:World}{A:Around}{P:Params}{C fI:Addr}{cZ:List Value}{s:Shared}{Q:Value->Shared->Prop}{E:Value->Shared->Prop}(X:(KF P).In s.heap)(hm:makesIn (KF P) C=true)
  (hi:findIn (KF P) (.ref C) "__init__" = some (some (.ref fI)))(hf:typeIn (KF P) (.ref fI)=some (.type "function"))
  (h:af (model prog w) (A.under (pP C cZ)) (PySem.call (.ref fI) (.ref (s.heap.objs.size+1)::cZ)) (λv s'=>v=.none/\Q (.ref (s.heap.objs.size+1)) s') E {s with heap:=(s.heap.push emptyDict).push (instObj C s.heap.objs.size)}) :
  af (model prog w) A (PySem.call (.ref C) cZ) Q E s:=by
 obtain⟨hh,g,d,t,os⟩:=s
 have aa:Makes (model prog w) hh C:=makes_of X hm
 obtain⟨⟨oc,od,cd,sl,hC,e1,e2,e4⟩,made,base,self,top,call,XM⟩:=id aa
 have gK:Looks (model prog w) hh (typeLookup (.ref C) "__init__") (some (.ref fI)):=looks_findIn X hi
 have fX:Looks (model prog w) hh (mroOf (.ref C)) cd.mro:=((Looks.ld (part:=none) hC).andThen .now).andThen .now
 refine uV (kY ?_)
 show af _ _ (callAny (.ref C) ⟨cZ,[]⟩) _ _ _
 refine XI hC ?_
 show af _ _ (callAny.viaDunder (.ref C) ⟨cZ,[]⟩) _ _ _
 unfold callAny.viaDunder
 refine tB call ?_
 dsimp only
 rw[tc_bind]
 refine ak (aT (ak (aT ?_)))
 refine aT (a:=Fin.again (.call (.builtin "type.__call__") ⟨.ref C::cZ,[]⟩)) ⟨rfl,rfl,?_⟩
 refine K7 (Code.quiet_builtin _ (by decide +kernel)) (show Builtin.Bytes.decodersThatHold.contains "type.__call__" = false by decide +kernel) entry_typeCall (gg<|check_slot tc_kind tc_split XM (tc_args _ _ _) ?_)
 unfold Builtin.«type.__call__»
 show af _ _ (mroOf (.ref C) >>= _) _ _ _
 refine tB fX ?_
 rw[e4]
 show af _ _ (Bind.madeBy (.ref C) >>= _) _ _ _
 refine tB made ?_
 refine ak (aT (ak (ci (gg<|PySem.wpAny_call (new_K aa gK (.inl rfl) ?_)))))
 have k:∀b o,hh.get? b=some o->((hh.push emptyDict).push (instObj C hh.objs.size)).get? b=some o:=λb o e=>ga _ (ga _ e)
 have hx:((hh.push emptyDict).push (instObj C hh.objs.size)).get? (hh.objs.size+1)=some (instObj C hh.objs.size):=by heap_get
 have t1:Looks (model prog w) ((hh.push emptyDict).push (instObj C hh.objs.size)) (typeOf (.ref (hh.objs.size+1))) (.ref C):=(Looks.ld hx).andThen .now
 have s1:=self.keeps k
 have i1:=gK.keeps k
 have X1:(KF P).In ((hh.push emptyDict).push (instObj C hh.objs.size)):=X.keeps k
 have b1:=bind_fn (M:=model prog w) X1 (.ref (hh.objs.size+1)) hf
 have L1:Looks (model prog w) ((hh.push emptyDict).push (instObj C hh.objs.size)) (isInstance (.ref (hh.objs.size+1)) (.ref C)) true:=t1.andThen s1
 refine tB L1 ?_
 show af _ _ (holding _ (callSpecial? (.ref (hh.objs.size+1)) "__init__" cZ []) >>= _) _ _ _
 refine ak (ci ?_)
 unfold callSpecial? specialOf
 refine ak (tB t1 (gg<|i1.here ?_))
 refine ci (tB b1 ?_)
 refine ak (aE h (λv s' hv=>?_) λJ J x=>x)
 obtain⟨rfl,q⟩:=hv
 exact aT (aT q)
noncomputable def C5(C:Addr)(k:Nat):D->List M->Res D
 |.none,st=>.ok (.ab k) st
 |_,_=>.stuck
noncomputable def fH(C:Addr)(r:List D->List M->Res D):List D->List M->Res D:=λV st=>(r (.ab st.length::V) (st++[.inst C []])).bind (C5 C st.length)
theorem XN{C}{k}{d}{st}(h:C5 C k d st≠.stuck):d=.none:=by cases d with
 |none=>rfl
 |_=>exact absurd rfl h
section
variable{c:Cx}{A':Around}{W:Addr->Prop}{X aa:Sx}{α:Type}{R:Res α}{s':Shared}{v:Value}
theorem aC.around(w:aC c X)(A':Around):aC {c with A:=A'} X:=⟨w.base,w.gens,w.os,w.len,w.jC,w.new,w.apart,w.hM,w.fC,w.gf⟩
theorem aC.nC(w:aC {c with A:=A'} X):aC c X:=⟨w.base,w.gens,w.os,w.len,w.jC,w.new,w.apart,w.hM,w.fC,w.gf⟩
theorem Nx.nC(n:Nx {c with A:=A'} W X aa):Nx c W X aa:=⟨n.ext,n.keep,n.slot,n.there,n.dead⟩
theorem mj.nC{db h}{x}(f:mj {c with A:=A'} db x h):mj c db x h:=by
 obtain⟨e,oe,vs,a1,a2,a3,a4,a5,a6,b⟩:=f
 exact⟨e,oe,vs,a1,a2,a3,a4,a5,a6,b.imp_right λ⟨T,oT,ts,fl,b1,b2,b3,b4,b5,b6,b7⟩=>⟨T,oT,ts,fl,b1,b2,b3,b4,b5,b6,b7⟩⟩
theorem dW.nC(p:dW {c with A:=A'} W X R v s'):dW c W X R v s':=by induction p with | mk aa e n w f=>exact⟨aa,e,n.nC,w.nC,f.nC⟩
end
theorem fq.make {lv} {C fI} {r} (hm:∀P,makesIn (KF P) C=true) (hi:∀P,findIn (KF P) (.ref C) "__init__" = some (some (.ref fI))) (hf:∀P,typeIn (KF P) (.ref fI)=some (.type "function")) (h:bB lv fI r) :
  fq (lv+1) (.ref C) (fH C r):=by
 intro c X vs V Cx w x hr
 refine XK (Cx.X.keeps w.base) (hm _) (hi _) (hf _) ?_
 have g1:((X.s.heap.push emptyDict).push (instObj C X.s.heap.objs.size)).get? (X.s.heap.objs.size+1)=some (instObj C X.s.heap.objs.size):=by heap_get
 have g2:((X.s.heap.push emptyDict).push (instObj C X.s.heap.objs.size)).get? X.s.heap.objs.size=some emptyDict:=by heap_get
 have kp:eZ X.s.heap ((X.s.heap.push emptyDict).push (instObj C X.s.heap.objs.size)):=λb o e=>fV _ _ _ _ (fV _ _ _ _ e)
 have new:∀a,(a=X.s.heap.objs.size+1\/a=X.s.heap.objs.size)->X.s.heap.get? a=none:=λa ha=>ha.elim (λq=>qz (q▸le_succ _)) λq=>qz (le_of_eq q.symm)
 have sW:=w.iF (s':={X.s with heap:=(X.s.heap.push emptyDict).push (instObj C X.s.heap.objs.size)}) (p:=(X.s.heap.objs.size+1,X.s.heap.objs.size)) (m:=.inst C []) kp rfl rfl new λJ=>.inst g1 (Nat.succ_ne_self _) g2 .nil
 have nf:Nx c no X (X.plus (X.s.heap.objs.size+1,X.s.heap.objs.size) (.inst C []) {X.s with heap:=(X.s.heap.push emptyDict).push (instObj C X.s.heap.objs.size)}):=.iF w.len kp new
 have CA:CxA lv {c with A:=c.A.under (pP C vs)}:=by
  obtain⟨i1,i2,i3,i4,i5⟩:=XJ C vs c.A
  have:=Cx.depth
  have:=Cx.units
  exact⟨i3.trans Cx.frames,i1.trans Cx.handled,i4.trans Cx.guards,by show(c.A.under _).depth+_<=_;rw[i2];lia,by show(c.A.under _).units+_<=_;rw[i5];exact L1 [c.A.units,lv] 0x7d03fa1a19282fb0907d03fa1282fb1a0994a this,Cx.X,Cx.T⟩
 refine aE (h {c with A:=c.A.under (pP C vs)} _ _ _ CA (sW.around _) (.cons (Rd.iF w) (nf.gG x)) (gH hr)) (λv aX p=>?_) λv aX p=>(p.nC.back nf).bind
 obtain⟨d,aa,e,la,mn,cQ⟩:=p
 have E:fH C r V X.st=C5 C X.st.length d aa.st:=by unfold fH;rw[e];rfl
 rw[E] at hr ⊢
 cases XN hr
 cases cQ.inv
 obtain⟨e',jD⟩:=la.pre
 refine⟨rfl,.ab X.st.length,aa,rfl,nf.trans la.nC,mn.nC,.ab (p:=(X.s.heap.objs.size+1,X.s.heap.objs.size)) ?_⟩
 rw[jD]
 exact eD.get (w.len▸getElem?_concat_length)
theorem XO:isSubtype (.type "bytearray") (.type "bytearray")=pure true:=by rw[isSubtype_type];kernel_rfl
theorem C6:mroOf (.type "bytearray")=pure [.type "bytearray",.type "object"]:=by rw[mroOf_type];kernel_rfl
theorem XQ:typeLookup (.type "bytearray") "__new__" = pure (some (.builtin "bytearray.__new__")):=by rw[typeLookup_type,builtinLookup_eq_fast];kernel_rfl
theorem vt:Slot "bytearray" "__init__" "bytearray.__init__":=
 .of (owner:="bytearray") (n:="__init__") (by rw[typeLookup_type,builtinLookup_eq_fast];kernel_rfl) (by decide +kernel) (by decide +kernel) (by decide +kernel)
  (by first | exact .inl (by decide +kernel) | exact .inr (by decide +kernel)) (by rw[isSubtype_type];kernel_rfl)
theorem C7:TypeCalled "bytearray" "bytearray.__new__" "bytearray.__init__":=
 ⟨by decide +kernel,by decide +kernel,⟨_,_,C6⟩,madeBy_type C6 XQ (by decide +kernel),by decide +kernel,by rw[isSubtype_type];kernel_rfl,vt⟩
theorem XR:entryFor table "bytearray.__new__" = some Builtin.«list.__new__»:=
 entryFor_alias (id':="list.__new__") (by rw[fastTable_eq_tree];kernel_rfl) (by first | rfl | decide +kernel) (by decide +kernel) (by rw[fastTable_eq_tree];kernel_rfl)
theorem XT:entryFor table "bytearray.__init__" = some Builtin.«bytearray.__init__»:=entryFor_of_tree (by kernel_rfl)
theorem K8:plainId "bytearray.__new__" = true:=by decide +kernel
theorem XU:checkTypeCall "bytearray" ⟨[],[]⟩=pure ():=by kernel_rfl
theorem K9 (a):checkTypeCall "bytearray" ⟨[a],[]⟩=pure ():=by kernel_rfl
theorem XV:checkBuiltinCall "bytearray.__new__" ⟨[.type "bytearray"],[]⟩=pure ():=by kernel_rfl
theorem Lb (a):checkBuiltinCall "bytearray.__new__" ⟨[.type "bytearray",a],[]⟩=pure ():=by kernel_rfl
theorem XW (a):argsOk "bytearray.__init__" ⟨[a],[]⟩:=by unfold argsOk;rw[signature?_of (id:="bytearray.__init__") (n:=['_','_','t','i','n','i','_','_']) (o:=['y','a','r','r','a','e','t','y','b']) (by kernel_rfl) xH];kernel_rfl
theorem Lc (a b):argsOk "bytearray.__init__" ⟨[a,b],[]⟩:=by unfold argsOk;rw[signature?_of (id:="bytearray.__init__") (n:=['_','_','t','i','n','i','_','_']) (o:=['y','a','r','r','a','e','t','y','b']) (by kernel_rfl) xH];kernel_rfl
set_option maxRecDepth 1000000 in
set_option maxHeartbeats 4000000 in
theorem XY:("bytearray.__new__".splitOn ".__new__").headD "" = "bytearray":=by simp +decide [String.splitOn,String.splitOnAux]
def iO (h:Heap) (a:Addr) (b:Array UInt8):Prop:=∃o,h.get? a=some o/\(o.cls=.type "bytearray"/\o.dict=none)/\o.data=.bytearray b 0
theorem iO.is{h}{a}{b}(x:iO h a b):ty h a b:=let ⟨o,e,c,d⟩:=x;⟨o,e,c.1,d⟩
section
variable{prog:Program}{w:World}{A:Around}{E:Value->Shared->Prop}{s:Shared}
theorem XZ {a} {b} {d} {sl} (h:s.heap.get? a=some ⟨.type "bytearray",d,.bytearray b 0,sl⟩) {Q} (q:Q false s):PySem.wpAny (model prog w) A (Builtin.Bytes.ownRelease (.ref a)) Q E s:=
 zL h<|zL h<|zP q
theorem X0 {args} {Q₁} (hn:checkBuiltinCall "bytearray.__new__" ⟨.type "bytearray" :: args,[]⟩=pure ())
  (h:Q₁ (.ref s.heap.objs.size) {s with heap:=s.heap.push {cls:=.type "bytearray",data:=.bytearray #[]}}) :
  PySem.codeAny (model prog w) A (.call (.builtin "bytearray.__new__") ⟨.type "bytearray" :: args,[]⟩) (wants Q₁ E) s:=by
 refine PySem.codeAny_of_tree ?_
 show PySem.wpAny _ A.in1 (do checkBuiltinCall "bytearray.__new__" ⟨.type "bytearray" :: args,[]⟩;again (.builtin "bytearray.__new__" ⟨.type "bytearray" :: args,[]⟩)) _ _ s
 refine br (jw hn (dD ⟨plainId_quiet K8 _,codeAny_builtin_stack XR rfl λp st=>?_⟩))
 rw[Around.under_plainId K8 _]
 dsimp only
 rw[XY]
 exact zA (o:={cls:=.type "bytearray",data:=.bytearray #[]})<|zP (a:=.done (.ret (.ref s.heap.objs.size))) h
theorem Yb{R}{id}{args}{b}(hb:entryFor table id=some b)
  (h:af (model prog w) (A.under (.builtin id args)) (b args)
   (λbc s'=>match bc with | .done f=>R (.ok f) s' | .again c'=>c'.quiet=true/\gD c'=false/\dk (model prog w) A c' R s') (λe s'=>R (.error e) s') s) :
  dk (model prog w) A (.builtin id args) R s:=by
 refine kY ?_
 show af _ _ (match entryFor table id with | some b=>b args | none=>unsupported ((withoutEnding? id "#data").getD id)) _ _ s
 rw[hb];exact h
theorem Ld{R}{id}{args}{b}(hq:plainId id=true)(hd:gD (.builtin id args)=false)(hb:entryFor table id=some b)
  (h:af (model prog w) A.in1 (checkBuiltinCall id args) (λJ am=>af (model prog w) A.in1 (b args)
   (λbc s'=>match bc with | .done f=>R (.ok f) s' | .again c'=>c'.quiet=true/\gD c'=false/\dk (model prog w) A c' R s') (λe s'=>R (.error e) s') am)
   (λe s'=>R (.error e) s') s):dk (model prog w) A (.call (.builtin id) args) R s:=
 K7 (plainId_quiet hq args) hd hb (by rw[Around.under_plainId hq args];exact h)
theorem C8{a}{b}(hb:iO s.heap a b){Q}(q:Q false s):PySem.wpAny (model prog w) A (Builtin.Bytes.ownRelease (.ref a)) Q E s:=by
 obtain⟨⟨oc,od,dt,sl⟩,ho,⟨hc,hn⟩,hd⟩:=hb
 cases hc;cases hn;cases hd
 exact XZ ho q
theorem Yc{α:Type}{p q r s t:Prop}[Decidable p][Decidable q][Decidable r][Decidable s][Decidable t]{a:p->α}{b:¬p->q->α}{c:¬p->¬q->r->α}{d:¬p->¬q->¬r->s->α}{e:¬p->¬q->¬r->¬s->t->α}{f:¬p->¬q->¬r->¬s->¬t->α}(h1:¬p)(h2:¬q)(h3:¬r)(h4:¬s)(h5:¬t) :
  dite p a (λx=>dite q (b x) λy=>dite r (c x y) λz=>dite s (d x y z) λu=>dite t (e x y z u) (f x y z u))=f h1 h2 h3 h4 h5:=
 (dif_neg h1).trans ((dif_neg h2).trans ((dif_neg h3).trans ((dif_neg h4).trans (dif_neg h5))))
theorem Yd{v:Value}{Q:Bool->Shared->Prop}(hg:A.guards=some [])(h:Q false s):af (model prog w) A (Builtin.Bytes.exported v) Q E s:=by
 unfold Builtin.Bytes.exported
 refine Ui hg (λc p hc hd=>?_) h
 cases c with
 |builtin id args=>
  obtain⟨pos,kw⟩:=args
  have nn:∀k,guardIds.contains k=true->id≠k:=λk hk e=>em ((show guardIds.contains id=false from hc).symm.trans (e▸hk))
  delta PySem.Builtin.Bytes.exported.match_1
  refine(Yc (nn _ (by decide +kernel)) (nn _ (by decide +kernel)) (nn _ (by decide +kernel)) (nn _ (by decide +kernel)) (nn _ (by decide +kernel))).trans ?_
  cases pos with
  |nil=>rfl
  |cons x r=>
   show(Builtin.Bytes.sameRef x v&&Builtin.Bytes.decodersThatHold.contains id)=false
   rw[show Builtin.Bytes.decodersThatHold.contains id=false from hd,Bool.and_false]
 |_=>rfl
theorem xN{a}{b}{Q}(hg:A.guards=some [])(hb:ty s.heap a b)(h:Q false s) :
  af (model prog w) A (Builtin.Bytes.exported (.ref a) <||> (do return(<- Builtin.Bytes.exportsOf (.ref a))>0)) Q E s:=by
 obtain⟨o,ho,hc,hd⟩:=hb
 refine ak (Yd hg ?_)
 show af _ _ (Builtin.Bytes.exportsOf (.ref a) >>= _) _ _ s
 unfold Builtin.Bytes.exportsOf
 refine ak (ak (gg<|PySem.wpAny_load ho ?_))
 rw[hd]
 exact aT (aT h)
theorem tD{a}{b}{f}{Q}(hb:iO s.heap a b)(hz:(f b).size<=sizeLine)(h:∀Y,iO Y a (f b)->Heap.SameBut a s.heap Y->Q () {s with heap:=Y}) :
  af (model prog w) A (Builtin.Bytes.write (.ref a) f) Q E s:=by
 obtain⟨⟨oc,od,dt,sl⟩,ho,⟨hc,hn⟩,hd⟩:=hb
 dsimp only at hc hn hd
 subst hc hn hd
 have hu:(s.heap.update a (Obj.mapBytearray f)).get? a=some ⟨.type "bytearray",none,.bytearray (f b) 0,sl⟩:=Heap.get?_update_self _ ho rfl
 show af _ _ (load a >>= _) _ _ s
 refine ak (gg<|PySem.wpAny_load ho ?_)
 refine ak (gg<|PySem.wpAny_update ho ?_)
 refine gg<|PySem.wpAny_lookBehind hu ?_ (h _ ⟨_,hu,⟨rfl,rfl⟩,rfl⟩ (Heap.SameBut.update ..))
 show(if(f b).size>_ then _ else _)=none
 exact aY (L1 [sizeLine,(f b).size] 1052698 hz)
theorem Ye {args} {Q} (C9:checkTypeCall "bytearray" ⟨args,[]⟩=pure ()) (hn:checkBuiltinCall "bytearray.__new__" ⟨.type "bytearray" :: args,[]⟩=pure ())
  (ha:∀v,argsOk "bytearray.__init__" ⟨v::args,[]⟩)
  (h:af (model prog w) A.in1.in1 (Builtin.«bytearray.__init__» ⟨.ref s.heap.objs.size::args,[]⟩) (λbc s'=>bc=.done (.ret .none)/\Q (.ref s.heap.objs.size) s') E {s with heap:=s.heap.push {cls:=.type "bytearray",data:=.bytearray #[]}}) :
  af (model prog w) A (PySem.call (.type "bytearray") args) Q E s:=by
 refine uV (kY ?_)
 show af _ _ (callAny (.type "bytearray") _) _ _ _
 refine aT ⟨Code.quiet_builtin _ (by decide +kernel),show Builtin.Bytes.decodersThatHold.contains "type.__call__" = false by decide +kernel,Yb F.entry_type_call ?_⟩
 rw[Around.under_plain (weight_type_call_type "bytearray" args []) rfl]
 have h1:=C7.notType
 have h2:=C7.canCreate
 unfold Builtin.«type.__call__»
 dsimp only
 rw[h1,aY em,h2,aY em]
 refine ak (fR (a:=()) C9 ?_)
 refine ak (fR C6 ?_)
 refine ak (fR C7.made ?_)
 have N:∀A':Around,PySem.wpAny (model prog w) A' (PySem.call (.builtin "bytearray.__new__") (.type "bytearray" :: args)) (λv s'=>v=.ref s.heap.objs.size/\s'={s with heap:=s.heap.push {cls:=.type "bytearray",data:=.bytearray #[]}}) E s:=λA'=>
  PySem.wpAny_call (PySem.codeAny_mono (X0 (Q₁:=λv s'=>v=.ref s.heap.objs.size/\s'={s with heap:=s.heap.push {cls:=.type "bytearray",data:=.bytearray #[]}}) (E:=E) hn ⟨rfl,rfl⟩) λr s' hr=>by
   rcases r with e | (v | _ | _ | _) <;> exact hr)
 refine ak (aT (ak (ci (aE (gg (N _)) (λv s' hv=>?_) λJ J x=>x))))
 obtain⟨rfl,rfl⟩:=hv
 have hT:({s with heap:=s.heap.push {cls:=.type "bytearray",data:=.bytearray #[]}}:Shared).TypeIs (.ref s.heap.objs.size) "bytearray":=⟨_,gi _ rfl,rfl⟩
 refine ak (gg<|PySem.wpAny_isInstance hT XO ?_)
 show af _ _ (holding _ (callSpecial? (.ref s.heap.objs.size) "__init__" args []) >>= _) _ _ _
 refine ak (ci ?_)
 unfold callSpecial?
 refine ak (gg<|PySem.wpAny_specialOf hT vt.lookup ?_)
 refine ci (ak (fR (vt.bind _) ?_))
 refine ak (uV (Ld vt.plain (show Builtin.Bytes.decodersThatHold.contains "bytearray.__init__" = false by decide +kernel) XT (gg<|vt.check _ _ _ _ _ _ _ _ hT (ha _) ?_)))
 refine aE h (λbc s' hf=>?_) λJ J x=>x
 obtain⟨rfl,q⟩:=hf
 exact aT (aT q)
end
section
variable{prog:Program}{w:World}{A:Around}{E:Value->Shared->Prop}{s:Shared}
theorem Le{α:Type}{c:Bool}{x y:Sem α}{Q:α->Shared->Prop}(hc:c=false)(h:af (model prog w) A y Q E s):af (model prog w) A (if c=true then x else y) Q E s:=by rw[hc];exact h
theorem Yg:Builtin.Bytes.bindOptional "bytearray.__init__" "bytearray" ["source","encoding","errors"] [] []=pure [none,none,none]:=by kernel_rfl
theorem Lf (v):Builtin.Bytes.bindOptional "bytearray.__init__" "bytearray" ["source","encoding","errors"] [v] []=pure [some v,none,none]:=by kernel_rfl
theorem Yh:typeLookup (.type "bytes") "__index__" = pure none:=by rw[typeLookup_type,builtinLookup_eq_fast];kernel_rfl
theorem Lg{id}{b}{t}{full}:Builtin.Bytes.buffer? id (.bytes b t) full=pure (some b):=by
 unfold Builtin.Bytes.buffer?
 rw[KBy.special_eq KBy.look_buffer,KBy.own_buffer,KBy.own_release]
 kernel_rfl
theorem Yi{a}{Q}(hg:A.guards=some [])(hb:iO s.heap a #[])(h:∀Y,iO Y a #[]->Heap.SameBut a s.heap Y->Q (.done (.ret .none)) {s with heap:=Y}) :
  af (model prog w) A (Builtin.«bytearray.__init__» ⟨[.ref a],[]⟩) Q E s:=by
 unfold Builtin.«bytearray.__init__»
 refine ak (gg<|C8 hb ?_)
 rw[aY em]
 refine ak (fR Yg ?_)
 refine ak (aT (ak (aT (ak (xN hg hb.is ?_)))))
 rw[aY em]
 refine ak (tD hb (zero_le _) λY nu hs=>?_)
 exact ak (aT (aT (h Y nu hs)))
theorem Yj{a}{b}{t}{Q}(hg:A.guards=some [])(hb:iO s.heap a #[])(hz:b.size<=sizeLine)(h:∀Y,iO Y a b->Heap.SameBut a s.heap Y->Q (.done (.ret .none)) {s with heap:=Y}) :
  af (model prog w) A (Builtin.«bytearray.__init__» ⟨[.ref a,.bytes b t],[]⟩) Q E s:=by
 unfold Builtin.«bytearray.__init__»
 refine ak (gg<|C8 hb ?_)
 rw[aY em]
 refine ak (fR (Lf _) ?_)
 refine ak (aT (ak (aT (ak (xN hg hb.is ?_)))))
 rw[aY em]
 refine ak (tD hb (zero_le _) λY nu hs=>?_)
 refine ak (fR (a:=none) (by kernel_rfl) ?_)
 refine ak (fR (a:=()) rfl ?_)
 refine ak (gg<|PySem.wpAny_specialOf (s:={s with heap:=Y}) (typeIs_bytes _ _ _) Yh ?_)
 refine ak (fR Lg ?_)
 refine ak (sx (ak (tD (s:={s with heap:=Y}) nu hz λvv Da gd=>?_)))
 exact ak (aT (aT (h vv Da ⟨gd.1.trans hs.1,λc hc=>(gd.2 c hc).trans (hs.2 c hc)⟩)))
theorem Yk{a:Addr}{n:Int}{t:Tok}{Q:PySem.Fin->Shared->Prop}(hg:A.guards=some [])(hb:iO s.heap a #[])(h0:0<n)(hz:n<=(sizeLine))(h:∀Y,iO Y a (Array.replicate n.toNat 0)->Heap.SameBut a s.heap Y->Q (.done (.ret .none)) {s with heap:=Y}) :
  af (model prog w) A (Builtin.«bytearray.__init__» ⟨[.ref a,.int n t],[]⟩) Q E s:=by
 have I:sizeLine=16777216:=fo
 unfold Builtin.«bytearray.__init__»
 refine ak (gg<|C8 hb ?_)
 rw[aY em]
 refine ak (fR (Lf _) ?_)
 refine ak (aT (ak (aT (ak (xN hg hb.is ?_)))))
 rw[aY em]
 refine ak (tD hb (zero_le _) λY nu hs=>?_)
 refine ak (fR (a:=none) (by kernel_rfl) ?_)
 refine ak (fR (a:=()) rfl ?_)
 refine ak (gg<|PySem.wpAny_specialOf (s:={s with heap:=Y}) (typeIs_int _ _ _) F.slot_int_index.lookup ?_)
 refine ak (Bx (fR (rfl:asIndex (.int n t)=pure n) ?_))
 dsimp only
 refine Le (by simp only[Builtin.Bytes.fitsIndex,Bool.not_eq_false',and_eq_true,decide_eq_true_eq];lia) ?_
 rw[aY (by lia),aY (by simp;lia)]
 refine Le (show decide (n.toNat>sizeLine)=false from decide_eq_false (by lia)) ?_
 refine ak (sx ?_)
 rw[ax (by lia)]
 refine ak (tD (s:={s with heap:=Y}) nu (by simp;lia) λvv Da gd=>?_)
 exact ak (aT (aT (h vv Da ⟨gd.1.trans hs.1,λc hc=>(gd.2 c hc).trans (hs.2 c hc)⟩)))
end
noncomputable def vw:List D->List M->Res D:=λV st=>V.casesOn (.ok (.ab st.length) (st++[.a8 []])) λd r=>eF (λd st=>match d with
 |.bytes b=>if b.length<=sz then .ok (.ab st.length) (st++[.a8 b]) else .stuck
 |.int n=>if 0<n/\n<=sz then .ok (.ab st.length) (st++[.a8 (List.replicate n.toNat 0)]) else .stuck
 |_=>.stuck) (d::r) st
theorem Db {lv} {c} {X} (C:CxA lv c) (w:aC c X) {args} {b} {E} (C9:checkTypeCall "bytearray" ⟨args,[]⟩=pure ()) (hn:checkBuiltinCall "bytearray.__new__" ⟨.type "bytearray" :: args,[]⟩=pure ())
  (ha:∀v,argsOk "bytearray.__init__" ⟨v::args,[]⟩)
  (h:∀(A:Around)(s:Shared)(a:Addr)(Q:PySem.Fin->Shared->Prop),A.guards=some []->iO s.heap a #[]->(∀Y,iO Y a b->Heap.SameBut a s.heap Y->Q (.done (.ret .none)) {s with heap:=Y})->af c.M A (Builtin.«bytearray.__init__» ⟨.ref a::args,[]⟩) Q E s) :
  af c.M c.A (PySem.call (.type "bytearray") args) (Po c no X (.ok (.ab X.st.length) (X.st++[.a8 b.toList])) (cm c)) E X.s:=by
 refine Ye C9 hn ha ?_
 have hp:(X.s.heap.push {cls:=.type "bytearray",data:=.bytearray #[]}).get? X.s.heap.objs.size=some {cls:=.type "bytearray",data:=.bytearray #[]}:=gi _ rfl
 refine h _ _ _ _ C.guards ⟨_,hp,⟨rfl,rfl⟩,rfl⟩ λY hb hs=>⟨rfl,?_⟩
 have kp:eZ X.s.heap Y:=λa o e=>(hs.2 a λz=>nomatch (z▸e:_=some o).symm.trans (ia _)).trans (ga _ e)
 have new:∀a,(a=X.s.heap.objs.size\/a=X.s.heap.objs.size)->X.s.heap.get? a=none:=λa ha=>(ha.elim id id:a=_)▸ia _
 obtain⟨o,ho,hc,hd⟩:=id hb
 exact⟨.ab X.st.length,X.plus (X.s.heap.objs.size,X.s.heap.objs.size) (.a8 b.toList) {X.s with heap:=Y},rfl,.iF w.len kp new,w.iF kp rfl rfl new λJ=>.a8 ho hc hd rfl rfl,Rd.iF w⟩
theorem fq.bytearray {lv:Nat}:fq lv (.type "bytearray") vw:=λc X vs V C w r=>by
 cases V with
 |nil=>cases r.jd;exact λJ=>Db (b:=#[]) C w XU XV (λv=>XW v) λA s a Q hg hb h=>Yi hg hb h
 |cons d V=>cases V with
  |cons=>exact λh=>absurd rfl h
  |nil=>
   obtain⟨v,vs,rfl,ra,rb⟩:=r.inv
   cases rb.jd
   cases d with
   |bytes l=>
    obtain⟨b,t,rfl,rfl⟩:=ra.fm
    exact .iff λhz J=>Db C w (K9 _) (Lb _) (λv=>Lc v _) λA s a Q hg hb h=>Yj hg hb (by rw[<- du,fo];exact hz) h
   |int n=>
    obtain⟨t,rfl⟩:=ra.dv
    refine Sm.iff (p:=0<n/\n<=sz) λhz J=>?_
    rw[<- Array.toList_replicate (n:=n.toNat) (a:=(0:UInt8))]
    exact Db (b:=Array.replicate n.toNat 0) C w (K9 _) (Lb _) (λv=>Lc v _) λA s a Q hg hb h=>Yk hg hb hz.1 (by rw[fo];exact hz.2) h
   |_=>exact λh=>absurd rfl h
theorem Dd:Slot "bytearray" "extend" "bytearray.extend":=
 .of (owner:="bytearray") (n:="extend") (by rw[typeLookup_type,builtinLookup_eq_fast];kernel_rfl) (by decide +kernel) (by decide +kernel) (by decide +kernel)
  (by first | exact .inl (by decide +kernel) | exact .inr (by decide +kernel)) (by rw[isSubtype_type];kernel_rfl)
theorem Yl:entryFor table "bytearray.extend" = some Builtin.«bytearray.extend»:=entryFor_of_tree (by kernel_rfl)
theorem Ym (a b):argsOk "bytearray.extend" ⟨[a,b],[]⟩:=by unfold argsOk;rw[signature?_of (id:="bytearray.extend") (n:=['d','n','e','t','x','e']) (o:=['y','a','r','r','a','e','t','y','b']) (by kernel_rfl) xH];kernel_rfl
theorem Lh{id}{b}{t}:Builtin.Bytes.takeBufferQuiet? id (.bytes b t) 0=pure (some (b,none)):=by
 unfold Builtin.Bytes.takeBufferQuiet? Builtin.Bytes.takeBuffer?
 rw[KBy.special_eq KBy.look_buffer,KBy.own_buffer,Lg]
 kernel_rfl
section
variable{prog:Program}{w:World}{A:Around}{E:Value->Shared->Prop}{s:Shared}
theorem Yn{α:Type}{c:Bool}{x y:Sem α}{Q:α->Shared->Prop}(hc:c=true)(h:af (model prog w) A x Q E s):af (model prog w) A (if c=true then x else y) Q E s:=by rw[hc];exact h
theorem Yo{a}{b}{Q}(hb:iO s.heap a b)(q:Q b s):af (model prog w) A (Builtin.Bytes.payload (.ref a)) Q E s:=gg<|KY hb.is q
theorem Yp{a:Addr}{b m:Array UInt8}{t:Tok}{Q:Value->Shared->Prop}(hg:A.guards=some [])(hb:iO s.heap a b)(hz:b.size+m.size<=sizeLine)(h:∀Y,iO Y a (b++m)->Heap.SameBut a s.heap Y->Q .none {s with heap:=Y}) :
  af (model prog w) A (PySem.call (.builtin "bytearray.extend") [.ref a,.bytes m t]) Q E s:=by
 refine uV (Ld Dd.plain (show Builtin.Bytes.decodersThatHold.contains "bytearray.extend" = false by decide +kernel) Yl (gg<|Dd.check _ _ _ _ _ _ _ _ hb.is.typeIs (Ym _ _) ?_))
 unfold Builtin.«bytearray.extend»
 refine ak (fR (a:=(.ref a,.bytes m t)) rfl ?_)
 refine ak (gg<|PySem.wpAny_specialOf (typeIs_bytes _ _ _) KBy.look_buffer ?_)
 refine ak (sx (ak (Yo hb ?_)))
 refine ak (fR Lh ?_)
 dsimp only
 refine Yn rfl ?_
 have bc:af (model prog w) A.in1 (Builtin.Bytes.write (.ref a) (·++m) >>= λJ=>ret .none) (λx s'=>x=.done (.ret .none)/\Q .none s') E s:=
  ak (tD hb (by simpa using hz) λY nu hs=>aT ⟨rfl,h Y nu hs⟩)
 have tail:af (model prog w) A.in1 (do
   if !m.isEmpty then Builtin.Bytes.checkResize (.ref a)
   Builtin.Bytes.write (.ref a) (·++m)
   ret .none) (λx s'=>x=.done (.ret .none)/\Q .none s') E s:=by
  cases hm:m.isEmpty with
  |true=>exact bc
  |false=>
   show af _ _ (Builtin.Bytes.checkResize (.ref a) >>= λJ=>Builtin.Bytes.write (.ref a) (·++m) >>= λJ=>ret .none) _ _ s
   refine ak ?_
   unfold Builtin.Bytes.checkResize
   refine ak (xN hg hb.is ?_)
   exact aT bc
 exact aE tail (λx s' hx=>by obtain⟨rfl,q⟩:=hx;exact q) λJ J x=>x
end
def xO:List D->List M->Res D:=gM λx y st=>aI (mq y) (λm st=>match x with
 |.ab k=>iL st k (λJ=>.stuck) λb=>if b.length+m.length<=sz then .ok .none (st.set k (.a8 (b++m))) else .stuck
 |_=>.stuck) st
theorem Sm.iL{α β:Type}{c:Cx}{W:Addr->Prop}{X:Sx}{P:α->β->Sx->Prop}{F:PT β}{k:Nat}{f:List D->Res α}{g:List UInt8->Res α}(h:∀V,X.st[k]?=some (.list V)->Sm c W X (f V) F P)(Y:∀b,X.st[k]?=some (.a8 b)->Sm c W X (g b) F P):Sm c W X (iL X.st k f g) F P:=λhr=>by
 rcases K0 hr with⟨V,e,e'⟩ | ⟨V,e,e'⟩
 .rw[e'] at hr ⊢;exact h V e hr
 .rw[e'] at hr ⊢;exact Y V e hr
theorem fq.gM{lv}{kD}{f}(h:∀c X v d v' d',CxA lv c->aC c X->bJ c X v d->bJ c X v' d'->Sm c no X (f d d' X.st) (.wp c (call kD [v,v'])) (cm c)):fq lv kD (gM f):=λc X vs V C w r=>by
 cases V with
 |nil=>exact λh=>absurd rfl h
 |cons d V=>cases V with
  |nil=>exact λh=>absurd rfl h
  |cons d' V=>cases V with
   |cons=>exact λh=>absurd rfl h
   |nil=>
    obtain⟨v,vs,rfl,a,b⟩:=r.inv
    obtain⟨v',vs,rfl,a',b1⟩:=b.inv
    cases b1.jd
    exact h c X v d v' d' C w a a'
theorem fq.extend {lv:Nat}:fq lv (.builtin "bytearray.extend") xO:=.gM λc X v x v' y C w rv nE=>.aI λm hm=>by
 cases pE hm
 obtain⟨mb,t,rfl,rfl⟩:=nE.fm
 cases x with
 |ab k=>
  refine Sm.iL (f:=λJ=>.stuck) (g:=λb=>if b.length+mb.toList.length<=sz then .ok D.none (X.st.set k (.a8 (b++mb.toList))) else .stuck) (λJ J h=>absurd rfl h) λl hk=>.iff λhz J=>?_
  obtain⟨a,b,rfl,g,o,h1,hc,hd,h3,rfl⟩:=w.xI rv hk
  refine Yp C.guards ⟨o,h1,⟨hc,hd⟩,h3⟩ (by rw[<- du,<- du,fo];exact hz) λY hb hs=>?_
  obtain⟨o',g1,g2,g3⟩:=hb
  have P:jh c X k (a,a) (.a8 b.toList) (.a8 (b.toList++mb.toList)) {X.s with heap:=Y}:=⟨g,hk,trivial,λz ob hb e=>(hs.2 z λq=>hb (.inl q)).trans e,rfl,rfl,λz hz=>⟨o',(aw Y.get? (hz.elim id id:z=a)).trans g1⟩⟩
  exact⟨.none,X.put k (.a8 (b.toList++mb.toList)) {X.s with heap:=Y},rfl,P.nx,w.lr P λJ=>.a8 g1 g2 g3 rfl (toList_append ..),.none⟩
 |_=>exact λh=>absurd rfl h
def qH(name:Str)(id:String)(ok:D->List M->Bool):Prop:=
 ∀(c:Cx) X v d pl (E:Value->Shared->Prop) (Q:Value×List Value->Shared->Prop),aC c X->bJ c X v d->ok d X.st=true->Q (.builtin id,[v]) X.s->PySem.wpAny c.M c.A (getMethod v name pl) Q E X.s
noncomputable def Li(ok:D->List M->Bool)(r:List D->List M->Res D)(σ:List (Option D))(l:SL)(d:D)(st:List M):Res D:=if ok d st=true then(l σ st).bind λV st=>r ([d]++V) st else .stuck
noncomputable def De(ok:D->List M->Bool)(r:List D->List M->Res D)(a:SE)(l:SL):SE:=λσ st=>(a σ st).bind (Li ok r σ l)
theorem ay.Yq{K}{lv}{name}{id}{e}{apos pos}{args}{ra}{l}{r}{ok}(h:ay K e ra)(hm:qH name id ok)(hc:fq lv (.builtin id) r)(jg:lv<=K.lv)(ha:gL K pos args l)
  (hb:autoParam (∀env,attributeBase e name env (eval e env)=eval e env) k2)(va:autoParam (∀env,methodCallForm args.length (backTo pos (starEach args env)) []=true) k2)(I:autoParam ((apos.endLine==pos.line)=true) rl)
  (fe:autoParam (∀env,(backTo pos (starEach args env)).any (·.1)=false) k2):ay K (.Call (.Attribute e name apos) args [] pos) (De ok r ra l):=by
 intro c σ X Cx o
 rw[BL (hb _) (va _) I]
 refine(h c σ X Cx o).bindM λd v aa n w p=>.iff λhx hr=>?_
 exact ak (cB (ak (ci (gg<|hm c aa v d _ _ _ w p hx (xt (v:=.builtin id) (first:=[v]) (fd:=[d]) (λJ=>rfl) hc jg ha (fe _) Cx (o.next Cx w n) (.cons p .nil) hr)))))
noncomputable def vx:D->List M->Bool
 |.ab k,st=>match st[k]? with | some (.list _)=>true | _=>false
 |_,_=>false
noncomputable def vy:D->List M->Bool
 |.ab k,st=>match st[k]? with | some (.a8 _)=>true | _=>false
 |_,_=>false
theorem Yr{d}{st}(h:vx d st=true):∃k V,d=.ab k/\st[k]?=some (.list V):=by
 cases d with
 |ab k=>
  have h:(match st[k]? with | some (.list _)=>true | _=>false)=true:=h
  cases e:st[k]? with
  |none=>rw[e] at h;nomatch h
  |some m=>cases m with
   |list V=>exact⟨k,V,rfl,e⟩
   |_=>rw[e] at h;nomatch h
 |_=>nomatch h
theorem Ys{d}{st}(h:vy d st=true):∃k b,d=.ab k/\st[k]?=some (.a8 b):=by
 cases d with
 |ab k=>
  have h:(match st[k]? with | some (.a8 _)=>true | _=>false)=true:=h
  cases e:st[k]? with
  |none=>rw[e] at h;nomatch h
  |some m=>cases m with
   |a8 b=>exact⟨k,b,rfl,e⟩
   |_=>rw[e] at h;nomatch h
 |_=>nomatch h
theorem Yt:qH "append" "list.append" vx:=λc X v d pl E Q w r ok q=>by
 obtain⟨k,V,rfl,hk⟩:=Yr ok
 obtain⟨a,vs,rfl,_,⟨o,ho,hc,hd,_⟩,_⟩:=w.pK r hk
 exact getMethod_list_append ho hc hd q
theorem Yu:qH "extend" "bytearray.extend" vy:=λc X v d pl E Q w r ok q=>by
 obtain⟨k,l,rfl,hk⟩:=Ys ok
 obtain⟨a,b,rfl,g,o,h1,hc,hd,h3,rfl⟩:=w.xI r hk
 exact getMethod_builtin (v:=.ref a) ⟨_,h1,hc⟩ W8 Dd (by show builtinType _=_;rw[builtinType_eq_fast];kernel_rfl) (λa e=>by cases e;exact⟨_,h1,hd⟩) q
noncomputable def Lj:D->List M->Bool:=λd J=>(iH d).isSome
noncomputable def Ll:D->List M->Bool:=λd J=>(mq d).isSome
noncomputable def Lm:D->List M->Bool:=λd J=>(j5 d).isSome
theorem Yv:qH "index" "list.index" Lj:=λc X v d pl E Q w r ok q=>by
 obtain⟨V,h⟩:=isSome_iff_exists.mp ok
 cases jG h
 obtain⟨a,vs,rfl,h1,_,_⟩:=r.dO
 obtain⟨o,ho,hc,hd,_⟩:=id h1
 exact getMethod_builtin h1.isList.typeIs PySem.F.plainAttrs_list PySem.F.slot_list_index PySem.F.type_list_index (λa e=>by cases e;exact⟨_,ho,hd⟩) q
theorem Yw:PlainAttrs "bytes":=
 ⟨⟨"bytes.__getattribute__",by rw[typeLookup_type,builtinLookup_eq_fast];kernel_rfl,by decide +kernel⟩,by rw[typeLookup_type,builtinLookup_eq_fast];kernel_rfl⟩
theorem Lo:Slot "bytes" "join" "bytes.join":=
 .of (owner:="bytes") (n:="join") (by rw[typeLookup_type,builtinLookup_eq_fast];kernel_rfl) (by decide +kernel) (by decide +kernel) (by decide +kernel)
  (by first | exact .inl (by decide +kernel) | exact .inr (by decide +kernel)) (by rw[isSubtype_type];kernel_rfl)
theorem Yx:qH "join" "bytes.join" Ll:=λc X v d pl E Q w r ok q=>by
 obtain⟨l,h⟩:=isSome_iff_exists.mp ok
 cases pE h
 obtain⟨b,t,rfl,rfl⟩:=r.fm
 exact getMethod_builtin (typeIs_bytes _ _ _) Yw Lo (by show builtinType _=_;rw[builtinType_eq_fast];kernel_rfl) (λa e=>by cases e) q
theorem Yy:qH "join" "str.join" Lm:=λc X v d pl E Q w r ok q=>by
 obtain⟨l,h⟩:=isSome_iff_exists.mp ok
 cases lj h
 obtain⟨t,rfl⟩:=r.fS
 exact GM.join q
noncomputable def xP:List D->List M->Res D:=gM λx d st=>match x with
 |.ab k=>iJ st k λV=>if V.length<=sz then .ok .none (st.set k (.list (V++[d]))) else .stuck
 |_=>.stuck
theorem cr.append {lv}:cr lv (.builtin "list.append") xP:=.gM λc X v x v' d C w rv nE=>by
 cases x with
 |ab k=>
  refine .iJ λV hk=>.iff λhz J=>?_
  obtain⟨a,vs,rfl,g,h1,h3⟩:=w.pK rv hk
  refine list_append_plainL h1.JO (λY I hs=>?_) (by rw[<- du,h3.length,fo];exact hz)
  replace I:=PL.of I
  obtain⟨o',g1,_⟩:=id I
  have P:jh c X k (a,a) (.list V) (.list (V++[d])) {X.s with heap:=Y}:=⟨g,hk,trivial,λz ob hb e=>(hs.2 z λq=>hb (.inl q)).trans e,rfl,rfl,λz hz=>⟨o',(aw Y.get? (hz.elim id id:z=a)).trans g1⟩⟩
  exact⟨.none,X.put k (.list (V++[d])) {X.s with heap:=Y},rfl,P.nx,w.lr P λup=>.list I rfl (by
   rw[Array.toList_push]
   exact bv.append ⟨h3.length,λi v y e e'=>up (h3.pt i v y e e')⟩ (.cons (up nE) .nil)),.none⟩
 |_=>exact λh=>absurd rfl h
def Dg:List D->List M->Res D:=gM λx y st=>aI (iH x) (λV st=>aI (ft y) (λk st=>aI (mu V) (λns st=>if k∈ns/\ns.length<=sz then .ok (.int (ns.idxOf k:Nat)) st else .stuck) st) st) st
theorem cr.index {lv}:cr lv (.builtin "list.index") Dg:=.gM λc X v x v' y C w rv nE=>.aI λV hx=>.aI λk hy=>.aI λns hn=>.iff λhz J=>by
 cases jG hx
 cases gq hy
 obtain⟨a,vs,rfl,I,_,rl⟩:=rv.dO
 obtain⟨t,rfl⟩:=nE.dv
 have hi:=vm rl hn
 obtain⟨⟨cls,dd,data,sl⟩,ho,hc,n,hd⟩:=I.isList
 simp only at hc hd
 subst hc hd
 have iB:vs.size=ns.length:=hi.length
 have hj:ns.idxOf k<ns.length:=List.idxOf_lt_length_iff.mpr hz.1
 have hb:ns.length<=16777216:=hz.2
 refine call_meets PySem.F.slot_list_index ⟨_,ho,rfl⟩ PySem.F.entry_list_index (PySem.F.args_list_index_2 _ _)
  (SeqAt.list_indexAt a vs n dd sl (.int k t) (isInt k) (ns.idxOf k) (L2 [List.idxOf k ns,vs.size,ns.length] 137742192731 iB hj) (by lia) ?_ ?_) ⟨ho,λy hy=>(eq_isInt k t hi y (Array.mem_toList_iff.mpr hy)).at _ _,.same w rfl rfl rfl (.int ..)⟩
 .have:=isInt_at k hi (ns.idxOf k) (by rw[du];exact L2 [List.idxOf k ns,vs.size,ns.length] 137742192731 iB hj) hj
  rw[Array.getElem_toList] at this
  rw[this]
  exact beq_iff_eq.mpr (List.getElem_idxOf hj)
 .intro j Yz cD
  have:=isInt_at k hi j (by rw[du];exact Yz) (L2 [j,ns.length,List.idxOf k ns] 137726333019 hj cD)
  rw[Array.getElem_toList] at this
  rw[this]
  exact ne_of_lt_idxOf cD _
noncomputable def xQ:List D->Option (List Str)
 |[]=>some []
 |d::r=>(j5 d).bind λx=>(xQ r).map (x :: ·)
theorem YA{ρ}{U}{h}{vs}{V}{ns}(r:bv ρ U h vs V)(e:xQ V=some ns):∃l:List (Str×Tok),vs=strValues l/\l.map (·.1)=ns:=by
 induction V generalizing vs ns with
 |nil=>cases r.jd;cases e;exact⟨[],rfl,rfl⟩
 |cons d V ih=>
  obtain⟨v,vs,rfl,ra,rb⟩:=r.inv
  obtain⟨x,hx,e⟩:=jx.mp e
  obtain⟨b',e1,rfl⟩:=pJ e
  cases lj hx
  obtain⟨t,rfl⟩:=ra.fS
  obtain⟨l,rfl,rfl⟩:=ih rb e1
  exact⟨(x,t)::l,rfl,rfl⟩
def Dh:List D->List M->Res D:=gM λx y st=>aI (j5 x) (λx st=>aI (iH y) (λV st=>aI (xQ V) (λns st=>if JoinOk x ns=true then .ok (.str (Txt.join x ns)) st else .stuck) st) st) st
theorem cr.YC {lv}:cr lv (.builtin "str.join") Dh:=.gM λc X v x v' y C w rv nE=>.aI λz hx=>.aI λV hy=>.aI λns hn=>.iff λhz J=>by
 cases lj hx
 cases jG hy
 obtain⟨t,rfl⟩:=rv.fS
 obtain⟨a,vs,rfl,I,_,rl⟩:=nE.dO
 obtain⟨l,h1,h2⟩:=YA rl hn
 have fW:X.s.heap.IsList a (strValues l).toArray:=by rw[<- h1];exact I.isList
 exact SC.join fW h2 hz λt' k=>.same w rfl rfl rfl (.str ..)
theorem YD{env bY}(h:bY.frame=env.frame)(x):noteFrame x bY=noteFrame x env:=by unfold noteFrame PySem.frameOf;rw[h]
inductive vA(c:Cx)(db:Heap)(x:Value)(h:Heap):Prop
 |mk (e:Addr) (oe:Obj) (vs:Array Value) (h1:x=.ref e) (h2:e∉c.ex) (h3:db.get? e=none) (h4:h.get? e=some oe) (h5:oe.cls=.ref 57) (h6:oe.data=.fields vs) (h7:BY c db e vs h):vA c db x h
theorem vA.Di{c}{db h}{x}:vA c db x h->mj c db x h
 |⟨e,oe,vs,a1,a2,a3,a4,a5,a6,f⟩=>⟨e,oe,vs,a1,a2,a3,a4,a5,a6,.inr f⟩
inductive gr{α:Type}(c:Cx)(W:Addr->Prop)(ae:Sx)(R:Res α)(x:Value):Shared->Prop
 |mk (aa:Sx) (e:R=.bad aa.st) (n:Nx c W ae aa) (w:aC c aa) (f:vA c ae.s.heap x aa.s.heap):gr c W ae R x aa.s
def Top(c:Cx):Prop:=∃pv iD L,c.fr=pv::iD/\pv.frame=some L/\c.env.frame=some L
section
variable{α β:Type}{c:Cx}{W:Addr->Prop}{X ae:Sx}{Y:Heap}{F:List Addr}{R:Res α}{x:Value}{s:Shared}
theorem Lp(w:aC c X)(n:Nx c W ae X)(r:jZ c ae X F){e}(he:e∈F){cls kD fl}(hc:cls=.ref 57)(hu:X.s.heap.UpToSlots Y)(t:Y.TracedAtW (hideAll X.s.heap (fE c++F)) e cls kD fl):vA c ae.s.heap (.ref e) Y:=by
 obtain⟨Cb,jc,T,oT,ts,g1,g2,g3,g4,g5,g6,g7,g8,g9⟩:=t
 obtain⟨q1,q2⟩:=Kf w n r hu g5 g7 g8
 exact⟨e,Cb,jc,rfl,r.out e he,r.new e he,g1,g2.1.trans hc,g3,T,oT,ts,_,g4,g6,q1,q2,g7,g8,g9⟩
theorem vB(hA:c.A.frames=some c.fr)(ht:Top c)(ie:c.B.StaysIn ae.s.heap)(p:dW c W ae R x s){Q}{E}(h:∀s',gr c W ae R x s'->Q () s'):af c.M c.A (noteFrame x c.env) Q E s:=by
 obtain⟨pv,iD,L,qw,hL,YE⟩:=ht
 obtain⟨X,hR,n,w,e,oe,vs,rfl,jF,nk,he,kE,hd,hh⟩:=p
 have vd:c.A.frames=some (pv::iD):=qw▸hA
 have tg:∀e'∈pv::iD,e'∈c.fr:=λe' h=>qw▸h
 rw[YD (YE.trans hL.symm) (.ref e)]
 have r1:jZ c ae X [e]:=Cc jF nk he hd
 rcases hh with h1 | ⟨T,oT,ts,fl,h1,nq,qx,qy,hT,gJ,h3⟩
 .have fa:1<vs.size:=(Array.getElem?_eq_some_iff.mp h1).1
  unfold noteFrame
  simp only[hL]
  refine ak (gg<|wpAny_field he hd h1 ?_)
  rw[aY (by decide)]
  refine gg<|wpAny_entryW (base:=hideAll X.s.heap (fE c++[e])) vd (vc w _ tg) hL he (λb o q=>of_hideAll _ q) (hideAll_none _ (cA _ (.head _))) hd fa (oC (Nat.lt_of_succ_lt fa)) λY ⟨k1,k2,k3,k4⟩=>?_
  obtain⟨n',w'⟩:=vb w n ie r1 k1 k4
  exact h _ (.mk (hp X Y) hR n' w' (Lp w n r1 (.head _) kE k4 k3))
 .have r2:jZ c ae X [e,T]:=Kk r1 qx qy hT gJ
  have fa:1<vs.size:=(Array.getElem?_eq_some_iff.mp h1).1
  have Lq:vs[0]?=some vs[0]:=oC (Nat.lt_of_succ_lt fa)
  have be:(hideAll X.s.heap (fE c++[e,T])).get? e=none:=hideAll_none _ (cA _ (.head _))
  have bT:(hideAll X.s.heap (fE c++[e,T])).get? T=none:=hideAll_none _ (cA _ (.tail _ (.head _)))
  by_cases hq:(fl==rawInt L)=true
  .cases eq_of_beq hq
   exact gg<|wpAny_noteFrame_againW (base:=hideAll X.s.heap (fE c++[e,T])) hL ⟨oe,vs,T,oT,ts,he,⟨rfl,Lq⟩,hd,h1,bT,nq,hT,gJ,h3⟩ (h _ (.mk X hR n w ⟨e,oe,vs,rfl,jF,nk,he,kE,hd,T,oT,ts,_,h1,nq,qx,qy,hT,gJ,h3⟩))
  .unfold noteFrame
   simp only[hL]
   refine ak (gg<|wpAny_field he hd h1 ?_)
   rw[ax (show(Value.ref T != Value.none)=true from rfl)]
   refine ak (gg<|wpAny_field hT gJ h3 ?_)
   rw[aY hq]
   refine ak (gg<|wpAny_setField hT gJ (Array.getElem?_eq_some_iff.mp h3).1 ?_)
   have j3:∀b,b≠T->(X.s.heap.update T (Obj.mapFields (·.setIfInBounds 3 Value.none))).get? b=X.s.heap.get? b:=λb hb=>Heap.get?_update_other _ _ (Ne.symm hb)
   have ve:∀b o,X.s.heap.get? b=some o->(∀vs,o.data≠.fields vs)->b≠T:=λb o hb j4 q=>by
    subst q
    cases hT.symm.trans hb
    exact j4 ts gJ
   refine gg<|wpAny_entryW (base:=hideAll X.s.heap (fE c++[e,T])) vd ((vc w [e,T] tg).of_keeps λb o hb j4=>⟨o,(j3 b (ve b o hb j4)).trans hb,rfl⟩) hL ((j3 e (Ne.symm nq)).trans he)
    (λb o vf=>(j3 b λq=>nomatch (q▸vf:_=some o).symm.trans bT).trans (of_hideAll _ vf)) be hd fa Lq λY ⟨x1,x2,x3,x4⟩=>?_
   have hu:X.s.heap.UpToSlots Y:=λb o hb j4=>x4 b o ((j3 b (ve b o hb j4)).trans hb) j4
   obtain⟨n',w'⟩:=vb w n ie r2 x1 hu
   exact h _ (.mk (hp X Y) hR n' w' (Lp w n r2 (.head _) kE hu x3))
theorem Lr{MM}{A}(ie:c.B.StaysIn ae.s.heap)(p:gr c W ae R x s){Q}{E}(h:∀s',gr c W ae R x s'->Q () s'){f}:PySem.wpAny MM A (setFlight x f) Q E s:=by
 obtain⟨aa,hR,n,w,e,oe,vs,rfl,jF,nk,he,kE,hd,T,oT,ts,fl,h1,nq,qx,qy,hT,gJ,h3⟩:=p
 unfold setFlight
 refine br (wpAny_field he hd h1 ?_)
 rw[ax (show(Value.ref T != Value.none)=true from rfl)]
 refine wpAny_setField hT gJ (Array.getElem?_eq_some_iff.mp h3).1 ?_
 generalize(f.elim Value.none λf=>rawInt f)=v
 have j3:∀b,b≠T->(aa.s.heap.update T (Obj.mapFields (·.setIfInBounds 3 v))).get? b=aa.s.heap.get? b:=λb hb=>Heap.get?_update_other _ _ (Ne.symm hb)
 obtain⟨n',w'⟩:=vb (Y:=aa.s.heap.update T (Obj.mapFields (·.setIfInBounds 3 v))) w n ie (Cc qx qy hT gJ)
  (λb o q=>(j3 b λz=>nomatch (z▸q:_=some o).symm.trans (hideAll_none _ (cA _ (.head _)))).trans (of_hideAll _ q))
  (λb o q hn=>⟨o.slots,(j3 b λz=>by subst z;cases hT.symm.trans q;exact hn _ gJ).trans q⟩)
 have fa:3<ts.size:=(Array.getElem?_eq_some_iff.mp h3).1
 exact h _ (.mk (hp aa _) hR n' w' ⟨e,oe,vs,rfl,jF,nk,(j3 e (Ne.symm nq)).trans he,kE,hd,T,_,_,v,h1,nq,qx,qy,Heap.get?_update_self _ hT (Obj.isFreed_of_fields (Obj.data_mapFields gJ _)),Obj.data_mapFields gJ _,by simp[fa]⟩)
theorem Dj(ie:c.B.StaysIn ae.s.heap)(p:gr c W ae R x s){Q}{E}(h:∀s',gr c W ae R x s'->Q () s'){f}:af c.M c.A (setFlight x f) Q E s:=gg (Lr ie p h)
theorem Dk{E}(ie:c.B.StaysIn ae.s.heap)(p:gr c W ae R x s)(h:∀s',gr c W ae R x s'->E x s'):uZ c.M c.A c.env E x s:=by
 have bc:=λf=>Dj (Q:=λJ s'=>E x s') (E:=E) (f:=f) ie p h
 obtain⟨aa,hR,n,w,e,oe,vs,rfl,jF,nk,he,kE,hd,T,oT,ts,fl,h1,_⟩:=p
 unfold uZ
 refine ak (gg<|wpAny_field he hd h1 ?_)
 rw[aY (by simp)]
 exact bc _
theorem YG{E:Value->Shared->Prop}{Q:β->Shared->Prop}{YH:String}{bY:Env}(ie:c.B.StaysIn ae.s.heap)(p:gr c W ae R x s)(h:∀s',gr c W ae R x s'->E x s'):af c.M c.A (PySem.passOn YH x bY) Q E s:=by
 have bc:=λf=>Dj (Q:=λJ s'=>E x s') (E:=E) (f:=f) ie p h
 obtain⟨aa,hR,n,w,e,oe,vs,rfl,jF,nk,he,kE,hd,T,oT,ts,fl,h1,_⟩:=p
 unfold PySem.passOn
 refine ak (gg<|wpAny_field he hd h1 ?_)
 rw[aY (by simp)]
 exact ak (aE (bc _) (λJ J q=>Ug q) λJ J q=>q)
end
abbrev iP:=D->List (Option D)->Option (List (Option D))
@[reducible] noncomputable def Cx.plus(c:Cx)(wr:List Addr):Cx:={c with ex:=wr++c.ex}
theorem cj.plus{K}{c}(C:cj K c)(wr:List Addr):cj K (c.plus wr):=
 ⟨⟨C.frames,C.handled,C.guards,C.depth,C.units,C.X,C.T⟩,C.scope,C.bd,C.kind,cA _ C.loc,λx a h=>⟨cA _ (C.cell x a h).1,(C.cell x a h).2⟩,C.inj,C.top,C.own,C.globals,C.builtins⟩
section
variable{K:Ks}{c c':Cx}{W W':Addr->Prop}{X aa ae:Sx}{s':Shared}{wr:List Addr}
theorem Nx.re(n:Nx c W X aa)(hx:∀a∈c.ex,a∈c'.ex\/X.s.heap.get? a=Option.none)(hf:∀a,d9 c a->d9 c' a)(hW:∀a,W a->W' a\/X.s.heap.get? a=Option.none):Nx c' W' X aa:=
 have k {a:Addr} {o:Obj} (e:X.s.heap.get? a=some o) (q:¬W' a):¬W a:=λz=>(hW a z).elim q λz=>nomatch e.symm.trans z
 ⟨n.ext,λa o e I q=>n.keep a o e I (q.imp (λq z=>(hx a z).elim q λz=>nomatch e.symm.trans z) λq=>⟨k e q.1,λz=>q.2 (hf a z)⟩),λa o e I q=>n.slot a o e I (k e q),n.there,n.dead⟩
theorem Nx.widen(n:Nx c W X aa):Nx (c.plus wr) W X aa:=n.re (λJ h=>.inl (cA _ h)) (λJ h=>h) λJ h=>.inl h
theorem Nx.narrow(n:Nx (c.plus wr) W X aa)(hw:∀b∈wr,X.s.heap.get? b=Option.none)(hW:∀a,W a->W' a\/a∈wr):Nx c W' X aa:=
 n.re (λa h=>(cy.mp h).elim (λh=>.inr (hw a h)) .inl) (λJ h=>h) λa h=>(hW a h).imp_right (hw a)
theorem Nx.xR(x:Nx c W X aa)(y:Nx (c.plus wr) W' aa ae)(hw:∀b∈wr,X.s.heap.get? b=Option.none)(hW:∀a,W' a->W a\/a∈wr):Nx c W X ae:=
 (((x.widen (wr:=wr)).mono λJ=>.inl).trans (y.mono hW)).narrow hw λJ h=>h
theorem Nx.after(x:Nx c W X ae)(hw:∀b∈wr,X.s.heap.get? b=Option.none)(k:∀b o,b∉wr->ae.s.heap.get? b=some o->s'.heap.get? b=some o):Nx c W X (ae.to s'):=
 have h {a:Addr} {o o':Obj} (e:X.s.heap.get? a=some o):ae.s.heap.get? a=some o'->s'.heap.get? a=some o':=k a o' λz=>nomatch e.symm.trans (hw a z)
 ⟨x.ext,λa o e I q=>h e (x.keep a o e I q),λa o e I q=>(x.slot a o e I q).imp λJ=>h e,λa o e=>(x.there a o e).imp λJ=>h e,x.dead⟩
structure gN(c:Cx)(wr:List Addr):Prop where
 cx:∀b∈wr,b∉c.ex
 fx:∀a,d9 c a->a∈c.ex
theorem aC.fx(w:aC c X){a}:d9 c a->a∈c.ex:=λ⟨_,he,hf⟩=>Kl w he hf
theorem aC.nG(w:aC c X){a}(h:X.s.heap.get? a=Option.none):a∉c.ex:=λz=>let ⟨_,e⟩:=w.fC a z;nomatch e.symm.trans h
theorem gN.of(w:aC c X)(hw:∀b∈wr,X.s.heap.get? b=Option.none):gN c wr:=⟨λb hb=>w.nG (hw b hb),λJ=>w.fx⟩
theorem gN.d9(A:gN c wr){b}(hb:b∈wr):¬d9 c b:=λz=>A.cx b hb (A.fx b z)
theorem gN.own(C:cj K c)(A:gN c wr){b}(hb:b∈wr):¬cK c b:=λz=>A.cx b hb (z.elim (λq=>q▸C.loc) λ⟨y,_,q⟩=>(C.cell y b q).1)
theorem aC.shrink(w:aC c X){eN}(hx:∀a∈eN,a∈c.ex)(hf:∀a,d9 c a->a∈eN):aC {c with ex:=eN} X:=
 w.move (c':={c with ex:=eN}) (T:=no) (s':=X.s) ⟨rfl,rfl,λJ J e J=>e,λJ J J t=>t.elim,λa ha=>⟨.inl (hx a ha),w.fC a (hx a ha)⟩⟩ rfl rfl rfl λe he=>(w.gf e he).keeps λL o hL J b=>⟨hf L ⟨e,he,hL⟩,b⟩
theorem Dm{eN}(k:∀b o,b∉wr->X.s.heap.get? b=some o->s'.heap.get? b=some o)(hg:s'.gens=X.s.gens)(ho:s'.os=X.s.os)(hx:∀a∈eN,a∈wr++c.ex)(me:∀a∈eN,∃o,s'.heap.get? a=some o):iE (c.plus wr) {c with ex:=eN} X (·∈wr) s':=
 ⟨hg,ho,λa o e t=>k a o t e,λJ J J t=>.inl (fP _ t),λa ha=>⟨.inl (hx a ha),me a ha⟩⟩
theorem aC.walked{eN}(w:aC (c.plus wr) X)(A:gN c wr)(M:iE (c.plus wr) {c with ex:=eN} X (·∈wr) s')(hf:∀a,d9 c a->a∈eN):aC {c with ex:=eN} (X.to s'):=
 w.move M rfl rfl rfl λe he=>(w.gf e he).keeps λL o hL J b=>⟨hf L ⟨e,he,hL⟩,M.keep L o b λz=>A.d9 z ⟨e,he,hL⟩⟩
theorem Ok.walked{eN}{σ}(C:cj K c)(o:Ok K (c.plus wr) σ X)(A:gN c wr)(M:iE (c.plus wr) {c with ex:=eN} X (·∈wr) s')(hf:∀a,d9 c a->a∈eN):Ok K {c with ex:=eN} σ (X.to s'):=
 Ok.move (c:=c.plus wr) (c':={c with ex:=eN}) (h:=X.s.heap) (Y:=s'.heap) (P:=(·∉wr)) (λa ob p e=>⟨ob.slots,M.keep a ob e p⟩) rfl rfl rfl (λz=>A.cx _ z C.loc) (λy a e z=>A.cx a z (C.cell y a e).1) (λJ J r=>r.stays (o.w.stays M) ⟨[],(c9 _).symm⟩) (o.w.walked A M hf) o λJ J e=>e
theorem Ok.begin{σ}(C:cj K c)(o:Ok K c σ X)(n:Nx c no X aa)(w:aC (c.plus wr) aa)(hw:∀b∈wr,X.s.heap.get? b=Option.none):Ok K (c.plus wr) σ aa:=
 Ok.move (c:=c) (c':=c.plus wr) (n.xj o.w) rfl rfl rfl ⟨C.loc,id⟩ (λy a e=>⟨(C.cell y a e).1,id⟩) (λJ J r=>r.stays ⟨λa ob e J u=>⟨n.keep a ob e (λz=>u (.inl z)) (.inl λz=>u (.inr z)),λq=>u (q.imp (n.live e) λq=>(cy.mp q).elim (λq=>nomatch e.symm.trans (hw a q)) id)⟩⟩ n.pre) w o λJ J e=>e
structure nI(c c':Cx)(F:List Addr)(s' cG:Shared):Prop where
 w:c'.w=c.w
 A:c'.A=c.A
 fr:c'.fr=c.fr
 ex:c'.ex=F++c.ex
 fresh:∀a∈F,s'.heap.get? a=Option.none
 keep:eZ s'.heap cG.heap
theorem nI.refl(c:Cx)(s:Shared):nI c c [] s s:=⟨rfl,rfl,rfl,rfl,λJ h=>(nomatch h),λJ J e=>e⟩
theorem nI.apart{F}{s' cG}(L:nI c c' F s' cG){ρ}{st}{b}{o}(e:s'.heap.get? b=some o)(u:¬UX (c.plus wr) ⟨ρ,st,s'⟩ b):¬UX (c'.plus wr) ⟨ρ,st,cG⟩ b:=λq=>u (q.imp_right λq=>by
 replace q:b∈wr++c'.ex:=q
 rw[L.ex] at q
 exact(cy.mp q).elim (fP _) λq=>(cy.mp q).elim (λq=>nomatch e.symm.trans (L.fresh b q)) (cA _))
theorem nI.stays{F}{s' cG}(L:nI c c' F s' cG)(ρ:List (Addr×Addr))(st:List M):m9 (UX (c.plus wr) ⟨ρ,st,s'⟩) (UX (c'.plus wr) ⟨ρ,st,cG⟩) s'.heap cG.heap:=⟨λa o e J u=>⟨L.keep a o e,L.apart e u⟩⟩
end
inductive xS(K:Ks)(c:Cx)(wr:List Addr)(σ':List (Option D))(bu:Nat->Sx->Prop)(j:Nat)(X:Sx)(s':Shared):Prop
 |mk (o:Ok K (c.plus wr) σ' (X.to s')) (n:Nx (c.plus wr) (λa=>cK c a\/a∈wr) X (X.to s')) (j':bu (j+1) (X.to s')):xS K c wr σ' bu j X s'
inductive Lu(wr:List Addr)(X:Sx)(r:Option Value)(s':Shared):Prop
 |mk (e:r=none) (k:∀b o,b∉wr->X.s.heap.get? b=some o->s'.heap.get? b=some o) (g:s'.gens=X.s.gens) (os:s'.os=X.s.os):Lu wr X r s'
def Do(c:Cx)(au:Addr)(target:Expr)(Q:Value->Shared->Prop)(E:Value->Shared->Prop)(s:Shared):Prop:=
 af c.M c.A (pyNext (.ref au)) (λr am=>∃v,r=some v/\af c.M c.A (letOwnedTupleGo target (.ref au) v) (λJ aX=>Q v aX) E am) E s
structure pQ(K:Ks)(c:Cx)(wr:List Addr)(au:Addr)(target:Expr)(aO:iP)(V:List D)(bu:Nat->Sx->Prop):Prop where
 step:∀(j:Nat) x σ σ' X (E:Value->Shared->Prop),V[j]?=some x->aO x σ=some σ'->Ok K (c.plus wr) σ X->bu j X->Do c au target (λv aX=>af c.M c.A (assign target c.env v) (λJ cF=>xS K c wr σ' bu j X cF) E aX) E X.s
 keep:∀(W:Addr->Prop)(j:Nat) X aa,bu j X->aC (c.plus wr) X->Nx (c.plus wr) W X aa->(∀b∈wr,¬W b)->bu j aa
 done:∀σ X (E:Value->Shared->Prop),Ok K (c.plus wr) σ X->bu V.length X->af c.M c.A (pyNext (.ref au)) (Lu wr X) E X.s
 self:∀(j:Nat) X (Q:Value->Shared->Prop) (E:Value->Shared->Prop),bu j X->Q (.ref au) X.s->af c.M c.A (pyIter (.ref au)) Q E X.s
inductive fJ(K':Ks)(c:Cx)(target:Expr)(aO:iP)(X:Sx)(V:List D)(it:Value)(aa:Sx):Prop
 |mk (wr:List Addr) (au:Addr) (e:it=.ref au) (w:aC (c.plus wr) aa) (fr:∀b∈wr,X.s.heap.get? b=Option.none) (z:V.length<=sz)
  (k:∀c' F cG,cj K' c'->nI c c' F aa.s cG->gN c' wr->∃bu,pQ K' c' wr au target aO V bu/\bu 0 (aa.to cG)):fJ K' c target aO X V it aa
noncomputable def PT.iter(c:Cx)(e:Expr):PT Value:=(PT.wp c (eval e c.env)).bind λx=>.wp c (pyIter x)
def iQ(K K':Ks)(target:Expr)(aO:iP)(e:Expr)(r:SL):Prop:=∀c σ X,cj K c->Ok K c σ X->Sm c no X (r σ X.st) (.iter c e) (fJ K' c target aO X)
noncomputable def jH(k:SS):Fl×List (Option D)->List M->Res (Fl×List (Option D)):=λy st=>match y with
  |(.ret d,σ)=>.ok (.ret d,σ) st
  |(_,σ)=>k σ st
noncomputable def de(step:D->SS):List D->SS
 |[],σ,st=>.ok (.next,σ) st
 |x::xs,σ,st=>(step x σ st).bind (jH (de step xs))
noncomputable def Dp(ri:SL)(step:D->SS):SS:=λσ st=>(ri σ st).bind λV st=>de step V σ st
noncomputable def kH(aO:iP)(rb:SS):D->SS:=λx σ st=>match aO x σ with
 |some σ'=>rb σ' st
 |none=>.stuck
section
variable{K:Ks}{c:Cx}{X:Sx}{wr:List Addr}
inductive Dq(K:Ks)(c:Cx)(wr:List Addr)(bu:Nat->Sx->Prop)(V:List D)(step:D->SS)(X:Sx)(R:Res (Fl×List (Option D)))(n:Nat):Shared->Prop
 |mk (j:Nat) (σ:List (Option D)) (ae:Sx) (hj:j<=V.length) (hn:n=V.length-j) (o:Ok K (c.plus wr) σ ae) (nx:Nx c (cK c) X ae) (jj:bu j ae) (e:R=de step (V.drop j) σ ae.st):Dq K c wr bu V step X R n ae.s
theorem gr.out{α:Type}{W:Addr->Prop}{R:Res α}{x:Value}{s:Shared}(A:gN c wr)(hw:∀b∈wr,X.s.heap.get? b=Option.none)(p:gr (c.plus wr) W X R x s):dW c W X R x s:=by
 obtain⟨aa,e,n,w,f⟩:=p
 refine .mk aa e (n.narrow hw λJ=>.inl) (w.shrink (c:=c.plus wr) (λa h=>cA _ h) A.fx) ?_
 obtain⟨e,oe,vs,a1,a2,a3,a4,a5,a6,T,oT,ts,fl,k1,k2,k3,k4,k5,k6,k7⟩:=f
 exact⟨e,oe,vs,a1,λq=>a2 (cA _ q),a3,a4,a5,a6,.inr ⟨T,oT,ts,fl,k1,k2,λq=>k3 (cA _ q),k4,k5,k6,k7⟩⟩
theorem YI{aO}{rb}{x}{σ}{st}(h:kH aO rb x σ st≠.stuck):∃σ',aO x σ=some σ'/\kH aO rb x σ st=rb σ' st:=by
 unfold kH at h ⊢
 cases q:aO x σ with
 |none=>rw[q] at h;exact absurd rfl h
 |some σ'=>exact⟨σ',rfl,rfl⟩
theorem Dr{α β:Type}{σ:List (Option D)}{ae:Sx}{s':Shared}{R:Res α}{P:α->β->Sx->Prop}{a:α}{f:β}(C:cj K c)(w:aC c X)(Ap:gN c wr)(hw:∀b∈wr,X.s.heap.get? b=Option.none)(e:R=.ok a ae.st)(n:Nx c (cK c) X ae)(o:Ok K (c.plus wr) σ ae)(k:∀b o,b∉wr->ae.s.heap.get? b=some o->s'.heap.get? b=some o)(hg:s'.gens=ae.s.gens)(ho:s'.os=ae.s.os)(p:Ok K c σ (ae.to s')->P a f (ae.to s')):Po c (cK c) X R P f s':=
 have M:iE (c.plus wr) c ae (·∈wr) s':=Dm k hg ho (λa h=>cA _ h) λa ha=>(o.w.fC a (cA _ ha)).imp λob e=>k a ob (λz=>Ap.cx a z ha) e
 have O:Ok K c σ (ae.to s'):=o.walked C Ap M Ap.fx
 ⟨a,ae.to s',e,n.after hw k,O.w,p O⟩
def vC(au:Nat->Shared->Prop)(n:Nat)(Q:Flow->Shared->Prop)(f:Flow)(s:Shared):Prop:=match f with
 |.next | .cont=>∃m,m<n/\au m s
 |.brk=>Q .next s
 |.ret v=>Q (.ret v) s
theorem YJ{step}{x}{xs}{σ}{st}:de step (x::xs) σ st=(step x σ st).bind (jH (de step xs)):=rfl
theorem Lv{k}{au}{n}{Q}{f}{fl}{σ}{ae}{R}(g:ng (c.plus wr) ae f fl)(e:R=jH k (fl,σ) ae.st)(h:R=k σ ae.st->∃m,m<n/\au m ae.s)(Y:∀v d,R=.ok (.ret d,σ) ae.st->ng c ae (.ret v) (.ret d)->Q (.ret v) ae.s):vC au n Q f ae.s:=by
 induction g with
 |next | cont=>exact h e
 |ret r=>exact Y _ _ e (.ret (r.weak λJ q=>q.imp_right (cA _)))
def fv(c:Cx)(R:Result->Shared->Prop):Value->Shared->Prop:=ma c.M c.A c.env λe s'=>R (.error e) s'
def Lw(c:Cx)(target:Expr)(it:Value)(body:List Stmt)(R:Result->Shared->Prop)(au:Nat->Shared->Prop)(n:Nat):Option Value->Shared->Prop
 |none,s=>R (.ok .next) s
 |some v,s=>af c.M c.A (letOwnedTupleGo target it v) (λJ s=>af c.M c.A (assign target c.env v) (λJ s=>af c.M c.A (execs body c.env) (vC au n λf=>R (.ok f)) (fv c R) s) (fv c R) s) (fv c R) s
theorem YK{target}{it}{body}{R}{s}(au:Nat->Shared->Prop)(eY:∀n s,au n s->af c.M c.A (pyNext it) (Lw c target it body R au n) (fv c R) s)(n)(h:au n s):dk c.M c.A (.forLoop target it body [] c.env) R s:=
 UL au (λn s h=>aE (eY n s h) (λr s q=>match r with
  |none=>uY q
  |some v=>aE (show af _ _ _ _ _ _ from q) (λJ J q=>aE q (λJ J q=>aE q (λf J q=>by cases f <;> exact q) λJ J q=>q) λJ J q=>q) λJ J q=>q) λJ J q=>q) n h
theorem YL{target:Expr}{body:List Stmt}{R:Result->Shared->Prop}{a:Addr}{n:Nat}{au:Nat->Shared->Prop}{s:Shared}{B:Shared->Prop}(h:Do c a target (λv s=>af c.M c.A (assign target c.env v) (λJ s=>B s) (fv c R) s) (fv c R) s)(k:∀s,B s->af c.M c.A (execs body c.env) (vC au n λf=>R (.ok f)) (fv c R) s) :
  af c.M c.A (pyNext (.ref a)) (Lw c target (.ref a) body R au n) (fv c R) s:=
 aE h (λr s ⟨v,e,h⟩=>e▸aE h (λJ J h=>aE h (λJ s h=>k s h) λJ J q=>q) λJ J q=>q) λJ J q=>q
section
variable{target:Expr}{body:List Stmt}{aO:iP}{rb:SS}{bu:Nat->Sx->Prop}{V:List D}{au:Addr}{R:Res (Fl×List (Option D))}{Q:Flow->Shared->Prop}{EE:Value->Shared->Prop}
@[reducible] def xT(c:Cx)(Q:Flow->Shared->Prop)(EE:Value->Shared->Prop):Result->Shared->Prop
 |.ok f=>Q f
 |.error x=>uZ c.M c.A c.env EE x
theorem YM{j:Nat}{σ:List (Option D)}{ae:Sx}{s:Shared}(C:cj K c)(w:aC c X)(hw:∀b∈wr,X.s.heap.get? b=Option.none)(Wl:pQ K c wr au target aO V bu)(qq:eg K body rb)(hr:R≠.stuck)(ji:∀f s,Po c (cK c) X R (eO K c) f s->Q f s)(ii:∀x s,dW c (cK c) X R x s->EE x s)
  (cD:j<V.length)(nj:Nx c (cK c) X ae)(e:R=(rb σ ae.st).bind (jH (de (kH aO rb) (V.drop (j+1)))))(p:xS K c wr σ bu j ae s):af c.M c.A (execs body c.env) (vC (Dq K c wr bu V (kH aO rb) X R) (V.length-j) Q) (fv c (xT c Q EE)) s:=by
 have Ap:=gN.of w hw
 obtain⟨j7,jE,xU⟩:=p
 have xV:Nx c (cK c) X (ae.to s):=nj.xR jE hw λJ h=>h
 refine aE (qq (c.plus wr) σ (ae.to s) (C.plus wr) j7 (gH (e▸hr))) (λf ku p=>?_) λx ku p=>?_
 .obtain⟨⟨fl,Lx⟩,nJ,qI,jf,pz,iM,qJ⟩:=p
  exact Lv qJ (e.trans (aw (Res.bind · _) qI))
   (λe=>⟨V.length-(j+1),Nat.sub_lt_sub_left cD (lt_succ_self j),j+1,_,_,cD,rfl,iM,xV.xR jf hw λJ=>.inl,Wl.keep _ _ _ _ xU j7.w jf λb hb=>Ap.own C hb,e⟩)
   λv d e g=>ji _ _ (Dr (ae:=nJ) (s':=nJ.s) C w Ap hw e (xV.xR jf hw λJ=>.inl) iM (λJ J J e=>e) rfl rfl λo=>⟨o,g⟩)
 .obtain⟨nJ,qI,jf,pz,qJ⟩:=p
  exact vB (c:=c.plus wr) (ae:=X) C.frames C.top w.base (.mk nJ (e.trans (aw (Res.bind · _) qI)) (xV.widen.trans jf) pz (qJ.back xV.widen)) λs' p=>Dk (c:=c.plus wr) w.base p λcG p=>ii _ _ (p.out Ap hw)
theorem YN{σ:List (Option D)}{aa:Sx}(C:cj K c)(w:aC c X)(hw:∀b∈wr,X.s.heap.get? b=Option.none)(Wl:pQ K c wr au target aO V bu)(qq:eg K body rb)(hr:R≠.stuck)(ji:∀f s,Po c (cK c) X R (eO K c) f s->Q f s)(ii:∀x s,dW c (cK c) X R x s->EE x s)
  (o:Ok K (c.plus wr) σ aa)(n:Nx c (cK c) X aa)(j0:bu 0 aa)(hR:R=de (kH aO rb) V σ aa.st):dk c.M c.A (.forLoop target (.ref au) body [] c.env) (xT c Q EE) aa.s:=by
 refine YK (Dq K c wr bu V (kH aO rb) X R) (λm s p=>?_) V.length (.mk 0 σ aa (zero_le _) rfl o n j0 hR)
 obtain⟨j,Ly,ae,hj,rfl,oj,nj,jj,ej⟩:=p
 rcases lt_or_ge j V.length with cD | vD
 .rw[List.drop_eq_getElem_cons cD,YJ] at ej
  obtain⟨σ',qK,jk⟩:=YI (gH (ej▸hr))
  exact YL (Wl.step j V[j] Ly σ' ae _ (c8 cD) qK oj jj) λs p=>YM C w hw Wl qq hr ji ii cD nj (jk▸ej) p
 .cases eK hj vD
  exact aE (Wl.done Ly ae _ oj jj) (λr am ⟨er,k,hg,mc⟩=>er▸ji _ _ (Dr C w (.of w hw) hw (ej.trans (by rw[List.drop_length];rfl)) nj oj k hg mc λo=>⟨o,.next⟩)) λJ J p=>p
end
theorem bQ.YO{target iter}{pos}{body}{aO}{ri}{rb}(hi:iQ K K target aO iter ri)(qq:eg K body rb)(hs:∀env x,foldedSetIterable iter env x=pure x:=by intro _ _;rfl) :
  bQ K (.For target iter body [] pos) (Dp ri (kH aO rb)):=λc σ X C o hr=>UJ (by
 refine(PT.iter c iter).mono (hi c σ X C o (gH hr)) (λit s p=>?_) λx s p=>p.up.bind
 induction p with | mk V aa e n w p=>
 obtain⟨wr,au,rfl,xW,hw,_,mk⟩:=p
 have E:Dp ri (kH aO rb) σ X.st=de (kH aO rb) V σ aa.st:=by unfold Dp;rw[e];rfl
 obtain⟨bu,Wl,j0⟩:=mk c [] aa.s C (nI.refl c aa.s) (.of o.w hw)
 exact BB (YN C o.w hw Wl qq hr (λJ J p=>p) (λJ J p=>p) (o.begin C n xW hw) n.kA j0 E) λr s q=>by cases r <;> exact q) (hs _)
end
noncomputable def pR:List Nat->List D->List (Option D)->List (Option D)
 |i::is,x::xs,σ=>pR is xs (σ.set i (some x))
 |_,_,σ=>σ
noncomputable def Ds:D->Option (List D)
 |.tup V=>some V
 |.lst V=>some V
 |_=>none
abbrev Tn:=Nat×Str×Pos
noncomputable def jI(t:Tn):Expr:=.Name t.2.1 t.2.2
section
variable{K:Ks}{c:Cx}{X:Sx}
theorem YP(env:Env)(ts:List Tn):assignEach (ts.map jI) env=ts.map λt=>(false,assign (jI t) env):=by
 induction ts with
 |nil=>rfl
 |cons t ts ih=>exact aw ((false,assign (jI t) env) :: ·) ih
def YQ(h:Heap)(a:Addr)(vs:Array Value):Prop:=h.IsTuple a vs\/h.IsList a vs
inductive xX(c:Cx)(X:Sx)(v:Value)(V:List D):Prop
 |mk (a:Addr) (vs:Array Value) (e:v=.ref a) (x:YQ X.s.heap a vs) (r:cq c X vs.toList V):xX c X v V
theorem Lz{v}{d}{V}(r:bJ c X v d)(hd:Ds d=some V):xX c X v V:=by
 cases d with
 |tup=>cases hd;obtain⟨a,vs,e,x,_,r⟩:=r.mh;exact⟨a,vs,e,.inl x,r⟩
 |lst=>cases hd;obtain⟨a,vs,e,x,_,r⟩:=r.dO;exact⟨a,vs,e,.inr x.isList,r⟩
 |_=>nomatch hd
theorem LA{v}{V}(hh:c.A.handled=none)(r:xX c X v V){E}{Q}(h:∀vs Y,eZ X.s.heap Y->cq c (X.to {X.s with heap:=Y}) vs V->Q vs {X.s with heap:=Y}):af c.M c.A (unpackItems v V.length none) Q E X.s:=by
 obtain⟨a,vs,rfl,x,rl⟩:=r
 rw[show V.length=vs.size from rl.length.symm.trans du]
 have bc:=λY (he:Heap.ExtBut X.s.heap.objs.size X.s.heap Y)=>
  have k:eZ X.s.heap Y:=λb o e=>he b o (ne_of_lt (Heap.lt_size e)) e
  h vs.toList Y k (Nx.gG (W:=no) (aa:=X.to {X.s with heap:=Y}) (.keeps k) rl)
 exact x.elim (λx=>gg<|wpAny_unpackItems_tuple hh x bc) λx=>gg<|kun_itemsOf hh x bc
theorem LB(C:cj K c){E:Value->Shared->Prop}{Q:Unit->Shared->Prop}{f:Tn->Value->Sem Unit}(hf:∀t v (s:Shared) (Q:Unit->Shared->Prop),af c.M c.A (storeName c.env t.2.1 v) Q E s->af c.M c.A (f t v) Q E s){ts:List Tn}(hb:∀t∈ts,Bound K t.1 t.2.1)
  {σ:List (Option D)}{vs:List Value}{V:List D}{X:Sx}(o:Ok K c σ X)(r:cq c X vs V)(I:ts.length=V.length)(h:∀s',Ok K c (pR (ts.map (·.1)) V σ) (X.to s')->Nx c (cK c) X (X.to s')->Q () s'):af c.M c.A (assignInOrder (ts.map f) vs) Q E X.s:=by
 induction ts generalizing σ vs V X with
 |nil=>cases length_eq_zero_iff.mp I.symm;cases r.jd;exact aT (h X.s o .refl)
 |cons t ts ih=>cases V with
  |nil=>nomatch I
  |cons d V=>
   obtain⟨v,vs,rfl,r_,rs⟩:=r.inv
   have b:=hb t (.head _)
   exact UP (hf t _ _ _ (o.store C b.1 b.2.1 b.2.2 r_ λs' o' n'=>ih (X:=X.to s') (λt' ht=>hb t' (.tail _ ht)) o' (n'.gG rs) (Nat.succ.inj I) λcG vE vF=>h cG vE (n'.trans vF)))
section
variable{ts:List Tn}(hb:∀t∈ts,Bound K t.1 t.2.1){σ:List (Option D)}{V:List D}(I:ts.length=V.length)(C:cj K c)(o:Ok K c σ X){E:Value->Shared->Prop}{Q:Unit->Shared->Prop}(h:∀s',Ok K c (pR (ts.map (·.1)) V σ) (X.to s')->Nx c (cK c) X (X.to s')->Q () s')
include hb I C o h
theorem LC{k:Nat}{tp:Pos}{v:Value}(r:xX c X v V):af c.M c.A (assign (.Tuple (ts.map jI) k tp) c.env v) Q E X.s:=by
 rw[arm_assign_Tuple]
 refine ak (cB ?_)
 unfold unpack
 rw[YP,show((ts.map λt=>(false,assign (jI t) c.env)).findIdx? (·.1))=none from List.findIdx?_eq_none_iff.mpr λx hx=>by obtain⟨t,_,rfl⟩:=da.mp hx;rfl,aG,I]
 refine ak (ci (LA C.handled r λvs Y k rl=>?_))
 rw[map_map]
 exact LB (X:=X.to {X.s with heap:=Y}) (f:=λt=>assign (jI t) c.env) C (λt v s Q h=>BI h) hb (o.next C (o.w.keeps k rfl rfl) (.keeps k)) rl I λs' vE vF=>h s' vE ((Nx.keeps k).trans vF)
end
def LD(is:List Nat)(σ:List (Option D))(d:D)(st:List M):Res (Fl×List (Option D)):=aI (Ds d) (λV st=>if is.length=V.length then .ok (.next,pR is V σ) st else .stuck) st
def YR(is:List Nat)(a:SE):SS:=λσ st=>(a σ st).bind (LD is σ)
def xY(is:List Nat)(σ:List (Option D))(d:D)(st:List M):Res (Fl×List (Option D)):=aI (Ds d) (λV st=>if is.length=V.length then .ok (.next,pR is.reverse V.reverse σ) st else .stuck) st
def YS(is:List Nat)(a:SE):SS:=λσ st=>(a σ st).bind (xY is σ)
theorem LF(ts)(v)(env bY)(h:env.scope=bY.scope):swappedStores ts v env=swappedStores ts v bY:=by
 have e:∀env:Env,swappedStores ts v env=swappedStores ts v {scope:=env.scope,locals:=0,globals:=0,cells:=[]}:=λJ=>rfl
 rw[e env,e bY,h]
noncomputable def PT.asg(c:Cx)(x:Expr)(v:Value):PT Flow:=⟨λQ E s=>af c.M c.A (assign x c.env v) (λJ=>Q .next) E s,λh a e=>aE h (λJ=>a _) e⟩
noncomputable def PT.YT(c:Cx)(ns:List Str)(v:Value):PT Flow:=⟨λQ E s=>af c.M c.A (unpackItems v ns.length none) (λitems aX=>af c.M c.A (assignInOrder (ns.reverse.map λn=>bindName c.env n) items.reverse) (λJ=>Q .next) E aX) E s,λh a e=>aE h (λJ J h=>aE h (λJ=>a _) e) e⟩
theorem bv.reverse{ρ}{U}{h}{vs}{V}(r:bv ρ U h vs V):bv ρ U h vs.reverse V.reverse:=by
 induction V generalizing vs with
 |nil=>cases r.jd;exact .nil
 |cons d V ih=>
  obtain⟨v,vs,rfl,a,b⟩:=r.inv
  rw[reverse_cons,reverse_cons]
  exact(ih b).append (.cons a .nil)
theorem Po.of{σ:List (Option D)}{s':Shared}(o:Ok K c σ (X.to s'))(n:Nx c (cK c) X (X.to s')):Po c (cK c) X (.ok (.next,σ) X.st) (eO K c) .next s':=⟨_,X.to s',rfl,n,o.w,.next o⟩
section
variable{ts:List Tn}{k:Nat}{tp pos:Pos}{dU:List Expr}{e:Expr}{r:SE}(hb:∀t∈ts,Bound K t.1 t.2.1)(h:ay K e r)(hs:∀env,swapsWithSole [.Tuple dU k tp] e pos.line env=pure false)
include hb h hs
theorem bQ.unpack(he:dU=ts.map jI)(hw:swappedStores [.Tuple dU k tp] e {scope:=K.scope,locals:=0,globals:=0,cells:=[]}=pure none):bQ K (.Assign [.Tuple dU k tp] e pos) (YR (ts.map (·.1)) r):=λc σ X C o hr=>
 U4 (Sm.pA C o (h c σ X C o) (G:=.asg c (.Tuple dU k tp)) (P':=eO K c) (λd v aa o p=>.aI λV hd=>.iff λI J=>by
  subst he
  exact LC hb ((aG (·.1)).symm.trans I) C o (λs' o' n'=>.of o' n') (Lz p hd)) hr) (hs _) ((LF _ _ _ _ C.scope).trans hw)
theorem bQ.xY(hw:swappedStores [.Tuple dU k tp] e {scope:=K.scope,locals:=0,globals:=0,cells:=[]}=pure (some (ts.map (·.2.1)))):bQ K (.Assign [.Tuple dU k tp] e pos) (YS (ts.map (·.1)) r):=λc σ X C o hr=>
 U5 (Sm.pA C o (h c σ X C o) (G:=.YT c (ts.map (·.2.1))) (P':=eO K c) (λd v aa o p=>.aI λV hd=>.iff λI J=>by
  rw[aG] at I
  show af _ _ (unpackItems v (ts.map (·.2.1)).length none) _ _ _
  rw[aG,I]
  refine LA C.handled (Lz p hd) λvs Y k rl=>?_
  rw[<- List.map_reverse,map_map,<- List.map_reverse]
  exact LB (X:=aa.to {aa.s with heap:=Y}) (f:=λt=>bindName c.env t.2.1) C (λt v s Q h=>BH h) (ts:=ts.reverse) (λt ht=>hb t (mem_reverse.mp ht)) (o.next C (o.w.keeps k rfl rfl) (.keeps k)) rl.reverse (by rw[length_reverse,length_reverse,I]) λs' vE vF=>.of vE ((Nx.keeps k).trans vF)) hr) (hs _) ((LF _ _ _ _ C.scope).trans hw)
end
end
section
variable{K K':Ks}{c c':Cx}{X aa bz:Sx}{wr:List Addr}{aX:Shared}
structure Tg(K:Ks) where
 target:Expr
 aO:iP
 Un:D->List D->Prop
 Form:Value->List Value->Heap->Prop
 put:∀{c σ σ' X y xs v vs} {Q:Unit->Shared->Prop} {E:Value->Shared->Prop},cj K c->Ok K c σ X->aO y σ=some σ'->Un y xs->Form v vs X.s.heap->cq c X vs xs->(∀s',Ok K c σ' (X.to s')->Nx c (cK c) X (X.to s')->Q () s')->af c.M c.A (assign target c.env v) Q E X.s
noncomputable def qL(i:Nat):iP:=λx σ=>some (σ.set i (some x))
noncomputable def jJ(is:List Nat):iP:=λx σ=>match x with
 |.tup xs=>if is.length=xs.length then some (pR is xs σ) else none
 |_=>none
noncomputable def Tg.name{i}{x}(px:Pos)(hb:Bound K i x):Tg K where
 target:=.Name x px
 aO:=qL i
 Un y xs:=xs=[y]
 Form v vs _:=vs=[v]
 put:=λC o e hu hf r h=>by
  cases e;cases hu;cases hf
  exact BI (o.store C hb.1 hb.2.1 hb.2.2 (r.pt 0 _ _ rfl rfl) λs' o' n'=>h s' o' n')
noncomputable def Tg.names{ts:List Tn}(k:Nat)(tp:Pos)(hb:∀t∈ts,Bound K t.1 t.2.1):Tg K where
 target:=.Tuple (ts.map jI) k tp
 aO:=jJ (ts.map (·.1))
 Un y xs:=y=.tup xs
 Form v vs h:=∃T vals,v=.ref T/\vs=Array.toList vals/\h.IsTuple T vals
 put:=λC o e hu hf r h=>by
  cases hu
  obtain⟨T,vals,rfl,rfl,ht⟩:=hf
  obtain⟨q,rfl⟩:=vk (show(if _ then some _ else none)=some _ from e)
  exact LC hb ((aG (·.1)).symm.trans q) C o h ⟨T,vals,rfl,.inl ht,r⟩
structure Wk(w:World)(A:Around)(G:Tg K)(au:Addr)(fp wr:List Addr)(n:Nat)(Pr:Nat->List Value->Prop)(St:Nat->Heap->Prop):Prop where
 sub:∀b∈wr,b∈fp
 frame:∀i h Y,St i h->(∀b∈fp,∀o,h.get? b=some o->Y.get? b=some o)->St i Y
 there:∀j h,St j h->∀b∈fp,∃o,h.get? b=some o
 item:∀i (s:Shared) (Q:Value->Shared->Prop) (E:Value->Shared->Prop),i<n->St i s.heap->
  (∀v vs Y tk,Pr i vs->G.Form v vs Y->St (i+1) Y->(∀b o,b∉wr->s.heap.get? b=some o->Y.get? b=some o)->Q v {s with heap:=Y,toks:=tk})->
  af (model PW w) A (pyNext (.ref au)) (λr am=>∃v,r=some v/\af (model PW w) A (letOwnedTupleGo G.target (.ref au) v) (λJ aX=>Q v aX) E am) E s
 done:∀(s:Shared)(Q:Option Value->Shared->Prop)(E:Value->Shared->Prop),St n s.heap->
  (∀Y tk,(∀b o,b∉wr->s.heap.get? b=some o->Y.get? b=some o)->Q none {s with heap:=Y,toks:=tk})->PySem.wpAny (model PW w) A (pyNext (.ref au)) Q E s
 self:∀i (s:Shared) (Q:Value->Shared->Prop) (E:Value->Shared->Prop),St i s.heap->Q (.ref au) s->PySem.wpAny (model PW w) A (pyIter (.ref au)) Q E s
theorem Wk.name{w:World}{A:Around}{au:Addr}{fp wr:List Addr}{n:Nat}{P:Nat->Value->Prop}{St:Nat->Heap->Prop}{i:Nat}{x:Str}{px:Pos}{hb:Bound K i x}(W:Walks PW w A au fp wr n P St)(th:∀j h,St j h->∀b∈fp,∃o,h.get? b=some o):Wk w A (Tg.name px hb) au fp wr n (λj vs=>∃v,vs=[v]/\P j v) St:=
 ⟨W.sub,W.frame,th,λi s Q E hi st h=>gg<|W.item i s _ _ hi st λv Y tk p ao k=>⟨v,rfl,aT (h v [v] Y tk ⟨v,rfl,p⟩ rfl ao k)⟩,W.done,W.self⟩
theorem Wk.names{w:World}{A:Around}{au:Addr}{fp wr:List Addr}{n:Nat}{P:Nat->Array Value->Prop}{St:Nat->Heap->Prop}{Dt:Nat->Addr->Heap->Prop}{ts:List Tn}{k:Nat}{tp:Pos}{hb:∀t∈ts,Bound K t.1 t.2.1}(W:WalksU PW w A au fp wr n P St Dt)(th:∀j h,St j h->∀b∈fp,∃o,h.get? b=some o):Wk w A (Tg.names k tp hb) au fp wr n (λj vs=>∃a,vs=a.toList/\P j a) St:=
 ⟨W.sub,W.frame,th,λi s Q E hi st h=>gg<|W.item i s _ _ hi st λT vals Y tk hP hT hm hk=>⟨.ref T,rfl,gg<|W.go _ _ _ i T {s with heap:=Y,toks:=tk} _ _ hm λvv xZ jB=>
  h (.ref T) vals.toList vv tk ⟨vals,rfl,hP⟩ ⟨T,vals,rfl,rfl,let ⟨ob,ho,r⟩:=hT;⟨ob,jB _ _ (W.apart _ _ _ hm) ho,r⟩⟩ xZ λb o q e=>jB b o q (hk b o q e)⟩,W.done,W.self⟩
structure JW(c:Cx)(G:Tg K)(wr fp:List Addr)(Pr:Nat->List Value->Prop)(St:Nat->Heap->Prop)(V:List D)(j:Nat)(X:Sx):Prop where
 st:St j X.s.heap
 out:∀b∈fp,b∈wr\/¬UX (c.plus wr) X b
 rd:∀(k:Nat) vs y,Pr k vs->V[k]?=some y->∃xs,G.Un y xs/\cq (c.plus wr) X vs xs
section
variable{G:Tg K}{au:Addr}{fp:List Addr}{V:List D}{n:Nat}{Pr:Nat->List Value->Prop}{St:Nat->Heap->Prop}
theorem JW.keep(W:Wk c.w c.A G au fp wr n Pr St)(Ap:gN c wr){W'}{j}(bu:JW c G wr fp Pr St V j X)(w:aC (c.plus wr) X)(n:Nx (c.plus wr) W' X aa)(hW:∀b∈wr,¬W' b):JW c G wr fp Pr St V j aa:=by
 refine⟨W.frame _ _ _ bu.st λb hb o e=>?_,λb hb=>(bu.out b hb).imp_right λq z=>q ?_,λk vs y hp hy=>(bu.rd k vs y hp hy).imp λJ h=>⟨h.1,n.gG h.2⟩⟩
 .by_cases q:b∈wr
  .exact n.keep b o e (w.hM b (fP _ q)) (.inr ⟨hW b q,Ap.d9 q⟩)
  .have u:=(bu.out b hb).resolve_left q
   exact n.keep b o e (λz=>u (.inl z)) (.inl λz=>u (.inr z))
 .obtain⟨o,e⟩:=W.there _ _ bu.st b hb
  exact z.imp_left (n.live e)
theorem Wk.YU(W:Wk c.w c.A G au fp wr V.length Pr St)(C:cj K c)(Ap:gN c wr):pQ K c wr au G.target G.aO V (JW c G wr fp Pr St V):=by
 refine⟨λj y σ σ' X E hy qK o bu=>?_,λW' j X aa bu w n hW=>bu.keep W Ap w n hW,λσ X E o bu=>gg<|W.done X.s _ _ bu.st λY tk hk=>⟨rfl,hk,rfl,rfl⟩,λj X Q E bu q=>gg<|W.self j X.s Q E bu.st q⟩
 refine W.item j X.s _ E (bH.mp hy).1 bu.st λv vs Y tk hP hF xZ hk=>?_
 have ex:∀a∈wr++c.ex,∃o,Y.get? a=some o:=λa ha=>by
  by_cases q:a∈wr
  .exact W.there _ _ xZ a (W.sub a q)
  .exact(o.w.fC a ha).imp λob e=>hk a ob q e
 have M:iE (c.plus wr) (c.plus wr) X (·∈wr) {X.s with heap:=Y,toks:=tk}:=Dm hk rfl rfl (λa h=>h) ex
 have oa:Ok K (c.plus wr) σ (X.to {X.s with heap:=Y,toks:=tk}):=o.walked C Ap M λa h=>cA _ (Ap.fx a h)
 have na:Nx (c.plus wr) (λa=>cK c a\/a∈wr) X (X.to {X.s with heap:=Y,toks:=tk}):=(Nx.move (c:=c.plus wr) (W:=(·∈wr)) M.keep (λa h=>fP _ h) λa J J h=>ex a (fP _ h)).mono λJ=>.inr
 obtain⟨xs,hu,r⟩:=bu.rd j vs y hP hy
 have rd:=fun{vs xs} (r:cq (c.plus wr) X vs xs)=>r.stays (o.w.stays M) (k9:=X.ρ) ⟨[],(c9 _).symm⟩
 refine G.put (C.plus wr) oa qK hu hF (rd r) λs' o' n'=>⟨o',na.trans (n'.mono λJ=>.inl),JW.keep (X:=X.to {X.s with heap:=Y,toks:=tk}) W Ap ⟨xZ,bu.out,λk vs y hp hy=>(bu.rd k vs y hp hy).imp λJ h=>⟨h.1,rd h.2⟩⟩ oa.w n' λb hb=>Ap.own C hb⟩
theorem JW.later{F}{cG}(W:Wk c.w c.A G au fp wr n Pr St)(L:nI c c' F aa.s cG){j}(bu:JW c G wr fp Pr St V j aa):JW c' G wr fp Pr St V j (aa.to cG):=
 ⟨W.frame _ _ _ bu.st λb J o e=>L.keep b o e,λb hb=>(bu.out b hb).imp_right λu=>let ⟨_,e⟩:=W.there _ _ bu.st b hb;L.apart e u,λk vs y hp hy=>(bu.rd k vs y hp hy).imp λJ h=>⟨h.1,h.2.stays (L.stays aa.ρ aa.st) ⟨[],(c9 _).symm⟩⟩⟩
theorem fJ.lay(n:Nx c no X bz)(w:aC c bz)(W:Wk c.w c.A G au fp wr V.length Pr St)(k:eZ bz.s.heap aX.heap)(hg:aX.gens=bz.s.gens)(ho:aX.os=bz.s.os)(hw:∀b∈wr,bz.s.heap.get? b=none)(z:V.length<=sz)(lA:St 0 aX.heap)
  (out:∀b∈fp,b∈wr\/(¬UX c bz b/\b∉wr))(rd:∀(k:Nat) vs y,Pr k vs->V[k]?=some y->∃xs,G.Un y xs/\cq c bz vs xs):Po c no bz (.ok V bz.st) (fJ K c G.target G.aO X) (.ref au) aX:=by
 have In:Inner c (c.plus wr) bz wr aX:=⟨rfl,rfl,rfl,λJ=>cy,k,hg,ho,λa ha=>⟨hw a ha,W.there _ _ lA a (W.sub a ha)⟩,λe he=>.inl he,λe he=>he⟩
 have bu:JW c G wr fp Pr St V 0 (bz.to aX):=⟨lA,λb hb=>(out b hb).imp_right λq z=>q.1 (z.imp_right λz=>(cy.mp z).resolve_left q.2),λk vs y hp hy=>(rd k vs y hp hy).imp λJ h=>⟨h.1,In.gG w h.2⟩⟩
 exact⟨V,bz.to aX,rfl,.keeps k,w.keeps k hg ho,wr,au,rfl,In.enter w,λb hb=>n.none (hw b hb),z,λc' F cG C' L Ap=>⟨_,Wk.YU (c:=c') (by rw[L.w,L.A];exact W) C' Ap,bu.later W L⟩⟩
end
end
theorem ac{α:Type}{P:α->Prop}{a:α}{l:List α}(h:P a)(t:∀b∈l,P b):∀b∈a::l,P b:=λb hb=>(dI.mp hb).elim (λq=>q▸h) (t b)
theorem an{α:Type}{P:α->Prop}:∀b∈([]:List α),P b:=λJ h=>nomatch h
structure pS(K:Ks)(e:Expr)(r:SL):Prop where
 k:∀{K':Ks} {i:Nat} {x:Str} {px:Pos},Bound K' i x->iQ K K' (.Name x px) (qL i) e r
section
variable{K K':Ks}{c:Cx}{X bz:Sx}{σ:List (Option D)}
theorem iQ.name{i}{x}{px}{iter}{ri}(hb:Bound K' i x)(h:pS K iter ri):iQ K K' (.Name x px) (qL i) iter ri:=h.k hb
section
variable{i:Nat}{x:Str}{px:Pos}(hb:Bound K' i x)(n:Nx c no X bz)(w:aC c bz)
include hb n w
theorem fJ.vG{o:Obj}{V:List D}{old:List Addr}{P:Nat->Value->Prop}{St:Nat->Heap->Prop}{m:Nat}(W:Walks PW c.w c.A bz.s.heap.objs.size (bz.s.heap.objs.size::old) [bz.s.heap.objs.size] m P St)(len:V.length=m)(z:V.length<=sz)(lA:St 0 (bz.s.heap.push o))
  (th:∀j h,St j h->∀b∈bz.s.heap.objs.size::old,∃o,h.get? b=some o)(out:∀b∈old,bz.s.heap.get? b≠Option.none/\¬UX c bz b)(rd:∀(k:Nat) v y,P k v->V[k]?=some y->bJ c bz v y):Po c no bz (.ok V bz.st) (fJ K' c (.Name x px) (qL i) X) (.ref bz.s.heap.objs.size) (kC bz.s o):=
 fJ.lay (G:=Tg.name px hb) n w (Wk.name (len▸W) th) (fV _ _) rfl rfl (ac (ia _) an) z lA (ac (.inl (.head _)) λb h=>.inr ⟨(out b h).2,λq=>(out b h).1 (dT.mp q▸ia _)⟩)
  λk vs y ⟨v,e,p⟩ hy=>⟨[y],rfl,e▸.cons (rd k v y p hy) .nil⟩
theorem LG{a:Addr}{vs:Array Value}{V:List D}(hh:c.A.handled=none)(I:bz.s.heap.IsList a vs)(u:¬UX c bz a)(rl:cq c bz vs.toList V):Sm c no bz (if V.length<=sz then .ok V bz.st else .stuck) (.wp c (pyIter (.ref a))) (fJ K' c (.Name x px) (qL i) X):=.iff λhz J=>by
 obtain⟨ob,ho,hl2⟩:=id I
 have iB:V.length=vs.size:=rl.length.symm.trans du
 exact gg<|wpAny_pyIter_list I (fJ.vG hb n w (old:=[a]) (Walks.list hh _ a (ne_of_lt (Heap.lt_size ho)) vs) iB hz ⟨⟨_,gi _ rfl,rfl,rfl⟩,I.push _⟩
  (λj h sj=>ac (sj.1.elim λob h=>⟨ob,h.1⟩) (ac (sj.2.elim λob h=>⟨ob,h.1⟩) an)) (ac ⟨λq=>(nomatch ho.symm.trans q),u⟩ an) λk v y hP hy=>rl.pt k v y (jA.trans hP) hy)
end
noncomputable def tE:D->List M->Res (List D)
 |.arr V,st=>if V.length<=sz then .ok V st else .stuck
 |.lst V,st=>if V.length<=sz then .ok V st else .stuck
 |.bytes b,st=>if b.length<=sz then .ok (b.map λc=>.int (c.toNat:Int)) st else .stuck
 |.str x,st=>if x.length<=sz then .ok (x.cps.toList.map λc=>.str ⟨#[c]⟩) st else .stuck
 |_,_=>.stuck
noncomputable def YV(a:SE):SL:=λσ st=>(a σ st).bind tE
theorem LH{α:Type}{xs:Array α}{f:α->D}{P:Value->α->Prop}(h:∀v a,P v a->bJ c X v (f a))(k:Nat)(v:Value)(y:D)(hP:∃a,xs[k]?=some a/\P v a)(hy:(xs.toList.map f)[k]?=some y):bJ c X v y:=by
 obtain⟨a,h1,h2⟩:=hP
 rw[getElem?_map,jA,h1] at hy
 cases hy
 exact h v a h2
theorem pS.val{e:Expr}{r:SE}(h:ay K e r):pS K e (YV r):=.mk fun{K' i x px} hb c σ X C o=>(h c σ X C o).bind λd v aa n w p=>by
 cases d with
 |lst=>obtain⟨a,vs,rfl,I,u,rl⟩:=p.dO;exact LG hb n w C.handled I.isList u rl
 |arr=>obtain⟨a,vs,rfl,I,u,rl⟩:=p.BV;exact LG hb n w C.handled I u rl
 |bytes=>
  obtain⟨b,t,rfl,rfl⟩:=p.fm
  exact .iff λhz J=>gg<|KBw.pyIter_bytes (fJ.vG hb n w (old:=[]) (KBw.walks C.handled _ b t) (aG ..) (by rw[aG];exact hz) ⟨_,gi _ rfl,rfl,rfl⟩ (λj h sj=>ac (sj.elim λob h=>⟨ob,h.1⟩) an) an
   λk v y ⟨cc,u,h1,e⟩ hy=>LH (P:=λv (a:UInt8)=>∃u,v=.int (a.toNat:Int) u) (λv a ⟨u,e⟩=>e▸.int _ _) k v y ⟨cc,h1,u,e⟩ hy)
 |str s=>
  obtain⟨t,rfl⟩:=p.fS
  have rd:∀(k:Nat) v y,SignAt s k v->(s.cps.toList.map λc=>D.str ⟨#[c]⟩)[k]?=some y->bJ c aa v y:=λk v y ⟨cc,u,h1,e⟩ hy=>LH (P:=λv a=>∃u,v=.str ⟨#[a]⟩ u) (λv a ⟨u,e⟩=>e▸.str _ _) k v y ⟨cc,h1,u,e⟩ hy
  refine .iff λhz J=>?_
  cases ha:s.cps.all (· < 128)
  .exact gg<|wpAny_pyIter_wide ha (fJ.vG hb n w (old:=[]) (Walks.strWide C.handled _ s t) (aG ..) (by rw[aG];exact hz) ⟨_,gi _ rfl,rfl,rfl⟩ (λj h sj=>ac (sj.elim λob h=>⟨ob,h.1⟩) an) an rd)
  .exact gg<|wpAny_pyIter_ascii ha (fJ.vG hb n w (old:=[]) (Walks.strAscii C.handled _ s t) (aG ..) (by rw[aG];exact hz) ⟨_,gi _ rfl,rfl,rfl⟩ (λj h sj=>ac (sj.elim λob h=>⟨ob,h.1⟩) an) an rd)
 |_=>exact λh=>absurd rfl h
theorem ya {α β:Type} {x:Str} {T:String} {p pos:Pos} {args:List Expr} {l:SL} {f:List D->List M->Res α} {G:Value->PT β} {P:α->β->Sx->Prop} (hx:K.scope.names.lookup x=some .globalImplicit) (e:∀P,nsIn (KF P) mainGlobals x=some Option.none) (hb:bootBuiltins x=some (.type T)) (hn:x≠"__name__")
  (ha:gL K pos args l)(fe:∀env,(backTo pos (starEach args env)).any (·.1)=false)(hd:(x==("__debug__" : Str))=false)(C:cj K c)(o:Ok K c σ X)
  (k:∀vs V aa,Nx c no X aa->aC c aa->cq c aa vs V->Sm c no aa (f V aa.st) ((PT.wp c (PySem.call (.type T) vs)).bind G) P):Sm c no X ((l σ X.st).bind f) ((PT.wp c (eval (.Call (.Name x p) args [] pos) c.env)).bind G) P:=λhr=>
 uX (B0 C o hx hd e hb hn (JD (fe _) ((ha c σ X _ C o).bind (G:=λ(a:Args)=>(PT.wp c (PySem.call (.type T) ([]++a.pos) a.kw)).bind G) (P':=P) (λV a aa n w p hr=>by
  rw[p.1]
  exact k a.pos V aa n w p.2 hr) hr)))
noncomputable def jm(a b:Int):List D:=(List.range (b-a).toNat).map λ(i:Nat)=>.int (a+(i:Int))
noncomputable def ij:List D->List M->Res (List D)
 |[.int b],st=>if b<=16777216/\-16777216<=b then .ok (jm 0 b) st else .stuck
 |[.int a,.int b],st=>if(b<=16777216*512/\-16777216<=b)/\(a<=16777216*512/\-16777216<=a)/\b-a<=16777216 then .ok (jm a b) st else .stuck
 |_,_=>.stuck
noncomputable def Dv(l:SL):SL:=λσ st=>(l σ st).bind ij
inductive vH(st:List M):List D->Prop
 |one (i:Int) (sm:Builtin.Range.small 0 i 1=true) (z:i-0<=16777216) (e:ij [.int i] st=.ok (jm 0 i) st):vH st [.int i]
 |two (i j:Int) (sm:Builtin.Range.small i j 1=true) (z:j-i<=16777216) (e:ij [.int i,.int j] st=.ok (jm i j) st):vH st [.int i,.int j]
theorem LI{a b}(h1:b<=16777216*512/\-16777216<=b)(h2:a<=16777216*512/\-16777216<=a):Builtin.Range.small a b 1=true:=small_one (by lia) (by lia) (by lia) (by lia)
theorem YW{d d'}{st}(h:ij [d,d'] st≠.stuck):vH st [d,d']:=by
 cases d with
 |int i=>cases d' with
  |int j=>have hz:=xp h;exact .two i j (LI hz.1 hz.2.1) hz.2.2 (ax hz)
  |_=>exact absurd rfl h
 |_=>exact absurd rfl h
theorem YX{d}{st}(h:ij [d] st≠.stuck):vH st [d]:=by
 cases d with
 |int i=>have hz:=xp h;exact .one i (LI (by lia) (by lia)) (by lia) (ax hz)
 |_=>exact absurd rfl h
theorem YY{V}{st}(h:ij V st≠.stuck):vH st V:=by
 cases V with
 |nil=>exact absurd rfl h
 |cons d V=>cases V with
  |nil=>exact YX h
  |cons d' V=>cases V with
   |nil=>exact YW h
   |cons=>exact absurd (by cases d <;> first | rfl | cases d' <;> rfl) h
theorem bv.vo{vs}{i}(r:cq c X vs [D.int i]):∃t,vs=[Value.int i t]:=by
 obtain⟨v,vs,rfl,ra,rb⟩:=r.inv
 cases rb.jd
 obtain⟨t,rfl⟩:=ra.dv
 exact⟨t,rfl⟩
theorem bv.dm{vs}{i j}(r:cq c X vs [D.int i,D.int j]):∃t u,vs=[Value.int i t,Value.int j u]:=by
 obtain⟨v,vs,rfl,ra,rb⟩:=r.inv
 obtain⟨u,rfl⟩:=bv.vo rb
 obtain⟨t,rfl⟩:=ra.dv
 exact⟨t,u,rfl⟩
inductive Dx(l:List D)(v:Value)(aa:Sx):Prop
 |mk (a b:Int) (r:Addr) (t u w:Tok) (I:l=jm a b) (hv:v=.ref r) (h:IsRange aa.s.heap r a b 1 t u w) (sm:Builtin.Range.small a b 1=true) (z:b-a<=16777216):Dx l v aa
theorem LJ {vs} {V} (r:cq c X vs V) (w:aC c X):Sm c no X (ij V X.st) (.wp c (PySem.call (.type "range") vs)) Dx:=λhr=>by
 obtain⟨i,sm,z,e⟩ | ⟨i,j,sm,z,e⟩:=YY hr
 .obtain⟨t,rfl⟩:=bv.vo r
  rw[e]
  exact gg<|call_range_1 (.keeps w (fV _ _) rfl rfl ⟨0,i,_,_,_,_,rfl,rfl,IsRange.new ..,sm,z⟩)
 .obtain⟨t,u,rfl⟩:=bv.dm r
  rw[e]
  exact gg<|call_range_2 (.keeps w (fV _ _) rfl rfl ⟨i,j,_,_,_,_,rfl,rfl,IsRange.new ..,sm,z⟩)
theorem yb(a b):(jm a b).length=(b-a).toNat:=by unfold jm;rw[aG,eU]
theorem LK{a b:Int}{k:Nat}{y:D}(h:(jm a b)[k]?=some y):y=.int (a+(k:Int)):=by
 have hj:k<(b-a).toNat:=yb a b▸(bH.mp h).1
 rw[jm,getElem?_map,getElem?_range hj] at h
 exact(Option.some.inj h).symm
theorem YZ (h:Heap) (a b:Int):IsRangeIter (h.push {cls:=.type "range_iterator",data:=.fields #[rawInt a,rawInt (Builtin.Range.rangeSize a b 1),rawInt 1]}) h.objs.size (a+((0:Nat):Int)*1) (((b-a).toNat:Int)-((0:Nat):Int)) 1:=by
 rw[show(a+((0:Nat):Int)*1)=a by simp,show(((b-a).toNat:Int)-((0:Nat):Int))=Builtin.Range.rangeSize a b 1 by rw[rangeSize_one];split <;> lia]
 exact gi _ rfl
theorem pS.range {x:Str} {p pos:Pos} {args:List Expr} {l:SL} (hx:K.scope.names.lookup x=some .globalImplicit) (e:∀P,nsIn (KF P) mainGlobals x=some Option.none) (hb:bootBuiltins x=some (.type "range")) (hn:x≠"__name__")
  (ha:gL K pos args l)(fe:autoParam (∀env,(backTo pos (starEach args env)).any (·.1)=false) k2)(hd:autoParam ((x==("__debug__" : Str))=false) dc):pS K (.Call (.Name x p) args [] pos) (Dv l):=.mk fun{K' i x px} Y0 c σ X C o=>
 ya hx e hb hn ha fe hd C o λvs V aa n w r=>by
  rw[<- Res.cb (ij V aa.st)]
  refine(LJ r w).bind (G:=λx=>.wp c (pyIter x)) λl x ae n' w' ⟨a,b,r,t,u,v,I,hv,hr,sm,z⟩ _=>?_
  subst I hv
  exact gg<|wpAny_pyIter_range hr sm (fJ.vG Y0 (n.trans n') w' (old:=[]) (Walks.range C.handled _ a 1 (b-a).toNat) (yb a b) (by rw[yb];show _<=16777216;lia) (YZ _ a b) (λj h sj=>ac ⟨_,sj⟩ an) an λk v y ⟨t,e⟩ hy=>by
   cases LK hy
   rw[e,Int.mul_one]
   exact .int _ _)
end
section
variable{α β:Type}{K K':Ks}{c:Cx}{W:Addr->Prop}{X bz:Sx}{P:α->β->Sx->Prop}{vs:List Value}{V:List D}
theorem Sm.eF{f:D->List M->Res α}{F:List Value->PT β}(r:cq c X vs V)(h:∀v d,bJ c X v d->Sm c W X (f d X.st) (F [v]) P):Sm c W X (eF f V X.st) (F vs) P:=by
 cases V with
 |nil=>exact λh=>absurd rfl h
 |cons d V=>cases V with
  |cons=>exact λh=>absurd rfl h
  |nil=>
   obtain⟨v,vs,rfl,a,b⟩:=r.inv
   cases b.jd
   exact h v d a
theorem Sm.gM{f:D->D->List M->Res α}{F:List Value->PT β}(r:cq c X vs V)(h:∀v d v' d',bJ c X v d->bJ c X v' d'->Sm c W X (f d d' X.st) (F [v,v']) P):Sm c W X (gM f V X.st) (F vs) P:=by
 cases V with
 |nil=>exact λh=>absurd rfl h
 |cons d V=>
  obtain⟨v,vs,rfl,a,b⟩:=r.inv
  exact Sm.eF (f:=f d) (F:=λvs=>F (v::vs)) b λv' d' a'=>h v d v' d' a a'
section
variable{ts:List Tn}{k:Nat}{tp:Pos}(hb:∀t∈ts,Bound K' t.1 t.2.1)
include hb
theorem fJ.Dy{au}{fp wr}{aX}{V}{Pt}{St}{Dt}{m}(n:Nx c no X bz)(w:aC c bz)(W:WalksU PW c.w c.A au fp wr m Pt St Dt)(len:V.length=m)(k':eZ bz.s.heap aX.heap)(hg:aX.gens=bz.s.gens)(ho:aX.os=bz.s.os)
  (hw:∀b∈wr,bz.s.heap.get? b=Option.none)(z:V.length<=sz)(lA:St 0 aX.heap)(th:∀j h,St j h->∀b∈fp,∃o,h.get? b=some o)(out:∀b∈fp,b∈wr\/(¬UX c bz b/\b∉wr))(rd:∀(k:Nat)(a:Array Value) y,Pt k a->V[k]?=some y->∃xs,y=.tup xs/\cq c bz a.toList xs) :
  Po c no bz (.ok V bz.st) (fJ K' c (.Tuple (ts.map jI) k tp) (jJ (ts.map (·.1))) X) (.ref au) aX:=
 fJ.lay (G:=Tg.names k tp hb) n w (Wk.names (len▸W) th) k' hg ho hw z lA out λk vs y ⟨a,e,p⟩ hy=>e▸rd k a y p hy
noncomputable def vI:List D->Bool
 |[]=>true
 |.tup _::r=>vI r
 |_::_=>false
def Dz(d:D)(st:List M):Res (List D):=aI (iH d) (λV st=>if V.length<=sz/\vI V=true then .ok V st else .stuck) st
def Y1(a:SE):SL:=λσ st=>(a σ st).bind Dz
omit hb in
theorem Y2{V:List D}{j:Nat}{x:D}(h:vI V=true)(e:V[j]?=some x):∃xs,x=.tup xs:=by
 induction V generalizing j with
 |nil=>nomatch e
 |cons d V ih=>cases d with
  |tup xs=>cases j with
   |zero=>exact⟨xs,(Option.some.inj e).symm⟩
   |succ j=>exact ih h e
  |_=>nomatch h
structure LL(c:Cx)(X:Sx)(vs:Array Value)(V:List D)(j:Nat)(p:Addr×Array Value):Prop where
 v:vs[j]?=some (.ref p.1)
 t:X.s.heap.IsTuple p.1 p.2
 u:¬UX c X p.1
 rd:∃xs,V[j]?=some (.tup xs)/\cq c X p.2.toList xs
omit hb in
theorem Y4{vs:Array Value}{V:List D}(rl:cq c X vs.toList V)(h:vI V=true):∃f:Nat->Addr×Array Value,∀j,j<vs.size->LL c X vs V j (f j):=by
 refine(Classical.skolem (p:=λj p=>j<vs.size->LL c X vs V j p)).mp λj=>?_
 by_cases hj:j<vs.size
 .have hx:V[j]?=some (V[j]'(rl.length▸hj)):=c8 _
  obtain⟨xs,CR⟩:=Y2 h hx
  rw[CR] at hx
  obtain⟨v,g1,g2⟩:=rl.get hx
  obtain⟨T,vals,rfl,ht,hu,DA⟩:=g2.mh
  exact⟨(T,vals),λJ=>⟨jA.symm.trans g1,ht,hu,xs,hx,DA⟩⟩
 .exact⟨(0,#[]),λq=>absurd q hj⟩
theorem iQ.Y5{dU}{e}{r}(he:dU=ts.map jI)(h:ay K e r):iQ K K' (.Tuple dU k tp) (jJ (ts.map (·.1))) e (Y1 r):=λc σ X C o=>(h c σ X C o).bind λd v aa n w p=>.aI λV hd=>.iff λhz J=>by
 subst he
 cases jG hd
 obtain⟨a,vs,rfl,I,u,rl⟩:=p.dO
 replace I:=I.isList
 obtain⟨f,hf⟩:=Y4 rl hz.2
 have ne:∀{b o},aa.s.heap.get? b=some o->b≠aa.s.heap.objs.size:=λe=>ne_of_lt (Heap.lt_size e)
 have bq:a≠aa.s.heap.objs.size:=let ⟨_,ho,_⟩:=I;ne ho
 have hT:∀j,j<vs.size->(f j).1≠aa.s.heap.objs.size:=λj hj=>let ⟨_,ho,_⟩:=(hf j hj).t;ne ho
 refine gg<|wpAny_pyIter_list I (fJ.Dy hb n w (aX:=kC aa.s _) (WalksU.listOfTuples C.handled _ a bq vs (λj=>(f j).1) (λj=>(f j).2) (λj hj=>(hf j hj).v) hT) (rl.length.symm.trans du) (fV _ _) rfl rfl (ac (ia _) an) hz.1
  ⟨⟨_,gi _ rfl,rfl,rfl⟩,I.push _,λj hj=>let ⟨ob,ho,r⟩:=(hf j hj).t;⟨ob,ga _ ho,r⟩⟩
  (λj h sj=>ac (sj.1.elim λob h=>⟨ob,h.1⟩) (ac (sj.2.1.elim λob h=>⟨ob,h.1⟩) λb hb=>?_)) (ac (.inl (.head _)) (ac (.inr ⟨u,λq=>bq (dT.mp q)⟩) λb hb=>?_)) λk a y hP hy=>?_)
 .obtain⟨j,hj,rfl⟩:=da.mp hb
  exact(sj.2.2 j (mem_range.mp hj)).elim λob h=>⟨ob,h.1⟩
 .obtain⟨j,hj,rfl⟩:=da.mp hb
  have hj:=mem_range.mp hj
  exact .inr ⟨(hf j hj).u,λq=>hT j hj (dT.mp q)⟩
 .have hj:k<vs.size:=du▸rl.length▸(bH.mp hy).1
  obtain⟨xs,hx,DA⟩:=(hf k hj).rd
  have hP:a=(f k).2:=hP
  exact⟨xs,Option.some.inj (hy.symm.trans hx),hP▸DA⟩
noncomputable def nK:Nat->List D->List D
 |_,[]=>[]
 |n,x::xs=>.tup [.int (n:Int),x]::nK (n+1) xs
omit hb in
theorem Y6{n:Nat}{V:List D}{j:Nat}{y:D}(h:(nK n V)[j]?=some y):∃x,V[j]?=some x/\y=.tup [.int ((n+j:Nat):Int),x]:=by
 induction V generalizing n j with
 |nil=>nomatch h
 |cons x xs ih=>cases j with
  |zero=>exact⟨x,rfl,(Option.some.inj h).symm⟩
  |succ j=>obtain⟨z,h1,h2⟩:=ih (n:=n+1) h;exact⟨z,h1,h2.trans (by rw[show n+1+j=n+(j+1) by exact eK (L0 [n,j] 7345876135614793) (L0 [n,j] 4961654032369993)])⟩
omit hb in
theorem LM{n}{V}:(nK n V).length=V.length:=by
 induction V generalizing n with
 |nil=>rfl
 |cons x xs ih=>exact aw Nat.succ ih
def yc:List D->List M->Res (List D):=eF λd st=>aI (iH d) (λV st=>if V.length<=sz then .ok (nK 0 V) st else .stuck) st
def Y7(l:SL):SL:=λσ st=>(l σ st).bind yc
omit hb in
theorem Y8{a}{n}(h:a<n)(k:Nat):a≠n+k:=ne_of_lt (lt_of_lt_of_le h (fN n k))
omit hb in
theorem tF(n){i k}(h:i≠k):(n+i:Addr)≠n+k:=λq=>h (Nat.add_left_cancel q)
omit hb in
theorem vJ(n){i}(h:i≠0):(n+i:Addr)≠n:=λq=>h (Nat.add_left_cancel (k:=0) q)
omit hb in
theorem vK(h:Heap)(k:Nat):h.get? (h.objs.size+k)=Option.none:=qz (fN _ _)
omit hb in
theorem DB{h Y}{a}{vs}(k:eZ h Y)(x:h.IsList a vs):Y.IsList a vs:=let ⟨o,ho,r⟩:=x;⟨o,k _ _ ho,r⟩
omit hb in
theorem jK{h:Heap}{a:Addr}{vs:Array Value}(x:h.IsList a vs)(k:Nat):a≠h.objs.size+k:=let ⟨_,ho,_⟩:=x;Y8 (Heap.lt_size ho) k
theorem Y9 {vs:List Value} {V:List D} (hh:c.A.handled=Option.none) (n:Nx c no X bz) (w:aC c bz) (r:cq c bz vs V):Sm c no bz (yc V bz.st) ((PT.wp c (PySem.call (.type "enumerate") vs)).bind λx=>.wp c (pyIter x)) (fJ K' c (.Tuple (ts.map jI) k tp) (jJ (ts.map (·.1))) X):=
 Sm.eF (F:=λvs=>(PT.wp c (PySem.call (.type "enumerate") vs)).bind λx=>.wp c (pyIter x)) r λv d p=>.aI λV hd=>.iff λhz J=>by
  cases jG hd
  obtain⟨a,vs,rfl,I,u,rl⟩:=p.dO
  replace I:=I.isList
  exact gg<|call_enumerate_list I λY he Za fa hk=>gg<|wpAny_pyIter_enum (s:={bz.s with heap:=Y}) he (fJ.Dy hb n w (WalksT.enumerate hh _ _ a (vJ _ (by decide)) (jK I 1) (jK I 0) vs).toU (LM.trans (rl.length.symm.trans du)) hk rfl rfl
   (ac (vK _ 1) (ac (ia _) an)) (by rw[LM];exact hz) ⟨⟨_,he⟩,Za,DB hk I⟩ (λj h sj=>ac (sj.1.elim λJ h=>⟨_,h⟩) (ac (sj.2.1.elim λJ h=>⟨_,h.1⟩) (ac (sj.2.2.elim λJ h=>⟨_,h.1⟩) an)))
   (ac (.inl (.head _)) (ac (.inl (.tail _ (.head _))) (ac (.inr ⟨u,λq=>(ac (P:=(a≠·)) (jK I 1) (ac (jK I 0) an)) a q rfl⟩) an))) λk vals y ⟨t,xv,DC,e⟩ hy=>by
    obtain⟨x,h1,rfl⟩:=Y6 hy
    subst e
    exact⟨_,rfl,.cons (by rw[gk];exact .int _ _) (.cons (rl.pt k xv x (jA.trans DC) h1) .nil)⟩)
noncomputable def nM:List D->List D->List D
 |x::xs,y::ys=>.tup [x,y]::nM xs ys
 |_,_=>[]
omit hb in
theorem Zb{xs ys:List D}{j:Nat}{z:D}(h:(nM xs ys)[j]?=some z):∃x y,xs[j]?=some x/\ys[j]?=some y/\z=.tup [x,y]:=by
 induction xs generalizing ys j with
 |nil=>cases ys <;> nomatch h
 |cons x xs ih=>cases ys with
  |nil=>nomatch h
  |cons y ys=>cases j with
   |zero=>exact⟨x,y,rfl,rfl,(Option.some.inj h).symm⟩
   |succ j=>exact ih h
omit hb in
theorem LN{xs ys}:(nM xs ys).length=min xs.length ys.length:=by
 induction xs generalizing ys with
 |nil=>cases ys <;> exact(Nat.zero_min _).symm
 |cons x xs ih=>cases ys with
  |nil=>exact(Nat.min_zero _).symm
  |cons y ys=>exact(aw Nat.succ ih).trans (Nat.succ_min_succ _ _).symm
def tG:List D->List M->Res (List D):=gM λd d' st=>aI (iH d) (λxs st=>aI (iH d') (λys st=>if xs.length<=sz then .ok (nM xs ys) st else .stuck) st) st
def Zc(l:SL):SL:=λσ st=>(l σ st).bind tG
theorem Zd {vs:List Value} {V:List D} (hh:c.A.handled=Option.none) (n:Nx c no X bz) (w:aC c bz) (r:cq c bz vs V):Sm c no bz (tG V bz.st) ((PT.wp c (PySem.call (.type "zip") vs)).bind λx=>.wp c (pyIter x)) (fJ K' c (.Tuple (ts.map jI) k tp) (jJ (ts.map (·.1))) X):=
 Sm.gM (F:=λvs=>(PT.wp c (PySem.call (.type "zip") vs)).bind λx=>.wp c (pyIter x)) r λv d v' d' p p'=>.aI λxs hd=>.aI λys gp=>.iff λhz J=>by
  cases jG hd
  cases jG gp
  obtain⟨a,vs,rfl,I,u,rl⟩:=p.dO
  obtain⟨a',jc,rfl,fW,u',LO⟩:=p'.dO
  replace I:=I.isList
  replace fW:=fW.isList
  have len:(nM xs ys).length=min vs.size jc.size:=LN.trans (by rw[<- rl.length,<- LO.length,du,du])
  have out:∀{a},(∀k,a≠bz.s.heap.objs.size+k)->a∉[bz.s.heap.objs.size+4,bz.s.heap.objs.size+3,bz.s.heap.objs.size,bz.s.heap.objs.size+1]:=fun{a} h q=>(ac (P:=(a≠·)) (h 4) (ac (h 3) (ac (h 0) (ac (h 1) an)))) a q rfl
  have D:ZipApart (bz.s.heap.objs.size+4) (bz.s.heap.objs.size+2) (bz.s.heap.objs.size+3) bz.s.heap.objs.size (bz.s.heap.objs.size+1) a a':=
   ⟨tF _ (by decide),tF _ (by decide),Ne.symm (vJ _ (by decide)),tF _ (by decide),tF _ (by decide),vJ _ (by decide),tF _ (by decide),vJ _ (by decide),tF _ (by decide),Ne.symm (vJ _ (by decide)),
    jK I 4,jK I 3,jK I 0,jK I 1,jK fW 4,jK fW 3,jK fW 0,jK fW 1⟩
  exact gg<|call_zip_2 I fW λY g1 g2 g3 g4 g5 fa hk=>gg<|wpAny_pyIter_zip (s:={bz.s with heap:=Y}) g1 (fJ.Dy hb n w (WalksT.zip2 hh _ _ _ _ _ a a' D vs jc).toU len hk rfl rfl
   (ac (vK _ 4) (ac (vK _ 3) (ac (ia _) (ac (vK _ 1) an)))) (LN▸bg (min_le_left _ _) hz) ⟨g1,g2,⟨_,_,g3⟩,g4,g5,DB hk I,DB hk fW⟩
   (λj h sj=>ac ⟨_,sj.1⟩ (ac ⟨_,sj.2.1⟩ (ac (sj.2.2.1.elim λJ h=>h.elim λJ h=>⟨_,h⟩) (ac (sj.2.2.2.1.elim λJ h=>⟨_,h.1⟩) (ac (sj.2.2.2.2.1.elim λJ h=>⟨_,h.1⟩) (ac (sj.2.2.2.2.2.1.elim λJ h=>⟨_,h.1⟩) (ac (sj.2.2.2.2.2.2.elim λJ h=>⟨_,h.1⟩) an)))))))
   (ac (.inl (.head _)) (ac (.inr ⟨w.fresh (vK _ 2),λq=>(ac (P:=(bz.s.heap.objs.size+2≠·)) D.TIz (ac D.TITO (ac D.TIi1 (ac D.TIi2 an)))) _ q rfl⟩) (ac (.inl (.tail _ (.head _))) (ac (.inl (.tail _ (.tail _ (.head _)))) (ac (.inl (.tail _ (.tail _ (.tail _ (.head _))))) (ac (.inr ⟨u,out (jK I)⟩) (ac (.inr ⟨u',out (jK fW)⟩) an)))))))
   λk vals y ⟨xv,yv,DC,Ze,e⟩ hy=>by
    obtain⟨x,y,h1,h2,rfl⟩:=Zb hy
    subst e
    exact⟨_,rfl,.cons (rl.pt k xv x (jA.trans DC) h1) (.cons (LO.pt k yv y (jA.trans Ze) h2) .nil)⟩)
section
variable{dU:List Expr}{x:Str}{p pos:Pos}{args:List Expr}{l:SL}(he:dU=ts.map jI)(hx:K.scope.names.lookup x=some .globalImplicit)(e:∀P,nsIn (KF P) mainGlobals x=some Option.none)
include he hx e
theorem iQ.enum (DD:bootBuiltins x=some (.type "enumerate")) (hn:x≠"__name__") (ha:gL K pos args l) (fe:autoParam (∀env,(backTo pos (starEach args env)).any (·.1)=false) k2) (hd:autoParam ((x==("__debug__"))=false) dc) :
  iQ K K' (.Tuple dU k tp) (jJ (ts.map (·.1))) (.Call (.Name x p) args [] pos) (Y7 l):=λc σ X C o=>ya hx e DD hn ha fe hd C o λvs V aa n w r=>he▸Y9 hb C.handled n w r
theorem iQ.zip (DD:bootBuiltins x=some (.type "zip")) (hn:x≠"__name__") (ha:gL K pos args l) (fe:autoParam (∀env,(backTo pos (starEach args env)).any (·.1)=false) k2) (hd:autoParam ((x==("__debug__"))=false) dc) :
  iQ K K' (.Tuple dU k tp) (jJ (ts.map (·.1))) (.Call (.Name x p) args [] pos) (Zc l):=λc σ X C o=>ya hx e DD hn ha fe hd C o λvs V aa n w r=>he▸Zd hb C.handled n w r
end
end
end
noncomputable def yd(s:Scope):Scope:={s with names:=s.names.map λp=>if p.2 == .free then(p.1,.cell) else p}
theorem Zf{scope}{env}(h:∀p∈scope.names,p.2=.free->env.kindOf p.1=some .cell)(hk:env.scope.kind=.function):relabel scope env=yd scope:=by
 show Scope.mk _ _ _ _ _=Scope.mk _ _ _ _ _
 congr 1
 refine map_congr_left λp hp=>?_
 obtain⟨n,k⟩:=p
 by_cases q:k=.free
 .subst q
  simp[hk,h _ hp rfl]
 .simp[q]
noncomputable def DE(env:Env)(p:Str×NameKind):Option (Str×Addr):=if p.2 == .free then(env.cells.lookup p.1).map λa=>(p.1,a) else none
noncomputable def cl(env:Env)(names:List (Str×NameKind)):List (Str×Addr):=(names.filterMap (DE env)).reverse
theorem Zg{env}{names}{acc}(h:∀p∈names,p.2=.free->(env.cells.lookup p.1).isSome=true) :
  (forIn names acc λ(p:Str×NameKind)(cs:List (Str×Addr))=>(if p.2 == .free then(do let a <- cellOf env p.1;pure (ForInStep.yield ((p.1,a)::cs))) else pure (ForInStep.yield cs):Sem (ForInStep (List (Str×Addr)))))=pure (cl env names++acc):=by
 induction names generalizing acc with
 |nil=>rfl
 |cons p r ih=>
  rw[List.forIn_cons]
  have ih:=λacc=>ih (acc:=acc) λp hp=>h p (.tail _ hp)
  have hp:=h p (.head _)
  obtain⟨n,k⟩:=p
  by_cases q:k=.free
  .subst q
   obtain⟨a,I⟩:=isSome_iff_exists.mp (hp rfl)
   have e:cl env ((n,.free)::r)++acc=cl env r++(n,a)::acc:=by rw[cl,List.filterMap_cons_some (show DE env (n,.free)=some (n,a) from aw (Option.map _) I),reverse_cons,dG];rfl
   rw[e,<- ih ((n,a)::acc),ax (show((n,NameKind.free).snd==NameKind.free)=true from rfl),show cellOf env (n,NameKind.free).1=pure a by unfold cellOf;rw[I]]
   rfl
  .have hk:¬(k==NameKind.free)=true:=λz=>q (eq_of_beq z)
   have e:cl env ((n,k)::r)=cl env r:=by rw[cl,List.filterMap_cons_none (show DE env (n,k)=none from aY hk)];rfl
   rw[e,<- ih acc,aY hk]
   rfl
theorem Zh{scope}{env}(h:∀p∈scope.names,p.2=.free->(env.cells.lookup p.1).isSome=true):closureFor scope env=pure (cl env scope.names):=by
 refine Eq.trans (b:=(forIn scope.names [] λ(p:Str×NameKind)(cs:List (Str×Addr))=>(if p.2 == .free then(do let a <- cellOf env p.1;pure (ForInStep.yield ((p.1,a)::cs))) else pure (ForInStep.yield cs):Sem (ForInStep (List (Str×Addr))))) >>= pure) rfl ?_
 rw[Zg h,c9];rfl
theorem ye{env}{names}{y}{b}:(y,b)∈cl env names↔(y,NameKind.free)∈names/\env.cells.lookup y=some b:=by
 rw[cl,mem_reverse,mem_filterMap]
 constructor
 .intro⟨⟨n,k⟩,hp,e⟩
  obtain⟨q,e⟩:=CD e
  cases eq_of_beq q
  obtain⟨a,h1,h2⟩:=map_eq_some_iff.mp e
  cases h2
  exact⟨hp,h1⟩
 .exact λ⟨h1,h2⟩=>⟨_,h1,aw (Option.map _) h2⟩
theorem DF{name}{kind}{r}{n}{acc}:cellsFrom n ((name,kind)::r) acc=if kind == .cell then cellsFrom (n+1) r ((name,n)::acc) else cellsFrom n r acc:=rfl
theorem yf{names}{n}{acc}:cellsFrom n names acc=cellsFrom n names []++acc:=by
 induction names generalizing n acc with
 |nil=>rfl
 |cons p r ih=>
  obtain⟨name,kind⟩:=p
  rw[DF,DF]
  cases kind==NameKind.cell with
  |true=>exact(show cellsFrom (n+1) r ((name,n)::acc)=cellsFrom (n+1) r [(name,n)]++acc from ih.trans (by rw[ih (acc:=[(name,n)]),dG];rfl))
  |false=>exact ih
theorem Zi{names}{n}{p}(h:p∈cellsFrom n names []):(p.1,NameKind.cell)∈names:=by
 induction names generalizing n with
 |nil=>nomatch h
 |cons q r ih=>
  obtain⟨name,kind⟩:=q
  rw[DF] at h
  by_cases hk:kind=.cell
  .subst hk
   replace h:p∈cellsFrom (n+1) r [(name,n)]:=h
   rw[yf] at h
   exact(cy.mp h).elim (λz=>.tail _ (ih z)) λz=>dT.mp z▸.head _
  .rw[aY λz=>hk (eq_of_beq z)] at h
   exact .tail _ (ih h)
theorem Zj{Md}{A}{E}{s}{scope}{globals}{cl}{qual}{iD}{Q}
  (h:Q (newEnv scope s.heap.objs.size globals (cellsFrom (s.heap.objs.size+1) scope.names cl) qual none .none (some iD) builtinsNs) {s with heap:=pushCells (s.heap.push {cls:=.type "dict",data:=.dict #[]}) scope.names}) :
  af Md A (newFunctionEnv scope globals cl [] qual none .none (some iD)) Q E s:=by
 simp only[newFunctionEnv,Option.isSome_some,if_true]
 refine ak (gg<|wpAny_alloc ?_)
 refine ak (gg<|wpAny_layCells _ (λname kind cells=>by cases Zk:kind==NameKind.cell <;> simp[Zk]) _ _ _ _ ?_)
 rw[show({s with heap:=s.heap.push {cls:=.type "dict",data:=.dict #[]}}:Shared).heap.objs.size=s.heap.objs.size+1 from Heap.size_push ..]
 exact ak (aT (aT h))
noncomputable abbrev Ks.comp(K:Ks)(scope:Scope)(az:List Nat)(vars:List Str):Ks:={scope:=yd scope,nm:=az.filterMap (λi=>K.nm[i]?)++vars,bd:=vars,lv:=K.lv}
noncomputable def dY(az:List Nat)(m:Nat)(σ:List (Option D)):List (Option D):=az.map (λi=>(σ[i]?).join)++List.replicate m none
structure vL(K:Ks)(scope:Scope)(az:List Nat)(vars:List Str):Prop where
 kind:scope.kind=.function
 free:∀p∈scope.names,p.2=.free->K.scope.names.lookup p.1=some .cell
 nodup:(scope.names.map (·.1)).Nodup
 az:∀i∈az,∃x,K.nm[i]?=some x/\scope.names.lookup x=some .free
 bound:∀x∈vars,∃k,scope.names.lookup x=some k/\k≠.free
section
variable{K:Ks}{scope:Scope}{az:List Nat}{vars:List Str}
theorem Zl{α:Type}{f:Nat->Option α}{az:List Nat}(h:∀i∈az,∃x,f i=some x):(az.filterMap f).length=az.length/\∀(j i:Nat),az[j]?=some i->(az.filterMap f)[j]?=f i:=by
 induction az with
 |nil=>exact⟨rfl,λj i h=>nomatch h⟩
 |cons i r ih=>
  obtain⟨x,hx⟩:=h i (.head _)
  obtain⟨h1,h2⟩:=ih λi hi=>h i (.tail _ hi)
  rw[List.filterMap_cons,hx]
  refine⟨aw Nat.succ h1,λj i' hj=>?_⟩
  cases j with
  |zero=>cases hj;exact hx.symm
  |succ j=>exact h2 j i' hj
theorem DG{α:Type}{l:List (Str×α)}{x:Str}{a:α}(h:(x,a)∈l)(u:∀b,(x,b)∈l->b=a):l.lookup x=some a:=by
 induction l with
 |nil=>nomatch h
 |cons p r ih=>
  obtain⟨k,v⟩:=p
  rw[lookup_cons]
  by_cases q:x=k
  .subst q
   rw[beq_self_eq_true,u v (.head _)]
  .rw[beq_eq_false_iff_ne.mpr q]
   exact ih ((dI.mp h).resolve_left λz=>q (aw (·.1) z)) λb hb=>u b (.tail _ hb)
theorem Zm{α:Type}{l l':List (Str×α)}{x:Str}(h:∀a,(x,a)∉l):(l++l').lookup x=l'.lookup x:=by
 rw[List.lookup_append,show l.lookup x=none from by
  cases q:l.lookup x with
  |none=>rfl
  |some a=>exact absurd (mem_of_lookup q) (h a)]
 rfl
theorem yg{names:List (Str×NameKind)}(hn:(names.map (·.1)).Nodup){x:Str}{k k':NameKind}(h:(x,k)∈names)(Y:(x,k')∈names):k=k':=by
 induction names with
 |nil=>nomatch h
 |cons p r ih=>
  have hn:=nodup_cons.mp hn
  have no:∀{k},(x,k)∈r->x≠p.1:=fun{k} h q=>hn.1 (show p.1∈_ from q▸da.mpr ⟨(x,k),h,rfl⟩)
  rcases dI.mp h with q | q
  .subst q
   exact(dI.mp Y).elim (λz=>(aw (·.2) z).symm) λz=>absurd rfl (no z)
  .exact(dI.mp Y).elim (λz=>absurd (aw (·.1) z) (no q)) λz=>ih hn.2 q z
theorem LP{s}{x}{k}(h:(x,k)∈(yd s).names):((x,k)∈s.names/\k≠.free)\/(k=.cell/\(x,NameKind.free)∈s.names):=by
 obtain⟨p,hp,e⟩:=da.mp h
 by_cases q:p.2=.free
 .rw[ax (beq_iff_eq.mpr q)] at e
  cases e
  exact .inr ⟨rfl,q▸hp⟩
 .rw[aY λz=>q (eq_of_beq z)] at e
  subst e
  exact .inl ⟨hp,q⟩
noncomputable def nN(c:Cx)(scope:Scope)(h:Heap):List (Str×Addr):=cellsFrom (h.objs.size+1) scope.names (cl c.env scope.names)
noncomputable def my(scope:Scope)(ff:List Addr)(h:Heap):List Addr:=ff++h.objs.size::(cellsFrom (h.objs.size+1) scope.names []).map (·.2)
@[reducible] noncomputable def Cx.comp(c:Cx)(scope:Scope)(vars:List Str)(ff:List Addr)(h:Heap):Cx:={c with env:=compEnvC scope (nN c scope h) h.objs.size c.env,bd:=vars,ex:=my scope ff h++c.ex}
noncomputable def j8 (scope:Scope) (h:Heap):Heap:=pushCells (h.push {cls:=.type "dict",data:=.dict #[]}) scope.names
theorem DH(scope)(h):eZ h (j8 scope h):=λb ob e=>pushCells_keeps _ _ b ob (ga _ e)
theorem LQ (scope) (h):(j8 scope h).Ns h.objs.size (λJ=>none):=(Heap.Ns.new h (.type "dict")).keeps (pushCells_keeps _ _)
theorem yh(scope:Scope)(h:Heap):CellsOk (j8 scope h) (h.objs.size+1) (cellsFrom (h.objs.size+1) scope.names []):=by
 have:=cellsFrom_ok scope.names (h.push {cls:=.type "dict",data:=.dict #[]}) (h.objs.size+1) [] ⟨λJ J hm=>(nomatch hm),List.Pairwise.nil⟩ (by rw[Heap.size_push];exact dC _)
 rwa [show(h.push ({cls:=.type "dict",data:=.dict #[]}:Obj)).objs.size=h.objs.size+1 from Heap.size_push ..] at this
theorem qM{c}{h}{y}{b}(e:(nN c scope h).lookup y=some b):(y,b)∈cellsFrom (h.objs.size+1) scope.names []\/((y,NameKind.free)∈scope.names/\c.env.cells.lookup y=some b):=by
 have e:=mem_of_lookup e
 rw[nN,yf] at e
 exact(cy.mp e).imp_right ye.mp
section
variable{c:Cx}{X:Sx}{am:Shared}{ff wr:List Addr}(C:cj K c)(O:vL K scope az vars)
theorem tH{h}{y}{b}(e:(y,b)∈cellsFrom (h.objs.size+1) scope.names []):b∈my scope ff h/\h.objs.size<b:=
 ⟨cA _ (.tail _ (mem_map_of_mem (f:=(·.2)) e)),((yh scope h).empty y b e).2⟩
include C O
theorem LR:relabel scope c.env=yd scope:=Zf (λp hp q=>(ib C _).trans (O.free p hp q)) (kB C)
theorem Zn(jF:∀b∈c.ex,b<am.heap.objs.size):cj (K.comp scope az vars) (c.comp scope vars ff am.heap):=by
 have old:∀{y b},c.env.cells.lookup y=some b->b∈c.ex/\b<am.heap.objs.size:=fun{y b} e=>⟨(C.cell y b e).1,jF b (C.cell y b e).1⟩
 refine⟨⟨C.frames,C.handled,C.guards,C.depth,C.units,C.X,C.T⟩,LR C O,rfl,O.kind,fP _ (cA _ (.head _)),λy b hb=>?_,λy z b hy hz=>?_,C.top,λy hy=>?_,C.globals,C.builtins⟩
 .exact(qM hb).elim (λq=>⟨fP _ (tH q).1,Ne.symm (ne_of_lt (tH (ff:=ff) q).2)⟩) λq=>⟨cA _ (old q.2).1,ne_of_lt (old q.2).2⟩
 .rcases qM hy with q | q
  .exact(qM hz).elim (λq'=>name_of_addr (yh scope am.heap).apart q q') λq'=>absurd (lt_trans (old q'.2).2 (tH (ff:=ff) q).2) (lt_irrefl _)
  .exact(qM hz).elim (λq'=>absurd (lt_trans (old q.2).2 (tH (ff:=ff) q').2) (lt_irrefl _)) λq'=>C.inj y z b q.2 q'.2
 .show((nN c scope am.heap).lookup y).isSome=true
  rw[nN,yf]
  rcases LP (mem_of_lookup hy) with⟨q,_⟩ | ⟨_,q⟩
  .obtain⟨a,ha⟩:=Kn scope.names y (am.heap.objs.size+1) [] q
   exact Cd (fP _ ha)
  .obtain⟨a,ha⟩:=isSome_iff_exists.mp (C.own y (O.free _ q rfl))
   exact Cd (cA _ (ye.mpr ⟨q,ha⟩))
omit C O in
theorem Zo(hk:eZ X.s.heap am.heap)(hg:am.gens=X.s.gens)(ho:am.os=X.s.os)(LS:∀a∈ff,X.s.heap.get? a=none/\∃ob,am.heap.get? a=some ob):Inner (c.plus wr) ((c.comp scope vars ff am.heap).plus wr) X (my scope ff am.heap) {am with heap:=j8 scope am.heap}:=by
 have fresh:∀b,am.heap.objs.size<=b->X.s.heap.get? b=none:=λb hb=>u6 (λa o e=>⟨o,hk a o e⟩) (qz hb)
 refine⟨rfl,rfl,rfl,λa=>?_,λb o e=>DH _ _ b o (hk b o e),hg,ho,λa ha=>?_,λe he=>.inl he,λe he=>he⟩
 .show a∈wr++(my scope ff am.heap++c.ex)↔a∈my scope ff am.heap\/a∈wr++c.ex
  rw[cy,cy,cy];exact or_left_comm
 .rcases cy.mp ha with ha | ha
  .exact⟨(LS a ha).1,(LS a ha).2.imp λob e=>DH _ _ _ _ e⟩
  .rcases dI.mp ha with rfl | ha
   .obtain⟨ob,_,_,e,_⟩:=LQ scope am.heap
    exact⟨fresh _ (dC _),ob,e⟩
   .obtain⟨⟨y,b⟩,hm,rfl⟩:=da.mp ha
    obtain⟨⟨ob,e,_⟩,sM⟩:=(yh scope am.heap).empty y b hm
    exact⟨fresh _ (Nat.le_of_succ_le sM),ob,e⟩
omit C in
theorem Zp{σ:List (Option D)}{m i:Nat}{d:D}(h:(dY az m σ)[i]?=some (some d)):∃j x,az[i]?=some j/\σ[j]?=some (some d)/\K.nm[j]?=some x/\scope.names.lookup x=some .free/\(K.comp scope az vars).nm[i]?=some x:=by
 obtain⟨Zq,Zr⟩:=Zl (f:=λi=>K.nm[i]?) (az:=az) λi hi=>(O.az i hi).imp λJ h=>h.1
 rcases lt_or_ge i az.length with cD | vD
 .have DI:az[i]?=some az[i]:=c8 cD
  obtain⟨x,hx,hf⟩:=O.az _ (getElem_mem cD)
  rw[dY,dH (by rw[aG];exact cD),getElem?_map,DI] at h
  refine⟨az[i],x,DI,?_,hx,hf,?_⟩
  .cases q:σ[az[i]]? with
   |none=>rw[map_some,q] at h;cases h
   |some od=>rw[map_some,q] at h;exact aw some (Option.some.inj h)
  .rw[dH (by rw[Zq];exact cD),Zr i _ DI];exact hx
 .rw[dY,jz (by rw[aG];exact vD)] at h
  exact nomatch (mem_replicate.mp (cU h)).2
theorem Zs{aa:Sx}{y:Str}{v:Value}(k:eZ aa.s.heap (j8 scope am.heap))(hf:scope.names.lookup y=some .free)(x:mi c.env aa.s.heap y v):mi (c.comp scope vars ff am.heap).env (j8 scope am.heap) y v:=by
 have vM:(y,NameKind.free)∈scope.names:=mem_of_lookup hf
 have Zt:=O.free _ vM rfl
 rcases x with⟨I,_⟩ | ⟨_,a,ha,ob,g1,g2⟩
 .exact nomatch Zt.symm.trans ((ib C y).symm.trans I)
 .refine .inr ⟨.inl ?_,a,?_,ob,k _ _ g1,g2⟩
  .show(relabel scope c.env).names.lookup y=some .cell
   rw[LR C O]
   exact DG (da.mpr ⟨(y,.free),vM,rfl⟩) λk jB=>(LP jB).elim (λq=>absurd (yg O.nodup q.1 vM) q.2) And.left
  .show(nN c scope am.heap).lookup y=some a
   rw[nN,yf,Zm λa hp=>nomatch yg O.nodup (Zi hp) vM]
   exact DG (ye.mpr ⟨vM,ha⟩) λb hb=>Option.some.inj ((ye.mp hb).2.symm.trans ha)
theorem Zu{σ:List (Option D)}(o:Ok K (c.plus wr) σ X)(au:Inner (c.plus wr) ((c.comp scope vars ff am.heap).plus wr) X (my scope ff am.heap) {am with heap:=j8 scope am.heap}):Ok (K.comp scope az vars) ((c.comp scope vars ff am.heap).plus wr) (dY az vars.length σ) (X.to {am with heap:=j8 scope am.heap}):=by
 refine⟨au.enter o.w,⟨_,LQ scope am.heap⟩,λy b hb=>?_,λi d hi=>?_⟩
 .exact(qM hb).elim (λq=>⟨_,((yh scope am.heap).empty y b q).1⟩) λq=>(o.jW y b q.2).imp λv ⟨ob,h1,h2⟩=>⟨ob,au.ups _ _ h1,h2⟩
 .obtain⟨j,x,_,hj,hx,hf,hn⟩:=Zp O hi
  obtain⟨y,v,h1,h2,h3⟩:=o.var j d hj
  cases hx.symm.trans h1
  exact⟨x,v,hn,Zs (ff:=ff) C O au.ups hf h2,au.rd o.w h3⟩
end
end
noncomputable def gO(aO:iP)(t:ST)(e:SE)(σ:List (Option D)):List D->List M->Res (List D)
 |[],st=>.ok [] st
 |x::xs,st=>match aO x σ with
  |none=>.stuck
  |some σ'=>(t σ' st).bind λb st=>if b then(e σ' st).bind λy st=>(gO aO t e σ xs st).bind λys st=>.ok (y::ys) st else gO aO t e σ xs st
theorem DJ{aO}{t}{e}{σ}{x}{xs}{st}:gO aO t e σ (x::xs) st=match aO x σ with
  |none=>.stuck
  |some σ'=>(t σ' st).bind λb st=>if b then(e σ' st).bind λy st=>(gO aO t e σ xs st).bind λys st=>.ok (y::ys) st else gO aO t e σ xs st:=rfl
noncomputable def lB(ri:SL)(aO:iP)(az:List Nat)(m:Nat)(t:ST)(e:SE):SL:=λσ st=>(ri σ st).bind λV st=>gO aO t e (dY az m σ) V st
noncomputable def vN(c:Cx)(ifs:List Expr):PT Bool:=.wp c (forIn ifs true λe r=>if r=true then do let ok <- isTrue e c.env (eval e c.env);pure (ForInStep.yield ok) else pure (ForInStep.yield r))
def mz(K:Ks)(ifs:List Expr)(t:ST):Prop:=∀c σ X,cj K c->Ok K c σ X->Sm c no X (t σ X.st) (vN c ifs) sO
noncomputable def Zv:ST:=λJ st=>.ok true st
theorem mz.nil{K}:mz K [] Zv:=λJ J J J o J=>U6 (.id o.w rfl)
theorem mz.one{K}{e}{t}(h:ec K e t):mz K [e] t:=λc σ X C o hr=>U7 (h c σ X C o hr)
theorem Res.DK{α β γ:Type}(x:Res α)(f:α->List M->Res β)(g:β->List M->Res γ):(x.bind f).bind g=x.bind λa st=>(f a st).bind g:=by cases x <;> rfl
section
variable{c:Cx}{target cw iter:Expr}{ifs:List Expr}{scope:Scope}{pos:Pos}{it acc:Value}{R:Result->Shared->Prop}{au:Nat->Shared->Prop}{n:Nat}
def yi(c:Cx)(cw:Expr)(acc:Value)(R:Result->Shared->Prop)(au:Nat->Shared->Prop)(n:Nat):Bool->Shared->Prop
 |true,s=>af c.M c.A (eval cw c.env) (λx s=>af c.M c.A (call (.builtin "list.append") [acc,x]) (λJ s=>∃m,m<n/\au m s) (fv c R) s) (fv c R) s
 |false,s=>∃m,m<n/\au m s
def LU(c:Cx)(target cw:Expr)(ifs:List Expr)(it acc:Value)(R:Result->Shared->Prop)(au:Nat->Shared->Prop)(n:Nat):Option Value->Shared->Prop
 |none,s=>R (.ok .next) s
 |some v,s=>af c.M c.A (letOwnedTupleGo target it v) (λJ s=>af c.M c.A (assign target c.env v) (λJ s=>(vN c ifs).run (yi c cw acc R au n) (fv c R) s) (fv c R) s) (fv c R) s
theorem Zw{s}(au:Nat->Shared->Prop)(eY:∀n s,au n s->af c.M c.A (pyNext it) (LU c target cw ifs it acc R au n) (fv c R) s)(n)(h:au n s):dk c.M c.A (.compLoop (.ListComp cw [⟨target,iter,ifs,0⟩] scope pos) 0 it acc c.env) R s:=by
 refine Ju rfl rfl au (λn s hI=>?_) n h
 show af _ _ ((compTurn (.ListComp cw [⟨target,iter,ifs,0⟩] scope pos) 0 it acc c.env).onRaise (λx=>do noteFrame x c.env;theTreesLotGoes x)) _ _ s
 refine xg ?_
 rw[compTurn_list]
 refine ak (cB (ak (aE (eY n s hI) (λr am a7=>?_) λJ J Y=>Y)))
 cases r with
 |none=>exact aT a7
 |some v=>
  refine ak (aE (show af _ _ _ _ _ _ from a7) (λJ BF BG=>?_) λJ J Y=>Y)
  refine ak (aE BG (λJ aX b9=>ak (aE (show af _ _ _ _ _ _ from b9) (λok cF eL=>?_) λJ J Y=>Y)) λJ J Y=>Y)
  cases ok with
  |false=>exact aT ⟨rfl,eL⟩
  |true=>exact ak (ak (aE (show af _ _ _ _ _ _ from eL) (λx ku m6=>ak (aE m6 (λJ agT Zx=>aT (aT ⟨rfl,Zx⟩)) λJ J Y=>Y)) λJ J Y=>Y))
theorem Zy{a:Addr}{s:Shared}{B:Shared->Prop}(h:Do c a target (λv s=>af c.M c.A (assign target c.env v) (λJ s=>B s) (fv c R) s) (fv c R) s)(k:∀s,B s->(vN c ifs).run (yi c cw acc R au n) (fv c R) s):af c.M c.A (pyNext (.ref a)) (LU c target cw ifs (.ref a) acc R au n) (fv c R) s:=
 aE h (λr s ⟨v,e,h⟩=>e▸aE h (λJ J h=>aE h (λJ s h=>k s h) λJ J q=>q) λJ J q=>q) λJ J q=>q
end
structure Cp(Kc:Ks)(c2:Cx)(X:Sx)(wr:List Addr)(D:Addr):Prop where
 C:cj Kc c2
 Ap:gN c2 wr
 DL:∀b∈wr,X.s.heap.get? b=none
 own:∀a,cK c2 a->X.s.heap.get? a=none
 LV:D∈c2.ex
 Dw:D∉wr
 Dn:X.s.heap.get? D=none
 Dl:D≠c2.env.locals
 Dc:∀x b,c2.env.cells.lookup x=some b->b≠D
 Df:¬d9 c2 D
 ln:X.s.heap.get? c2.env.locals=none
structure Cs(Kc:Ks)(c2:Cx)(X:Sx)(wr:List Addr)(A:Addr)(bu:Nat->Sx->Prop)(σ:List (Option D))(ys:Array Value)(rs:List D)(j:Nat)(ae:Sx):Prop where
 o:Ok Kc (c2.plus wr) σ ae
 n:Nx (c2.plus wr) no X ae
 j:bu j ae
 pl:PL ae.s.heap A ys
 rl:cq (c2.plus wr) ae ys.toList rs
noncomputable def qN(rs xs:List D)(st:List M):Res (List D):=.ok (rs++xs) st
noncomputable def yj(re:SE)(σ:List (Option D))(k:List M->Res (List D))(b:Bool)(st:List M):Res (List D):=if b then(re σ st).bind λy st=>(k st).bind λys st=>.ok (y::ys) st else k st
inductive yk(Kc:Ks)(c2:Cx)(X:Sx)(wr:List Addr)(A:Addr)(bu:Nat->Sx->Prop)(V:List D)(aO:iP)(t:ST)(re:SE)(σ:List (Option D))(R:Res (List D))(n:Nat):Shared->Prop
 |mk (j:Nat) (ae:Sx) (ys:Array Value) (rs:List D) (S:Cs Kc c2 X wr A bu σ ys rs j ae) (hj:j<=V.length) (hn:n=V.length-j) (nP:ys.size<=j) (e:R=(gO aO t re σ (V.drop j) ae.st).bind (qN rs)):yk Kc c2 X wr A bu V aO t re σ R n ae.s
inductive DM(Kc:Ks)(c2:Cx)(X:Sx)(wr:List Addr)(A:Addr)(σ:List (Option D))(R:Res (List D))(s':Shared):Prop
 |mk (ae:Sx) (ys:Array Value) (rs:List D) (o:Ok Kc (c2.plus wr) σ ae) (n:Nx (c2.plus wr) no X ae) (pl:PL ae.s.heap A ys) (rl:cq (c2.plus wr) ae ys.toList rs) (z:rs.length<=sz) (e:R=.ok rs ae.st) (k:∀b o,b∉wr->ae.s.heap.get? b=some o->s'.heap.get? b=some o) (hg:s'.gens=ae.s.gens) (ho:s'.os=ae.s.os):DM Kc c2 X wr A σ R s'
theorem Ok.less{K}{c}{σ σ'}{X}(o:Ok K c σ X)(h:∀(i:Nat) d,σ'[i]?=some (some d)->σ[i]?=some (some d)):Ok K c σ' X:=⟨o.w,o.loc,o.jW,λi d e=>o.var i d (h i d e)⟩
section
variable{Kc:Ks}{c2:Cx}{X ae Z':Sx}{wr:List Addr}{A au:Addr}{bu:Nat->Sx->Prop}{σ σ':List (Option D)}{ys:Array Value}{rs V:List D}{j:Nat}{target cw iter:Expr}{ifs:List Expr}{aO:iP}{t:ST}{re:SE}{R:Res (List D)}{RR:Result->Shared->Prop}
theorem Zz{x}{xs}{st}(h:aO x σ=some σ'):(gO aO t re σ (x::xs) st).bind (qN rs)=(t σ' st).bind λb st=>(yj re σ' (gO aO t re σ xs) b st).bind (qN rs):=by rw[DJ,h];exact Res.DK _ _ _
theorem ZA{x}{xs}{st}(h:gO aO t re σ (x::xs) st≠.stuck):∃σ',aO x σ=some σ':=by
 rw[DJ] at h
 cases q:aO x σ with
 |none=>rw[q] at h;exact absurd rfl h
 |some σ'=>exact⟨σ',rfl⟩
theorem ZB{k}{y}{st ao}(h:re σ st=.ok y ao):(yj re σ k true st).bind (qN rs)=(k ao).bind (qN (rs++[y])):=by
 show(((re σ st).bind _).bind _)=_
 rw[h]
 show((k ao).bind _).bind _=_
 rw[Res.DK]
 exact aw (Res.bind (k ao)) (funext λys=>funext λst=>show Res.ok (rs++y::ys) st=.ok (rs++[y]++ys) st by rw[dG];rfl)
variable(P:Cp Kc c2 X wr A)
include P
theorem Cp.DN:A∈(c2.plus wr).ex:=cA _ P.LV
theorem Cp.ZC:¬cK c2 A:=λz=>z.elim P.Dl λ⟨y,_,q⟩=>P.Dc y A q rfl
theorem Cs.next(S:Cs Kc c2 X wr A bu σ ys rs j ae){W}{i}(n:Nx (c2.plus wr) W ae Z')(o:Ok Kc (c2.plus wr) σ' Z')(hJ:bu i Z')(hW:∀a,W a->cK c2 a\/a∈wr):Cs Kc c2 X wr A bu σ' ys rs i Z':=
 ⟨o,((S.n.mono λJ h=>h.elim).trans n).re (λJ h=>.inl h) (λJ h=>h) λa h=>.inr ((hW a h).elim (P.own a) (P.DL a)),hJ,
  let ⟨ob,e,r1,r2,m,r3⟩:=S.pl;⟨ob,n.keep A ob e (S.o.w.hM A P.DN) (.inr ⟨λz=>(hW A z).elim P.ZC P.Dw,P.Df⟩),r1,r2,m,r3⟩,n.gG S.rl⟩
theorem Cs.bad{α:Type}{Rx:Res α}{x:Value}{s:Shared}(S:Cs Kc c2 X wr A bu σ ys rs j ae)(ii:∀x s,gr (c2.plus wr) no X R x s->(∃m,s.heap.Ns c2.env.locals m)->RR (.error x) s)(eR:∀st,Rx=.bad st->R=.bad st)(p:dW (c2.plus wr) no ae Rx x s):fv c2 RR x s:=by
 refine vB (c:=c2.plus wr) P.C.frames P.C.top S.o.w.base p λs' q=>?_
 obtain⟨aa,e,n,w,f⟩:=q
 refine ii x _ (.mk aa (eR _ e) (S.n.trans n) w ?_) (S.o.loc.imp λm hm=>(n.xj S.o.w).ns ⟨cA _ P.C.loc,id⟩ hm)
 obtain⟨e,oe,vs,a1,a2,a3,a4,a5,a6,T,oT,ts,fl,k1,k2,k3,k4,k5,k6,k7⟩:=f
 exact⟨e,oe,vs,a1,a2,S.n.none a3,a4,a5,a6,T,oT,ts,fl,k1,k2,k3,S.n.none k4,k5,k6,k7⟩
theorem Cs.push(S:Cs Kc c2 X wr A bu σ ys rs j ae)(Wl:pQ Kc c2 wr au target aO V bu){y}{d}{Y}(r:bJ (c2.plus wr) ae y d)(I:PL Y A (ys.push y))(hs:Heap.SameBut A ae.s.heap Y):Cs Kc c2 X wr A bu σ (ys.push y) (rs++[d]) j (ae.to {ae.s with heap:=Y}):=by
 obtain⟨ob,e,_⟩:=id I
 have M:=B8 (s':={ae.s with heap:=Y}) P.DN hs rfl rfl S.o.w ⟨ob,e⟩
 have n:Nx (c2.plus wr) (· = A) ae (ae.to {ae.s with heap:=Y}):=.own M rfl P.DN
 have w:=S.o.w.own M ⟨ob,e,.inr P.Df⟩
 have up:=fun{v d} (r:bJ (c2.plus wr) ae v d)=>r.stays (k9:=ae.ρ) (S.o.w.stays M) ⟨[],(c9 _).symm⟩
 refine⟨Ok.move (c:=c2.plus wr) (c':=c2.plus wr) (P:=(·≠A)) (λb ob p e=>⟨ob.slots,M.keep b ob e p⟩) rfl rfl rfl (Ne.symm P.Dl) P.Dc (λJ J r=>up r) w S.o λJ J e=>e,((S.n.mono λJ h=>h.elim).trans n).re (λJ h=>.inl h) (λJ h=>h) λa h=>.inr (h▸P.Dn),Wl.keep _ _ _ _ S.j S.o.w n λb hb z=>P.Dw (z▸hb),I,?_⟩
 rw[Array.toList_push]
 exact bv.append (n.gG S.rl) (.cons (n.rd r) .nil)
theorem ZD(Wl:pQ Kc c2 wr au target aO V bu)(he:ay Kc cw re)(hr:R≠.stuck)(ii:∀x s,gr (c2.plus wr) no X R x s->(∃m,s.heap.Ns c2.env.locals m)->RR (.error x) s)(z:V.length<=sz)(cD:j<V.length)(nP:ys.size<=j)(hb:∀(i:Nat) d,σ[i]?=some (some d)->σ'[i]?=some (some d))(S:Cs Kc c2 X wr A bu σ' ys rs (j+1) ae){b:Bool}
  (e:R=(yj re σ' (gO aO t re σ (V.drop (j+1))) b ae.st).bind (qN rs)):yi c2 cw (.ref A) RR (yk Kc c2 X wr A bu V aO t re σ R) (V.length-j) b ae.s:=by
 have lt:V.length-(j+1)<V.length-j:=Nat.sub_lt_sub_left cD (lt_succ_self j)
 cases b with
 |false=>exact⟨_,lt,j+1,ae,ys,rs,⟨S.o.less hb,S.n,S.j,S.pl,S.rl⟩,cD,rfl,Nat.le_succ_of_le nP,e⟩
 |true=>
  have hn:re σ' ae.st≠.stuck:=λq=>hr (by rw[e];show(((re σ' ae.st).bind _).bind _)=_;rw[q];rfl)
  refine aE (he (c2.plus wr) σ' ae (P.C.plus wr) S.o hn) (λy s p=>?_) λx s p=>S.bad P ii (λst q=>by rw[e];show(((re σ' ae.st).bind _).bind _)=_;rw[q];rfl) p
  obtain⟨d,aa,ey,n,w,r⟩:=p
  have S':=S.next P n (S.o.next (P.C.plus wr) w n) (Wl.keep _ _ _ _ S.j S.o.w n λJ J=>id) λJ h=>h.elim
  refine gg<|list_append_plainL S'.pl.JO (λY fW gd=>?_) (by rw[fo];exact bg nP (bg (Nat.le_of_lt cD) z))
  have vO:=S'.push P Wl r (PL.of fW) gd
  exact⟨_,lt,j+1,aa.to {aa.s with heap:=Y},ys.push y,rs++[d],⟨vO.o.less hb,vO.n,vO.j,vO.pl,vO.rl⟩,cD,rfl,by rw[Array.size_push];exact succ_le_succ nP,e.trans (ZB ey)⟩
theorem ZE(Wl:pQ Kc c2 wr au target aO V bu)(ht:mz Kc ifs t)(he:ay Kc cw re)(hr:R≠.stuck)(ii:∀x s,gr (c2.plus wr) no X R x s->(∃m,s.heap.Ns c2.env.locals m)->RR (.error x) s)(z:V.length<=sz)(cD:j<V.length)(nP:ys.size<=j)(hb:∀(i:Nat) d,σ[i]?=some (some d)->σ'[i]?=some (some d))(S:Cs Kc c2 X wr A bu σ ys rs j ae){s:Shared}(p:xS Kc c2 wr σ' bu j ae s)
  (e:R=(t σ' ae.st).bind λb st=>(yj re σ' (gO aO t re σ (V.drop (j+1))) b st).bind (qN rs)):(vN c2 ifs).run (yi c2 cw (.ref A) RR (yk Kc c2 X wr A bu V aO t re σ R) (V.length-j)) (fv c2 RR) s:=by
 obtain⟨j7,jE,xU⟩:=p
 have LW:=S.next P jE j7 xU λJ h=>h
 refine(vN c2 ifs).mono (ht (c2.plus wr) σ' (ae.to s) (P.C.plus wr) j7 (gH (e▸hr))) (λb s p=>?_) λx s p=>LW.bad P ii (λst q=>e.trans (by rw[show t σ' ae.st=_ from q];rfl)) p
 obtain⟨b',aa,eb,n,w,rfl⟩:=p
 exact ZD P Wl he hr ii z cD nP hb (LW.next P n (j7.next (P.C.plus wr) w n) (Wl.keep _ _ _ _ xU j7.w n λJ J=>id) λJ h=>h.elim) (e.trans (by rw[show t σ' ae.st=_ from eb];rfl))
theorem ZF{scope:Scope}{pos:Pos}(Wl:pQ Kc c2 wr au target aO V bu)(ht:mz Kc ifs t)(he:ay Kc cw re)(hr:R≠.stuck)(ii:∀x s,gr (c2.plus wr) no X R x s->(∃m,s.heap.Ns c2.env.locals m)->RR (.error x) s)(z:V.length<=sz)
  (hb:∀x σ',aO x σ=some σ'->∀(i:Nat) d,σ[i]?=some (some d)->σ'[i]?=some (some d))(ji:∀s,DM Kc c2 X wr A σ R s->RR (.ok .next) s)(S:Cs Kc c2 X wr A bu σ #[] [] 0 ae)(e:R=gO aO t re σ V ae.st) :
  dk c2.M c2.A (.compLoop (.ListComp cw [⟨target,iter,ifs,0⟩] scope pos) 0 (.ref au) (.ref A) c2.env) RR ae.s:=by
 refine Zw (yk Kc c2 X wr A bu V aO t re σ R) (λn s p=>?_) V.length (.mk 0 ae #[] [] S (zero_le _) rfl (dC _) (e.trans (Res.cb _).symm))
 obtain⟨j,ae,ys,rs,S,hj,rfl,nP,e⟩:=p
 rcases lt_or_ge j V.length with cD | vD
 .rw[List.drop_eq_getElem_cons cD] at e
  obtain⟨σ',qK⟩:=ZA (gH (e▸hr))
  exact Zy (Wl.step j V[j] σ σ' ae _ (c8 cD) qK S.o S.j) λs p=>ZE P Wl ht he hr ii z cD nP (hb _ _ qK) S p (e.trans (Zz qK))
 .cases eK hj vD
  refine aE (Wl.done σ ae _ S.o S.j) (λr am ⟨er,k,hg,mc⟩=>er▸ji _ ⟨ae,ys,rs,S.o,S.n,S.pl,S.rl,?_,e.trans (by rw[List.drop_length];exact aw (λl=>Res.ok l ae.st) (c9 rs)),k,hg,mc⟩) λJ J p=>p
  rw[<- S.rl.length,du]
  exact bg nP z
end
section
variable{K:Ks}{c:Cx}{X aa:Sx}{a:Addr}
theorem aC.promote{ys}{rs}(w:aC (c.plus [a]) X)(hx:a∉c.ex)(fx:∀b,d9 c b->b∈c.ex)(pl:PL X.s.heap a ys)(rl:cq (c.plus [a]) X ys.toList rs):aC c (X.plus (a,a) (.list rs) X.s):=by
 have nl:¬iC X.ρ X.st a:=w.hM a (.head _)
 have old:∀{i:Nat} {q:Addr×Addr},(X.ρ++[(a,a)])[i]?=some q->jb (X.st++[M.list rs]) i->(X.ρ[i]?=some q/\jb X.st i)\/(i=X.st.length/\q=(a,a)):=fun{i q} hq I=>by
  rcases sV hq with g | g
  .exact .inl ⟨g,xm (w.len▸(bH.mp g).1) I⟩
  .exact .inr ⟨g.1.trans w.len,g.2⟩
 have lv:∀{b},iC (X.ρ++[(a,a)]) (X.st++[.list rs]) b->iC X.ρ X.st b\/b=a:=fun{b} ⟨i,q,hq,I,hb⟩=>(old hq I).imp (λh=>⟨i,q,h.1,h.2,hb⟩) λh=>(h.2▸hb).elim id id
 have su:∀b,UX c (X.plus (a,a) (.list rs) X.s) b->UX (c.plus [a]) X b:=λb h=>h.elim (λh=>(lv h).imp_right λ(q:b=a)=>q▸.head _) λh=>.inr (.tail _ h)
 have S:m9 (UX (c.plus [a]) X) (UX c (X.plus (a,a) (.list rs) X.s)) X.s.heap X.s.heap:=⟨λb o e J u=>⟨e,λq=>u (su b q)⟩⟩
 have ex:∃e,(X.plus (a,a) (.list rs) X.s).ρ=X.ρ++e:=⟨_,rfl⟩
 refine⟨w.base,w.gens,w.os,by show(X.ρ++[(a,a)]).length=(X.st++[M.list rs]).length;rw[aW,aW,w.len];rfl,λi p m hp hm=>?_,λb hb=>w.new b (su b hb),λi j p q b hp hq hi hj h1 h2=>?_,λb hb I=>?_,λb hb=>w.fC b (.tail _ hb),λe he=>(w.gf e he).keeps λL o hL J b=>⟨fx L ⟨e,he,hL⟩,b⟩⟩
 .rcases sV hp with g | ⟨g,rfl⟩
  .have hm:(X.st++[M.list rs])[i]?=some m:=hm
   rw[dH (w.len▸(bH.mp g).1)] at hm
   exact(w.jC i p m g hm).stays S ex λJ J J e=>e
  .have hm:(X.st++[M.list rs])[i]?=some m:=hm
   rw[g,w.len,getElem?_concat_length] at hm
   cases hm
   exact .list pl rfl (rl.stays S ex)
 .rcases old hp hi with g | g
  .rcases old hq hj with g' | g'
   .exact w.apart i j p q b g.1 g'.1 g.2 g'.2 h1 h2
   .exact absurd ⟨i,p,g.1,g.2,(g'.2▸h2).elim (λz:b=a=>z▸h1) λz:b=a=>z▸h1⟩ nl
  .rcases old hq hj with g' | g'
   .exact absurd ⟨j,q,g'.1,g'.2,(g.2▸h1).elim (λz:b=a=>z▸h2) λz:b=a=>z▸h2⟩ nl
   .exact g.1.trans g'.1.symm
 .exact(lv I).elim (w.hM b (.tail _ hb)) λq=>hx (q▸hb)
theorem Ok.shrink{σ}(o:Ok K c σ X){eN}(hx:∀a∈eN,a∈c.ex)(hf:∀a,d9 c a->a∈eN):Ok K {c with ex:=eN} σ X:=
 ⟨o.w.shrink hx hf,o.loc,o.jW,λi d e=>let ⟨y,v,h1,h2,h3⟩:=o.var i d e;⟨y,v,h1,h2,h3.weak λa q=>q.imp_right (hx a)⟩⟩
end
inductive tI(c:Cx)(X:Sx)(R:Res (List D))(A B:Addr):Shared->Prop
 |mk (rs:List D) (aa:Sx) (ys:Array Value) (m:Str->Option Value) (e:R=.ok rs aa.st) (n:Nx c no X aa) (w:aC ((c.plus [A]).plus [B]) aa) (hA:X.s.heap.get? A=none) (hB:X.s.heap.get? B=none) (ne:A≠B) (pl:PL aa.s.heap A ys) (rl:cq ((c.plus [A]).plus [B]) aa ys.toList rs) (ns:aa.s.heap.Ns B m):tI c X R A B aa.s
inductive qO(c:Cx)(X:Sx)(R:Res (List D))(A:Addr):Shared->Prop
 |mk (rs:List D) (aa:Sx) (ys:Array Value) (e:R=.ok rs aa.st) (n:Nx c no X aa) (w:aC (c.plus [A]) aa) (hA:X.s.heap.get? A=none) (pl:PL aa.s.heap A ys) (rl:cq (c.plus [A]) aa ys.toList rs):qO c X R A aa.s
structure qP(K:Ks)(scope:Scope)(az:List Nat)(vars:List Str)(target iter cw:Expr)(ifs:List Expr)(aO:iP)(ri:SL)(t:ST)(re:SE):Prop where
 O:vL K scope az vars
 ZG:∀σ x σ',aO x (dY az vars.length σ)=some σ'->∀(i:Nat) d,(dY az vars.length σ)[i]?=some (some d)->σ'[i]?=some (some d)
 src:iQ K (K.comp scope az vars) target aO iter ri
 ts:mz (K.comp scope az vars) ifs t
 el:ay (K.comp scope az vars) cw re
 fold:∀env x,foldedSetIterable iter env x=pure x
section
variable{K:Ks}{c:Cx}{X aa:Sx}{A B:Addr}{σ:List (Option D)}(C:cj K c)(o:Ok K c σ X)
section
include o
theorem LX{W}{c'}(n:Nx c' W X aa):∀a∈c.ex,∃ob,aa.s.heap.get? a=some ob:=λa ha=>(o.w.fC a ha).elim λob e=>n.there a ob e
theorem DO(h:X.s.heap.get? B=none):gN c [B]:=.of o.w (ac h an)
theorem tI.back{R}{s}(x:tI c X R A B s){Y}(hs:Heap.SameBut B s.heap Y):qO c X R A {s with heap:=Y}:=by
 obtain⟨rs,aa,ys,m,e,n,w,hA,hB,ne,pl,rl,ns⟩:=x
 have hk:∀b ob,b∉[B]->aa.s.heap.get? b=some ob->Y.get? b=some ob:=λb ob q e=>(hs.2 b λz=>q (z▸.head _)).trans e
 have Ap:gN (c.plus [A]) [B]:=⟨ac (λz=>(dI.mp z).elim (λq=>ne q.symm) (o.w.nG hB)) an,λb h=>.tail _ (o.w.fx h)⟩
 have me:∀b∈A::c.ex,∃ob,Y.get? b=some ob:=λb hb=>(w.fC b (.tail _ hb)).imp λob e=>hk b ob (λz=>Ap.cx b z hb) e
 have M:iE ((c.plus [A]).plus [B]) (c.plus [A]) aa (·∈[B]) {aa.s with heap:=Y}:=Dm (c:=c.plus [A]) hk rfl rfl (λb hb=>.tail _ hb) me
 exact .mk rs (aa.to {aa.s with heap:=Y}) ys e (n.after (ac hB an) hk) (aC.walked (c:=c.plus [A]) w Ap M Ap.fx) hA (let ⟨ob,e,r1,r2,m,r3⟩:=pl;⟨ob,(hs.2 _ ne).trans e,r1,r2,m,r3⟩) (rl.stays (w.stays M) ⟨[],(c9 _).symm⟩)
end
include C o
theorem ZH{R:Res (List D)}{x:Value}{s:Shared}{m:Str->Option Value}{Q:Value->Shared->Prop}{use:Option (Value->Sem Unit)}{acc:Value}{c2:Cx}{E:Value->Shared->Prop}(p:gr c2 no X R x s)(h2:c2.B=c.B/\c2.os=c.os/\c2.w=c.w/\c2.fr=c.fr)(hx:∀a∈B::c.ex,a∈c2.ex)(lu:∀a∈c2.ex,a∈c.ex\/X.s.heap.get? a=none)(hB:X.s.heap.get? B=none)(ZI:s.heap.Ns B m)
  (hE:∀x s',dW c no X R x s'->E x s'):sG c.M c.A E use Q acc B (.error x) s:=by
 have key:∀Y,Heap.SameBut B s.heap Y->∀cenv:Env,cenv.locals=B->af c.M c.A (PySem.passOn "comprehension.variables-let-go" x cenv:Sem Value) (λJ J=>False) E {s with heap:=Y}:=λY hs cenv J=>by
  obtain⟨aa,e,n,w,f⟩:=p
  have Ap:=DO o hB
  have hk:∀b ob,b∉[B]->aa.s.heap.get? b=some ob->Y.get? b=some ob:=λb ob q e=>(hs.2 b λz=>q (z▸.head _)).trans e
  have N:Nx c no X aa:=n.re lu (λa ⟨e,he,h⟩=>⟨e,h2.2.2.2▸he,h⟩) λJ h=>.inl h
  have M:iE c2 c aa (·∈[B]) {aa.s with heap:=Y}:=⟨rfl,rfl,λa ob e t=>hk a ob t e,λa ob e t=>.inl (dT.mp t▸hx B (.head _)),λa ha=>⟨.inl (hx a (.tail _ ha)),(LX o n a ha).imp λob e=>hk a ob (λz=>Ap.cx a z ha) e⟩⟩
  have W:aC c (aa.to {aa.s with heap:=Y}):=w.move M h2.1.symm h2.2.1.symm h2.2.2.1.symm λe he=>(w.gf e (h2.2.2.2▸he)).keeps λL ob hL J b=>⟨o.w.fx ⟨e,he,hL⟩,hk L ob (λz=>Ap.d9 z ⟨e,he,hL⟩) b⟩
  have ne:∀{b:Addr},b∉c2.ex->b∉[B]:=fun{b} q z=>q (dT.mp z▸hx B (.head _))
  obtain⟨e',oe,vs,a1,a2,a3,a4,a5,a6,T,oT,ts,fl,k1,k2,k3,k4,k5,k6,k7⟩:=f
  exact YG (W:=no) (R:=R) o.w.base (.mk (aa.to {aa.s with heap:=Y}) e (N.after (ac hB an) hk) W ⟨e',oe,vs,a1,λz=>a2 (hx _ (.tail _ z)),a3,hk _ _ (ne a2) a4,a5,a6,T,oT,ts,fl,k1,k2,λz=>k3 (hx _ (.tail _ z)),k4,hk _ _ (ne k3) k5,k6,k7⟩) λs' q=>hE _ _ (by
   obtain⟨aa,e,n,w,f⟩:=q
   exact .mk aa e n w f.Di)
 cases use <;> exact⟨m,ZI,key⟩
variable{scope:Scope}{az:List Nat}{vars:List Str}{target iter cw:Expr}{ifs:List Expr}{aO:iP}{ri:SL}{t:ST}{re:SE}
theorem ZJ{wr:List Addr}{am:Shared}(O:vL K scope az vars)(n:Nx c no X aa)(w:aC (c.plus wr) aa)(hw:∀b∈wr,X.s.heap.get? b=none)(hD:aa.s.heap.get? A=none)(hA:am.heap.objs.size=A+1)(au:Inner (c.plus wr) ((c.comp scope vars [A] am.heap).plus wr) aa (my scope [A] am.heap) {am with heap:=j8 scope am.heap})(C2:cj (K.comp scope az vars) (c.comp scope vars [A] am.heap)) :
  Cp (K.comp scope az vars) (c.comp scope vars [A] am.heap) X wr A:=by
 have fF:∀a∈my scope [A] am.heap,X.s.heap.get? a=none:=λa ha=>n.none (au.new a ha).1
 have I:am.heap.objs.size∈my scope [A] am.heap:=cA _ (.head _)
 have dc:∀y b,(nN c scope am.heap).lookup y=some b->b≠A:=λy b e z=>by
  subst z
  exact(qM e).elim (λq=>absurd (hA▸(tH (ff:=[b]) q).2) (Nat.not_lt.mpr (le_succ _))) λq=>o.w.nG (n.none hD) (C.cell y b q.2).1
 refine⟨C2,⟨λb hb z=>?_,λa h=>cA _ (o.w.fx h)⟩,hw,λa h=>?_,fP _ (.head _),λz=>(let ⟨_,e⟩:=w.fC A (fP _ z);(nomatch e.symm.trans hD)),n.none hD,λz=>?_,dc,λz=>o.w.nG (n.none hD) (o.w.fx z),fF _ I⟩
 .exact(cy.mp z).elim (λz=>(let ⟨_,e⟩:=w.fC b (fP _ hb);(nomatch e.symm.trans (au.new b z).1))) (o.w.nG (hw b hb))
 .rcases h with h | ⟨y,hy,h⟩
  .exact h▸fF _ I
  .rcases qM h with q | q
   .exact fF _ (tH q).1
   .obtain⟨k,h1,h2⟩:=O.bound y hy
    exact absurd (yg O.nodup (mem_of_lookup h1) q.1) h2
 .have z:A=am.heap.objs.size:=z
  exact absurd (z.trans hA) (ne_of_lt (lt_succ_self A))
theorem ZK{c2}{wr}{Kc}{σ'}{R}{s}(P:Cp Kc c2 X wr A)(hx:∀a∈c2.ex,a∈c.ex\/X.s.heap.get? a=none)(lu:∀a∈c.ex,a∈c2.ex)(h2:c2.B=c.B/\c2.os=c.os/\c2.w=c.w/\c2.fr=c.fr)(p:DM Kc c2 X wr A σ' R s):tI c X R A c2.env.locals s:=by
 obtain⟨ae,ys,rs,ig,n,pl,rl,z,e,k,hg,ho⟩:=p
 have sub:∀a∈c2.env.locals::A::c.ex,a∈c2.ex:=ac P.C.loc (ac P.LV lu)
 have N:Nx c no X ae:=n.re (λa h=>(cy.mp h).elim (λh=>.inr (P.DL a h)) (hx a)) (λa ⟨e,he,h⟩=>⟨e,h2.2.2.2▸he,h⟩) λJ h=>.inl h
 have me:∀a∈c2.env.locals::A::c.ex,∃ob,s.heap.get? a=some ob:=λa ha=>(ig.w.fC a (cA _ (sub a ha))).imp λob e=>k a ob (λz=>P.Ap.cx a z (sub a ha)) e
 have M:iE (c2.plus wr) ((c.plus [A]).plus [c2.env.locals]) ae (·∈wr) s:=⟨hg,ho,λa o e t=>k a o t e,λJ J J t=>.inl (fP _ t),λa ha=>⟨.inl (cA _ (sub a ha)),me a ha⟩⟩
 have W:aC ((c.plus [A]).plus [c2.env.locals]) (ae.to s):=ig.w.move M h2.1.symm h2.2.1.symm h2.2.2.1.symm λe he=>(ig.w.gf e (h2.2.2.2▸he)).keeps λL ob hL J b=>⟨.tail _ (.tail _ (o.w.fx ⟨e,he,hL⟩)),k L ob (λz=>P.Ap.d9 z ⟨e,h2.2.2.2.symm▸he,hL⟩) b⟩
 obtain⟨m,ob,Z,ep,q1,q2⟩:=ig.loc
 obtain⟨ZL,l1,r1,r2,mm,r3⟩:=pl
 exact .mk rs (ae.to s) ys m e (N.after P.DL k) W P.Dn P.ln P.Dl ⟨ZL,k _ _ P.Dw l1,r1,r2,mm,r3⟩ (rl.stays (ig.w.stays M) ⟨[],(c9 _).symm⟩) ⟨ob,Z,ep,k _ _ (λz=>P.Ap.cx _ z P.C.loc) q1,q2⟩
omit C o in
theorem ZM(hn:(scope.names.map (·.1)).Nodup):∀x∈scope.names,x.2=.local->scope.names.lookup x.1=some .local:=λ⟨x,k⟩ hx hk=>
 DG (hk▸hx) λb hb=>yg hn hb (hk▸hx)
theorem ZN(T:qP K scope az vars target iter cw ifs aO ri t re){pos:Pos}{use:Option (Value->Sem Unit)}{Q:Value->Shared->Prop}{E:Value->Shared->Prop}{R:Res (List D)}(hr:R≠.stuck)(hE:∀x s',dW c no X R x s'->E x s')
  (ji:∀A B s,tI c X R A B s->sG c.M c.A E use Q (.ref A) B (.ok .next) s){am:Shared}{it:Value}{V:List D}(n:Nx c no X aa)(p:fJ (K.comp scope az vars) c target aO X V it aa)(eR:R=gO aO t re (dY az vars.length σ) V aa.st)(hA:am.heap.objs.size=A+1)(hD:aa.s.heap.get? A=none)(k:eZ aa.s.heap am.heap)(hg:am.gens=aa.s.gens)(ho:am.os=aa.s.os)(hP:PL am.heap A #[]) :
  dk c.M c.A (.compStart (.ListComp cw [⟨target,iter,ifs,0⟩] scope pos) 0 it (.ref A) (compEnvC scope (nN c scope am.heap) am.heap.objs.size c.env)) (sG c.M c.A E use Q (.ref A) am.heap.objs.size) {am with heap:=j8 scope am.heap}:=by
 obtain⟨wr,au,rfl,xW,hw,z,mk⟩:=p
 have C2:cj (K.comp scope az vars) (c.comp scope vars [A] am.heap):=Zn C T.O λb hb=>(LX o n b hb).elim λob e=>Heap.lt_size (k b ob e)
 have In:=Zo (c:=c) (vars:=vars) (scope:=scope) (wr:=wr) k hg ho (ac ⟨hD,let ⟨ob,e,_,_,_,_⟩:=hP;⟨ob,e⟩⟩ an)
 have P:=ZJ C o T.O n xW hw hD hA In C2
 obtain⟨bu,Wl,j0⟩:=mk _ _ _ C2 ⟨rfl,rfl,rfl,rfl,λa h=>(In.new a h).1,In.ups⟩ P.Ap
 have hx:∀a∈my scope [A] am.heap++c.ex,a∈c.ex\/X.s.heap.get? a=none:=λa h=>(cy.mp h).elim (λh=>.inr (n.none (In.new a h).1)) .inl
 have S:Cs (K.comp scope az vars) (c.comp scope vars [A] am.heap) X wr A bu (dY az vars.length σ) #[] [] 0 (aa.to {am with heap:=j8 scope am.heap}):=
  ⟨Zu C T.O (o.begin C n xW hw) In,(n.trans (.keeps In.ups)).re (λa h=>.inl (cA _ (cA _ h))) (λJ h=>h) λJ h=>.inl h,j0,(let ⟨ob,e,r1,r2,m,r3⟩:=hP;⟨ob,DH _ _ _ _ e,r1,r2,m,r3⟩),.nil⟩
 have LY:=ZF (iter:=iter) (scope:=scope) (pos:=pos) (RR:=sG c.M c.A E use Q (.ref A) am.heap.objs.size) P Wl T.ts T.el hr (λx s p hm=>hm.elim λm hm=>ZH C o p ⟨rfl,rfl,rfl,rfl⟩ (ac (cA _ P.C.loc) λa h=>cA _ (cA _ h)) (λa h=>(cy.mp h).elim (λh=>.inr (hw a h)) (hx a)) P.ln hm hE) z (T.ZG σ) (λs p=>ji _ _ _ (ZK C o P hx (λa h=>cA _ h) ⟨rfl,rfl,rfl,rfl⟩ p)) S eR
 exact U9 LY (Wl.self 0 _ _ _ j0 LY)
theorem LZ(T:qP K scope az vars target iter cw ifs aO ri t re){pos qp}{use}{Q}{E}(hr:lB ri aO az vars.length t re σ X.st≠.stuck)(hE:∀x s',dW c no X (lB ri aO az vars.length t re σ X.st) x s'->E x s')
  (ji:∀A B s,tI c X (lB ri aO az vars.length t re σ X.st) A B s->sG c.M c.A E use Q (.ref A) B (.ok .next) s):af c.M c.A (comprehension (.ListComp cw [⟨target,iter,ifs,0⟩] scope pos) scope c.env qp (newList []) false (eval iter c.env) use) Q E X.s:=by
 refine US (use:=use) rfl (T.fold c.env) (Zh λp hp hf=>C.own _ (T.O.free p hp hf)) T.O.kind (ZM T.O.nodup) ?_
 refine(PT.iter c iter).mono (T.src c σ X C o (gH hr)) (λit s p=>?_) λx s p=>hE _ _ p.bind
 obtain⟨V,aa,e,n,w,p⟩:=p
 exact gg<|wpAny_newObj_type (T:="list") (dict:=none) (Zj (ZN (am:=kC aa.s {cls:=.type "list",dict:=none,data:=.seq ([]:List Value).toArray}) C o T hr hE ji n p (by unfold lB;rw[e];rfl) (Heap.size_push ..) (ia _) (fV _ _) rfl rfl ⟨_,gi _ rfl,rfl,rfl,0,rfl⟩)) (by size_fits)
end
noncomputable def ZO(l:SL):SE:=λσ st=>(l σ st).bind λrs st=>.ok (.lst rs) st
noncomputable def ZP(l:SL):SE:=λσ st=>(l σ st).bind λrs st=>.ok (.ab st.length) (st++[.list rs])
section
variable{K:Ks}{c:Cx}{X aa:Sx}{A B:Addr}{σ:List (Option D)}{scope:Scope}{az:List Nat}{vars:List Str}{target iter cw:Expr}{ifs:List Expr}{aO:iP}{ri:SL}{t:ST}{re:SE}{pos:Pos}
theorem qO.data{R}{s}(o:Ok K c σ X):qO c X R A s->Po c no X (R.bind λrs st=>.ok (.lst rs) st) (cm c) (.ref A) s
 |.mk rs aa ys e n w hA pl rl=>⟨.lst rs,aa,by rw[e];rfl,n,w.shrink (c:=c.plus [A]) (λa h=>.tail _ h) (λJ h=>o.w.fx h),.lst pl (λz=>z.elim (w.hM A (.head _)) (o.w.nG hA)) (rl.stays ⟨λa ob e J u=>⟨e,λq=>u (q.imp_right (.tail _))⟩⟩ ⟨[],(c9 _).symm⟩)⟩
theorem qO.ab{R}{s}(o:Ok K c σ X):qO c X R A s->Po c no X (R.bind λrs st=>.ok (.ab st.length) (st++[.list rs])) (cm c) (.ref A) s
 |.mk rs aa ys e n w hA pl rl=>by
  have W:=w.promote (o.w.nG hA) (λJ h=>o.w.fx h) pl rl
  obtain⟨x,hx,hn⟩:=n.ext
  refine⟨.ab aa.st.length,aa.plus (A,A) (.list rs) aa.s,by rw[e];rfl,⟨⟨x++[(A,A)],by show aa.ρ++_=_;rw[hx,dG],λp hp=>(cy.mp hp).elim (hn p) λhp=>dT.mp hp▸λa h=>(h.elim id id:a=A)▸hA⟩,n.keep,n.slot,n.there,λi hi h=>n.dead i hi (xm (w.len▸?_) h)⟩,W,Rd.iF (w.shrink (c:=c.plus [A]) (eN:=c.ex) (λa h=>.tail _ h) (λJ h=>o.w.fx h))⟩
  rw[hx,aW];exact Nat.lt_add_right _ hi
theorem ay.L7{f}(T:qP K scope az vars target iter cw ifs aO ri t re)(h:∀c σ X R A s,Ok K c σ X->qO c X R A s->Po c no X (R.bind f) (cm c) (.ref A) s):ay K (.ListComp cw [⟨target,iter,ifs,0⟩] scope pos) λσ st=>(lB ri aO az vars.length t re σ st).bind f:=λc σ X C o hr=>by
 show af _ _ (eval (.ListComp cw [⟨target,iter,ifs,0⟩] scope pos) c.env) _ _ _
 rw[eval_ListComp]
 refine LZ C o T (use:=Option.none) (gH hr) (λJ J q=>q.bind) λA B s x=>?_
 have x':=λY hs=>x.back o (Y:=Y) hs
 obtain⟨rs,aa,ys,m,e,n,w,hA,hB,ne,pl,rl,ns⟩:=x
 exact⟨m,ns,λY hs=>h c σ X _ A _ o (x' Y hs)⟩
theorem ay.comp(T:qP K scope az vars target iter cw ifs aO ri t re):ay K (.ListComp cw [⟨target,iter,ifs,0⟩] scope pos) (ZO (lB ri aO az vars.length t re)):=.L7 T λJ J J J J J o x=>x.data o
theorem ay.j8(T:qP K scope az vars target iter cw ifs aO ri t re):ay K (.ListComp cw [⟨target,iter,ifs,0⟩] scope pos) (ZP (lB ri aO az vars.length t re)):=.L7 T λJ J J J J J o x=>x.ab o
noncomputable def yl(i:Nat)(l:SL):SS:=λσ st=>(l σ st).bind λrs st=>.ok (.next,σ.set i (some (.lst rs))) st
theorem bQ.ZQ{i}{y}{py DP}(hb:Bound K i y)(T:qP K scope az vars target iter cw ifs aO ri t re)(ZR:∀env:Env,env.scope=K.scope->swapsWith (.ListComp cw [⟨target,iter,ifs,0⟩] scope pos) (some (.Name y py)) DP.line env=pure true) :
  bQ K (.Assign [.Name y py] (.ListComp cw [⟨target,iter,ifs,0⟩] scope pos) DP) (yl i (lB ri aO az vars.length t re)):=λc σ X C o hr=>by
 show af _ _ (exec (.Assign [.Name y py] (.ListComp cw [⟨target,iter,ifs,0⟩] scope pos) DP) c.env) _ _ _
 rw[exec_Assign_Name_used _ _ _ _ (ZR _ C.scope)]
 refine ak (cB (ak ?_))
 show af _ c.A (do let _ <- comprehension (.ListComp cw [⟨target,iter,ifs,0⟩] scope pos) scope c.env _ (newList []) false (eval iter c.env) (some (assign (.Name y py) c.env))) _ _ X.s
 refine ak (aE (LZ C o T (use:=some (assign (.Name y py) c.env)) (Q:=λJ s'=>Po c (cK c) X (yl i (lB ri aO az vars.length t re) σ X.st) (eO K c) .next s')
  (E:=dW c (cK c) X (yl i (lB ri aO az vars.length t re) σ X.st)) (gH hr) (λJ J q=>q.up.bind) λA B s x=>?_) (λJ s' q=>aT (aT q)) λJ J q=>q)
 obtain⟨rs,aa,ys,m,e,n,w,hA,hB,ne,pl,rl,ob,Z,ep,q1,q2⟩:=x
 have ApA:=DO o hA
 have DQ:=DO o hB
 have hw:∀b∈[B]++[A],X.s.heap.get? b=Option.none:=ac hB (ac hA an)
 have O3:Ok K (c.plus ([B]++[A])) σ aa:=o.begin C n w hw
 have O4:Ok K (c.plus [B]) σ aa:=O3.shrink (c:=c.plus ([B]++[A])) (ac (.head _) λa h=>.tail _ (.tail _ h)) λa h=>.tail _ (o.w.fx h)
 have nA:¬UX (c.plus [B]) aa A:=λz=>z.elim (w.hM A (.tail _ (.head _))) λz=>(dI.mp z).elim ne (o.w.nG hA)
 have rD:bJ (c.plus [B]) aa (.ref A) (.lst rs):=.lst pl nA (rl.stays ⟨λa ob e J u=>⟨e,λq=>u (q.imp_right λq=>(dI.mp q).elim (λz=>z▸.head _) λz=>.tail _ (.tail _ z))⟩⟩ ⟨[],(c9 _).symm⟩)
 show af c.M c.A (assign (.Name y py) c.env (.ref A)) _ _ aa.s
 refine BI (O4.store (c:=c.plus [B]) (C.plus [B]) hb.1 hb.2.1 hb.2.2 rD λku iM jf=>⟨m,⟨ob,Z,ep,jf.keep B ob q1 (O4.w.hM B (.head _)) (.inr ⟨gN.own C DQ (.head _),DQ.d9 (.head _)⟩),q2⟩,λY hs=>?_⟩)
 have hk:∀b ob,b∉[B]->ku.heap.get? b=some ob->Y.get? b=some ob:=λb ob q e=>(hs.2 b λz=>q (z▸.head _)).trans e
 have N:Nx c (cK c) X (aa.to ku):=n.kA.xR jf (ac hB an) λJ=>.inl
 exact Dr C o.w DQ (ac hB an) (by unfold yl;rw[e];rfl) N iM hk rfl rfl λo=>.next o
end
section
variable{prog:Program}{w:World}{A:Around}{E:Value->Shared->Prop}{s:Shared}
theorem ZS:typeLookup (.type "bytes") "__len__" = pure (some (.builtin "bytes.__len__")):=by rw[typeLookup_type,builtinLookup_eq_fast];kernel_rfl
abbrev DR(b:Array UInt8):Nat->Value->Prop:=λi v=>∃c u,b[i]?=some c/\v=.int (c.toNat:Int) u
theorem ZT {R} (hh:A.handled=none) (b) (t) (S) {k} (hS:s.heap.get? S=some {cls:=.type "list",data:=.seq #[] k}) (hn:b.size<=sizeLine)
  (hR:∀Y tk iR c',(∀a o,a≠S->s.heap.get? a=some o->Y.get? a=some o)->Y.get? S=some {cls:=.type "list",dict:=none,data:=.seq iR c',slots:=#[]}->ItemsOf (DR b) iR b.size->R (.ok (.ret .none)) {s with heap:=Y,toks:=tk}) :
  PySem.wpAny (model prog w) A.in1 (Builtin.List.listExtendWith (.ref S) (.bytes b t) .none)
   (λbc s'=>match bc with | .done f=>R (.ok f) s' | .again c'=>c'.quiet=true/\PySem.codeAny (model prog w) A c' R s') (λe s'=>R (.error e) s') s:=by
 have ZU:S≠s.heap.objs.size:=ne_of_lt (Heap.lt_size hS)
 have ZV:S∉[s.heap.objs.size]:=λhm=>ZU (dT.mp hm)
 unfold Builtin.List.listExtendWith
 refine br (PySem.wpAny_typeOf (T:="bytes") (typeIs_bytes _ _ _) ?_)
 refine bm_if_false rfl ?_
 refine br (KBw.pyIter_bytes ?_)
 refine br (PySem.wpAny_holding ?_)
 unfold Builtin.List.listLengthHint
 refine br (PySem.wpAny_specialOf (typeIs_bytes _ _ _) ZS ?_)
 wp_delta
 refine br (PySem.wpAny_isInstance (T:="bytes") (b:=true) (typeIs_bytes _ _ _) (by rw[isSubtype_type];kernel_rfl) ?_)
 refine br (PySem.wpAny_typeOf (T:="bytes") (typeIs_bytes _ _ _) ?_)
 refine dD ?_
 rw[aY (by decide)]
 refine dD ⟨plainId_quiet F.plain_extend_loop _,codeAny_extend_loopS (KBw.walks (A:=A.in1) hh s.heap.objs.size b t).toS hn _ ZV _ b.size 0 _ _ _ rfl (zero_le _)
  (show KBw.IsBytesIter _ _ b t 0 from⟨_,gi _ rfl,rfl,rfl⟩) (ga _ hS) (ItemsOf.nil _) λs' iR c' hm DS DT=>?_⟩
 rw[Moved.eq_with hm]
 refine hR s'.heap s'.toks iR c' (λa ob hb e=>hm.heap a ob (λDU=>?_) (ga _ e)) DS DT
 exact(dI.mp DU).elim hb λDU=>absurd (Heap.lt_size e) (dT.mp DU▸lt_irrefl _)
theorem ZW {R} (hh:A.handled=none) (b) (t) (S) (hS:s.heap.get? S=some {cls:=.type "list",data:=.seq #[]})
  (hR:∀Y tk iR c',(∀a o,a≠S->s.heap.get? a=some o->Y.get? a=some o)->Y.get? S=some {cls:=.type "list",dict:=none,data:=.seq iR c',slots:=#[]}->
   ItemsOf (DR b) iR b.size->R (.ok (.ret .none)) {s with heap:=Y,toks:=tk}) (hn:b.size<=sizeLine) :
  PySem.wpAny (model prog w) A.in1 (Builtin.«list.__init__» ⟨[.ref S,.bytes b t],[]⟩)
   (λbc s'=>match bc with | .done f=>R (.ok f) s' | .again c'=>c'.quiet=true/\PySem.codeAny (model prog w) A c' R s') (λe s'=>R (.error e) s') s:=
 zL hS<|zL hS<|zU hS<|zL (Heap.get?_update_self _ hS rfl)<|KW (t':=Builtin.List.listExtendWith (.ref S) (.bytes b t) .none) (ZT hh b t S (Heap.get?_update_self _ hS rfl) hn λY tk iR c' k=>hR Y tk iR c' λa o ha e=>k a o ha ((Heap.get?_update_other _ _ (Ne.symm ha)).trans e))
theorem ZX{Q}(hh:A.handled=none)(b)(t)
  (hQ:∀Y tk iR c',(∀a o,s.heap.get? a=some o->Y.get? a=some o)->
   Y.get? s.heap.objs.size=some {cls:=.type "list",dict:=none,data:=.seq iR c',slots:=#[]}->ItemsOf (DR b) iR b.size->Q (.ref s.heap.objs.size) {s with heap:=Y,toks:=tk}) (hn:b.size<=sizeLine) :
  PySem.wpAny (model prog w) A (call (.type "list") [.bytes b t]) Q E s:=by
 refine callType_codes (Q₁:=λobj am=>obj=.ref s.heap.objs.size/\am={s with heap:=s.heap.push {cls:=.type "list",data:=.seq #[]}}) F.called_list (F.typeCall_list_1 _) F.entry_list_init
  (code_list_new _ ⟨rfl,rfl⟩) λobj am a7=>?_
 obtain⟨rfl,rfl⟩:=a7
 have hS:(s.heap.push {cls:=.type "list",data:=.seq #[]}).get? s.heap.objs.size=some {cls:=.type "list",data:=.seq #[]}:=gi _ rfl
 exact⟨⟨_,hS,rfl⟩,F.args_list_init_2 _ _,ZW (A:=A.in1) (hn:=hn) hh b t _ hS λY tk iR c' hk DS DT=>⟨rfl,hQ Y tk iR c' (λa o e=>hk a o (ne_of_lt (Heap.lt_size e)) (ga _ e)) DS DT⟩⟩
end
noncomputable def tJ:List D->List M->Res D:=eF λd st=>match d with
 |.lst V=>if V.length<=sz then .ok (.lst V) st else .stuck
 |.arr V=>if V.length<=sz then .ok (.lst V) st else .stuck
 |.bytes b=>if b.length<=sz then .ok (.lst (b.map λc=>.int (c.toNat:Int))) st else .stuck
 |_=>.stuck
section
variable{c:Cx}{X:Sx}
theorem Po.lst {Y} {tk n} {a} {vs} {V} (w:aC c X) (k:eZ X.s.heap Y) (ha:X.s.heap.get? a=none) (I:Y.get? a=some {cls:=.type "list",dict:=none,data:=.seq vs n,slots:=#[]}) (r:cq c X vs.toList V):Po c no X (.ok (.lst V) X.st) (cm c) (.ref a) {X.s with heap:=Y,toks:=tk}:=
 .keeps (s':={X.s with heap:=Y,toks:=tk}) w k rfl rfl (.lst ⟨_,I,rfl,rfl,n,rfl⟩ (w.fresh ha) (Nx.gG (W:=no) (.keeps k) r))
theorem L8 {a} {vs} {V} (w:aC c X) (I:X.s.heap.IsList a vs) (r:cq c X vs.toList V):c3 c X (if V.length<=sz then .ok (.lst V) X.st else .stuck) (PySem.call (.type "list") [.ref a]) (cm c):=.iff λhz J=>by
 obtain⟨o,ho,hc,n,hd⟩:=I
 exact call_list_seq a (.inl rfl) ho hc hd (λY c' hk hS=>.lst w hk (ia _) hS r) (by rw[<- du,r.length,fo];exact hz)
theorem cr.list {lv}:cr lv (.type "list") tJ:=.eF λc X v d C w r=>by
 cases d with
 |lst=>obtain⟨a,vs,rfl,I,_,rl⟩:=r.dO;exact L8 w I.isList rl
 |arr=>obtain⟨a,vs,rfl,I,_,rl⟩:=r.BV;exact L8 w I rl
 |bytes=>
  obtain⟨b,t,rfl,rfl⟩:=r.fm
  exact .iff λhz J=>ZX C.handled b t (λY tk iR c' hk hS hI=>.lst w hk (ia _) hS ⟨by rw[aG];exact hI.1,λi v d hv hd=>by
   obtain⟨cc,u,g1,rfl⟩:=hI.2 i v (jA.symm.trans hv)
   rw[getElem?_map,jA,g1] at hd
   cases hd
   exact .int _ _⟩) (by rw[<- du,fo];exact hz)
 |_=>exact λh=>absurd rfl h
noncomputable def DV(l:SL):SE:=λσ st=>(Dv l σ st).bind λV st=>.ok (.lst V) st
theorem ZY {l} {v} (hh:c.A.handled=none) (w:aC c X) (p:Dx l v X):Sm c no X (.ok (.lst l) X.st) (.wp c (PySem.call (.type "list") [v])) (cm c):=λJ=>by
 obtain⟨a,b,r,t,u,q,rfl,rfl,hr,sm,z⟩:=p
 refine gg<|call_list_range hh hr sm (n:=(b-a).toNat) (by rw[rangeSize_one];split <;> lia) (by lia) λY tk iR c' hk hS hI=>.lst w hk (ia _) hS ⟨by rw[yb];exact hI.1,λi v d hv hd=>?_⟩
 obtain⟨t',rfl⟩:=hI.2 i v (jA.symm.trans hv)
 cases LK hd
 rw[Int.mul_one]
 exact .int _ _
variable{K:Ks}
theorem ay.ym {x y} {px py pos kZ} {args} {l} (hx:K.scope.names.lookup x=some .globalImplicit) (ex:∀P,nsIn (KF P) mainGlobals x=some Option.none) (ZZ:bootBuiltins x=some (.type "list")) (Z0:x≠"__name__")
  (hy:K.scope.names.lookup y=some .globalImplicit)(ey:∀P,nsIn (KF P) mainGlobals y=some Option.none)(Z1:bootBuiltins y=some (.type "range"))(Z2:y≠"__name__")
  (ha:gL K kZ args l)(fe:autoParam (∀env,(backTo kZ (starEach args env)).any (·.1)=false) k2)(Z3:autoParam ((x==("__debug__" : Str))=false) dc)(Z4:autoParam ((y==("__debug__" : Str))=false) dc)
  (L9:autoParam (∀env,backTo pos (starEach [.Call (.Name y py) args [] kZ] env)=[(false,eval (.Call (.Name y py) args [] kZ) env)]) k2) :
  ay K (.Call (.Name x px) [.Call (.Name y py) args [] kZ] [] pos) (DV l):=λc σ X C o hr=>by
 refine uX (B0 C o hx Z3 ex ZZ Z0 (JD (by rw[L9];rfl) ?_))
 rw[L9]
 refine Jy ?_
 have e:DV l σ X.st=(l σ X.st).bind λV st=>(ij V st).bind λV st=>.ok (.lst V) st:=Res.DK _ _ _
 have H:=ya (p:=py) (P:=cm c) (f:=λV st=>(ij V st).bind λV st=>.ok (D.lst V) st) (G:=λv=>.wp c (PySem.call (.type "list") [v])) hy ey Z1 Z2 ha fe Z4 C o λvs V aa n w r=>(LJ r w).bind λl v ae n' w' p=>ZY C.handled w' p
 rw[<- e] at H
 exact ak (aE (H hr) (λv s h=>ak (aT (ak (ci (aT (aT h)))))) λJ J q=>q)
end
theorem Z5(l:List (Array UInt8))(k:Nat)(acc:Array UInt8):((l.zipIdx k).foldl (λout (x:Array UInt8×Nat)=>(if x.2>0 then out++#[] else out)++x.1) acc).toList=acc.toList++(l.map (·.toList)).flatten:=by
 induction l generalizing k acc with
 |nil=>exact(c9 _).symm
 |cons x r ih=>
  rw[List.zipIdx_cons,List.foldl_cons,ih,show(if k>0 then acc++#[] else acc)=acc by split <;> first | exact Array.append_empty | rfl,toList_append,dG]
  rfl
theorem Z6(l:List (Array UInt8)):(Builtin.Bytes.joined #[] l).toList=(l.map (·.toList)).flatten:=Z5 l 0 #[]
theorem Z7(l:List (Array UInt8))(n:Nat):l.foldl (λa x=>a+x.size) n=n+((l.map (·.toList)).flatten).length:=by
 induction l generalizing n with
 |nil=>rfl
 |cons x r ih=>rw[List.foldl_cons,ih,map_cons,flatten_cons,aW,Nat.add_assoc];rfl
theorem Z8:entryFor table "bytes.join" = some Builtin.«bytes.join»:=entryFor_of_tree (by kernel_rfl)
theorem Z9{α:Type}{M}{A}{E}{s}{n}{b}{f}{Q}(au:Nat->α->Prop)(h0:au 0 b)(eY:∀i b,i<n->au i b->PySem.wpAny M A (f i b) (λy s'=>(∃b',y=.yield b'/\au (i+1) b')/\s'=s) E s)(hq:∀b,au n b->Q b s) :
  PySem.wpAny M A (forIn [:n] b f) Q E s:=by
 rw[Std.Legacy.Range.forIn_eq_forIn_range']
 refine PySem.wpAny_forIn_list _ (λl b s'=>∃k,l=range' k (n-k)/\k<=n/\s'=s/\au k b) _ ?_ ?_ _ _ ⟨0,by show range' 0 ((n-0+1-1)/1)=_;rw[Nat.add_sub_cancel,Nat.div_one],zero_le _,rfl,h0⟩
 .rintro x r b s' ⟨k,e1,e2,rfl,e3⟩
  have hk:k<n:=lt_of_not_le λh=>by rw[Nat.sub_eq_zero_of_le h] at e1;exact nomatch e1
  rw[show n-k=(n-(k+1))+1 by lia,List.range'_succ] at e1
  cases e1
  exact PySem.wpAny_mono (eY x b hk e3) (λy cG ⟨⟨b',e,i⟩,Z⟩=>e▸⟨x+1,rfl,hk,Z,i⟩) λJ J e=>e
 .rintro b s' ⟨k,e1,e2,rfl,e3⟩
  have hk:k=n:=eK e2 (Nat.le_of_not_lt λh=>by rw[show n-k=(n-(k+1))+1 by lia,List.range'_succ] at e1;exact nomatch e1)
  exact hq b (hk▸e3)
theorem aaa{M}{A}{E}{s}{l}{keep}{Q}(I:∀p∈l,p.2=none)(q:Q () s):PySem.wpAny M A (Builtin.Bytes.joinLetGo l keep) Q E s:=by
 induction l with
 |nil=>exact dD q
 |cons p r ih=>
  obtain⟨x,w⟩:=p
  cases show w=none from I _ (.head _)
  exact br (PySem.wpAny_letGo (ih λp h=>I p (.tail _ h)))
structure vP(vs:Array Value)(i:Nat)(b:Array (Array UInt8)×List (Value×Option Value)):Prop where
 none:∀p∈b.2,p.2=Option.none/\p.1.onHeap=false
 size:b.1.size=i
 val:∀(j:Nat) x,b.1[j]?=some x->∃u,vs[j]?=some (.bytes x u)
set_option tactic.hygienic true in
theorem vP.push{vs}{i}{b}(h:vP vs i b){x}{u}(e:vs[i]?=some (.bytes x u)):vP vs (i+1) (b.1.push x,b.2++[(.bytes x u,Option.none)]):=by
 refine⟨λp hp=>(cy.mp hp).elim (h.none p) λhp=>dT.mp hp▸⟨rfl,rfl⟩,by rw[Array.size_push,h.size],λj y hy=>?_⟩
 rw[Array.getElem?_push,h.size] at hy
 split at hy
 .rename_i q;cases hy;exact⟨u,q▸e⟩
 .exact h.val j y hy
section
variable{prog:Program}{w:World}{A:Around}{E:Value->Shared->Prop}{s:Shared}
@[reducible] def DW{α:Type}(x:α)(s:Shared)(v:α)(s':Shared):Prop:=v=x/\s'=s
theorem zb{α β:Type}{M:Model}{m:Sem α}{k:α->Sem β}{x:α}{Q:β->Shared->Prop}(h:PySem.wpAny M A m (DW x s) E s)(r:PySem.wpAny M A (k x) Q E s):PySem.wpAny M A (m >>= k) Q E s:=
 br (PySem.wpAny_mono h (λ_ _ ⟨e,e'⟩=>e▸e'▸r) λJ J e=>e)
theorem aab{t:Tok}{a:Addr}{vs:Array Value}{bs:List (List UInt8)}{Q:Value->Shared->Prop}(I:s.heap.IsList a vs)
  (hv:∀i:Nat,i<vs.size->∃b t,vs[i]?=some (.bytes b t)/\bs[i]?=some b.toList)
  (iB:bs.length=vs.size)(hz:bs.flatten.length<=sizeLine)
  (q:∀b t k,b.toList=bs.flatten->Q (.bytes b t) {s with toks:=k}) :
  PySem.wpAny (model prog w) A (Builtin.«bytes.join» ⟨[.bytes #[] t,.ref a],[]⟩) (λbc s'=>∃v,bc=.done (.ret v)/\Q v s') E s:=by
 obtain⟨⟨cls,d,data,sl⟩,ho,hc,n,hd⟩:=I
 simp only at hc hd
 subst hc hd
 rcases vs with⟨_ | ⟨x,_ | ⟨y,r⟩⟩⟩
 .cases length_eq_zero_iff.mp iB
  exact zL ho<|zL ho<|zF<|zP (a:=.done (.ret (.bytes #[] s.toks))) ⟨_,rfl,q _ _ _ rfl⟩
 .obtain⟨y,u,g1,g2⟩:=hv 0 Nat.one_pos
  cases g1
  have hb:bs=[y.toList]:=by
   cases bs with
   |nil=>nomatch g2
   |cons z r=>
    cases g2
    cases length_eq_zero_iff.mp (Nat.succ.inj iB)
    rfl
  exact zL ho<|zL ho<|zP (a:=.done (.ret (.bytes y u))) ⟨_,rfl,q y u s.toks (by rw[hb];exact(c9 _).symm)⟩
 show PySem.wpAny _ _ (Builtin.Bytes.joinM .bytes ⟨[.bytes #[] t,.ref a],[]⟩) _ _ s
 have seq:∀{A':Around},PySem.wpAny (model prog w) A' (seqItems? (.ref a)) (DW (some _) s) E s:=fun{A'}=>br (PySem.wpAny_load ho (dD ⟨rfl,rfl⟩))
 have items:PySem.wpAny (model prog w) A (Builtin.Bytes.joinItems (.ref a)) (DW (.ref a) s) E s:=br (PySem.wpAny_typeOf (T:="list") ⟨_,ho,rfl⟩ (bm_if_true rfl (dD ⟨rfl,rfl⟩)))
 unfold Builtin.Bytes.joinM
 refine zb (x:=(.bytes #[] t,.ref a)) (jw (by kernel_rfl) ⟨rfl,rfl⟩) (zb items (zb seq ?_))
 refine bm_if_true rfl ?_
 show PySem.wpAny _ _ (forIn [:(⟨x::y::r⟩:Array Value).size] _ _ >>= _) _ _ _
 generalize(⟨x::y::r⟩:Array Value)=vs at hv iB ho seq ⊢
 refine br (Z9 (vP vs) (show vP vs 0 (#[],[]) from⟨λJ h=>(nomatch h),rfl,λj x h=>by rw[Array.getElem?_empty] at h;nomatch h⟩) (λi b hi hb=>?_) λb hb=>?_)
 .obtain⟨x,u,g1,_⟩:=hv i hi
  refine zb seq ?_
  refine bm_if_false (by rw[show(b.2.any λx=>x.1.onHeap)=false from any_eq_false.mpr λp hp=>by rw[(hb.none p hp).2];exact em];rfl) ?_
  rw[Array.getD_eq_getD_getElem?,g1]
  refine zb (x:=some (x,none)) (PySem.wpAny_holding (jw Lh ⟨rfl,rfl⟩)) (zb seq ?_)
  exact bm_if_false (bne_self_eq_false _) (dD ⟨⟨_,rfl,hb.push g1⟩,rfl⟩)
 .have Ma:b.1.toList.map (·.toList)=bs:=by
   refine List.ext_getElem? λj=>?_
   rw[getElem?_map,jA]
   rcases lt_or_ge j vs.size with h | h
   .obtain⟨y,u,g1,g2⟩:=hv j h
    obtain⟨u',g3⟩:=hb.val j _ (oC (by rw[hb.size];exact h))
    rw[oC (by rw[hb.size];exact h),g2]
    cases g1.symm.trans g3
    rfl
   .rw[Array.getElem?_eq_none (by rw[hb.size];exact h),List.getElem?_eq_none (by rw[iB];exact h)];rfl
  refine br (jw (a:=#[]) rfl ?_)
  have aac:(b.1.foldl (λx1 x2=>x1+x2.size) ((#[]:Array UInt8).size*(b.1.size-1)))=bs.flatten.length:=by rw[<- Array.foldl_toList,Z7,Ma,show(#[]:Array UInt8).size=0 from rfl,zero_mul,gk]
  refine bm_if_false (by unfold Builtin.Bytes.tooLong;rw[aac];exact decide_eq_false (Nat.not_lt.mpr hz)) ?_
  have hj:(Builtin.Bytes.joined #[] b.1.toList).toList=bs.flatten:=by rw[Z6,Ma]
  refine br (PySem.wpAny_mkBytes ?_ (by rw[<- du,hj];exact hz))
  refine br (PySem.wpAny_holding (PySem.wpAny_point ?_))
  exact br (aaa (λp hp=>(hb.none p hp).1) (dD ⟨_,rfl,q _ _ _ hj⟩))
end
theorem aad:Manifest.owners.lookup (ofList ['s','e','t','y','b'].reverse)=some Manifest.sig_bytes:=by kernel_rfl
theorem aae (a b):argsOk "bytes.join" ⟨[a,b],[]⟩:=by unfold argsOk;rw[signature?_of (id:="bytes.join") (n:=['n','i','o','j']) (o:=['s','e','t','y','b']) (by kernel_rfl) aad];kernel_rfl
noncomputable def mA:List D->Option (List (List UInt8))
 |[]=>some []
 |d::r=>(mq d).bind λb=>(mA r).map (b :: ·)
theorem aaf{ρ}{U}{h}{vs}{V}{bs}(r:bv ρ U h vs V)(e:mA V=some bs):bs.length=vs.length/\∀i,i<vs.length->∃b t,vs[i]?=some (.bytes b t)/\bs[i]?=some b.toList:=by
 induction V generalizing vs bs with
 |nil=>cases r.jd;cases e;exact⟨rfl,λi h=>nomatch h⟩
 |cons d V ih=>
  obtain⟨v,vs,rfl,ra,rb⟩:=r.inv
  obtain⟨x,hx,e⟩:=jx.mp e
  obtain⟨b',e1,rfl⟩:=pJ e
  cases pE hx
  obtain⟨b,t,rfl,rfl⟩:=ra.fm
  obtain⟨h1,h2⟩:=ih rb e1
  exact⟨aw Nat.succ h1,λi hi=>match i,hi with
   |0,_=>⟨b,t,rfl,rfl⟩
   |i+1,hi=>h2 i (Nat.lt_of_succ_lt_succ hi)⟩
def DX:List D->List M->Res D:=gM λx y st=>aI (mq x) (λz st=>if z=[] then aI (iH y) (λV st=>aI (mA V) (λbs st=>if bs.flatten.length<=sz then .ok (.bytes bs.flatten) st else .stuck) st) st else .stuck) st
theorem cr.tK {lv}:cr lv (.builtin "bytes.join") DX:=.gM λc X v x v' y C w rv nE=>.aI λz hx=>.iff λh0=>.aI λV hy=>.aI λbs hn=>.iff λhz J=>by
 cases pE hx
 cases jG hy
 obtain⟨⟨l⟩,t,rfl,q⟩:=rv.fm
 cases h0.symm.trans q
 obtain⟨a,vs,rfl,I,_,rl⟩:=nE.dO
 obtain⟨h1,h2⟩:=aaf rl hn
 exact wpAny_call_entry Lo (typeIs_bytes _ _ _) Z8 (aab I.isList (λi hi=>by obtain⟨b,t,g1,g2⟩:=h2 i hi;exact⟨b,t,jA.symm.trans g1,g2⟩) h1 (by rw[fo];exact hz) λb t k hb=>.same w rfl rfl rfl (hb▸.bytes b t)) (aae _ _)
set_option tactic.hygienic true in
theorem Mb{a}{n}(h:a.natAbs<2^n):Builtin.Int.intBits a<=n+1:=by
 unfold Builtin.Int.intBits
 split
 .exact zero_le _
 .rename_i hz
  exact succ_le_succ (Nat.le_of_lt ((Nat.log2_lt (by simpa using hz)).mpr h))
def DY:F2:=dm λa b st=>if a.natAbs<2^20000/\b.natAbs<2^20000 then .ok (.int (a*b)) st else .stuck
theorem aag:cH (binaryOp .Mult) DY:=.dm λJ J J J J J J J w=>.iff λhz J=>PySem.P.mul_int (.same w rfl rfl rfl (.int ..)) (.of_bits (bg (Mb hz.1) (by decide)) (bg (Mb hz.2) (by decide)))
noncomputable def yn(V:List D)(n:Int):List D:=(List.replicate n.toNat V).flatten
theorem bv.rep{ρ}{U}{h}{vs}{V}(r:bv ρ U h vs V)(n):bv ρ U h (List.replicate n vs).flatten (List.replicate n V).flatten:=by
 induction n with
 |zero=>exact .nil
 |succ n ih=>rw[List.replicate_succ,List.replicate_succ];exact r.append ih
abbrev yo(V:List D)(n:Int):Prop:=V.length*n.toNat<=sz/\n.natAbs<2^62
theorem aah{prog}{w}{A}{E}{s}{l}{items}{x}{u}{Q}(I:PL s.heap l items)(hx:x.natAbs<2^62)(fa:items.size*x.toNat<=2^24)
  (h:Q (.ref s.heap.objs.size) (kC s {cls:=.type "list",data:=.seq (List.replicate x.toNat items.toList).flatten.toArray})):PySem.wpAny (model prog w) A (binaryOp .Mult (.ref l) (.int x u)) Q E s:=by
 obtain⟨⟨cls,d,data,sl⟩,ho,sH,qv,k,hd⟩:=id I
 simp only at sH hd qv
 subst sH hd qv
 refine wpAny_binaryOp_repeat_ref (T:="list") (U:="int") (by decide) ⟨_,ho,rfl⟩ (λs'=>typeIs_int s' x u) noFill_list_mul F.fills_int_mul F.slot_int_rmul repeat_list F.slot_int_index.lookup
  (call_meets F.slot_int_rmul (typeIs_int s x u) F.entry_int_rmul (F.args_int_rmul_2 _ _) (lm_int_rmul_list_any x u l items k none sl)
   ⟨ho,rfl,⟨_,ho,rfl⟩,call_meets F.slot_list_mul ⟨_,ho,rfl⟩ F.entry_list_mul (F.args_list_mul_2 _ _)
    (lm_list_mul_any l items k none sl x u (by simp[Builtin.List.listFitsIndex];lia) (L3 [(2^63-1)/8,items.size*x.toNat,2^63-1] 0x1a29800000000000000010e08a08c92110000007fa1861087c fa (dl (2^63-1) 7) (sb (2^63) 1)) (by simp[Builtin.List.listTooLong,sizeLine];exact L1 [items.size*x.toNat] 0x10000007fa0010000007fa04a fa))
    ⟨ho,?_⟩⟩)
 rw[listMul_foldl_if]
 exact h
def DZ:F2:=λx y st=>aI (iH x) (λV st=>aI (ft y) (λn st=>if yo V n then .ok (.lst (yn V n)) st else .stuck) st) st
def D0:F2:=λx y st=>aI (iH x) (λV st=>aI (ft y) (λn st=>if yo V n then .ok (.ab st.length) (st++[.list (yn V n)]) else .stuck) st) st
theorem Mc {c} {X} {a b} {V} {n} {Q} {E} (ra:bJ c X a (.lst V)) (rb:bJ c X b (.int n)) (hz:yo V n) (h:∀vs,cq c X vs (yn V n)->Q (.ref X.s.heap.objs.size) (kC X.s {cls:=.type "list",data:=.seq vs.toArray})):PySem.wpAny c.M c.A (binaryOp .Mult a b) Q E X.s:=by
 obtain⟨l,vs,rfl,I,_,rl⟩:=ra.dO
 obtain⟨t,rfl⟩:=rb.dv
 exact aah I hz.2 (by rw[show vs.size=V.length from rl.length];exact hz.1) (h _ (rl.rep _))
theorem aai:cH (binaryOp .Mult) DZ:=λJ c X a b x y C w ha hb=>.aI λV hx=>.aI λn hy=>.iff λhz J=>by
 cases jG hx
 cases gq hy
 exact Mc ha hb hz λvs r=>.keeps w (fV _ _) rfl rfl (J5 w r)
theorem aaj:cH (binaryOp .Mult) D0:=λJ c X a b x y C w ha hb=>.aI λV hx=>.aI λn hy=>.iff λhz J=>by
 cases jG hx
 cases gq hy
 exact Mc ha hb hz λvs r=>J6 w r
section
variable{Z:List (Str×Value)}{bj:List (Str×Int)}{k:Str}
theorem aak{k'}{v}:valueAt ((k',v)::Z) k=if k'=k then some v else valueAt Z k:=by
 unfold valueAt
 rw[find?_cons]
 by_cases q:k'=k
 .rw[ax q,show decide (k'=k)=true from gc q];rfl
 .rw[aY q,show decide (k'=k)=false from decide_eq_false q]
theorem D1(r:kz Z bj):(bj.lookup k=none->valueAt Z k=none)/\∀i,bj.lookup k=some i->∃u,valueAt Z k=some (.int i u):=by
 induction r with
 |nil=>exact⟨λJ=>rfl,λi h=>nomatch h⟩
 |@cons k' u i' Z bj r ih=>
  rw[lookup_cons,aak]
  by_cases q:k'=k
  .subst q
   rw[ax rfl,beq_self_eq_true]
   exact⟨(λh=>nomatch h),λi h=>⟨u,aw (λi=>some (Value.int i u)) (Option.some.inj h)⟩⟩
  .rw[aY q,beq_eq_false_iff_ne.mpr λz=>q z.symm]
   exact ih
theorem aal{i}{u}(r:kz Z bj):kz (Z++[(k,.int i u)]) (bj++[(k,i)]):=by
 induction r with
 |nil=>exact .cons .nil
 |cons _ ih=>exact .cons ih
theorem aam(r:kz Z bj):Z.length=bj.length:=by
 induction r with
 |nil=>rfl
 |cons _ ih=>exact aw Nat.succ ih
theorem aan{v}(r:kz Z bj)(h:bj.lookup k=none):stored Z k v=Z++[(k,v)]:=by
 have:Z.any (λkv=>kv.1=k)=false:=by
  rw[any_eq_false]
  intro p hp
  have h1:=(D1 (k:=k) r).1 h
  unfold valueAt at h1
  rw[Option.map_eq_none_iff,find?_eq_none] at h1
  exact h1 p hp
 unfold stored
 rw[aY (by rw[this];exact em)]
theorem aao(r:kz Z bj):(valueAt Z k).isSome=(bj.lookup k).isSome:=by
 have g:=D1 (k:=k) r
 cases q:bj.lookup k with
 |none=>rw[g.1 q];rfl
 |some i=>obtain⟨u,e⟩:=g.2 i q;rw[e];rfl
end
noncomputable def vQ:M->Option (List (Str×Int))
 |.dict bj=>some bj
 |_=>none
noncomputable def nQ(st:List M):D->Option (List (Str×Int))
 |.ab i=>st[i]?.bind vQ
 |_=>none
inductive Me(c:Cx)(X:Sx)(v:Value)(d:D)(bj:List (Str×Int)):Prop
 |mk (k:Nat) (a:Addr) (Z:List (Str×Value)) (e:d=.ab k) (ev:v=.ref a) (g:X.ρ[k]?=some (a,a)) (hk:X.st[k]?=some (.dict bj)) (h:X.s.heap.DictOf (strKind PW c.w) a Z) (ns:(a==sysModules)=false) (r:kz Z bj):Me c X v d bj
theorem fT.aap{w}{ρ}{U}{h}{p}{m}(x:fT w ρ U h p m):∀{bj},m=.dict bj->p.2=p.1/\(p.1==sysModules)=false/\∃Z,h.DictOf (strKind PW w) p.1 Z/\kz Z bj:=by
 induction x with
 |dict a b c=>intro bj e;cases e;exact⟨b.1,b.2,_,a,c⟩
 |_=>exact λe=>nomatch e
theorem aaq{m}{bj}(h:vQ m=some bj):m=.dict bj:=by
 cases m with
 |dict=>exact aw M.dict (Option.some.inj h)
 |_=>nomatch h
theorem aar{st}{d}{bj}(h:nQ st d=some bj):∃k,d=.ab k/\st[k]?=some (.dict bj):=by
 cases d with
 |ab k=>
  obtain⟨m,e,q⟩:=jx.mp (show st[k]?.bind vQ=some bj from h)
  exact⟨k,rfl,aaq q▸e⟩
 |_=>nomatch h
theorem D2{c}{X}{v}{d}{bj}(w:aC c X)(r:bJ c X v d)(h:nQ X.st d=some bj):Me c X v d bj:=by
 obtain⟨k,rfl,hk⟩:=aar h
 obtain⟨⟨a,b⟩,hp,rfl⟩:=r.qs
 obtain⟨q,ns,Z,x,rl⟩:=(w.jC _ _ _ hp hk).aap rfl
 cases q
 exact⟨k,a,Z,rfl,rfl,hp,hk,x,ns,rl⟩
theorem yp(w)(x)(t):(PySem.strKind PW w).is x (.str x t)=true:=by simp[PySem.strKind,Value.isStrOf]
def D3:F2:=λx d st=>aI (j5 x) (λx st=>aI (nQ st d) (λbj st=>.ok (.bool (!(bj.lookup x).isSome)) st) st) st
theorem aas:cH (compareOp .NotIn) D3:=λJ c X a b x y C w ha hb=>.aI λx hx=>.aI λbj hq J=>by
 cases lj hx
 obtain⟨t,rfl⟩:=ha.fS
 obtain⟨k,d,Z,rfl,rfl,_,_,hd,h3,h4⟩:=D2 w hb hq
 refine wpAny_notIn_of (yp c.w x t) h3 hd.mapOf ?_
 rw[aao h4]
 exact .same w rfl rfl rfl (.bool _)
def yq:F2:=λd k st=>aI (j5 k) (λx st=>aI ((nQ st d).bind (·.lookup x)) (λi st=>.ok (.int i) st) st) st
theorem aat{value slice}(hs:∀o x t,subscripted slice false o (.str x t)=operate [o,.str x t] (getItem o (.str x t))):cH (subscriptTail value slice) yq:=λJ c X a b x y C w ha hb=>.aI λk hk=>.aI λi hi J=>by
 cases lj hk
 obtain⟨t,rfl⟩:=hb.fS
 obtain⟨bj,h1,h2⟩:=jx.mp hi
 obtain⟨j,d,Z,rfl,rfl,_,_,hd,g3,g4⟩:=D2 w ha h1
 obtain⟨u,e⟩:=(D1 (k:=k) g4).2 i h2
 exact tail_any hd.typeIs slot_dict_getitem.lookup (wpAny_getItem_of (yp c.w k t) hd.mapOf e (.same w rfl rfl rfl (.int ..))) (hs ..)
section
variable{K:Ks}
noncomputable def Mf{α:Type}(d:D)(f:Nat->Res α):Res α:=match d with
 |.ab j=>f j
 |_=>.stuck
def yr(v x k:D)(st:List M):Res Unit:=aI (ft v) (λi st=>aI (j5 k) (λk st=>aI (nQ st x) (λbj st=>Mf x λj=>if bj.lookup k=none/\bj.length<=sz then .ok () (st.set j (.dict (bj++[(k,i)]))) else .stuck) st) st) st
def aau(rv ra ri:SE):SS:=λσ st=>(rv σ st).bind λv st=>(ra σ st).bind λx st=>(ri σ st).bind λi st=>(yr v x i st).bind λJ st=>.ok (.next,σ) st
theorem aav{c}{X}{v x y}{d dx dy}(w:aC c X)(rv:bJ c X v d)(rx:bJ c X x dx)(ry:bJ c X y dy):Sm c no X (yr d dx dy X.st) (.wp c (PySem.setItem x y v)) CW:=.aI λi hi=>.aI λkey hk=>.aI λbj hq=>by
 obtain⟨k,a,Z,rfl,rfl,hp,hm,hd,ns,r⟩:=D2 w rx hq
 refine Sm.iff (p:=bj.lookup key=none/\bj.length<=sz) λhz J=>?_
 cases gq hi
 cases lj hk
 obtain⟨t,rfl⟩:=ry.fS
 obtain⟨u,rfl⟩:=rv.dv
 refine gg<|wpAny_setItem_pairs (yp c.w key t) hd (λY I hs=>?_) (by rw[aam r,fo];exact hz.2)
 rw[aan r hz.1] at I
 obtain⟨ob,_,_,g1,_⟩:=id I
 have P:jh c X k (a,a) (.dict bj) (.dict (bj++[(key,i)])) {X.s with heap:=Y,toks:=X.s.toks+1}:=⟨hp,hm,trivial,λb ob hb e=>(hs.2 b λq=>hb (.inl q)).trans e,rfl,rfl,λb hb=>⟨ob,(hb.elim id id:b=a)▸g1⟩⟩
 exact⟨(),X.put k (.dict (bj++[(key,i)])) {X.s with heap:=Y,toks:=X.s.toks+1},rfl,P.nx,w.lr P λJ=>.dict I ⟨rfl,ns⟩ (aal r),trivial⟩
theorem bQ.D4{o i value}{p pos}{rv ra ri}(hv:ay K value rv)(ha:ay K o ra)(hi:ay K i ri)(hs:autoParam (∀env,swapsWith value (some (.Subscript o i p)) pos.line env=pure false) k2) :
  bQ K (.Assign [.Subscript o i p] value pos) (aau rv ra ri):=λc σ X C ok hr=>
 K3 (Sm.jY C ok (hv c σ X C ok) (G:=λv=>(PT.wp c (eval o c.env)).bind λov=>(PT.wp c (eval i c.env)).bind λiv=>(PT.wp c (PySem.setItem ov iv v)).bind λJ=>.pure Flow.next) (P':=eO K c) (λd v aa J lw cV=>
  .jY C lw (ha c σ aa C lw) λdx x ae la ig cQ=>.jY C ig (hi c σ ae C ig) λdy y ai jE j7 CY=>.jY C j7 (aav j7.w (jE.rd (la.rd cV)) (jE.rd cQ) CY) λJ J U J iM J=>.pure iM.w (.next iM)) hr) (hs _)
end
section
variable{c:Cx}{gE:Expr}{body:List Stmt}{R:Result->Shared->Prop}
def Mg(c:Cx)(body:List Stmt)(R:Result->Shared->Prop)(au:Nat->Shared->Prop)(n:Nat):Bool->Shared->Prop
 |true,s=>af c.M c.A (execs body c.env) (vC au n λf=>R (.ok f)) (fv c R) s
 |false,s=>R (.ok .next) s
theorem aaw{s}(au:Nat->Shared->Prop)(eY:∀n s,au n s->af c.M c.A (isTrue gE c.env (eval gE c.env)) (Mg c body R au n) (fv c R) s)(n)(h:au n s):dk c.M c.A (.whileLoop gE body [] c.env) R s:=by
 refine Ju rfl rfl au (λn s hI=>?_) n h
 show af _ c.A ((whileTurn gE body [] c.env).onRaise (λx=>do noteFrame x c.env;theTreesLotGoes x)) _ _ s
 refine xg ?_
 unfold whileTurn
 refine ak (aE (eY n s hI) (λb aX b9=>?_) λJ J Y=>Y)
 cases b with
 |false=>exact ak (uY (aT b9))
 |true=>
  refine ak (aE (show af _ _ _ _ _ _ from b9) (λf cF eL=>?_) λJ J Y=>Y)
  cases f with
  |next | cont=>exact aT ⟨rfl,eL⟩
  |brk | ret=>exact aT eL
end
noncomputable def jL(t:ST)(b:SS):Nat->SS
 |0,_,_=>.stuck
 |n+1,σ,st=>(t σ st).bind λx st=>if x then(b σ st).bind (jH (jL t b n)) else .ok (.next,σ) st
noncomputable def aax(N:Nat)(t:ST)(b:SS):SS:=jL t b N
inductive D5(K:Ks)(c:Cx)(X:Sx)(t:ST)(b:SS)(R:Res (Fl×List (Option D)))(n:Nat):Shared->Prop
 |mk (σ:List (Option D)) (ae:Sx) (o:Ok K c σ ae) (nx:Nx c (cK c) X ae) (e:R=jL t b n σ ae.st):D5 K c X t b R n ae.s
section
variable{K:Ks}{c:Cx}{X:Sx}{gE:Expr}{body:List Stmt}{rt:ST}{rb:SS}{R:Res (Fl×List (Option D))}{Q:Flow->Shared->Prop}{EE:Value->Shared->Prop}
theorem aay{n}{σ}{ae}(C:cj K c)(w:aC c X)(hb:eg K body rb)(hr:R≠.stuck)(ji:∀f s,Po c (cK c) X R (eO K c) f s->Q f s)(ii:∀x s,dW c (cK c) X R x s->EE x s)(o:Ok K c σ ae)(nx:Nx c (cK c) X ae){x}
  (e:R=if x then(rb σ ae.st).bind (jH (jL rt rb n)) else .ok (.next,σ) ae.st):Mg c body (xT c Q EE) (D5 K c X rt rb R) (n+1) x ae.s:=by
 cases x with
 |false=>exact ji _ _ ⟨_,ae,e,nx,o.w,.next o⟩
 |true=>
  replace e:R=(rb σ ae.st).bind (jH (jL rt rb n)):=e
  refine aE (hb c σ ae C o (gH (e▸hr))) (λf s p=>?_) λx s p=>?_
  .obtain⟨⟨fl,Lx⟩,nJ,qI,jf,pz,iM,qJ⟩:=p
   have e':=e.trans (aw (Res.bind · _) qI)
   exact Lv (c:=c) (wr:=[]) qJ e' (λe=>⟨n,lt_succ_self n,Lx,nJ,iM,nx.trans jf,e⟩) λv d e g=>ji _ _ ⟨_,nJ,e,nx.trans jf,pz,iM,g⟩
  .obtain⟨nJ,qI,jf,pz,qJ⟩:=p
   exact vB (ae:=X) C.frames C.top w.base (.mk nJ (e.trans (aw (Res.bind · _) qI)) (nx.trans jf) pz (qJ.back nx)) λs' p=>Dk w.base p λcG p=>ii _ _ (by
    obtain⟨aa,e,n,w,f⟩:=p
    exact .mk aa e n w f.Di)
theorem aaz{N}{σ}(C:cj K c)(w:aC c X)(ht:ec K gE rt)(hb:eg K body rb)(hr:R≠.stuck)(ji:∀f s,Po c (cK c) X R (eO K c) f s->Q f s)(ii:∀x s,dW c (cK c) X R x s->EE x s)(o:Ok K c σ X)(e:R=jL rt rb N σ X.st):dk c.M c.A (.whileLoop gE body [] c.env) (xT c Q EE) X.s:=by
 refine aaw (D5 K c X rt rb R) (λn s p=>?_) N (.mk σ X o .refl e)
 obtain⟨σ,ae,o,nx,e⟩:=p
 cases n with
 |zero=>exact absurd e hr
 |succ n=>
  replace e:R=(rt σ ae.st).bind λx st=>if x then(rb σ st).bind (jH (jL rt rb n)) else .ok (.next,σ) st:=e
  refine aE (ht c σ ae C o (gH (e▸hr))) (λb s p=>?_) λx s p=>?_
  .obtain⟨x,aa,ex,nY,wY,rfl⟩:=p
   exact aay C w hb hr ji ii (o.next C wY nY) (nx.trans nY.kA) (e.trans (aw (Res.bind · _) ex))
  .obtain⟨aa,ex,nY,wY,f⟩:=p
   exact vB (ae:=X) C.frames C.top w.base (.mk aa (e.trans (aw (Res.bind · _) ex)) (nx.trans nY.kA) wY (f.back nx)) λs' p=>Dk w.base p λcG p=>ii _ _ (by
    obtain⟨aa,e,n,w,f⟩:=p
    exact .mk aa e n w f.Di)
theorem bQ.while{pos}{N}(ht:ec K gE rt)(hb:eg K body rb):bQ K (.While gE body [] pos) (aax N rt rb):=λc σ X C o hr=>by
 show af _ _ (standAt pos >>= λJ=>runOwn (.whileLoop gE body [] c.env) c.env) _ _ X.s
 exact ak (cB (JB (BB (aaz C o.w ht hb hr (λJ J p=>p) (λJ J p=>p) o rfl) λr s q=>by cases r <;> exact q)))
theorem aaA{prog}{w}{A}{E}{s}{env}{x kZ op value pos}{Q}
  (h:af (model prog w) A (loadName env x) (λold am=>af (model prog w) A (eval value env) (λv aX=>af (model prog w) A (inplaceOp op old v)
   (λr cF=>af (model prog w) A (storeName env x r) (λJ=>Q .next) E cF) E aX) E am) E s) :
  af (model prog w) A (exec (.AugAssign (.Name x kZ) op value pos) env) Q E s:=by
 rw[arm_exec_AugAssign]
 exact ak (cB (ak (aE h (λold am a7=>ak (ci (aE a7 (λv aX b9=>ak (cB (ak (xf (aE b9 (λr cF eL=>
  ak (cB (ak (BH (aE eL (λJ ku m6=>aT m6) λJ J x=>x))))) λJ J x=>x))))) λJ J x=>x))) λJ J x=>x)))
def yt:F2:=dm λa b st=>.ok (.int (a+b)) st
theorem aaB:cH (inplaceOp .Add) yt:=.dm λJ c X i j t u C w J=>AutoIntOps.iadd_0 (.same w rfl rfl rfl (.int ..))
noncomputable def Mh(i:Nat)(r:F2)(rv:SE)(σ:List (Option D)):Option (Option D)->List M->Res (Fl×List (Option D))
 |some (some d),st=>(rv σ st).bind λv st=>(r d v st).bind λx st=>.ok (.next,σ.set i (some x)) st
 |_,_=>.stuck
noncomputable def yu(i:Nat)(r:F2)(rv:SE):SS:=λσ st=>Mh i r rv σ σ[i]? st
theorem aaC{i}{r}{rv}{σ}{st}(h:yu i r rv σ st≠.stuck):∃d,σ[i]?=some (some d)/\yu i r rv σ st=(rv σ st).bind λv st=>(r d v st).bind λx st=>.ok (.next,σ.set i (some x)) st:=by
 unfold yu at h ⊢
 cases q:σ[i]? with
 |none=>rw[q] at h;exact absurd rfl h
 |some y=>cases y with
  |none=>rw[q] at h;exact absurd rfl h
  |some d=>exact⟨d,rfl,rfl⟩
theorem aaD{x}{v}{Q}{E}{s}(C:cj K c)(I:mi c.env s.heap x v)(q:Q v s):af c.M c.A (loadName c.env x) Q E s:=by
 rcases I with⟨h1,m,h2,h3⟩ | ⟨h1,a,h2,h3⟩
 .exact gg<|wpAny_loadName_local (kB C) h1 h2 h3 q
 .exact gg<|h1.elim (λh1=>wpAny_loadName_cell (kB C) h1 h2 h3 q) λh1=>wpAny_loadName_free (kB C) h1.1 h2 h3 q h1.2
theorem bQ.aug{i}{x}{px pos}{op}{e}{r}{rv}(hb:Bound K i x)(hf:cH (inplaceOp op) r)(h:ay K e rv):bQ K (.AugAssign (.Name x px) op e pos) (yu i r rv):=λc σ X C o hr=>by
 obtain⟨d,nc,qG⟩:=aaC hr
 obtain⟨y,v,hy,I,hv⟩:=o.var i d nc
 cases hb.1.symm.trans hy
 rw[qG] at hr ⊢
 exact aaA (aaD C I (Sm.jY C o (h c σ X C o) (G:=λv'=>(PT.wp c (inplaceOp op v v')).bind λr=>.store c x r) (P':=eO K c) (λd' v' aa n lw cV=>.pA C lw (hf _ c aa v v' d d' C.toCxA lw.w (n.rd hv) cV).g λagU agV ae ig cQ=>.store C ig hb cQ) hr))
noncomputable def Mi(x:Str)(i:Int):SE:=λJ st=>.ok (.ab st.length) (st++[.dict [(x,i)]])
theorem aaE{lv}(C:CxA lv c)(w:aC c X):(X.s.heap.objs.size==sysModules)=false:=beq_eq_false_iff_ne.mpr λz=>
 absurd (z▸Heap.lt_size ((C.X.keeps w.base) 513 _ (show(KF c.w.params).lookup 513=some _ from rfl)):513<sysModules) (by decide)
theorem ay.D6{x}{i}{k k'}{p p' pos}:ay K (.Dict [some (.Constant (.str x) k p)] [.Constant (.int i) k' p'] pos) (Mi x i):=λc σ X C o hr=>by
 have bc:∀{Y u tk},Y.DictOf (PySem.strKind PW c.w) X.s.heap.objs.size [(x,.int i u)]->Heap.SameBut X.s.heap.objs.size (X.s.heap.push {cls:=.type "dict",data:=.dict #[]}) Y->Po c no X (Mi x i σ X.st) (cm c) (.ref X.s.heap.objs.size) {X.s with heap:=Y,toks:=tk}:=fun{Y u tk} hd hs=>by
  have kp:eZ X.s.heap Y:=λa o e=>(hs.2 a (ne_of_lt (Heap.lt_size e))).trans (ga _ e)
  have new:∀a,(a=X.s.heap.objs.size\/a=X.s.heap.objs.size)->X.s.heap.get? a=Option.none:=λa ha=>(ha.elim id id:a=_)▸ia _
  exact⟨.ab X.st.length,X.plus (X.s.heap.objs.size,X.s.heap.objs.size) (.dict [(x,i)]) {X.s with heap:=Y,toks:=tk},rfl,.iF o.w.len kp new,o.w.iF kp rfl rfl new λJ=>.dict hd ⟨rfl,aaE C.toCxA o.w⟩ (.cons .nil),Rd.iF o.w⟩
 refine gg<|wpAny_Dict_pairs (knd:=PySem.strKind PW c.w) (pairs:=[(eval (.Constant (.str x) k p) c.env,(eval (.Constant (.int i) k' p') c.env >>= λx=>standAt pos >>= λJ=>pure x))]) rfl (by simp) (by simp) ?_
 refine evalPairs_cons (PySem.wpAny_Constant_str (br (PySem.wpAny_Constant_int (br (PySem.wpAny_standAt (dD (evalPairs_nil ?_)))))))
 exact⟨[(x,.int i _)],⟨yp _ _ _,rfl,trivial⟩,Heap.DictOf.new X.s.heap,λY hd hs=>bc hd hs⟩
end
noncomputable def mB(C t:Addr):Obj:={cls:=.ref C,data:=.fields #[.ref t,.none,.none,.none,.bool false,.none]}
@[reducible] noncomputable def yw (s:Shared) (v:Value):Shared:=kC (kC s {cls:=.type "tuple",data:=.seq #[v]}) (mB 57 s.heap.objs.size)
noncomputable abbrev ik:Str:=⟨#[114,101,97,115,111,110]⟩
section
variable{prog:Program}{w:World}{A:Around}{R:Result->Shared->Prop}{E:Value->Shared->Prop}{s:Shared}{P:Params}
def yx(P:Params):Obj:=((KF P).lookup 57).getD {cls:=.none,data:=.fields #[]}
theorem fK(X:(KF P).In s.heap):s.heap.get? 57=some (yx P):=X 57 _ rfl
theorem aaF {v} (X:(KF P).In s.heap) (hq:R (.ok (.ret (.ref (kC s {cls:=.type "tuple",data:=.seq #[v]}).heap.objs.size))) (yw s v)) :
  PySem.codeAny (model prog w) A (.call (.builtin "ValueError.__new__") ⟨[.ref 57,v],[]⟩) R s:=by
 have h:=fK X
 refine codeAny_call_builtin_code (Code.quiet_builtin _ PySem.F.excBase_ValueError.quiet) (zL h<|zL h<|zL h<|zL h<|zL h<|zL h<|zL h<|zP (a:=()) ?_)
 exact codeAny_builtinAt PySem.F.excBase_ValueError.entry (zT λp below=>zL h<|zL h<|zL h<|zL h<|zL h<|zL h<|zL h<|zL h<|zL h<|zA (o:={cls:=.type "tuple",data:=.seq #[v]})<|zA (o:=mB 57 s.heap.objs.size)<|zL (ga _ (ga _ h))<|zP (a:=.done (.ret (.ref (kC s {cls:=.type "tuple",data:=.seq #[v]}).heap.objs.size))) hq)
theorem aaG{v}{e t}{Q}(X:(KF P).In s.heap)(he:s.heap.get? e=some (mB 57 t))(h:PySem.codeAny (model prog w) (A.mark none) (.call (.ref 29) ⟨[.ref e,v],[]⟩) (λr s'=>r=.ok (.ret .none)/\Q (.done (.ret (.ref e))) s') s) :
  PySem.wpAny (model prog w) A ((nd ((nd ((nd ((nd (Builtin.«type.__call__» ⟨[.ref 57,v],[]⟩)).L (yx P))).L (yx P))).L (yx P))).C (.ok (.ret (.ref e)))) Q E s:=
 zL he<|zL (fK X)<|zL he<|zL (fK X)<|zL (fK X)<|zL (X 56 _ rfl)<|zL (X 32 _ rfl)<|zL (X 31 _ rfl)<|zL (X 29 _ rfl)<|zC (c:=.call (.ref 29) ⟨[.ref e,v],[]⟩) (h:=none) (PySem.codeAny_mono h λr s' ⟨e,q⟩=>e▸zP q)
theorem aaH{v}{Q}(X:(KF P).In s.heap)(h:∀(A') (e),A'.depth=A.depth+1->s.heap.get? e=none->(yw s v).heap.get? e=some (mB 57 s.heap.objs.size)->PySem.codeAny (model prog w) A' (.call (.ref 29) ⟨[.ref e,v],[]⟩) (λr s'=>r=.ok (.ret .none)/\Q (.ref e) s') (yw s v)):PySem.wpAny (model prog w) A (PySem.call (.ref 57) [v]) Q E s:=by
 refine PySem.wpAny_call (PySem.codeAny_of_tree ?_)
 show PySem.wpAny _ _ (callAny (.ref 57) ⟨[v],[]⟩) _ _ _
 refine zL (fK X)<|zL (fK X)<|zP (a:=.again (.call (.builtin "type.__call__") ⟨[.ref 57,v],[]⟩)) ⟨rfl,codeAny_call_builtin_at (Code.quiet_builtin _ (by decide +kernel)) entry_typeCall (zL (fK X)<|zP (a:=()) ?_)⟩
 refine zL (fK X)<|zL (fK X)<|zL (fK X)<|zC (aaF X ?_) (c:=.call (.builtin "ValueError.__new__") ⟨[.ref 57,v],[]⟩) (h:=none)
 exact aaG (X.keeps λb o e=>ga _ (ga _ e)) (gi _ rfl) (h _ _ rfl (qz (by rw[Heap.size_push];exact le_succ _)) (gi _ rfl))
theorem aaI{v}{e}{vs}{sl}{tk}{Q}(X:(KF P).In s.heap)(he:s.heap.get? e=some ⟨.ref 57,none,.fields vs,sl⟩)
  (h:∀Y d tk,Y.get? e=some ⟨.ref 57,some d,.fields vs,sl⟩->(∀b o,b≠e->s.heap.get? b=some o->Y.get? b=some o)->Q (.done (.ret .none)) {s with heap:=Y,toks:=tk}):PySem.wpAny (model prog w) A (Builtin.«object.__setattr__» ⟨[.ref e,.str ik tk,v],[]⟩) Q E s:=by
 have hd:(s.heap.push {cls:=.type "dict",data:=.dict #[]}).get? s.heap.objs.size=some {cls:=.type "dict",data:=.dict #[]}:=gi _ rfl
 have bq:e≠s.heap.objs.size:=ne_of_lt (Heap.lt_size he)
 refine zL he<|zL (fK X)<|zL he<|zL (fK X)<|zL (fK X)<|zL (X 56 _ rfl)<|zL (X 32 _ rfl)<|zL (X 31 _ rfl)<|zL he<|zL (fK X)<|zA (o:={cls:=.type "dict",data:=.dict #[]}) ?_
 have jD:=ga {cls:=.type "dict",data:=.dict #[]} he
 have kp:∀b o,b≠e->s.heap.get? b=some o->b≠s.heap.objs.size/\(s.heap.push {cls:=.type "dict",data:=.dict #[]}).get? b=some o:=λb o J eb=>⟨ne_of_lt (Heap.lt_size eb),ga _ eb⟩
 generalize s.heap.push {cls:=.type "dict",data:=.dict #[]}=h1 at hd jD kp ⊢
 generalize s.heap.objs.size=d at hd bq kp ⊢
 have tv:=λf=>(Heap.get?_update_other h1 f bq).trans hd
 refine zU jD<|zK<|zF<|zL (tv _)<|zU (tv _)<|zL (Heap.get?_update_self _ (tv _) rfl)<|zP (h _ d _ (((Heap.get?_update_other _ _ (Ne.symm bq)).trans (Heap.get?_update_self _ jD rfl)).trans (by kernel_rfl)) λb o hb eb=>?_)
 obtain⟨k1,k2⟩:=kp b o hb eb
 exact(Heap.get?_update_other _ _ (Ne.symm k1)).trans ((Heap.get?_update_other _ _ (Ne.symm hb)).trans k2)
theorem aaJ{v}{e}{vs}{sl}{Q}(X:(KF P).In s.heap)(he:s.heap.get? e=some ⟨.ref 57,none,.fields vs,sl⟩)
  (h:∀Y d tk,Y.get? e=some ⟨.ref 57,some d,.fields vs,sl⟩->(∀b o,b≠e->s.heap.get? b=some o->Y.get? b=some o)->Q () {s with heap:=Y,toks:=tk}):PySem.wpAny (model prog w) A (setAttr (.ref e) ik v) Q E s:=
 zF<|zL he<|zL (fK X)<|zL (fK X)<|zL (X 56 _ rfl)<|zL (X 32 _ rfl)<|zL (X 31 _ rfl)<|zC (c:=.call (.builtin "object.__setattr__") ⟨[.ref e,.str ik s.toks,v],[]⟩) (h:=none)
  (codeAny_call_builtin_at (Code.quiet_builtin _ (by decide +kernel)) PySem.F.store_object.entry (zL he<|zL (fK X)<|zP (a:=()) (aaI X he λY d tk g k=>zP (a:=()) (h Y d tk g k))))
theorem aaK {v} {e t} {Q} (X:(KF P).In s.heap) (he:s.heap.get? e=some (mB 57 t)) (h:∀Y t',Y.get? e=some (mB 57 t')->(∀b o,b≠e->s.heap.get? b=some o->Y.get? b=some o)->Q .none {s with heap:=Y}):PySem.wpAny (model prog w) A (PySem.call (.builtin "ValueError.__init__") [.ref e,v]) Q E s:=by
 have jD:=ga {cls:=.type "tuple",data:=.seq #[v]} he
 exact PySem.wpAny_call (PySem.codeAny_call_builtin PySem.F.excBase_ValueError.init.plain PySem.F.excBase_ValueError.initEntry (zL he<|zL (fK X)<|zL he<|zL (fK X)<|zP (a:=())<|zA (o:={cls:=.type "tuple",data:=.seq #[v]})<|zL jD<|zL jD<|zU jD<|zP (a:=.done (.ret .none)) (h _ s.heap.objs.size ((Heap.get?_update_self _ jD rfl).trans (by kernel_rfl)) λb o hb eb=>(Heap.get?_update_other _ _ (Ne.symm hb)).trans (ga _ eb))))
noncomputable abbrev kI:Str:=⟨#[115,101,108,102]⟩
noncomputable abbrev pT:Str:=⟨#[86,97,108,117,101,69,114,114,111,114]⟩
noncomputable abbrev tL:Str:=⟨#[95,95,105,110,105,116,95,95]⟩
noncomputable def Mj:List Stmt:=[
 .Expr (.Call (.Attribute (.Name pT ⟨5,8,5,18⟩) tL ⟨5,8,5,27⟩) [.Name kI ⟨5,28,5,32⟩,.Name ik ⟨5,34,5,40⟩] [] ⟨5,8,5,41⟩) ⟨5,8,5,41⟩,
 .Assign [.Attribute (.Name kI ⟨6,8,6,12⟩) ik ⟨6,8,6,19⟩] (.Name ik ⟨6,22,6,28⟩) ⟨6,8,6,28⟩]
noncomputable def vR:Scope:={kind:=.function,names:=[(kI,.local),(ik,.local),(pT,.globalImplicit)],isGenerator:=false,isCoroutine:=false,more:=[]}
noncomputable def Mk:Arguments:=⟨[],[⟨kI,none,⟨4,17,4,21⟩⟩,⟨ik,none,⟨4,23,4,29⟩⟩],none,[],[],none,[(.Constant (.str ⟨#[]⟩) 0 ⟨4,30,4,32⟩)]⟩
theorem aaL:dM 1 0=(Mk,Mj,vR):=by kernel_rfl!
noncomputable abbrev D7:Str:=⟨#[66,111,97,114,100,69,114,114,111,114,46,95,95,105,110,105,116,95,95]⟩
noncomputable abbrev Ml:FuncData:=fnOf tL D7 Mk Mj vR (.ref 22) .none .none (.str ⟨#[112,105,112,101,98,111,97,114,100,46,101,114,114,111,114,115]⟩ 187) none (.ref 28) .none
theorem aaM (P):(KF P).lookup 29=some ⟨.type "function",none,.func Ml,#[]⟩:=by
 have e:(KF P).lookup 29=some (fO tL D7 (dM 1 0) (.ref 22) (.str ⟨#[112,105,112,101,98,111,97,114,100,46,101,114,114,111,114,115]⟩ 187) 28):=rfl
 rw[e,aaL];rfl
theorem aaN (P):findCls (KF P) (.type "ValueError") (.type "type") tL=some (.val (.builtin "ValueError.__init__")):=by kernel_rfl
theorem aaO(P):nsIn (KF P) mainGlobals pT=some none:=by kernel_rfl
structure kJ(env:Env)(h:Heap)(e:Addr)(v:Value):Prop where
 scope:env.scope=vR
 globals:env.globals=mainGlobals
 builtins:env.builtins=builtinsNs
 ns:∃m,h.Ns env.locals m/\m kI=some (.ref e)/\m ik=some v
section
variable{env:Env}{e:Addr}{v:Value}(L:kJ env s.heap e v)
include L
theorem kJ.kind:env.scope.kind=.function:=by rw[L.scope];rfl
theorem kJ.self{pos}{Q}(q:Q (.ref e) s):PySem.wpAny (model prog w) A (eval (.Name kI pos) env) Q E s:=
 let ⟨_,n,h,_⟩:=L.ns;PySem.wpAny_Name (wpAny_loadName_local L.kind (by show env.scope.names.lookup _=_;rw[L.scope];rfl) n h q) (by decide)
theorem kJ.reason{pos}{Q}(q:Q v s):PySem.wpAny (model prog w) A (eval (.Name ik pos) env) Q E s:=
 let ⟨_,n,_,h⟩:=L.ns;PySem.wpAny_Name (wpAny_loadName_local L.kind (by show env.scope.names.lookup _=_;rw[L.scope];rfl) n h q) (by decide)
theorem kJ.keeps{Y}(k:∀o,s.heap.get? env.locals=some o->Y.get? env.locals=some o):kJ env Y e v:=
 ⟨L.scope,L.globals,L.builtins,let ⟨m,⟨ob,Z,ep,g1,g2⟩,h⟩:=L.ns;⟨m,⟨ob,Z,ep,k _ g1,g2⟩,h⟩⟩
end
set_option maxHeartbeats 4000000 in
theorem aaP{w}{B db}{mg mb m}{env}{e t}{v}{Q'}(X:(KF w.params).In db)(Xs:(KF w.params).In s.heap)(XB:(KF w.params).In B)(T:TopRead Q (looseW Q jV) mg mb B)(hB:B.StaysIn s.heap)(F:Fr db env.locals s.heap m)(L:kJ env s.heap e v)(he:s.heap.get? e=some (mB 57 t))(I:e≠env.locals)
  (h:∀Y tk t',kJ env Y e v->Y.get? e=some (mB 57 t')->(∀b o,b≠e->s.heap.get? b=some o->Y.get? b=some o)->Q' .next {s with heap:=Y,toks:=tk}) :
  PySem.wpAny (model PW w) A (exec (.Expr (.Call (.Attribute (.Name pT ⟨5,8,5,18⟩) tL ⟨5,8,5,27⟩) [.Name kI ⟨5,28,5,32⟩,.Name ik ⟨5,34,5,40⟩] [] ⟨5,8,5,41⟩) ⟨5,8,5,41⟩) env) Q' E s:=by
 have kv:(pT==("__debug__" : Str))=false:=by decide
 have ke:env.kindOf pT=some .globalImplicit:=by show env.scope.names.lookup _=_;rw[L.scope];rfl
 refine PySem.wpAny_Expr ?_ (by unfold interactive;rw[L.kind];rfl) (by intros;rfl)
 rw[BL rfl rfl rfl]
 refine br (PySem.Calls.Name_function_global L.kind ke (loadGlobal_builtin (mg:=mg) (mb:=mb) (by rw[L.globals];exact T.g.keeps hB) (mg_none_of XB T.g (aaO w.params)) (by rw[L.builtins];exact T.b.keeps hB) ((T.builtins pT (by decide)).trans (show bootBuiltins pT=some (.type "ValueError") by kernel_rfl)) ?_) kv)
 refine br (PySem.wpAny_standAt (br (PySem.wpAny_holding (method_type (K:=KF w.params) (T:="ValueError") (name:=tL) (v:=.builtin "ValueError.__init__") F X (by kernel_rfl) (by kernel_rfl) (aaN w.params) rfl ?_))))
 refine Calls.callWith_builtin rfl (Calls.evalArgs_plain (Calls.spliced_cons (kJ.self (s:={s with toks:=s.toks+1}) L (Calls.spliced_cons (kJ.reason (s:={s with toks:=s.toks+1}) L (Calls.spliced_nil ?_))))))
 exact aaK (s:={s with toks:=s.toks+1}) Xs he λY t' g k=>h Y _ t' (L.keeps λo q=>k _ o (Ne.symm I) q) g k
theorem aaQ{env}{e t}{v}{Q'}(X:(KF P).In s.heap)(L:kJ env s.heap e v)(he:s.heap.get? e=some (mB 57 t))
  (h:∀Y d tk,Y.get? e=some ⟨.ref 57,some d,.fields #[.ref t,.none,.none,.none,.bool false,.none],#[]⟩->(∀b o,b≠e->s.heap.get? b=some o->Y.get? b=some o)->Q' .next {s with heap:=Y,toks:=tk}) :
  PySem.wpAny (model prog w) A (exec (.Assign [.Attribute (.Name kI ⟨6,8,6,12⟩) ik ⟨6,8,6,19⟩] (.Name ik ⟨6,22,6,28⟩) ⟨6,8,6,28⟩) env) Q' E s:=
 plainObj_wpAny_Assign_Attribute (L.reason (L.self (aaJ X he h))) (by intros;rfl)
theorem aaR{w}{B}{mg mb}(X:(KF w.params).In B)(T:TopRead Q (looseW Q jV) mg mb B)(hB:B.StaysIn s.heap)(BC:A.depth<recursionLimit)
  {e t:Addr}{x:Str}{k:Tok}(qw:B.get? e=none)(he:s.heap.get? e=some (mB 57 t)){R:Result->Shared->Prop}
  (h:∀Y tk d t',Y.get? e=some ⟨.ref 57,some d,.fields #[.ref t',.none,.none,.none,.bool false,.none],#[]⟩->(∀b o,b≠e->s.heap.get? b=some o->Y.get? b=some o)->R (.ok (.ret .none)) {s with heap:=Y,toks:=tk}) :
  PySem.codeAny (model PW w) A (.call (.ref 29) ⟨[.ref e,.str x k],[]⟩) R s:=by
 have XS:(KF w.params).In s.heap:=X.keeps hB
 have nr:BindsTo s Ml ⟨[.ref e,.str x k],[]⟩ [(kI,.ref e),(ik,.str x k)]:=BindsTo.of_defaults rfl (XS 22 _ (show(KF w.params).lookup 22=some _ from rfl)) rfl rfl rfl
 refine PySem.codeAny_call_function BC (XS 29 _ (aaM w.params)) rfl rfl rfl rfl (codeRec_of XS (show codeIn (KF w.params) (.ref 28) D7=true by kernel_rfl)) (nr _ _ _ _ ?_)
 refine wpAny_newFunctionEnv_cells rfl (λx hx=>.inl ((dI.mp hx).elim (λq=>q▸rfl) λhx=>dT.mp hx▸rfl)) λbY D8 s' xx=>?_
 have md:=xx.toInCall.keep
 have Mm:bY.scope=vR:=by rw[D8];rfl
 have ib:∀y,bY.kindOf y=vR.names.lookup y:=λy=>by show bY.scope.names.lookup y=_;rw[Mm]
 obtain⟨a7,agW,gd,_⟩:=xx.done
 have nd:([(kI,Value.ref e),(ik,.str x k)].map (·.1)).Nodup:=show[kI,ik].Nodup by decide
 have L:kJ bY s'.heap e (.str x k):=⟨Mm,by rw[D8];rfl,by rw[D8];rfl,_,xx.toInCall.ns,Cf ((ib _).trans rfl) nd (.head _) _,Cf ((ib _).trans rfl) nd (.tail _ (.head _)) _⟩
 have F:Fr s.heap bY.locals s'.heap (bindL bY.kindOf [(kI,.ref e),(ik,.str x k)] λJ=>none):=⟨xx.toInCall.ns,md,xx.toInCall.fresh⟩
 have Mn:B.StaysIn s'.heap:=λb o q=>md b o (hB b o q)
 refine⟨(T.nolimit.keeps hB).keeps md,PySem.codeAny_func (PySem.wpAny_execs_cons (aaP XS (X.keeps Mn) X T Mn F L (md _ _ he) (λz=>absurd (Heap.lt_size he) (Nat.not_lt.mpr (z▸xx.toInCall.fresh))) λh3 tk3 t3 L3 he3 k3=>?_))⟩
 have X3:(KF w.params).In h3:=λb o I=>k3 b o (λz=>(nomatch (z▸X b o I:B.get? e=some o).symm.trans qw)) (md _ _ (XS b o I))
 refine PySem.wpAny_execs_cons (aaQ (s:={s' with heap:=h3,toks:=tk3}) X3 L3 he3 λh4 d tk4 g4 k4=>PySem.wpAny_execs_nil ?_)
 subst gd
 exact h h4 tk4 d t3 g4 λb o hb eb=>k4 b o hb (k3 b o hb (md b o eb))
end
theorem aaS{M}{A}{E}{s}{P}{env}{e d t}{Q}(X:(KF P).In s.heap)(hh:A.handled=none)
  (he:s.heap.get? e=some ⟨.ref 57,some d,.fields #[.ref t,.none,.none,.none,.bool false,.none],#[]⟩)(hE:E (.ref e) s):PySem.wpAny M A (raiseStmt env (some (pure (.ref e))) none) Q E s:=
 zL he<|zL he<|zL (fK X)<|zL he<|zL he<|zL (fK X)<|zL he<|zH hh<|zR hE
def vS(d:D)(st:List M):Res (Fl×List (Option D)):=aI (j5 d) (λJ st=>.bad st) st
def Mo(a:SE):SS:=λσ st=>(a σ st).bind vS
noncomputable def D9(c:Cx)(pos:Pos)(vs:List Value)(kw:List (Str×Value)):PT Flow:=⟨λQ E s=>af c.M c.A (PySem.call (.ref 57) vs kw) (λv s=>af c.M c.A (standAt pos >>= λJ=>pure v) (λv s=>af c.M c.A (raiseStmt c.env (some (pure v)) none) Q E s) E s) E s,
 λh a e=>aE h (λJ J h=>aE h (λJ J h=>aE h a e) e) e⟩
section
variable{K:Ks}{c:Cx}{X:Sx}
theorem aaT{lv}{W}{pos}{v}{d}{P}(C:CxA lv c)(w:aC c X)(r:bJ c X v d):Sm c W X (vS d X.st) (D9 c pos [v] []) P:=.aI λz hz J=>by
 cases lj hz
 obtain⟨t,rfl⟩:=r.fS
 have XX:=C.X.keeps w.base
 show af c.M c.A (PySem.call (.ref 57) [.str z t]) _ _ _
 refine gg<|aaH XX λA' e hA hn hx=>?_
 have kp:eZ X.s.heap (yw X.s (.str z t)).heap:=λb o e=>ga _ (ga _ e)
 refine aaR C.X C.T (λb o q=>kp b o (w.base b o q)) (by have:=C.depth;show A'.depth<1000;exact L2 [A'.depth,c.A.depth,lv] 0x3843fa26b1901a19023e83fa05b hA this) (w.B2 hn) hx λY tk d t' g k=>⟨rfl,?_⟩
 have kk:eZ X.s.heap Y:=λb o e'=>k b o (λq=>nomatch (q▸e':X.s.heap.get? e=some o).symm.trans hn) (kp b o e')
 exact ak (cB (aT (gg<|aaS (s:={X.s with heap:=Y,toks:=tk}) (XX.keeps kk) C.handled g (.mk (X.to {X.s with heap:=Y,toks:=tk}) rfl (.keeps kk) (w.keeps kk rfl rfl) ⟨e,_,_,rfl,w.nG hn,hn,g,rfl,rfl,.inl rfl⟩))))
theorem aaU{ra}{σ}{st}:(B5 ra xn σ st).bind (eF vS)=(ra σ st).bind vS:=by
 show((ra σ st).bind _).bind _=_
 cases ra σ st <;> rfl
theorem bQ.raise{x}{p vT pos}{arg}{ra}(hx:K.scope.names.lookup x=some .globalImplicit)(e:∀P,nsIn (KF P) mainGlobals x=some (some (.ref 57)))(ha:ay K arg ra)
  (he:autoParam (∀env,starEach [arg] env=(false,eval arg env)::starEach [] env) k2)(fe:autoParam (∀env,(backTo vT (starEach [arg] env)).any (·.1)=false) k2)(hd:autoParam ((x==("__debug__" : Str))=false) dc) :
  bQ K (.Raise (some (.Call (.Name x p) [arg] [] vT)) none pos) (Mo ra):=λc σ X C o hr=>by
 show af _ _ (exec (.Raise (some (.Call (.Name x p) [arg] [] vT)) none pos) c.env) _ _ _
 rw[arm_exec_Raise]
 refine ak (cB ?_)
 show af _ _ ((eval (.Call (.Name x p) [arg] [] vT) c.env >>= λv=>standAt pos >>= λJ=>pure v) >>= λv=>raiseStmt c.env (some (pure v)) none) _ _ X.s
 refine ak (ak (uX (BZ C o hx hd e (Jz (P:=λh=>(KF c.w.params).In h) (by rw[fe];rfl) (Kw (v:=.ref 57) (by kernel_rfl)) ?_))))
 have S:gL K vT [arg] (B5 ra xn):=.cons (.cons ha .nil he) he
 rw[show Mo ra σ X.st=_ from aaU.symm] at hr ⊢
 exact(S c σ X (.ref 57) C o).up.bind (G:=λ(a:Args)=>.guard (λs=>(KF c.w.params).In s.heap) (D9 c pos ([]++a.pos) a.kw)) (P':=eO K c) (λV a aa n w p hr=>by
   obtain⟨vs,kw⟩:=a
   obtain⟨q,r⟩:=p
   cases q
   exact⟨C.X.keeps w.base,Sm.eF (F:=λvs=>D9 c pos vs []) r (λv d r=>aaT C.toCxA w r) hr⟩) hr
theorem bQ.stuck{t}:bQ K t (λJ J=>.stuck):=λJ J J J J hr=>absurd rfl hr
def yy(x:Str)(d:D)(st:List M):Res D:=aI (j5 d) (λy st=>if y.length<=1000000/\x.length<=1000000 then .ok (.str (Str.empty++y++x)) st else .stuck) st
def aaV(x:Str)(a:SE):SE:=λσ st=>(a σ st).bind (yy x)
theorem Mp{M}{A}{E}{s}{x}{cZ}{acc}{Q}
  (h:af M A x (λv am=>∃y t,v=.str y t/\acc.length+y.length<=sizeLine/\af M A (joinParts (acc++y) cZ) Q E am) E s):af M A (joinParts acc (x::cZ)) Q E s:=by
 rw[joinParts]
 refine ak (aE h (λv am ⟨y,t,e,hz,hr⟩=>?_) λJ J e=>e)
 subst e
 refine ak (aT ?_)
 show af M A (if acc.length+y.length>sizeLine then _ else _) Q E am
 rw[aY (Nat.not_lt.mpr hz)]
 first
  |exact hr
  |exact ak (aT hr)
noncomputable def Mq(c:Cx)(x:Str)(k:Nat)(p p':Pos)(v:Value):PT Value:=⟨λQ E s=>af c.M c.A (standAt p >>= λJ=>holding [v] (pure v) >>= λv'=>formatField v' Str.empty) (λv am=>∃y t,v=.str y t/\Str.empty.length+y.length<=sizeLine/\af c.M c.A (joinParts (Str.empty++y) [eval (.Constant (.str x) k p') c.env]) Q E am) E s,
 λh a e=>aE h (λ_ _ ⟨y,t,e1,e2,h⟩=>⟨y,t,e1,e2,aE h a e⟩) e⟩
theorem Mr(y):(Str.empty++y).length=y.length:=by rw[strLen_append];exact gk _
theorem aaW{x}{k}{p p'}{v}{d}(w:aC c X)(r:bJ c X v d):Sm c no X (yy x d X.st) (Mq c x k p p' v) (cm c):=.aI λy hy=>.iff λhz J=>by
 cases lj hy
 obtain⟨t,rfl⟩:=r.fS
 have fa:sizeLine=16777216:=fo
 have bc:∀(t:Tok)(tk:Nat),∃y' t',Value.str y t=.str y' t'/\Str.empty.length+y'.length<=sizeLine/\af c.M c.A (joinParts (Str.empty++y') [eval (.Constant (.str x) k p') c.env]) (Po c no X (.ok (.str (Str.empty++y++x)) X.st) (cm c)) (dW c no X (Res.ok (D.str (Str.empty++y++x)) X.st)) {X.s with toks:=tk}:=λt tk=>
  ⟨y,t,rfl,by show 0+y.length<=_;have:=hz.1;exact L2 [y.length,sizeLine] 0x10000007fa13f42405fa00100a94b hz.1 fa,Mp (gg<|PySem.wpAny_Constant_str ⟨x,_,rfl,by rw[Mr];have:=hz.1;have:=hz.2;exact L3 [y.length,x.length,sizeLine] 0x10000007fa23f42405fa10f42405fa0021094c hz.1 hz.2 fa,gg<|PySem.wpAny_mkStr (.same w rfl rfl rfl (.str ..)) (by rw[strLen_append,Mr];have:=hz.1;have:=hz.2;exact L3 [y.length,x.length,sizeLine] 0x10000007fa23f42405fa10f42405fa0021094c hz.1 hz.2 fa)⟩)⟩
 exact ak (cB (ak (ci (aT (gg<|wpAny_formatField_str (bc t X.s.toks) (bc _ _) (by have:=hz.1;exact L2 [y.length,sizeLine] 0x10000007fa13f42405fa00104b hz.1 fa))))))
theorem ay.Ea{e}{x}{p p' pos}{k}{ra}(ha:ay K e ra):ay K (.JoinedStr [.FormattedValue e (-1) Option.none p,.Constant (.str x) k p'] pos) (aaV x ra):=λc σ X C o hr=>by
 show af _ _ (eval (.JoinedStr [.FormattedValue e (-1) Option.none p,.Constant (.str x) k p'] pos) c.env) _ _ _
 rw[arm_eval_JoinedStr]
 refine Mp ?_
 show af _ _ (eval (.FormattedValue e (-1) Option.none p) c.env) _ _ _
 rw[arm_eval_FormattedValue]
 exact ak ((ha c σ X C o).bind (G:=Mq c x k p p') (P':=cm c) (λd v aa n w r=>aaW w r) hr)
end
theorem aaX{M}{A}{E}{s}{env}{body i9}{db}{hs}{Q}
  (h:af M A body (λf am=>match f with | .next=>af M A i9 Q E am | f=>Q f am)
   (λe am=>af M A (noteFrame e env) (λJ aX=>af M A (setFlight e none) (λJ cF=>af M A (handleBy e env (db::hs)) Q E cF) E aX) E am) s) :
  af M A (tryStmt false body (db::hs) i9 [] env) Q E s:=by
 show af M A (body.attempt >>= _) Q E s
 refine ak (Bx (aE h (λf am a7=>?_) λe am a7=>?_))
 .cases f with
  |next=>exact a7
  |_=>exact aT a7
 .exact ak (aE a7 (λJ J b9=>ak b9) λJ J x=>x)
noncomputable def lC(i:Nat)(a:SE):SS:=λσ st=>match a σ st with
 |.ok d st=>.ok (.next,σ.set i (some d)) st
 |.bad st=>.ok (.ret .none,σ) st
 |.stuck=>.stuck
section
variable{K:Ks}{c:Cx}{X:Sx}{σ:List (Option D)}
theorem aaY {i k} {t} {pt pr pc pe} {r} {x} {s} (C:cj K c) (o:Ok K c σ X) (ht:K.scope.names.lookup t=some .globalImplicit) (I:∀P,nsIn (KF P) mainGlobals t=some (some (.ref 57))) (hd:(t==("__debug__"))=false) (p:gr c no X (r σ X.st) x s) :
  PySem.wpAny c.M c.A (handleBy x c.env [.ExceptHandler (some (.Name t pt)) none [.Return (some (.Constant .none k pc)) pr] pe]) (λf s=>Po c (cK c) X (lC i r σ X.st) (eO K c) f s) (dW c (cK c) X (lC i r σ X.st)) s:=by
 have go:=fun{MM:Model} {A:Around} {E:Value->Shared->Prop}=>Lr (MM:=MM) (A:=A) (E:=E) (f:=Option.none) (Q:=λJ s'=>gr c no X (r σ X.st) x s') o.w.base p λs' p=>p
 obtain⟨aa,hR,n,w,e,oe,vs,rfl,jF,nk,he,kE,_⟩:=p
 refine PySem.wpAny_handleBy_cons (codeAny_handlers_test ?_) nofun
 refine PySem.Calls.Name_function_global (kB C) ((ib C t).trans ht) (loadGlobal_global (mg:=c.mg) (by rw[C.globals];exact C.T.g.keeps w.base) (mg_of C.X C.T.g (I _)) ?_) hd
 obtain⟨cls,dd,data,sl⟩:=oe
 cases kE
 have yz:=fK (C.X.keeps w.base)
 refine zL yz<|zL yz<|zL yz<|zL he<|zL yz<|zP (a:=true) (codeAny_handlers_suite ?_)
 refine PySem.wpAny_mono go (λJ ku B6=>?_) λJ J q=>q
 refine PySem.wpAny_execs_cons (PySem.wpAny_Return_some (PySem.wpAny_Constant_none ?_))
 obtain⟨ae,hR,n,w,_⟩:=B6
 exact⟨(.ret .none,σ),ae,by unfold lC;rw[hR],n.kA,w,o.next C w n,.ret .none⟩
theorem bQ.try{i k}{x t}{px p pt pr pc pe pos}{e}{r}(hb:Bound K i x)(h:ay K e r)(ht:K.scope.names.lookup t=some .globalImplicit)(I:∀P,nsIn (KF P) mainGlobals t=some (some (.ref 57)))
  (hs:autoParam (∀env,swapsWith e (some (.Name x px)) p.line env=pure false) k2)(hd:autoParam ((t==("__debug__" : Str))=false) dc) :
  bQ K (.Try [.Assign [.Name x px] e p] [.ExceptHandler (some (.Name t pt)) none [.Return (some (.Constant .none k pc)) pr] pe] [] [] pos) (lC i r):=λc σ X C o hr=>by
 show af _ _ (exec (.Try [.Assign [.Name x px] e p] [.ExceptHandler (some (.Name t pt)) none [.Return (some (.Constant .none k pc)) pr] pe] [] [] pos) c.env) _ _ _
 rw[arm_exec_Try]
 refine ak (cB (aaX (JA (BJ (aE (h c σ X C o λq=>hr (by unfold lC;rw[q])) (λv am p=>?_) λx am p=>?_) (hs _)))))
 .obtain⟨d,aa,qG,nf,sW,cV⟩:=p
  exact(o.next C sW nf).store C hb.1 hb.2.1 hb.2.2 cV λs' o' n'=>uY (uY ⟨_,aa.to s',by unfold lC;rw[qG],nf.kA.trans n',o'.w,.next o'⟩)
 .exact vB C.frames C.top o.w.base p λaX sA=>Dj o.w.base sA λcF uW=>gg<|aaY C o ht I hd uW
theorem bv.strs{ρ}{U}{h}(xs:List (Str×Tok)):bv ρ U h (xs.map λp=>.str p.1 p.2) (xs.map λp=>.str p.1):=by
 induction xs with
 |nil=>exact .nil
 |cons p r ih=>exact .cons (.str p.1 p.2) ih
theorem fU.bytes(P)(b)(t):fU P (.bytes b t) (.bytes b.toList):=λJ J J J J J J=>.bytes b t
theorem fU.str(P)(x)(t):fU P (.str x t) (.str x):=λJ J J J J J J=>.str x t
theorem fU.strs {P:Params} {a:Addr} (xs:List (Str×Tok)) (n:Nat) {sl:Array (Option Value)} (h:(KF P).lookup a=some {cls:=.type "tuple",data:=.seq (xs.map λp=>Value.str p.1 p.2).toArray n}):fU P (.ref a) (.tup (xs.map λp=>.str p.1)):=
 λB ρ U hp X hU hB=>.tup (vs:=(xs.map λp=>Value.str p.1 p.2).toArray) ⟨_,hB _ _ (X _ _ h),rfl,n,rfl⟩ (λq=>nomatch (hU _ q).symm.trans (X _ _ h)) (.strs xs)
theorem ay.bytes{x}{k}{pos}:ay K (.Constant (.bytes x) k pos) (qu (.bytes x)):=λJ J J J o J=>gg<|Constant_bytes (.same o.w rfl rfl rfl (.bytes _ _))
theorem bQ.aaZ{i}{x}{px pos}{e}{r}(hb:Bound K i x)(h:ay K e r)(hs:∀env:Env,env.scope=K.scope->swapsWith e (some (.Name x px)) pos.line env=pure false):bQ K (.Assign [.Name x px] e pos) (Kd i r):=λc σ X C o hr=>
 BJ (Sm.pA C o (h c σ X C o) (G:=.store c x) (λJ J J o p=>.store C o hb p) hr) (hs _ C.scope)
end
theorem aa0{cw target iter}{ifs}{scope}{p px}{x}{l}{S}(hx:(S.names.lookup x==some .local)=false)(env)(h:env.scope=S) :
  swapsWith (.ListComp cw [⟨target,iter,ifs,0⟩] scope p) (some (.Name x px)) l env=pure false:=by
 show(pure (env.blockKind == .function&&(env.scope.names.lookup x==some .local)&&px.line==p.line&&!(scope.names.any λ(n,k)=>n==x&&(k == .local||k == .cell))):Sem Bool)=pure false
 rw[h,hx,Bool.and_false];rfl
theorem aa1{cw target iter}{ifs}{scope}{p px}{x}{l}{S}(hk:S.kind=.function)(hx:S.names.lookup x=some .local)(I:(px.line==p.line)=true)
  (hn:(scope.names.any λ(n,k)=>n==x&&(k == .local||k == .cell))=false)(env:Env)(h:env.scope=S) :
  swapsWith (.ListComp cw [⟨target,iter,ifs,0⟩] scope p) (some (.Name x px)) l env=pure true:=by
 show(pure (env.blockKind == .function&&(env.scope.names.lookup x==some .local)&&px.line==p.line&&!(scope.names.any λ(n,k)=>n==x&&(k == .local||k == .cell))):Sem Bool)=pure true
 rw[h,hx,I,hn,show env.blockKind=.function by unfold Env.blockKind;rw[h,hk];rfl];rfl
theorem Ms{az}{m}{σ}{i}{d}(h:(dY az m σ)[i]?=some (some d)):i<az.length:=lt_of_not_le λq=>by
 rw[dY,jz (by rw[aG];exact q)] at h
 exact nomatch (mem_replicate.mp (cU h)).2
theorem aa2{is}{xs}{σ}{j}(h:∀i∈is,i≠j):(pR is xs σ)[j]?=σ[j]?:=by
 induction is generalizing xs σ with
 |nil=>cases xs <;> rfl
 |cons i is ih=>cases xs with
  |nil=>rfl
  |cons x xs=>exact(ih (xs:=xs) (σ:=σ.set i (some x)) λk hk=>h k (.tail _ hk)).trans (di (h i (.head _)))
theorem aa3{az}{m}{i}(hi:az.length<=i):∀σ x σ',qL i x (dY az m σ)=some σ'->∀(j:Nat) d,(dY az m σ)[j]?=some (some d)->σ'[j]?=some (some d):=λσ x σ' h j d hj=>by
 cases h
 exact(di (gj (lt_of_lt_of_le (Ms hj) hi))).trans hj
theorem aa4{is}{x}{σ σ'}(h:jJ is x σ=some σ'):∃xs,σ'=pR is xs σ:=by
 cases x with
 |tup xs=>exact⟨xs,(vk (show(if _ then some _ else none)=some _ from h)).2.symm⟩
 |_=>nomatch h
theorem Eb{az}{m}{is}(hi:∀i∈is,az.length<=i):∀σ x σ',jJ is x (dY az m σ)=some σ'->∀(j:Nat) d,(dY az m σ)[j]?=some (some d)->σ'[j]?=some (some d):=λσ x σ' h j d hj=>by
 obtain⟨xs,rfl⟩:=aa4 h
 exact(aa2 λi q=>gj (lt_of_lt_of_le (Ms hj) (hi i q))).trans hj
theorem dN.swap{ρ}{U}{h}{name}{d d'}{Z}{fs}(hv:∀v,Rd ρ U h v d->Rd ρ U h v d')(r:dN ρ U h Z fs)(e:fs.lookup name=some d):dN ρ U h Z (iN name d' fs):=by
 obtain⟨k,r⟩:=r
 induction k with
 |nil=>nomatch e
 |@cons hh k t v x Z fs kk ih=>
  rw[lookup_cons] at e
  show dN ρ U h _ (if(k==name)=true then(k,d')::fs else(k,x)::iN name d' fs)
  obtain⟨l,pt⟩:=r
  have rv:Rd ρ U h v x:=pt 0 v x rfl rfl
  have rs:bv ρ U h (Z.map (·.val)) (fs.map (·.2)):=bv.tail ⟨l,pt⟩
  by_cases q:k=name
  .subst q
   rw[beq_self_eq_true] at e ⊢
   cases e
   exact .cons (hv v rv) ⟨kk,rs⟩
  .rw[beq_eq_false_iff_ne.mpr λz=>q z.symm] at e
   rw[aY λz=>q (eq_of_beq z)]
   exact .cons rv (ih e rs)
noncomputable def tM(d:D):Option Nat:=D.casesOn d none (λJ=>none) (λJ=>none) (λJ=>none) (λJ=>none) (λJ=>none) (λJ=>none) (λJ=>none) (λJ J=>none) some λJ=>none
noncomputable def Ec(m:M):Option (List D):=M.casesOn m some (λJ=>none) (λJ=>none) (λJ J=>none) none
noncomputable def Ed(m:M):Option (Addr×List (Str×D)):=M.casesOn m (λJ=>none) (λJ=>none) (λJ=>none) (λC fs=>some (C,fs)) none
theorem Mt{d}{k}(h:tM d=some k):d=.ab k:=by
 cases d with
 |ab=>exact aw D.ab (Option.some.inj h)
 |_=>nomatch h
theorem aa5{m}{V}(h:Ec m=some V):m=.list V:=by
 cases m with
 |list=>exact aw M.list (Option.some.inj h)
 |_=>nomatch h
theorem aa6{m}{p}(h:Ed m=some p):m=.inst p.1 p.2:=by
 cases m with
 |inst=>cases Option.some.inj h;rfl
 |_=>nomatch h
def nR(name:Str)(d:D)(st:List M):Res Unit:=aI (tM d) (λk st=>aI (st[k]?.bind Ed) (λp st=>aI ((p.2.lookup name).bind tM) (λj st=>aI (st[j]?.bind Ec) (λV st=>.ok () ((st.set j .gone).set k (.inst p.1 (iN name (.lst V) p.2)))) st) st) st) st
theorem yA{α β:Type}{x:Option β}{f:β->List M->Res α}{st:List M}(h:aI x f st≠.stuck):∃a,x=some a/\aI x f st=f a st/\f a st≠.stuck:=by
 cases x with
 |none=>exact absurd rfl h
 |some a=>exact⟨a,rfl,rfl,h⟩
inductive Mu(name:Str)(d:D)(st:List M)(R:Res Unit):Prop
 |mk (k j:Nat) (C:Addr) (fs:List (Str×D)) (V:List D) (e:d=.ab k) (hk:st[k]?=some (.inst C fs)) (I:fs.lookup name=some (.ab j)) (hj:st[j]?=some (.list V)) (q:R=.ok () ((st.set j .gone).set k (.inst C (iN name (.lst V) fs)))):Mu name d st R
theorem aa7{name:Str}{d:D}{st:List M}(h:nR name d st≠.stuck):Mu name d st (nR name d st):=by
 obtain⟨k,e1,q1,h⟩:=yA h
 obtain⟨⟨C,fs⟩,e2,q2,h⟩:=yA h
 obtain⟨j,e3,q3,h⟩:=yA h
 obtain⟨V,e4,q4,h⟩:=yA h
 obtain⟨m,f2,e2⟩:=jx.mp e2
 obtain⟨x,f3,e3⟩:=jx.mp e3
 obtain⟨m',f4,e4⟩:=jx.mp e4
 exact⟨k,j,C,fs,V,Mt e1,aa6 e2▸f2,Mt e3▸f3,aa5 e4▸f4,q1.trans (q2.trans (q3.trans q4))⟩
section
variable{K:Ks}{c:Cx}{X:Sx}
theorem aa8{v}{d}{name}(w:aC c X)(r:bJ c X v d)(hr:nR name d X.st≠.stuck):∃aa,nR name d X.st=.ok () aa.st/\Nx c no X aa/\aC c aa/\aa.s=X.s:=by
 obtain⟨k,j,C,fs,V,rfl,hk,I,hj,q⟩:=aa7 hr
 obtain⟨⟨a,b⟩,hp,rfl⟩:=r.qs
 obtain⟨⟨pj,pj'⟩,Ee⟩:∃pj,X.ρ[j]?=some pj:=⟨_,c8 (by rw[w.len];exact(bH.mp hj).1)⟩
 obtain⟨e,vs,h1,h3⟩:=(w.jC _ _ _ Ee hj).KO rfl
 cases e
 obtain⟨o,ho,_⟩:=id h1
 have P:jh c X j (pj,pj) (.list V) .gone X.s:=⟨Ee,hj,trivial,λJ J J e=>e,rfl,rfl,λb hb=>⟨o,(aw _ (hb.elim id id:b=pj)).trans ho⟩⟩
 have w':=w.lr P λJ=>.gone
 have jB:(X.put j .gone X.s).st[k]?=some (.inst C fs):=(di (λq=>nomatch (q▸hj).symm.trans hk)).trans hk
 obtain⟨a',b',e',g,Z,n,x1,x3,ne,x4⟩:=w'.C0 (v:=.ref a) (k:=k) (.ab hp) jB
 cases hp.symm.trans g
 have P':jh c (X.put j .gone X.s) k (a,b) (.inst C fs) (.inst C (iN name (.lst V) fs)) X.s:=⟨g,jB,trivial,λJ J J e=>e,rfl,rfl,λz hz=>hz.elim (λq=>⟨_,(aw _ q).trans x1⟩) λq=>⟨_,(aw _ q).trans x3⟩⟩
 have u1:¬UX c (X.put j .gone X.s) pj:=w.xL P (.inl rfl)
 refine⟨(X.put j .gone X.s).put k (.inst C (iN name (.lst V) fs)) X.s,q,P.nx.trans P'.nx,w'.lr P' λup=>.inst x1 ne x3 ?_,rfl⟩
 refine dN.swap (d:=.ab j) (λv rv=>?_) ⟨x4.keys,x4.vals.length,λi v y e e'=>up (x4.vals.pt i v y e e')⟩ I
 obtain⟨p,Ef,rfl⟩:=rv.qs
 cases Ee.symm.trans Ef
 exact .lst h1 (λz=>u1 (z.imp_left P'.sub)) ⟨h3.length,λi v y e e'=>up (P.nx (W:=no).rd (h3.pt i v y e e'))⟩
def yB(i:Nat)(name:Str)(r:SS):SS:=λσ st=>match σ[i]? with
 |some (some d)=>(nR name d st).bind λJ st=>r σ st
 |_=>.stuck
theorem aa9{i}{name}{r}{σ}{st}(h:yB i name r σ st≠.stuck):∃d,σ[i]?=some (some d)/\yB i name r σ st=(nR name d st).bind λJ st=>r σ st:=by
 unfold yB at h ⊢
 cases q:σ[i]? with
 |none=>rw[q] at h;exact absurd rfl h
 |some y=>cases y with
  |none=>rw[q] at h;exact absurd rfl h
  |some d=>exact⟨d,rfl,rfl⟩
theorem eg.aba{ts}{i}{name}{r}(h:eg K ts r):eg K ts (yB i name r):=λc σ X C o hr=>by
 obtain⟨d,nc,e⟩:=aa9 hr
 rw[e] at hr ⊢
 obtain⟨y,v,hy,I,hv⟩:=o.var i d nc
 obtain⟨aa,e',n,w,hs⟩:=aa8 o.w hv (gH hr)
 rw[e'] at hr ⊢
 exact hs▸Sm.back n.kA (h c σ aa C (o.next C w n)) hr
end
noncomputable def tN:Option NameKind->Bool
 |some .local=>true
 |some .cell=>true
 |_=>false
theorem Eg{o}(h:tN o=true):o=some .local\/o=some .cell:=by
 cases o with
 |none=>nomatch h
 |some k=>cases k with
  |«local»=>exact .inl rfl
  |cell=>exact .inr rfl
  |_=>nomatch h
theorem abb{l:List Str}{f:Str->Option NameKind}(h:l.all (λx=>tN (f x))=true):∀x∈l,f x=some .local\/f x=some .cell:=λx hx=>Eg (all_eq_true.mp h x hx)
noncomputable def Mv(K:Ks)(x:Str):Bool:=tN (K.scope.names.lookup x)&&K.bd.any (λy=>y==x)
theorem Bound.of{K}{i}{x}(hn:K.nm[i]?=some x)(hd:K.nm.Nodup)(h:Mv K x=true):Bound K i x:=by
 have h:=(and_eq_true _ _).mp h
 obtain⟨y,hy,e⟩:=List.any_eq_true.mp h.2
 exact⟨hn,hd,Eg h.1,eq_of_beq e▸hy⟩
noncomputable def Eh(k:NameKind)(o:Option NameKind):Bool:=decide (o=some k)
noncomputable def Mw(K:Ks)(scope:Scope)(az:List Nat)(vars:List Str):Bool:=
 scope.names.all (λp=>!Eh .free (some p.2)||Eh .cell (K.scope.names.lookup p.1))&&(az.all (λi=>Eh .free (K.nm[i]?.bind λx=>scope.names.lookup x))&&vars.all (λx=>tN (scope.names.lookup x)))
theorem vL.of{K}{scope}{az}{vars}(hk:scope.kind=.function)(hn:(scope.names.map (·.1)).Nodup)(h:Mw K scope az vars=true):vL K scope az vars:=by
 have h:=(and_eq_true _ _).mp h
 have h2:=(and_eq_true _ _).mp h.2
 refine⟨hk,λp hp hf=>?_,hn,λi hi=>?_,λx hx=>(Eg (all_eq_true.mp h2.2 x hx)).elim (λe=>⟨_,e,nofun⟩) λe=>⟨_,e,nofun⟩⟩
 .have:=all_eq_true.mp h.1 p hp
  rw[hf] at this
  exact dJ this
 .exact jx.mp (dJ (all_eq_true.mp h2.1 i hi))
theorem vU:∀(P:Params)(i:Nat)(v:Value)(d:D),([]:List Value)[i]?=some v->([]:List D)[i]?=some d->fU P v d:=λJ J J J h=>nomatch h
theorem Ei{v}{d}(h:∀P,fU P v d):∀(P:Params)(i:Nat)(v':Value)(d':D),[v][i]?=some v'->[d][i]?=some d'->fU P v' d':=λP i v' d' h1 h2=>by
 cases i with
 |zero=>cases h1;cases h2;exact h P
 |succ i=>nomatch h1
inductive T(α:Type) where
 |ok (a:α) (st:List M)
 |bad (st:List M)
 |stuck
 |aD (st:List M) (x:Res D) (k:D->List M->T α)
 |aL (st:List M) (x:Res (List D)) (k:List D->List M->T α)
 |aF (st:List M) (x:Res (Fl×List (Option D))) (k:Fl×List (Option D)->List M->T α)
 |aU (st:List M) (x:Res Unit) (k:Unit->List M->T α)
 |aB (st:List M) (x:Res Bool) (k:Bool->List M->T α)
namespace T
variable{α β γ:Type}
noncomputable def of:Res α->T α
 |.ok a st=>.ok a st
 |.bad st=>.bad st
 |.stuck=>.stuck
noncomputable def bind(t:T α)(f:α->List M->T β):T β:=match t with
 |.ok a st=>f a st
 |.bad st=>.bad st
 |.stuck=>.stuck
 |.aD s x k=>.aD s x λd st=>(k d st).bind f
 |.aL s x k=>.aL s x λd st=>(k d st).bind f
 |.aF s x k=>.aF s x λd st=>(k d st).bind f
 |.aU s x k=>.aU s x λd st=>(k d st).bind f
 |.aB s x k=>.aB s x λd st=>(k d st).bind f
noncomputable def run:T α->Res α
 |.ok a st=>.ok a st
 |.bad st=>.bad st
 |.stuck=>.stuck
 |.aD _ x k=>x.bind λd st=>(k d st).run
 |.aL _ x k=>x.bind λd st=>(k d st).run
 |.aF _ x k=>x.bind λd st=>(k d st).run
 |.aU _ x k=>x.bind λd st=>(k d st).run
 |.aB _ x k=>x.bind λd st=>(k d st).run
noncomputable def nD:T α->Internal.D->List M->T α | .aD _ _ k,d,st=>k d st | t,_,_=>t
noncomputable def nL:T α->List Internal.D->List M->T α | .aL _ _ k,d,st=>k d st | t,_,_=>t
noncomputable def nF:T α->Fl×List (Option Internal.D)->List M->T α | .aF _ _ k,d,st=>k d st | t,_,_=>t
noncomputable def nU:T α->Unit->List M->T α | .aU _ _ k,d,st=>k d st | t,_,_=>t
noncomputable def nB:T α->Bool->List M->T α | .aB _ _ k,d,st=>k d st | t,_,_=>t
noncomputable def mD:T α->Internal.D->T α | .aD st _ k,d=>k d st | t,_=>t
noncomputable def mL:T α->List Internal.D->T α | .aL st _ k,d=>k d st | t,_=>t
noncomputable def s:T α->List M
 |.ok _ st=>st
 |.bad st=>st
 |.stuck=>[]
 |.aD st _ _=>st
 |.aL st _ _=>st
 |.aF st _ _=>st
 |.aU st _ _=>st
 |.aB st _ _=>st
end T
theorem T.run_bind{α β:Type}(t:T α)(f:α->List M->T β):(t.bind f).run=t.run.bind λa st=>(f a st).run:=by
 induction t with
 |ok | bad | stuck=>rfl
 |aD s x k ih | aL s x k ih | aF s x k ih | aU s x k ih | aB s x k ih=>cases x with
  |ok d st=>exact ih d st
  |_=>rfl
theorem T.cN{α:Type}(x:Res α):(T.of x).run=x:=by cases x <;> rfl
theorem T.c6{s:List M}{α:Type}{x:Res D}{k:D->List M->T α}:(T.aD s x k).run=x.bind λd st=>(k d st).run:=rfl
theorem T.dw{s:List M}{α:Type}{x:Res (List D)}{k:List D->List M->T α}:(T.aL s x k).run=x.bind λd st=>(k d st).run:=rfl
theorem T.dz{s:List M}{α:Type}{x:Res (Fl×List (Option D))}{k:Fl×List (Option D)->List M->T α}:(T.aF s x k).run=x.bind λd st=>(k d st).run:=rfl
theorem T.dA{s:List M}{α:Type}{x:Res Unit}{k:Unit->List M->T α}:(T.aU s x k).run=x.bind λd st=>(k d st).run:=rfl
theorem T.dB{α:Type}{a:α}{st:List M}:(T.ok a st).run=.ok a st:=rfl
section
variable{α:Type}{t:T α}{X:Res α}{st:List M}
theorem sD{x}{d}(hx:x=.ok d st)(h:autoParam ((t.nD d st).run=X) kr)(e:autoParam (t=.aD t.s x t.nD) kr):t.run=X:=by rw[e,hx];exact h
theorem pD{f:List M->Res (D)}{d:D}(hx:∀st,f st=.ok d st)(h:autoParam ((t.mD d).run=X) kr)(e:autoParam (t=.aD t.s (f t.s) t.nD) kr):t.run=X:=by
 have k:t.mD d=t.nD d t.s:=by rw[e];rfl
 rw[k] at h;rw[e,hx];exact h
theorem sL{x}{d}(hx:x=.ok d st)(h:autoParam ((t.nL d st).run=X) kr)(e:autoParam (t=.aL t.s x t.nL) kr):t.run=X:=by rw[e,hx];exact h
theorem pL{f:List M->Res (List D)}{d:List D}(hx:∀st,f st=.ok d st)(h:autoParam ((t.mL d).run=X) kr)(e:autoParam (t=.aL t.s (f t.s) t.nL) kr):t.run=X:=by
 have k:t.mL d=t.nL d t.s:=by rw[e];rfl
 rw[k] at h;rw[e,hx];exact h
theorem sF{x}{d}(hx:x=.ok d st)(h:autoParam ((t.nF d st).run=X) kr)(e:autoParam (t=.aF t.s x t.nF) kr):t.run=X:=by rw[e,hx];exact h
theorem sU{x}{d}(hx:x=.ok d st)(h:autoParam ((t.nU d st).run=X) kr)(e:autoParam (t=.aU t.s x t.nU) kr):t.run=X:=by rw[e,hx];exact h
theorem sB{x}{d}(hx:x=.ok d st)(h:autoParam ((t.nB d st).run=X) kr)(e:autoParam (t=.aB t.s x t.nB) kr):t.run=X:=by rw[e,hx];exact h
theorem bD{x}(hx:x=.bad st)(e:autoParam (t=.aD t.s x t.nD) kr):t.run=.bad st:=by rw[e,hx];rfl
theorem bL{x}(hx:x=.bad st)(e:autoParam (t=.aL t.s x t.nL) kr):t.run=.bad st:=by rw[e,hx];rfl
theorem bF{x}(hx:x=.bad st)(e:autoParam (t=.aF t.s x t.nF) kr):t.run=.bad st:=by rw[e,hx];rfl
end
abbrev TE(α:Type):=List (Option D)->List M->T α
def rn{α:Type}(t:TE α):List (Option D)->List M->Res α:=λσ st=>(t σ st).run
structure abc where
 Z:List Expr
 cls:Nat:=1
 k:Nat:=0
 sc:Scope:=⟨.function,[],false,false,[]⟩
 lo:Option Expr:=none
 hi:Option Expr:=none
noncomputable def look:Expr->abc
 |.BoolOp _ vs _=>⟨vs,2,0,⟨.function,[],false,false,[]⟩,none,none⟩
 |.BinOp a _ b _=>{Z:=[a,b]}
 |.UnaryOp _ a _=>{Z:=[a],cls:=2}
 |.IfExp t a b _=>{Z:=[t,a,b],cls:=2}
 |.ListComp a gs s _=>{Z:=a::gs.flatMap λg=>g.target::g.iter::g.ifs,cls:=3,sc:=s}
 |.Compare a _ bs _=>{Z:=a::bs,cls:=2}
 |.Call f as _ _=>{Z:=f::as,cls:=match as,f with | [],.Name ..=>4 | _,_=>1}
 |.FormattedValue a _ _ _=>{Z:=[a],cls:=0}
 |.JoinedStr vs _=>{Z:=vs}
 |.Attribute a _ _=>{Z:=[a]}
 |.Subscript a s _=>{Z:=[a,s]}
 |.List Z _=>{Z:=Z}
 |.Tuple Z k _=>{Z:=Z,k:=k}
 |.Dict ks vs _=>{Z:=ks.filterMap id++vs}
 |.Slice a b c _=>{Z:=[a,b,c].filterMap id,lo:=a,hi:=b,cls:=0}
 |.Constant _ k _=>{Z:=[],k:=k}
 |.Name ..=>{Z:=[]}
 |_=>{Z:=[],cls:=0}
noncomputable def aN(e:Expr)(i:Nat):Expr:=(look e).Z.getD i e
structure abd where
 Z:List Expr:=[]
 b:List Stmt:=[]
 o:List Stmt:=[]
 pos:Pos:=⟨0,0,0,0⟩
noncomputable def gP:Stmt->abd
 |.Return e _=>{Z:=e.toList}
 |.Assign ts e _=>{Z:=ts++[e]}
 |.AugAssign t _ e _=>{Z:=[t,e]}
 |.For t e b _ _=>{Z:=[t,e],b:=b}
 |.While t b _ _=>{Z:=[t],b:=b}
 |.If t b o _=>{Z:=[t],b:=b,o:=o}
 |.Raise e _ _=>{Z:=e.toList}
 |.Expr e _=>{Z:=[e]}
 |.Try b hs _ _ _=>{Z:=hs.flatMap (fun | .ExceptHandler t _ _ _=>t.toList),b:=b,o:=hs.flatMap (fun | .ExceptHandler _ _ b _=>b),pos:=match hs with | .ExceptHandler _ _ _ p::_=>p | []=>⟨0,0,0,0⟩}
 |_=>{}
noncomputable def dE:Expr:=.Constant .none 0 ⟨0,0,0,0⟩
noncomputable def dS:Stmt:=.Pass ⟨0,0,0,0⟩
noncomputable def bn(s:Stmt)(i:Nat):Expr:=(gP s).Z.getD i dE
noncomputable def fL:Str:="__debug__"
noncomputable def Mx(K:Ks)(k:NameKind)(x:Str):Bool:=decide (K.scope.names.lookup x=some k)
noncomputable def mC(K:Ks)(x:Str):Bool:=Mx K .globalImplicit x&&!(x==fL)
theorem gQ{K}{x}(h:mC K x=true):K.scope.names.lookup x=some .globalImplicit/\(x==fL)=false:=by
 have h:=(and_eq_true _ _).mp h
 exact⟨dJ h.1,(Bool.not_eq_true' _).mp h.2⟩
noncomputable def nS(e:Expr):Bool:=(look e).cls==1||(look e).cls==2||(look e).cls==4
noncomputable def vV(e:Expr):Bool:=(look e).cls==1||(look e).cls==2
noncomputable def My(e:Expr):Bool:=(look e).cls==1||(look e).cls==4
noncomputable def jM(e:Expr):Bool:=nS e||(look e).cls==3
abbrev Mz:=(Env->Value->Sem Value)×(Value->Value->Sem Value)×(CmpOp->Bool)×(List Expr->Nat->Pos->Nat->Env->Sem Bool)×(List Expr->Env->List (Bool×Sem Value))
noncomputable def iD(e:Expr):Mz:=(foldedSetIterable e,subscripted e false,λop=>behindInMarks op e,λZ k p=>swapsWith e (some (.Tuple Z k p)),λZ env=>starEach (e::Z) env)
noncomputable def abe(e:Expr):Mz:=(λJ x=>pure x,λo i=>operate [o,i] (getItem o i),λJ=>false,λJ J J J J=>pure false,λZ env=>(false,eval e env)::starEach Z env)
theorem vW(e)(h:jM e=true):iD e=abe e:=by
 cases e with
 |BinOp | Constant | Attribute | Name | JoinedStr | Subscript | List | Tuple | Dict | UnaryOp | IfExp | Compare | BoolOp | Call | ListComp=>rfl
 |_=>exact absurd h em
theorem abf(e)(h:nS e=true):swapsWith e=λJ J J=>pure false:=by
 cases e with
 |BinOp | Constant | Attribute | Name | JoinedStr | Subscript | List | Tuple | Dict | UnaryOp | IfExp | Compare | BoolOp | Call=>rfl
 |_=>exact absurd h em
theorem abg(e)(h:vV e=true):attributeBase e=λJ J w=>w:=by
 cases e with
 |Call f as _ _=>cases as with
  |nil=>cases f with
   |Name=>exact absurd h em
   |_=>rfl
  |cons a as=>cases f <;> rfl
 |BinOp | Constant | Attribute | Name | JoinedStr | Subscript | List | Tuple | Dict | UnaryOp | IfExp | Compare | BoolOp=>rfl
 |_=>exact absurd h em
noncomputable def abh(e:Expr)(w:Sem Value):Sem Bool:=do let v <- w;standAt e.pos;holding [v] (truthy v)
theorem abi(e:Expr)(h:My e=true):isTrue e=λJ w=>abh e w:=by
 cases e with
 |BinOp | Constant | Attribute | Name | JoinedStr | Subscript | List | Tuple | Dict | Call=>rfl
 |_=>exact absurd h em
theorem Ej{e}(h:vV e=true)(n)(env):attributeBase e n env (eval e env)=eval e env:=congrFun (congrFun (congrFun (abg e h) n) env) _
section
variable{e:Expr}(h:jM e=true)
include h
theorem MA(env)(x):foldedSetIterable e env x=pure x:=congrFun (congrFun (aw (·.1) (vW e h)) env) x
theorem MB(o i):subscripted e false o i=operate [o,i] (getItem o i):=congrFun (congrFun (aw (·.2.1) (vW e h)) o) i
theorem yC(op:CmpOp):behindInMarks op e=false:=congrFun (aw (·.2.2.1) (vW e h)) op
theorem MC(Z)(k)(p)(l)(env):swapsWith e (some (.Tuple Z k p)) l env=pure false:=congrFun (congrFun (congrFun (congrFun (congrFun (aw (·.2.2.2.1) (vW e h)) Z) k) p) l) env
theorem yD(Z)(env):starEach (e::Z) env=(false,eval e env)::starEach Z env:=congrFun (congrFun (aw (·.2.2.2.2) (vW e h)) Z) env
end
theorem tO{e}(h:nS e=true)(t)(l)(env):swapsWith e t l env=pure false:=congrFun (congrFun (congrFun (abf e h) t) l) env
noncomputable def tQ(Z:List Expr):Bool:=Z.all jM
theorem Ek(env:Env):∀{Z:List Expr},tQ Z=true->∀x∈starEach Z env,x.1=false
 |[],_=>λJ h=>nomatch h
 |e::Z,h=>by
  have h:=(and_eq_true _ _).mp (show(jM e&&tQ Z)=true from h)
  intro x hx
  rw[show starEach (e::Z) env=_ from yD h.1 Z env] at hx
  rcases dI.mp hx with rfl | hx
  .rfl
  .exact Ek env h.2 x hx
theorem pU{Z}(h:tQ Z=true)(pos:Pos)(env:Env):(backTo pos (starEach Z env)).any (·.1)=false:=by
 rw[any_eq_false]
 intro x hx
 obtain⟨y,hy,rfl⟩:=da.mp hx
 exact Bool.eq_false_iff.mp (Ek env h y hy)
theorem MD{Z}(h:tQ Z=true)(I:Z.length<30)(pos:Pos)(env:Env):methodCallForm Z.length (backTo pos (starEach Z env)) []=true:=by
 have:(backTo pos (starEach Z env)).all (!·.1)=true:=by
  rw[all_eq_true]
  intro x hx
  obtain⟨y,hy,rfl⟩:=da.mp hx
  exact(aw Bool.not (Ek env h y hy))
 unfold methodCallForm
 rw[this]
 exact gc I
structure CE where
 t:TE D
 a:Ks->Expr->Expr
 ok:Ks->Expr->Bool
 h:∀K e,K.nm.Nodup->ok K e=true->ay K (a K e) (rn t)
structure CT where
 t:TE Bool
 a:Ks->Expr->Expr
 ok:Ks->Expr->Bool
 h:∀K e,K.nm.Nodup->ok K e=true->ec K (a K e) (rn t)
theorem bo{a b}(h:(a&&b)=true):a=true/\b=true:=(and_eq_true _ _).mp h
theorem c7{a b c}(h:(a&&(b&&c))=true):a=true/\b=true/\c=true:=⟨(bo h).1,bo (bo h).2⟩
theorem j9{a b c d}(h:(a&&(b&&(c&&d)))=true):a=true/\b=true/\c=true/\d=true:=⟨(bo h).1,c7 (bo h).2⟩
theorem vX{a}(h:(!a)=true):a=false:=(Bool.not_eq_true' _).mp h
theorem ay.as{K}{e}{r r'}(h:ay K e r)(q:r'=r):ay K e r':=q▸h
theorem ec.as{K}{e}{r r'}(h:ec K e r)(q:r'=r):ec K e r':=q▸h
theorem je.as{K}{e}{pos}{r r'}(h:je K pos e r)(q:r'=r):je K pos e r':=q▸h
def v(i:Nat):CE where
 t:=λσ st=>.of (u8 i σ st)
 a:=λK e=>.Name (K.nm.getD i fL) e.pos
 ok:=λK J=>!(K.nm.getD i fL==fL)
 h:=λK e hn h=>by
  have hd:(K.nm.getD i fL==fL)=false:=by simpa using h
  refine(ay.var (i:=i) ?_ hd).as (by funext σ st;exact T.cN _)
  cases q:K.nm[i]? with
  |none=>rw[eJ,q] at hd;exact absurd hd (by decide)
  |some x=>rw[eJ,q];rfl
noncomputable def ck(c:Const)(d)(h:∀K k p,ay K (.Constant c k p) (qu d)):CE:=⟨λJ st=>.ok d st,λJ e=>.Constant c (look e).k e.pos,λJ J=>true,λK J J J=>h K _ _⟩
noncomputable def n(k:Nat):CE:=ck (.int (k:Int)) (.int (k:Int)) λJ J J=>ay.int
noncomputable def nT:CE:=ck .none .none λJ J J=>ay.none
noncomputable def El(b:Bool):CE:=ck (.bool b) (.bool b) λJ J J=>ay.bool
noncomputable def dp(x:Str):CE:=ck (.str x) (.str x) λJ J J=>ay.str
noncomputable def tR(x:List UInt8):CE:=ck (.bytes x) (.bytes x) λJ J J=>ay.bytes
noncomputable def gl(x)(w)(d)(e:∀P,nsIn (KF P) mainGlobals x=some (some w))(hv:∀P,fU P w d):CE where
 t:=λJ st=>.ok d st
 a:=λJ e=>.Name x e.pos
 ok:=λK J=>mC K x
 h:=λK J J h=>ay.glob (gQ h).1 e hv (gQ h).2
structure OA(f:F2) where
 op:Operator
 sim:cH (binaryOp op) f
 t:D->D->List M->T D:=λx y st=>.aD st (f x y st) .ok
 ht:∀x y st,(t x y st).run=f x y st:=by intro x y st;exact Res.cb _
structure OC(f:F2) where
 op:CmpOp
 sim:cH (compareOp op) f
noncomputable def qQ(t:D->D->List M->T D)(a b:TE D):TE D:=λσ st=>(a σ st).bind λx st=>(b σ st).bind λy st=>t x y st
theorem tS{t}{f}(h:∀x y st,(t x y st).run=f x y st)(a b:TE D):rn (qQ t a b)=sP f (rn a) (rn b):=by funext σ st;simp only[rn,qQ,T.run_bind,h];rfl
noncomputable def vY(f:F2):D->D->List M->T D:=λx y st=>.aD st (f x y st) .ok
theorem vZ(f:F2)(x y)(st):(vY f x y st).run=f x y st:=Res.cb _
noncomputable def bA{f}(o:OA f)(A B:CE):CE where
 t:=qQ o.t A.t B.t
 a:=λK e=>.BinOp (A.a K (aN e 0)) o.op (B.a K (aN e 1)) e.pos
 ok:=λK e=>A.ok K (aN e 0)&&B.ok K (aN e 1)
 h:=λK e hn h=>by
  have h:=bo h
  exact(ay.bin o.sim (A.h K _ hn h.1) (B.h K _ hn h.2)).as (tS o.ht _ _)
noncomputable def bC{f}(o:OC f)(A B:CE):CE where
 t:=qQ (vY f) A.t B.t
 a:=λK e=>.Compare (A.a K (aN e 0)) [o.op] [B.a K (aN e 1)] e.pos
 ok:=λK e=>A.ok K (aN e 0)&&(B.ok K (aN e 1)&&jM (B.a K (aN e 1)))
 h:=λK e hn h=>by
  have h:=c7 h
  exact(ay.cmp o.sim (A.h K _ hn h.1) (B.h K _ hn h.2.1) (yC h.2.2 _)).as (tS (vZ f) _ _)
def Em:D->List M->T Bool
 |.bool b,st=>.ok b st
 |d,st=>.aB st (sQ d st) .ok
theorem ME(d)(st):(Em d st).run=sQ d st:=by cases d <;> first | rfl | exact Res.cb _
def v1(a:TE D):TE Bool:=λσ st=>(a σ st).bind Em
theorem En(a:TE D):rn (v1 a)=sR (rn a):=by funext σ st;simp only[rn,v1,T.run_bind,ME];rfl
def tC{f}(o:OC f)(A B:CE):CT where
 t:=v1 (qQ (vY f) A.t B.t)
 a:=(bC o A B).a
 ok:=(bC o A B).ok
 h:=λK e hn h=>by
  have h:=c7 h
  exact(ec.cmp o.sim (A.h K _ hn h.1) (B.h K _ hn h.2.1) (yC h.2.2 _)).as ((En _).trans (aw sR (tS (vZ f) _ _)))
def tr(A:CE):CT where
 t:=v1 A.t
 a:=A.a
 ok:=λK e=>A.ok K e&&My (A.a K e)
 h:=λK e hn h=>(ec.value (A.h K _ hn (bo h).1) λenv w=>congrFun (congrFun (abi _ (bo h).2) env) w).as (En _)
noncomputable def bI{f}(hf:∀value slice:Expr,jM slice=true->cH (subscriptTail value slice) f)(A B:CE):CE where
 t:=qQ (vY f) A.t B.t
 a:=λK e=>.Subscript (A.a K (aN e 0)) (B.a K (aN e 1)) e.pos
 ok:=λK e=>A.ok K (aN e 0)&&(B.ok K (aN e 1)&&jM (B.a K (aN e 1)))
 h:=λK e hn h=>by
  have h:=c7 h
  exact ay.as (λJ J J C o hr=>BK (ay.two (hf _ _ h.2.2) (A.h K _ hn h.1) (B.h K _ hn h.2.1) C o hr)) (tS (vZ f) _ _)
def item(A B:CE):CE:=bI (f:=iK) (λJ J h=>WO λJ J J=>MB h _ _) A B
def abj(A B:CE):CE:=bI (f:=yq) (λJ J h=>aat λJ J J=>MB h _ _) A B
def neg(A:CE):CE where
 t:=λσ st=>(A.t σ st).bind λd st=>.of (JV d st)
 a:=λK e=>.UnaryOp .USub (A.a K (aN e 0)) e.pos
 ok:=λK e=>A.ok K (aN e 0)
 h:=λK e hn h=>(ay.neg (A.h K _ hn h)).as (by (funext σ st;simp only[rn,T.run_bind,T.cN,T.c6,T.dw,T.dz,T.dA,T.dB,Res.cb];try rfl))
noncomputable def tT{α:Type}(t:TE Bool)(a b:TE α):TE α:=λσ st=>(t σ st).bind λc st=>cond c (a σ st) (b σ st)
theorem MF{α:Type}(t:TE Bool)(a b:TE α)(σ:List (Option D))(st:List M):(tT t a b σ st).run=(rn t σ st).bind λc st=>if c then rn a σ st else rn b σ st:=by
 simp only[tT,T.run_bind]
 congr 1;funext c st;cases c <;> rfl
noncomputable def ka(t:CT)(A B:CE):CE where
 t:=tT t.t A.t B.t
 a:=λK e=>.IfExp (t.a K (aN e 0)) (A.a K (aN e 1)) (B.a K (aN e 2)) e.pos
 ok:=λK e=>t.ok K (aN e 0)&&(A.ok K (aN e 1)&&B.ok K (aN e 2))
 h:=λK e hn h=>by
  have h:=c7 h
  exact(ay.VJ (t.h K _ hn h.1) (A.h K _ hn h.2.1) (B.h K _ hn h.2.2)).as (by funext σ st;exact MF ..)
def MG(A B:CE):CE where
 t:=λσ st=>(A.t σ st).bind λx st=>(Em x st).bind λt st=>cond t (B.t σ st) (.ok x st)
 a:=λK e=>.BoolOp .And [A.a K (aN e 0),B.a K (aN e 1)] e.pos
 ok:=λK e=>A.ok K (aN e 0)&&B.ok K (aN e 1)
 h:=λK e hn h=>by
  have h:=bo h
  refine(ay.bo (A.h K _ hn h.1) (B.h K _ hn h.2)).as ?_
  funext σ st;simp only[rn,T.run_bind,ME]
  unfold JZ
  congr 1;funext x st;congr 1;funext t st;cases t <;> rfl
noncomputable def MH(σ:List (Option D))(e:TE D)(f:F2)(y:D):D->List M->T D
 |.bool b,st=>cond b ((e σ st).bind λz st=>vY f y z st) (.ok (.bool false) st)
 |_,_=>.stuck
noncomputable def yE(f g:F2)(a b e:TE D):TE D:=λσ st=>(a σ st).bind λx st=>(b σ st).bind λy st=>.aD st (f x y st) λt st=>MH σ e g y t st
theorem MI(f g:F2)(a b e:TE D):rn (yE f g a b e)=sS f g (rn a) (rn b) (rn e):=by
 have k:∀σ y t st,(MH σ e g y t st).run=u9 σ (rn e) g y t st:=λσ y t st=>by
  cases t with
  |bool b=>cases b with
   |true=>show(T.bind _ _).run=_;simp only[T.run_bind,vZ];rfl
   |false=>rfl
  |_=>rfl
 funext σ st;simp only[rn,yE,T.run_bind,T.c6,k];rfl
noncomputable def ch{f g}(o:OC f)(p:OC g)(A B E:CE):CE where
 t:=yE f g A.t B.t E.t
 a:=λK e=>.Compare (A.a K (aN e 0)) [o.op,p.op] [B.a K (aN e 1),E.a K (aN e 2)] e.pos
 ok:=λK e=>A.ok K (aN e 0)&&(B.ok K (aN e 1)&&(E.ok K (aN e 2)&&jM (E.a K (aN e 2))))
 h:=λK e hn h=>by
  have h:=j9 h
  exact(ay.chain o.sim p.sim (A.h K _ hn h.1) (B.h K _ hn h.2.1) (E.h K _ hn h.2.2.1) (yC h.2.2.2 _)).as (MI ..)
def MJ{f g}(o:OC f)(p:OC g)(A B E:CE):CT where
 t:=v1 (yE f g A.t B.t E.t)
 a:=(ch o p A B E).a
 ok:=(ch o p A B E).ok
 h:=λK e hn h=>by
  have h:=j9 h
  exact(ec.chain o.sim p.sim (A.h K _ hn h.1) (B.h K _ hn h.2.1) (E.h K _ hn h.2.2.1) (yC h.2.2.2 _)).as ((En _).trans (aw sR (MI ..)))
noncomputable def nt(t:CT):CT where
 t:=λσ st=>(t.t σ st).bind λb st=>.ok (!b) st
 a:=λK e=>.UnaryOp .Not (t.a K (aN e 0)) e.pos
 ok:=λK e=>t.ok K (aN e 0)
 h:=λK e hn h=>(ec.not (t.h K _ hn h)).as (by (funext σ st;simp only[rn,T.run_bind,T.cN,T.c6,T.dw,T.dz,T.dA,T.dB,Res.cb];try rfl))
noncomputable def yF:List CT->TE Bool
 |[]=>λJ st=>.ok true st
 |t::ts=>λσ st=>(t.t σ st).bind λb st=>cond b (yF ts σ st) (.ok false st)
noncomputable def yG:List CT->TE Bool
 |[]=>λJ st=>.ok false st
 |t::ts=>λσ st=>(t.t σ st).bind λb st=>cond b (.ok true st) (yG ts σ st)
noncomputable def tU(K:Ks):List CT->List Expr->List Expr
 |t::ts,e::Z=>t.a K e::tU K ts Z
 |t::ts,[]=>t.a K dE::tU K ts []
 |[],_=>[]
noncomputable def v2(K:Ks):List CT->List Expr->Bool
 |t::ts,e::Z=>t.ok K e&&v2 K ts Z
 |_::_,[]=>false
 |[],_=>true
theorem MK(K)(hn:K.nm.Nodup):∀ts Z,v2 K ts Z=true->ic K .And (tU K ts Z) (rn (yF ts))
 |[],_,_=>ic.and_nil
 |t::ts,e::Z,h=>by
  have h:=bo h
  have:=ic.and_cons (t.h K e hn h.1) (MK K hn ts Z h.2)
  refine cast (aw _ ?_) this
  funext σ st;show _=((t.t σ st).bind λb st=>cond b (yF ts σ st) (.ok false st)).run;simp only[rn,T.run_bind]
  unfold JX
  congr 1;funext c st;cases c <;> rfl
theorem ML(K)(hn:K.nm.Nodup):∀ts Z,v2 K ts Z=true->ic K .Or (tU K ts Z) (rn (yG ts))
 |[],_,_=>ic.or_nil
 |t::ts,e::Z,h=>by
  have h:=bo h
  have:=ic.or_cons (t.h K e hn h.1) (ML K hn ts Z h.2)
  refine cast (aw _ ?_) this
  funext σ st;show _=((t.t σ st).bind λb st=>cond b (.ok true st) (yG ts σ st)).run;simp only[rn,T.run_bind]
  unfold JY
  congr 1;funext c st;cases c <;> rfl
noncomputable def tV(ts:List CT):CT:=⟨yF ts,λK e=>.BoolOp .And (tU K ts (look e).Z) e.pos,λK e=>v2 K ts (look e).Z,λK e hn h=>ec.boolOp (MK K hn ts _ h)⟩
noncomputable def tW(ts:List CT):CT:=⟨yG ts,λK e=>.BoolOp .Or (tU K ts (look e).Z) e.pos,λK e=>v2 K ts (look e).Z,λK e hn h=>ec.boolOp (ML K hn ts _ h)⟩
noncomputable def kK:List CE->TE (List D)
 |[]=>λJ st=>.ok [] st
 |x::xs=>λσ st=>(x.t σ st).bind λd st=>(kK xs σ st).bind λV st=>.ok (d::V) st
noncomputable def im(K:Ks):List CE->List Expr->List Expr
 |t::ts,e::Z=>t.a K e::im K ts Z
 |t::ts,[]=>t.a K dE::im K ts []
 |[],_=>[]
noncomputable def jN(K:Ks):List CE->List Expr->Bool
 |t::ts,e::Z=>t.ok K e&&(jM (t.a K e)&&jN K ts Z)
 |_::_,[]=>false
 |[],_=>true
theorem v3{K}{pos}(hn:K.nm.Nodup):∀{ts:List CE} {Z:List Expr},jN K ts Z=true->je K pos (im K ts Z) (rn (kK ts))
 |[],_,_=>je.nil
 |t::ts,e::Z,h=>by
  have h:=(c7 h)
  exact(je.cons (t.h K e hn h.1) (v3 hn h.2.2) λenv=>yD h.2.1 _ env).as (by funext σ st;show((t.t σ st).bind λd st=>(kK ts σ st).bind λV st=>.ok (d::V) st).run=_;simp only[rn,T.run_bind];rfl)
theorem mE{K}:∀{ts:List CE} {Z:List Expr},jN K ts Z=true->tQ (im K ts Z)=true
 |[],_,_=>rfl
 |t::ts,e::Z,h=>by
  have h:=(c7 h)
  exact(and_eq_true _ _).mpr ⟨h.2.1,mE h.2.2⟩
theorem qR{K}{pos}(hn:K.nm.Nodup):∀{ts:List CE} {Z:List Expr},jN K ts Z=true->gL K pos (im K ts Z) (rn (kK ts))
 |[],_,_=>gL.nil
 |t::ts,e::Z,h=>gL.cons (v3 (ts:=t::ts) (Z:=e::Z) hn h) λenv=>yD (c7 h).2.1 _ env
noncomputable def tX(m:List D->List M->Res D)(xs:List CE):TE D:=λσ st=>(kK xs σ st).bind λV st=>.of (m V st)
def tup(xs:List CE):CE:=⟨tX J2 xs,λK e=>.Tuple (im K xs (look e).Z) (look e).k e.pos,λK e=>jN K xs (look e).Z,λK e hn h=>(ay.tup (v3 hn h)).as (by unfold tX;(funext σ st;simp only[rn,T.run_bind,T.cN,T.c6,T.dw,T.dz,T.dA,T.dB,Res.cb];try rfl))⟩
def lst(xs:List CE):CE:=⟨tX J3 xs,λK e=>.List (im K xs (look e).Z) e.pos,λK e=>jN K xs (look e).Z,λK e hn h=>(ay.lst (v3 hn h)).as (by unfold tX;(funext σ st;simp only[rn,T.run_bind,T.cN,T.c6,T.dw,T.dz,T.dA,T.dB,Res.cb];try rfl))⟩
def jX(xs:List CE):CE:=⟨tX J4 xs,λK e=>.List (im K xs (look e).Z) e.pos,λK e=>jN K xs (look e).Z,λK e hn h=>(ay.jX (v3 hn h)).as (by unfold tX;(funext σ st;simp only[rn,T.run_bind,T.cN,T.c6,T.dw,T.dz,T.dA,T.dB,Res.cb];try rfl))⟩
abbrev RF:=List D->List M->Res D
structure CC(r:RF) where
 x:Str
 lv:Nat
 h:∀(K:Ks)(p pos:Pos)(args:List Expr)(l:SL),K.scope.names.lookup x=some .globalImplicit->(x==fL)=false->lv<=K.lv->gL K pos args l->(∀env,(backTo pos (starEach args env)).any (·.1)=false)->ay K (.Call (.Name x p) args [] pos) (Co r l)
structure CF(r:RF) where
 lv:Nat
 a:Addr
 h:bB lv a r
noncomputable def CC.fn{r}(x)(f:CF r)(e:autoParam (∀P,nsIn (KF P) mainGlobals x=some (some (.ref f.a))) k1)(k:autoParam (∀P,nv (KF P) (.ref f.a)=true) k1):CC r:=⟨x,f.lv,λJ J J J J hx hd I ha hp=>ay.call hx k (bB.c f.h) I ha hp hd e⟩
noncomputable def CC.mk' {r} (x) (C fI) (f:CF r) (hf:f.a=fI) (e:autoParam (∀P,nsIn (KF P) mainGlobals x=some (some (.ref C))) k1) (k:autoParam (∀P,nv (KF P) (.ref C)=true) k1) (hm:autoParam (∀P,makesIn (KF P) C=true) k1) (hi:autoParam (∀P,findIn (KF P) (.ref C) "__init__" = some (some (.ref fI))) k1) (ht:autoParam (∀P,typeIn (KF P) (.ref fI)=some (.type "function")) k1):CC (fH C r):=
 ⟨x,f.lv+1,λJ J J J J hx hd I ha hp=>ay.call hx k (fq.make hm hi ht (hf▸f.h)) I ha hp hd e⟩
noncomputable def CC.yH {r} (x) (C fI) (f:CF r) (hf:f.a=fI) (e:autoParam (∀P,nsIn (KF P) mainGlobals x=some (some (.ref C))) k1) (k:autoParam (∀P,nv (KF P) (.ref C)=true) k1) (hm:autoParam (∀P,makesIn (KF P) C=true) k1) (hi:autoParam (∀P,findIn (KF P) (.ref C) "__init__" = some (some (.ref fI))) k1) (ht:autoParam (∀P,typeIn (KF P) (.ref fI)=some (.type "function")) k1):CC (kG (fH C r)):=
 ⟨x,f.lv+1,λJ J J J J hx hd I ha hp=>ay.call hx k (fq.XE (fq.make hm hi ht (hf▸f.h))) I ha hp hd e⟩
noncomputable def CC.bi {r} (x) (w) (c:fq 0 w r) (e:∀P,nsIn (KF P) mainGlobals x=some none) (hb:bootBuiltins x=some w) (hn:x≠"__name__") (k:∀P,nv (KF P) w=true):CC r:=⟨x,0,λJ J J J J hx hd I ha hp=>ay.Wg hx k c I ha hp hd e hb hn⟩
noncomputable def MN(r:RF)(l:TE (List D)):TE D:=λσ st=>(l σ st).bind λV st=>.aD st (r V st) .ok
noncomputable def av{r}(f:CC r)(xs:List CE):CE where
 t:=MN r (kK xs)
 a:=λK e=>.Call (.Name f.x (aN e 0).pos) (im K xs (look e).Z.tail) [] e.pos
 ok:=λK e=>mC K f.x&&(decide (f.lv<=K.lv)&&jN K xs (look e).Z.tail)
 h:=λK e hn h=>by
  have h:=c7 h
  exact(f.h K _ _ _ _ (gQ h.1).1 (gQ h.1).2 (dJ h.2.1) (qR hn h.2.2) (pU (mE h.2.2) _)).as (by unfold MN;(funext σ st;simp only[rn,T.run_bind,T.cN,T.c6,T.dw,T.dz,T.dA,T.dB,Res.cb];try rfl))
structure CA(C:Addr)(x:Str):Prop where
 g:autoParam (∀P,plainGet (KF P) C x=true) k1
 d:autoParam (∀P,hasDictIn (KF P) C=true) k1
 f:autoParam (∀P,findIn (KF P) (.ref C) x=some Option.none) k1
theorem abk:∀P,noGet (KF P) Option.none=true:=λP=>by kernel_rfl
def MO(C:Addr)(x:Str):D->List M->T D
 |.obj C' fs,st=>.of (li C x (.obj C' fs) st)
 |d,st=>.aD st (li C x d st) .ok
theorem abl(C)(x)(d)(st):(MO C x d st).run=li C x d st:=by cases d <;> first | exact T.cN _ | exact Res.cb _
def MP(C:Addr)(x:Str)(a:TE D):TE D:=λσ st=>(a σ st).bind (MO C x)
def attr{C}{x}(A:CA C x)(B:CE):CE where
 t:=MP C x B.t
 a:=λK e=>.Attribute (B.a K (aN e 0)) x e.pos
 ok:=λK e=>B.ok K (aN e 0)&&vV (B.a K (aN e 0))
 h:=λK e hn h=>(ay.attr (B.h K _ hn (bo h).1) A.g A.d A.f abk (λenv=>Ej (bo h).2 _ env)).as (by funext σ st;simp only[rn,MP,T.run_bind,abl];rfl)
structure CM(C:Addr)(x:Str)(r:RF) where
 f:CF r
 g:autoParam (∀P,plainGet (KF P) C x=true) k1
 e:autoParam (∀P,findIn (KF P) (.ref C) x=some (some (.ref f.a))) k1
 t:autoParam (∀P,isFn (KF P) (.ref f.a)=true) k1
 k:autoParam (∀P,nv (KF P) (.ref f.a)=true) k1
def tY(C:Addr)(x:Str)(d:D)(st:List M):Res Bool:=match lg C st d with
 |some fs=>if(fs.lookup x).isNone then .ok true st else .stuck
 |none=>.stuck
def MQ(C:Addr)(x:Str):D->List M->T Bool
 |.obj C' fs,st=>.of (tY C x (.obj C' fs) st)
 |d,st=>.aB st (tY C x d st) .ok
theorem abm(C)(x)(d)(st):(MQ C x d st).run=tY C x d st:=by cases d <;> first | exact T.cN _ | exact Res.cb _
def Eo(C:Addr)(x:Str)(r:RF)(a:TE D)(l:TE (List D)):TE D:=λσ st=>(a σ st).bind λd st=>(MQ C x d st).bind λJ st=>(l σ st).bind λV st=>.aD st (r (d::V) st) .ok
theorem abn(C:Addr)(x:Str)(r:RF)(a:TE D)(l:TE (List D)):rn (Eo C x r a l)=Cr C x r (rn a) (rn l):=by
 funext σ st
 simp only[rn,Eo,T.run_bind,abm,T.c6]
 unfold Cr
 congr 1;funext d st
 unfold tY xy
 cases lg C st d with
 |none=>rfl
 |some fs=>cases q:(fs.lookup x).isNone with
  |false=>simp only[q];rfl
  |true=>simp only[q,if_true,Res.gF];congr 1;funext V st;exact Res.cb _
noncomputable def bG(Z:List Expr):Bool:=decide (Z.length<30)
def bP{C}{x}{r}(m:CM C x r)(A:CE)(xs:List CE):CE where
 t:=Eo C x r A.t (kK xs)
 a:=λK e=>.Call (.Attribute (A.a K (aN (aN e 0) 0)) x (aN e 0).pos) (im K xs (look e).Z.tail) [] e.pos
 ok:=λK e=>(A.ok K (aN (aN e 0) 0)&&vV (A.a K (aN (aN e 0) 0)))&&(decide (m.f.lv<=K.lv)&&(jN K xs (look e).Z.tail&&((aN e 0).pos.endLine==e.pos.line&&bG (im K xs (look e).Z.tail))))
 h:=λK e hn h=>by
  have Y:=bo h
  have h1:=bo Y.1
  have h:=j9 Y.2
  exact(ay.bP (A.h K _ hn h1.1) m.g m.e m.t m.k m.f.h (dJ h.1) (qR hn h.2.1) (λenv=>Ej h1.2 _ env) (MD (mE h.2.1) (dJ h.2.2.2) _) h.2.2.1 (pU (mE h.2.1) _)).as (abn ..)
structure CB(x:Str)(yI:D->List M->Bool)(r:RF) where
 id:String
 m:qH x id yI
 c:fq 0 (.builtin id) r
noncomputable def pV(ok:D->List M->Bool)(d:D)(st:List M):Res Bool:=if ok d st=true then .ok true st else .stuck
noncomputable def MR(ok:D->List M->Bool):D->List M->T Bool
 |.ab k,st=>.aB st (pV ok (.ab k) st) .ok
 |d,st=>.of (pV ok d st)
theorem abo(ok:D->List M->Bool)(d)(st):(MR ok d st).run=pV ok d st:=by cases d <;> first | exact T.cN _ | exact Res.cb _
noncomputable def Ep(ok:D->List M->Bool)(r:RF)(a:TE D)(l:TE (List D)):TE D:=λσ st=>(a σ st).bind λd st=>(MR ok d st).bind λJ st=>(l σ st).bind λV st=>.aD st (r (d::V) st) .ok
theorem abp(ok:D->List M->Bool)(r:RF)(a:TE D)(l:TE (List D)):rn (Ep ok r a l)=De ok r (rn a) (rn l):=by
 funext σ st
 simp only[rn,Ep,T.run_bind,abo,T.c6]
 unfold De
 congr 1;funext d st
 unfold pV Li
 cases q:ok d st with
 |false=>rfl
 |true=>simp only[if_true,Res.gF];congr 1;funext V st;exact Res.cb _
noncomputable def mb{x}{yI}{r}(m:CB x yI r)(A:CE)(xs:List CE):CE where
 t:=Ep yI r A.t (kK xs)
 a:=λK e=>.Call (.Attribute (A.a K (aN (aN e 0) 0)) x (aN e 0).pos) (im K xs (look e).Z.tail) [] e.pos
 ok:=λK e=>(A.ok K (aN (aN e 0) 0)&&vV (A.a K (aN (aN e 0) 0)))&&(jN K xs (look e).Z.tail&&((aN e 0).pos.endLine==e.pos.line&&bG (im K xs (look e).Z.tail)))
 h:=λK e hn h=>by
  have Y:=bo h
  have h1:=bo Y.1
  have h:=c7 Y.2
  exact(ay.Yq (A.h K _ hn h1.1) m.m m.c (zero_le _) (qR hn h.1) (λenv=>Ej h1.2 _ env) (MD (mE h.1) (dJ h.2.2) _) h.2.1 (pU (mE h.1) _)).as (abp ..)
def tP:Option CE->TE (Option Int)
 |none=>λJ st=>.ok none st
 |some A=>λσ st=>(A.t σ st).bind λd st=>.of (CG d st)
noncomputable def aP(K:Ks):Option CE->Option Expr->Option Expr
 |none,_=>none
 |some A,e=>some (A.a K (e.getD dE))
noncomputable def Er(K:Ks):Option CE->Option Expr->Bool
 |none,_=>true
 |some A,e=>A.ok K (e.getD dE)
theorem Es{K}(hn:K.nm.Nodup):∀{o:Option CE} {e:Option Expr},Er K o e=true->mx K (aP K o e) (rn (tP o))
 |none,_,_=>mx.no
 |some A,e,h=>cast (aw _ (by unfold tP;(funext σ st;simp only[rn,T.run_bind,T.cN,T.c6,T.dw,T.dz,T.dA,T.dB,Res.cb];try rfl))) (mx.some (A.h K (e.getD dE) hn h))
def slice(A:CE)(lo hi:Option CE):CE where
 t:=λσ st=>(A.t σ st).bind λx st=>(tP lo σ st).bind λl st=>(tP hi σ st).bind λh st=>.aD st (kF x l h st) .ok
 a:=λK e=>.Subscript (A.a K (aN e 0)) (.Slice (aP K lo (look (aN e 1)).lo) (aP K hi (look (aN e 1)).hi) none (aN e 1).pos) e.pos
 ok:=λK e=>A.ok K (aN e 0)&&(Er K lo (look (aN e 1)).lo&&Er K hi (look (aN e 1)).hi)
 h:=λK e hn h=>(ay.slice (A.h K _ hn (c7 h).1) (Es hn (c7 h).2.1) (Es hn (c7 h).2.2)).as (by (funext σ st;simp only[rn,T.run_bind,T.cN,T.c6,T.dw,T.dz,T.dA,T.dB,Res.cb];try rfl))
def rev(A B:CE):CE where
 t:=λσ st=>(A.t σ st).bind λx st=>(tP (some B) σ st).bind λp st=>.aD st (CJ x p st) .ok
 a:=λK e=>.Subscript (A.a K (aN e 0)) (.Slice none none (some (B.a K (aN (aN e 1) 0))) (aN e 1).pos) e.pos
 ok:=λK e=>A.ok K (aN e 0)&&B.ok K (aN (aN e 1) 0)
 h:=λK e hn h=>(ay.rev (A.h K _ hn (bo h).1) (Es (o:=some B) (e:=some (aN (aN e 1) 0)) hn (bo h).2)).as (by (funext σ st;simp only[rn,T.run_bind,T.cN,T.c6,T.dw,T.dz,T.dA,T.dB,Res.cb];try rfl))
def Ea(x:Str)(A:CE):CE where
 t:=λσ st=>(A.t σ st).bind λd st=>.aD st (yy x d st) .ok
 a:=λK e=>.JoinedStr [.FormattedValue (A.a K (aN (aN e 0) 0)) (-1) none (aN e 0).pos,.Constant (.str x) (look (aN e 1)).k (aN e 1).pos] e.pos
 ok:=λK e=>A.ok K (aN (aN e 0) 0)
 h:=λK e hn h=>(ay.Ea (A.h K _ hn h)).as (by (funext σ st;simp only[rn,T.run_bind,T.cN,T.c6,T.dw,T.dz,T.dA,T.dB,Res.cb];try rfl))
noncomputable def D6(x:Str)(i:Int):CE where
 t:=λJ st=>.ok (.ab st.length) (st++[.dict [(x,i)]])
 a:=λJ e=>.Dict [some (.Constant (.str x) (look (aN e 0)).k (aN e 0).pos)] [.Constant (.int i) (look (aN e 1)).k (aN e 1).pos] e.pos
 ok:=λJ J=>true
 h:=λJ J J J=>ay.D6
structure BN(x:Str)(w:Value):Prop where
 e:autoParam (∀P,nsIn (KF P) mainGlobals x=some none) k1
 b:autoParam (bootBuiltins x=some w) kr
 n:autoParam (x≠"__name__") dc
def yJ(l:TE (List D)):TE (List D):=λσ st=>(l σ st).bind λV st=>.aL st (ij V st) .ok
theorem MS(l:TE (List D)):rn (yJ l)=Dv (rn l):=by unfold yJ;(funext σ st;simp only[rn,T.run_bind,T.cN,T.c6,T.dw,T.dz,T.dA,T.dB,Res.cb];try rfl)
def ym {x y} (b:BN x (.type "list")) (c:BN y (.type "range")) (xs:List CE):CE where
 t:=λσ st=>(yJ (kK xs) σ st).bind λV st=>.ok (.lst V) st
 a:=λK e=>.Call (.Name x (aN e 0).pos) [.Call (.Name y (aN (aN e 1) 0).pos) (im K xs (look (aN e 1)).Z.tail) [] (aN e 1).pos] [] e.pos
 ok:=λK e=>mC K x&&(mC K y&&jN K xs (look (aN e 1)).Z.tail)
 h:=λK e hn h=>by
  have h:=c7 h
  exact(ay.ym (gQ h.1).1 b.e b.b b.n (gQ h.2.1).1 c.e c.b c.n (qR hn h.2.2) (pU (mE h.2.2) _) (gQ h.1).2 (gQ h.2.1).2).as (by unfold DV;rw[<- MS];(funext σ st;simp only[rn,T.run_bind,T.cN,T.c6,T.dw,T.dz,T.dA,T.dB,Res.cb];try rfl))
def nV(K:Ks)(i:Nat):Bool:=Mv K (K.nm.getD i fL)&&!(K.nm.getD i fL==fL)
theorem qS{K}{i}(hn:K.nm.Nodup)(h:nV K i=true):Bound K i (K.nm.getD i fL):=by
 have hd:=vX (bo h).2
 refine Bound.of ?_ hn (bo h).1
 cases q:K.nm[i]? with
 |none=>rw[eJ,q] at hd;exact absurd hd (by decide)
 |some x=>rw[eJ,q];rfl
noncomputable def tZ(K:Ks):List Nat->List Expr->List Tn
 |i::is,g::gs=>(i,K.nm.getD i fL,g.pos)::tZ K is gs
 |_,_=>[]
def t0(K:Ks)(is:List Nat)(gs:List Expr):Bool:=decide ((tZ K is gs).map (·.1)=is)&&is.all (nV K)
theorem t6{K}(hn:K.nm.Nodup):∀{is:List Nat} {gs:List Expr},is.all (nV K)=true->∀t∈tZ K is gs,Bound K t.1 t.2.1
 |[],_,_,_,h=>nomatch h
 |_::_,[],_,_,h=>nomatch h
 |i::is,g::gs,h,t,ht=>by
  rcases dI.mp ht with rfl | ht
  .exact qS hn (bo h).1
  .exact t6 hn (bo h).2 t ht
structure CI where
 t:TE (List D)
 a:Ks->Expr->Expr
 ok:Ks->Expr->Bool
 h:∀K e,K.nm.Nodup->ok K e=true->pS K (a K e) (rn t)
structure CK where
 aO:iP
 t:TE (List D)
 g:Ks->Expr->Expr
 a:Ks->Expr->Expr
 ok:Ks->Ks->Expr->Expr->Bool
 h:∀K K' x e,K.nm.Nodup->K'.nm.Nodup->ok K K' x e=true->iQ K K' (g K' x) aO (a K e) (rn t)
 keep:Nat->Bool
 hk:∀az m,keep az.length=true->∀σ x σ',aO x (dY az m σ)=some σ'->∀(j:Nat) d,(dY az m σ)[j]?=some (some d)->σ'[j]?=some (some d)
def it(A:CE):CI where
 t:=λσ st=>(A.t σ st).bind λd st=>.aL st (tE d st) .ok
 a:=A.a
 ok:=A.ok
 h:=λK e hn h=>cast (aw _ (by (funext σ st;simp only[rn,T.run_bind,T.cN,T.c6,T.dw,T.dz,T.dA,T.dB,Res.cb];try rfl))) (pS.val (A.h K e hn h))
def rg {x} (b:BN x (.type "range")) (xs:List CE):CI where
 t:=yJ (kK xs)
 a:=λK e=>.Call (.Name x (aN e 0).pos) (im K xs (look e).Z.tail) [] e.pos
 ok:=λK e=>mC K x&&jN K xs (look e).Z.tail
 h:=λK e hn h=>cast (aw _ (MS _).symm) (pS.range (gQ (bo h).1).1 b.e b.b b.n (qR hn (bo h).2) (pU (mE (bo h).2) _) (gQ (bo h).1).2)
def nm(i:Nat)(au:CI):CK where
 aO:=qL i
 t:=au.t
 g:=λK x=>.Name (K.nm.getD i fL) x.pos
 a:=au.a
 ok:=λK K' J e=>nV K' i&&au.ok K e
 h:=λK K' x e hn fD h=>iQ.name (qS fD (bo h).1) (au.h K e hn (bo h).2)
 keep:=λc=>decide (c<=i)
 hk:=λJ J h=>aa3 (dJ h)
def qT(is:List Nat)(K:Ks)(x:Expr):Expr:=.Tuple ((tZ K is (look x).Z).map jI) (look x).k x.pos
theorem Et{K}{is}{gs}(h:t0 K is gs=true):jJ ((tZ K is gs).map (·.1))=jJ is:=aw _ (dJ (bo h).1)
noncomputable def yK(is:List Nat)(c:Nat):Bool:=is.all λi=>decide (c<=i)
theorem Eu{is}{c}(h:yK is c=true):∀i∈is,c<=i:=λi hi=>dJ (all_eq_true.mp h i hi)
def t7(is:List Nat)(A:CE):CK where
 aO:=jJ is
 t:=λσ st=>(A.t σ st).bind λd st=>.aL st (Dz d st) .ok
 g:=qT is
 a:=A.a
 ok:=λK K' x e=>t0 K' is (look x).Z&&A.ok K e
 h:=λK K' x e hn fD h=>Et (bo h).1▸cast (aw _ (by (funext σ st;simp only[rn,T.run_bind,T.cN,T.c6,T.dw,T.dz,T.dA,T.dB,Res.cb];try rfl))) (iQ.Y5 (t6 fD (bo (bo h).1).2) rfl (A.h K e hn (bo h).2))
 keep:=yK is
 hk:=λJ J h=>Eb (Eu h)
def yL {x} (b:BN x (.type "enumerate")) (is:List Nat) (xs:List CE):CK where
 aO:=jJ is
 t:=λσ st=>(kK xs σ st).bind λV st=>.aL st (yc V st) .ok
 g:=qT is
 a:=λK e=>.Call (.Name x (aN e 0).pos) (im K xs (look e).Z.tail) [] e.pos
 ok:=λK K' g e=>t0 K' is (look g).Z&&(mC K x&&jN K xs (look e).Z.tail)
 h:=λK K' g e hn fD h=>by
  have h:=c7 h
  exact Et h.1▸cast (aw _ (by (funext σ st;simp only[rn,T.run_bind,T.cN,T.c6,T.dw,T.dz,T.dA,T.dB,Res.cb];try rfl))) (iQ.enum (t6 fD (bo h.1).2) rfl (gQ h.2.1).1 b.e b.b b.n (qR hn h.2.2) (pU (mE h.2.2) _) (gQ h.2.1).2)
 keep:=yK is
 hk:=λJ J h=>Eb (Eu h)
def zp {x} (b:BN x (.type "zip")) (is:List Nat) (xs:List CE):CK where
 aO:=jJ is
 t:=λσ st=>(kK xs σ st).bind λV st=>.aL st (tG V st) .ok
 g:=qT is
 a:=λK e=>.Call (.Name x (aN e 0).pos) (im K xs (look e).Z.tail) [] e.pos
 ok:=λK K' g e=>t0 K' is (look g).Z&&(mC K x&&jN K xs (look e).Z.tail)
 h:=λK K' g e hn fD h=>by
  have h:=c7 h
  exact Et h.1▸cast (aw _ (by (funext σ st;simp only[rn,T.run_bind,T.cN,T.c6,T.dw,T.dz,T.dA,T.dB,Res.cb];try rfl))) (iQ.zip (t6 fD (bo h.1).2) rfl (gQ h.2.1).1 b.e b.b b.n (qR hn h.2.2) (pU (mE h.2.2) _) (gQ h.2.1).2)
 keep:=yK is
 hk:=λJ J h=>Eb (Eu h)
structure CZ where
 k:CK
 az:List Nat
 m:Nat
 el:CE
 tt:TE Bool
 ta:Ks->List Expr->List Expr
 tk:Ks->List Expr->Bool
 th:∀K Z,K.nm.Nodup->tk K Z=true->mz K (ta K Z) (rn tt)
def CZ.r(z:CZ)(σ:List (Option D)):List D->List M->Res (List D):=gO z.k.aO (rn z.tt) (rn z.el.t) (dY z.az z.m σ)
def CZ.t(z:CZ):TE (List D):=λσ st=>(z.k.t σ st).bind λV st=>.aL st (z.r σ V st) .ok
def v4 (s:Scope):List Str:=(s.names.filter λp=>tN (some p.2)&&!(p.1==(".0" : Str))).map (·.1)
def CZ.K(z:CZ)(K:Ks)(e:Expr):Ks:=K.comp (look e).sc z.az (v4 (look e).sc)
def CZ.a(z:CZ)(K:Ks)(e:Expr):Expr:=.ListComp (z.el.a (z.K K e) (aN e 0)) [⟨z.k.g (z.K K e) (aN e 1),z.k.a K (aN e 2),z.ta (z.K K e) ((look e).Z.drop 3),0⟩] (look e).sc e.pos
def CZ.ok(z:CZ)(K:Ks)(e:Expr):Bool:=
 (decide ((look e).sc.kind=.function)&&(decide ((look e).sc.names.map (·.1)).Nodup&&(Mw K (look e).sc z.az (v4 (look e).sc)&&decide (z.K K e).nm.Nodup))) &&
 ((decide ((v4 (look e).sc).length=z.m)&&(z.k.keep z.az.length&&jM (z.k.a K (aN e 2))))&&(z.k.ok K (z.K K e) (aN e 1) (aN e 2)&&(z.el.ok (z.K K e) (aN e 0)&&z.tk (z.K K e) ((look e).Z.drop 3))))
theorem CZ.tx(z:CZ){K}{e}(hn:K.nm.Nodup)(h:z.ok K e=true) :
  qP K (look e).sc z.az (v4 (look e).sc) (z.k.g (z.K K e) (aN e 1)) (z.k.a K (aN e 2)) (z.el.a (z.K K e) (aN e 0)) (z.ta (z.K K e) ((look e).Z.drop 3)) z.k.aO (rn z.k.t) (rn z.tt) (rn z.el.t):=by
 have h1:=j9 (bo h).1
 have h2:=c7 (bo (bo h).2).1
 have h3:=c7 (bo (bo h).2).2
 have fD:=dJ h1.2.2.2
 exact⟨.of (dJ h1.1) (dJ h1.2.1) h1.2.2.1,λσ=>z.k.hk z.az _ h2.2.1 σ,z.k.h K _ _ _ hn fD h3.1,z.th _ _ fD h3.2.2,z.el.h _ _ fD h3.2.1,MA h2.2.2⟩
theorem CZ.rn(z:CZ){K}{e}(h:z.ok K e=true):lB (rn z.k.t) z.k.aO z.az (v4 (look e).sc).length (rn z.tt) (rn z.el.t)=Internal.rn z.t:=by rw[dJ (c7 (bo (bo h).2).1).1];unfold CZ.t CZ.r;(funext σ st;simp only[Internal.rn,T.run_bind,T.cN,T.c6,T.dw,T.dz,T.dA,T.dB,Res.cb];try rfl)
noncomputable def cz(k:CK)(az:List Nat)(m:Nat)(el:CE):CZ:={k:=k,az:=az,m:=m,el:=el,tt:=λJ st=>.ok true st,ta:=λJ J=>[],tk:=λJ J=>true,th:=λJ J J J=>mz.nil}
noncomputable def nW(k:CK)(az:List Nat)(m:Nat)(t:CT)(el:CE):CZ:={k:=k,az:=az,m:=m,el:=el,tt:=t.t,ta:=λK Z=>[t.a K (Z.headD dE)],tk:=λK Z=>t.ok K (Z.headD dE),th:=λK Z hn h=>mz.one (t.h K _ hn h)}
def cp(z:CZ):CE where
 t:=λσ st=>(z.t σ st).bind λrs st=>.ok (.lst rs) st
 a:=z.a
 ok:=z.ok
 h:=λK e hn h=>(ay.comp (z.tx hn h)).as (by rw[z.rn h];(funext σ st;simp only[rn,T.run_bind,T.cN,T.c6,T.dw,T.dz,T.dA,T.dB,Res.cb];try rfl))
def MT(z:CZ):CE where
 t:=λσ st=>(z.t σ st).bind λrs st=>.ok (.ab st.length) (st++[.list rs])
 a:=z.a
 ok:=z.ok
 h:=λK e hn h=>(ay.j8 (z.tx hn h)).as (by rw[z.rn h];(funext σ st;simp only[rn,T.run_bind,T.cN,T.c6,T.dw,T.dz,T.dA,T.dB,Res.cb];try rfl))
abbrev TS:=TE (Fl×List (Option D))
structure CS where
 t:TS
 a:Ks->Stmt->Stmt
 ok:Ks->Stmt->Bool
 h:∀K s,K.nm.Nodup->ok K s=true->bQ K (a K s) (rn t)
structure CX where
 t:TS
 a:Ks->List Stmt->List Stmt
 ok:Ks->List Stmt->Bool
 h:∀K s,K.nm.Nodup->ok K s=true->eg K (a K s) (rn t)
theorem bQ.as{K}{e}{r r'}(h:bQ K e r)(q:r'=r):bQ K e r':=q▸h
theorem eg.as{K}{e}{r r'}(h:eg K e r)(q:r'=r):eg K e r':=q▸h
def set(i:Nat)(A:CE):CS where
 t:=λσ st=>(A.t σ st).bind λd st=>.ok (.next,σ.set i (some d)) st
 a:=λK s=>.Assign [.Name (K.nm.getD i fL) (bn s 0).pos] (A.a K (bn s 1)) s.pos
 ok:=λK s=>nV K i&&(A.ok K (bn s 1)&&nS (A.a K (bn s 1)))
 h:=λK s hn h=>(bQ.set (qS hn (c7 h).1) (A.h K _ hn (c7 h).2.1) λJ=>tO (c7 h).2.2 _ _ _).as (by (funext σ st;simp only[rn,T.run_bind,T.cN,T.c6,T.dw,T.dz,T.dA,T.dB,Res.cb];try rfl))
def qU(i:Nat)(z:CZ):CS where
 t:=λσ st=>(z.t σ st).bind λrs st=>.ok (.next,σ.set i (some (.lst rs))) st
 a:=λK s=>.Assign [.Name (K.nm.getD i fL) (bn s 0).pos] (z.a K (bn s 1)) s.pos
 ok:=λK s=>(nV K i&&z.ok K (bn s 1))&&((decide (K.scope.kind=.function)&&Mx K .local (K.nm.getD i fL))&&((bn s 0).pos.line==(bn s 1).pos.line&&!((look (bn s 1)).sc.names.any λ(n,k)=>n==K.nm.getD i fL&&(k == .local||k == .cell))))
 h:=λK s hn h=>by
  have h1:=bo (bo h).1
  have h2:=bo (bo (bo h).2).1
  have h3:=bo (bo (bo h).2).2
  exact(bQ.ZQ (qS hn h1.1) (z.tx hn h1.2) (aa1 (dJ h2.1) (dJ h2.2) h3.1 (vX h3.2))).as (by rw[z.rn h1.2];(funext σ st;simp only[rn,T.run_bind,T.cN,T.c6,T.dw,T.dz,T.dA,T.dB,Res.cb];try rfl))
def lr(i:Nat)(z:CZ):CS where
 t:=λσ st=>((MT z).t σ st).bind λd st=>.ok (.next,σ.set i (some d)) st
 a:=λK s=>.Assign [.Name (K.nm.getD i fL) (bn s 0).pos] (z.a K (bn s 1)) s.pos
 ok:=λK s=>nV K i&&(z.ok K (bn s 1)&&!(K.scope.names.lookup (K.nm.getD i fL)==some .local))
 h:=λK s hn h=>(bQ.aaZ (qS hn (c7 h).1) ((MT z).h K _ hn (c7 h).2.1) (aa0 (vX (c7 h).2.2))).as (by (funext σ st;simp only[rn,T.run_bind,T.cN,T.c6,T.dw,T.dz,T.dA,T.dB,Res.cb];try rfl))
noncomputable def Ev(m:Sem (Option (List Str)))(o:Option (List Str)):Bool:=match m with
 |.pure x=>decide (x=o)
 |_=>false
theorem MU{m}{o}(h:Ev m o=true):m=pure o:=by
 cases m with
 |pure x=>exact aw Sem.pure (dJ h)
 |_=>exact absurd h em
theorem MV{t v}{l}{env}(h:swapsWith v (some t) l env=pure false):swapsWithSole [t] v l env=pure false:=h
noncomputable def MW(K:Ks):Env:={scope:=K.scope,locals:=0,globals:=0,cells:=[]}
def iS(is:List Nat)(A:CE):CS where
 t:=λσ st=>(A.t σ st).bind λd st=>.of (LD is σ d st)
 a:=λK s=>.Assign [qT is K (bn s 0)] (A.a K (bn s 1)) s.pos
 ok:=λK s=>(t0 K is (look (bn s 0)).Z&&A.ok K (bn s 1))&&(jM (A.a K (bn s 1))&&Ev (swappedStores [qT is K (bn s 0)] (A.a K (bn s 1)) (MW K)) none)
 h:=λK s hn h=>by
  have h1:=bo (bo h).1
  have h2:=bo (bo h).2
  exact(bQ.unpack (t6 hn (bo h1.1).2) (A.h K _ hn h1.2) (λJ=>MV (MC h2.1 _ _ _ _ _)) rfl (MU h2.2)).as (by rw[dJ (bo h1.1).1];(funext σ st;simp only[rn,T.run_bind,T.cN,T.c6,T.dw,T.dz,T.dA,T.dB,Res.cb];try rfl))
def mF(is:List Nat)(A:CE):CS where
 t:=λσ st=>(A.t σ st).bind λd st=>.of (xY is σ d st)
 a:=λK s=>.Assign [qT is K (bn s 0)] (A.a K (bn s 1)) s.pos
 ok:=λK s=>(t0 K is (look (bn s 0)).Z&&A.ok K (bn s 1))&&(jM (A.a K (bn s 1))&&Ev (swappedStores [qT is K (bn s 0)] (A.a K (bn s 1)) (MW K)) (some ((tZ K is (look (bn s 0)).Z).map (·.2.1))))
 h:=λK s hn h=>by
  have h1:=bo (bo h).1
  have h2:=bo (bo h).2
  exact(bQ.xY (t6 hn (bo h1.1).2) (A.h K _ hn h1.2) (λJ=>MV (MC h2.1 _ _ _ _ _)) (MU h2.2)).as (by rw[dJ (bo h1.1).1];(funext σ st;simp only[rn,T.run_bind,T.cN,T.c6,T.dw,T.dz,T.dA,T.dB,Res.cb];try rfl))
def gR{C}{x}(S:fG C x)(ai A:CE):CS where
 t:=λσ st=>(ai.t σ st).bind λv st=>(A.t σ st).bind λd st=>.aU st (pO C x v d st) λJ st=>.ok (.next,σ) st
 a:=λK s=>.Assign [.Attribute (A.a K (aN (bn s 0) 0)) x (bn s 0).pos] (ai.a K (bn s 1)) s.pos
 ok:=λK s=>ai.ok K (bn s 1)&&(A.ok K (aN (bn s 0) 0)&&nS (ai.a K (bn s 1)))
 h:=λK s hn h=>(bQ.setAttr S (ai.h K _ hn (c7 h).1) (A.h K _ hn (c7 h).2.1) λJ=>tO (c7 h).2.2 _ _ _).as (by (funext σ st;simp only[rn,T.run_bind,T.cN,T.c6,T.dw,T.dz,T.dA,T.dB,Res.cb];try rfl))
def v5(ai A au:CE):CS where
 t:=λσ st=>(ai.t σ st).bind λv st=>(A.t σ st).bind λd st=>(au.t σ st).bind λi st=>.aU st (tA v d i st) λJ st=>.ok (.next,σ) st
 a:=λK s=>.Assign [.Subscript (A.a K (aN (bn s 0) 0)) (au.a K (aN (bn s 0) 1)) (bn s 0).pos] (ai.a K (bn s 1)) s.pos
 ok:=λK s=>ai.ok K (bn s 1)&&(A.ok K (aN (bn s 0) 0)&&(au.ok K (aN (bn s 0) 1)&&nS (ai.a K (bn s 1))))
 h:=λK s hn h=>(bQ.setItem (ai.h K _ hn (j9 h).1) (A.h K _ hn (j9 h).2.1) (au.h K _ hn (j9 h).2.2.1) λJ=>tO (j9 h).2.2.2 _ _ _).as (by (funext σ st;simp only[rn,T.run_bind,T.cN,T.c6,T.dw,T.dz,T.dA,T.dB,Res.cb];try rfl))
def D4(ai A au:CE):CS where
 t:=λσ st=>(ai.t σ st).bind λv st=>(A.t σ st).bind λd st=>(au.t σ st).bind λi st=>.aU st (yr v d i st) λJ st=>.ok (.next,σ) st
 a:=λK s=>.Assign [.Subscript (A.a K (aN (bn s 0) 0)) (au.a K (aN (bn s 0) 1)) (bn s 0).pos] (ai.a K (bn s 1)) s.pos
 ok:=λK s=>ai.ok K (bn s 1)&&(A.ok K (aN (bn s 0) 0)&&(au.ok K (aN (bn s 0) 1)&&nS (ai.a K (bn s 1))))
 h:=λK s hn h=>(bQ.D4 (ai.h K _ hn (j9 h).1) (A.h K _ hn (j9 h).2.1) (au.h K _ hn (j9 h).2.2.1) λJ=>tO (j9 h).2.2.2 _ _ _).as (by (funext σ st;simp only[rn,T.run_bind,T.cN,T.c6,T.dw,T.dz,T.dA,T.dB,Res.cb];try rfl))
def MX(i:Nat)(A:TE D)(σ:List (Option D)):Option (Option D)->List M->T (Fl×List (Option D))
 |some (some d),st=>(A σ st).bind λv st=>(T.of (yt d v st)).bind λx st=>.ok (.next,σ.set i (some x)) st
 |_,_=>.stuck
theorem abq(i:Nat)(A:TE D)(σ:List (Option D))(o:Option (Option D))(st:List M):(MX i A σ o st).run=Mh i yt (rn A) σ o st:=by
 match o with
 |some (some d)=>show(T.bind _ _).run=_;simp only[T.run_bind,T.cN];rfl
 |some none=>rfl
 |none=>rfl
def aug(i:Nat)(A:CE):CS where
 t:=λσ st=>MX i A.t σ σ[i]? st
 a:=λK s=>.AugAssign (.Name (K.nm.getD i fL) (bn s 0).pos) .Add (A.a K (bn s 1)) s.pos
 ok:=λK s=>nV K i&&A.ok K (bn s 1)
 h:=λK s hn h=>(bQ.aug (r:=yt) (qS hn (bo h).1) aaB (A.h K _ hn (bo h).2)).as (by
  funext σ st;exact abq ..)
def expr(A:CE):CS where
 t:=λσ st=>(A.t σ st).bind λd st=>.of (J9 σ d st)
 a:=λK s=>.Expr (A.a K (bn s 0)) s.pos
 ok:=λK s=>A.ok K (bn s 0)&&nS (A.a K (bn s 0))
 h:=λK s hn h=>(bQ.expr (A.h K _ hn (bo h).1) λJ=>tO (bo h).2 _ _ _).as (by (funext σ st;simp only[rn,T.run_bind,T.cN,T.c6,T.dw,T.dz,T.dA,T.dB,Res.cb];try rfl))
noncomputable def ret(A:CE):CS where
 t:=λσ st=>(A.t σ st).bind λd st=>.ok (.ret d,σ) st
 a:=λK s=>.Return (some (A.a K (bn s 0))) s.pos
 ok:=λK s=>A.ok K (bn s 0)
 h:=λK s hn h=>(bQ.ret (A.h K _ hn h)).as (by (funext σ st;simp only[rn,T.run_bind,T.cN,T.c6,T.dw,T.dz,T.dA,T.dB,Res.cb];try rfl))
noncomputable def cont:CS:=⟨λσ st=>.ok (.cont,σ) st,λJ s=>.Continue s.pos,λJ J=>true,λJ J J J=>bQ.cont⟩
noncomputable def yM:CS:=⟨λJ J=>.stuck,λJ s=>s,λJ J=>true,λJ J J J=>bQ.stuck⟩
def raise(x:Str)(e:∀P,nsIn (KF P) mainGlobals x=some (some (.ref 57)))(A:CE):CS where
 t:=λσ st=>(A.t σ st).bind λd st=>.of (vS d st)
 a:=λK s=>.Raise (some (.Call (.Name x (aN (bn s 0) 0).pos) [A.a K (aN (bn s 0) 1)] [] (bn s 0).pos)) none s.pos
 ok:=λK s=>mC K x&&(A.ok K (aN (bn s 0) 1)&&jM (A.a K (aN (bn s 0) 1)))
 h:=λK s hn h=>by
  have h:=c7 h
  have n:tQ [A.a K (aN (bn s 0) 1)]=true:=(and_eq_true _ _).mpr ⟨h.2.2,rfl⟩
  exact(bQ.raise (gQ h.1).1 e (A.h K _ hn h.2.1) (λenv=>yD h.2.2 _ env) (pU n _) (gQ h.1).2).as (by (funext σ st;simp only[rn,T.run_bind,T.cN,T.c6,T.dw,T.dz,T.dA,T.dB,Res.cb];try rfl))
noncomputable def ite(t:CT)(A B:CX):CS where
 t:=tT t.t A.t B.t
 a:=λK s=>.If (t.a K (bn s 0)) (A.a K (gP s).b) (B.a K (gP s).o) s.pos
 ok:=λK s=>t.ok K (bn s 0)&&(A.ok K (gP s).b&&B.ok K (gP s).o)
 h:=λK s hn h=>(bQ.ite (t.h K _ hn (c7 h).1) (A.h K _ hn (c7 h).2.1) (B.h K _ hn (c7 h).2.2)).as (by funext σ st;exact MF ..)
def lp(k:CK)(X:CX):D->SS:=kH k.aO (rn X.t)
def dZ(k:CK)(X:CX):CS where
 t:=λσ st=>(k.t σ st).bind λV st=>.aF st (de (lp k X) V σ st) .ok
 a:=λK s=>.For (k.g K (bn s 0)) (k.a K (bn s 1)) (X.a K (gP s).b) [] s.pos
 ok:=λK s=>k.ok K K (bn s 0) (bn s 1)&&(X.ok K (gP s).b&&jM (k.a K (bn s 1)))
 h:=λK s hn h=>(bQ.YO (k.h K K _ _ hn hn (c7 h).1) (X.h K _ hn (c7 h).2.1) (MA (c7 h).2.2)).as (by (funext σ st;simp only[rn,T.run_bind,T.cN,T.c6,T.dw,T.dz,T.dA,T.dB,Res.cb];try rfl))
def whl(N:Nat)(t:CT)(X:CX):CS where
 t:=λσ st=>.aF st (jL (rn t.t) (rn X.t) N σ st) .ok
 a:=λK s=>.While (t.a K (bn s 0)) (X.a K (gP s).b) [] s.pos
 ok:=λK s=>t.ok K (bn s 0)&&X.ok K (gP s).b
 h:=λK s hn h=>(bQ.while (N:=N) (t.h K _ hn (bo h).1) (X.h K _ hn (bo h).2)).as (by (funext σ st;simp only[rn,T.run_bind,T.cN,T.c6,T.dw,T.dz,T.dA,T.dB,Res.cb];try rfl))
def MY(i:Nat)(x:Str)(e:∀P,nsIn (KF P) mainGlobals x=some (some (.ref 57)))(A:CE):CS where
 t:=λσ st=>.aF st (lC i (rn A.t) σ st) .ok
 a:=λK s=>.Try [.Assign [.Name (K.nm.getD i fL) (bn ((gP s).b.headD dS) 0).pos] (A.a K (bn ((gP s).b.headD dS) 1)) ((gP s).b.headD dS).pos]
  [.ExceptHandler (some (.Name x (bn s 0).pos)) none [.Return (some (.Constant .none (look (bn ((gP s).o.headD dS) 0)).k (bn ((gP s).o.headD dS) 0).pos)) ((gP s).o.headD dS).pos] (gP s).pos] [] [] s.pos
 ok:=λK s=>(nV K i&&mC K x)&&(A.ok K (bn ((gP s).b.headD dS) 1)&&nS (A.a K (bn ((gP s).b.headD dS) 1)))
 h:=λK s hn h=>by
  have h1:=bo (bo h).1
  have h2:=bo (bo h).2
  exact(bQ.try (qS hn h1.1) (A.h K _ hn h2.1) (gQ h1.2).1 e (λJ=>tO h2.2 _ _ _) (gQ h1.2).2).as (by (funext σ st;simp only[rn,T.run_bind,T.cN,T.c6,T.dw,T.dz,T.dA,T.dB,Res.cb];try rfl))
noncomputable def ed:CX:=⟨λσ st=>.ok (.next,σ) st,λJ J=>[],λJ J=>true,λJ J J J=>eg.nil⟩
noncomputable def yN(b:TS):Fl×List (Option D)->List M->T (Fl×List (Option D))
 |(.next,σ),st=>b σ st
 |x,st=>.ok x st
theorem abr(b:TS)(x)(st):(yN b x st).run=B7 (rn b) x st:=by
 obtain⟨f,σ⟩:=x
 cases f <;> rfl
noncomputable def q(s:CS)(X:CX):CX where
 t:=λσ st=>(s.t σ st).bind (yN X.t)
 a:=λK ss=>s.a K (ss.headD dS)::X.a K ss.tail
 ok:=λK ss=>s.ok K (ss.headD dS)&&X.ok K ss.tail
 h:=λK ss hn h=>(eg.cons (s.h K _ hn (bo h).1) (X.h K _ hn (bo h).2)).as (by funext σ st;simp only[rn,T.run_bind,abr];rfl)
def MZ(i:Nat)(X:TS)(σ:List (Option D)):Option (Option D)->List M->T (Fl×List (Option D))
 |some (some d),st=>.aD st (lz d st) λd' st=>X (σ.set i (some d')) st
 |_,_=>.stuck
theorem abt(i:Nat)(X:TS)(σ:List (Option D))(o:Option (Option D))(st:List M):(MZ i X σ o st).run=K6 i (rn X) σ o st:=by
 match o with
 |some (some d)=>rfl
 |some none=>rfl
 |none=>rfl
def fz(i:Nat)(X:CX):CX where
 t:=λσ st=>MZ i X.t σ σ[i]? st
 a:=X.a
 ok:=X.ok
 h:=λK ss hn h=>(eg.XG (X.h K ss hn h)).as (by
  funext σ st;exact abt ..)
def M0(x:Str)(X:TS)(σ:List (Option D)):Option (Option D)->List M->T (Fl×List (Option D))
 |some (some d),st=>.aU st (nR x d st) λJ st=>X σ st
 |_,_=>.stuck
theorem abu(x)(X:TS)(σ)(o)(st):(M0 x X σ o st).run=(match o with | some (some d)=>(nR x d st).bind λJ st=>rn X σ st | _=>.stuck):=by
 match o with
 |some (some d)=>rfl
 |some none=>rfl
 |none=>rfl
def fzA(i:Nat)(x:Str)(X:CX):CX where
 t:=λσ st=>M0 x X.t σ σ[i]? st
 a:=X.a
 ok:=X.ok
 h:=λK ss hn h=>(eg.aba (X.h K ss hn h)).as (by
  funext σ st;exact abu ..)
noncomputable def KK(d:Arguments×List Stmt×Scope)(nm:List Str)(lv:Nat):Ks:=⟨d.2.2,nm,nm,lv⟩
def Ew(K:Ks)(k:Nat):Bool:=(decide (K.scope.kind=.function)&&(!K.scope.isCoroutine&&(!K.scope.isGenerator&&decide K.nm.Nodup)))&&(decide ((cellsFrom 0 K.scope.names []).map (·.1)).Nodup&&(decide (k<=K.nm.length)&&(K.nm.take k).all λx=>tN (K.scope.names.lookup x)))
theorem abv(vs:List Value)(h:vs.length=k):(List.range k).map (λi=>vs.getD i .none)=vs:=
 ext_getElem (by rw[aG,eU,h]) λi J h2=>by rw[getElem_map,List.getElem_range,eJ,c8 h2];rfl
theorem M1{a:Addr}{name qual:Str}{d:Arguments×List Stmt×Scope}{dV pm:Value}{cd:Addr}{iG:List Value}{eE:List D}{k n lv:Nat}{nm:List Str}{X:CX}
  (ho:∀P,(KF P).lookup a=some (fO name qual d dV pm cd))(m0:∀P,codeIn (KF P) (.ref cd) qual=true)(hk:Ew (KK d nm lv) (k+eE.length)=true)(hx:X.ok (KK d nm lv) d.2.1=true)(hb:X.a (KK d nm lv) d.2.1=d.2.1)
  (nr:∀(s:Shared)(P:Params)(f:Nat->Value),(KF P).In s.heap->BindsTo s (fnOf name qual d.1 d.2.1 d.2.2 dV .none .none pm none (.ref cd) .none) ⟨(List.range k).map f,[]⟩ (nm.zip ((List.range k).map f++iG)))
  (vh:∀(P:Params)(i:Nat)(v:Value)(d:D),iG[i]?=some v->eE[i]?=some d->fU P v d)(vi:iG.length=eE.length):bB (lv+1) a (bK k eE n (rn X.t)):=by
 have h1:=j9 (bo hk).1
 have h2:=c7 (bo hk).2
 exact bB.intro (K:=KK d nm lv) ho m0 rfl (dJ h1.1) (vX h1.2.1) (vX h1.2.2.1) (dJ h1.2.2.2) (λs P vs X e=>(abv vs e).subst (motive:=λvs=>BindsTo s _ ⟨vs,[]⟩ (nm.zip (vs++iG))) (nr s P _ X)) vh vi (dJ h2.1) (dJ h2.2.1) (abb h2.2.2) (hb▸X.h _ _ (dJ h1.2.2.2) hx)
noncomputable abbrev dq:Value:=.str ⟨#[112,105,112,101,98,111,97,114,100,46,108,111,97,100,101,114]⟩ 249
noncomputable abbrev io:Value:=.str ⟨#[108,97,119,95,116,107,48,48,54,56,95,48,49]⟩ 810
theorem cg{a:Addr}(pm:Value)(X:CX)(k n lv:Nat)(name qual:Str)(d:Arguments×List Stmt×Scope)(cd:Addr)(nm:List Str)
  (ho:autoParam ((λP=>(KF P).lookup a)=(λJ=>some (fO name qual d .none pm cd))) kr)(m0:autoParam ((λP=>codeIn (KF P) (.ref cd) qual)=(λJ=>true)) kr)(hk:autoParam (Ew (KK d nm lv) (k+0)=true) kr)(hx:autoParam (X.ok (KK d nm lv) d.2.1=true) kr)(hb:autoParam (X.a (KK d nm lv) d.2.1=d.2.1) kr)
  (nr:autoParam ((λf:Nat->Value=>bindArgs (fnOf name qual d.1 d.2.1 d.2.2 .none .none .none pm none (.ref cd) .none) ⟨(List.range k).map f,[]⟩)=(λf=>pure (nm.zip ((List.range k).map f++[])))) kr):bB (lv+1) a (bK k [] n (rn X.t)):=
 M1 (X:=X) (n:=n) (λP=>congrFun ho P) (λP=>congrFun m0 P) hk hx hb (λJ J f J=>.of_eq (congrFun nr f)) vU rfl
theorem qV{a:Addr}(X:CX)(k n lv:Nat)(eE:List D)(name qual:Str)(d:Arguments×List Stmt×Scope)(dV:Value)(cd:Addr)(iG:List Value)(nm:List Str)
  (nr:∀(s:Shared)(P:Params)(f:Nat->Value),(KF P).In s.heap->BindsTo s (fnOf name qual d.1 d.2.1 d.2.2 dV .none .none dq none (.ref cd) .none) ⟨(List.range k).map f,[]⟩ (nm.zip ((List.range k).map f++iG)))
  (vh:∀(P:Params)(i:Nat)(v:Value)(d:D),iG[i]?=some v->eE[i]?=some d->fU P v d)
  (ho:autoParam ((λP=>(KF P).lookup a)=(λJ=>some (fO name qual d dV dq cd))) kr)(m0:autoParam ((λP=>codeIn (KF P) (.ref cd) qual)=(λJ=>true)) kr)(hk:autoParam (Ew (KK d nm lv) (k+eE.length)=true) kr)(hx:autoParam (X.ok (KK d nm lv) d.2.1=true) kr)(hb:autoParam (X.a (KK d nm lv) d.2.1=d.2.1) kr)(vi:autoParam (iG.length=eE.length) rl):bB (lv+1) a (bK k eE n (rn X.t)):=
 M1 (X:=X) (n:=n) (λP=>congrFun ho P) (λP=>congrFun m0 P) hk hx hb nr vh vi
noncomputable def lD(t:T (Fl×List (Option D))):T D:=t.bind λx st=>match x.1 with
 |.ret d=>.ok d st
 |.next=>.ok .none st
 |.cont=>.stuck
theorem bp{k:Nat}{eE:List D}{n:Nat}{X:CX}{V:List D}{st:List M}{R:Res D}(h:(lD (X.t ((V++eE).map some++List.replicate n none) st)).run=R)(I:autoParam (V.length=k) rl):bK k eE n (rn X.t) V st=R:=by
 unfold bK;rw[ax I,<- h]
 unfold lD rn
 rw[T.run_bind]
 congr 1;funext x st;obtain⟨f,σ⟩:=x
 cases f <;> rfl
noncomputable def M2:List (Str×Tok):=[(⟨#[95,115,116,97,114,116]⟩,812),(⟨#[115,116,97,114,116]⟩,813),(⟨#[116,97,114,116]⟩,814),(⟨#[97,114,116]⟩,815),(⟨#[114,116]⟩,816),(⟨#[116]⟩,817),(⟨#[]⟩,818),(⟨#[98,50]⟩,819),(⟨#[50]⟩,820),(⟨#[]⟩,821),(⟨#[]⟩,822),(⟨#[255,46,120]⟩,823),(⟨#[46,120]⟩,824),(⟨#[120]⟩,825),(⟨#[]⟩,826)]
noncomputable def Ex:D:=.tup (M2.map λp=>.str p.1)
theorem abw:∀P,fU P (.ref 416) Ex:=λP=>fU.strs M2 0 (sl:=#[]) rfl
noncomputable def jO:CB Ij vx xP:=⟨"list.append",by rw[<- show("append" : Str)=Ij by decide];exact Yt,cr.append.c⟩
noncomputable def qW:CB Ip vy xO:=⟨"bytearray.extend",by rw[<- show("extend" : Str)=Ip by decide];exact Yu,fq.extend⟩
noncomputable def abx:CB Bi Lj Dg:=⟨"list.index",by rw[<- show("index" : Str)=Bi by decide];exact Yv,cr.index.c⟩
noncomputable def yO:CB w8 Ll DX:=⟨"bytes.join",by rw[<- show("join" : Str)=w8 by decide];exact Yx,cr.tK.c⟩
noncomputable def aby:CB w8 Lm Dh:=⟨"str.join",by rw[<- show("join" : Str)=w8 by decide];exact Yy,cr.YC.c⟩
def M3:Nat:=16777216
noncomputable def gI(x)(k)(t)(e:autoParam (∀P,nsIn (KF P) mainGlobals x=some (some (.int (k) t))) k1):CE:=gl x (.int (k:Int) t) (.int (k:Int)) e λP=>.int P _ _
def M4:D->D->List M->T D
 |.int a,.int b,st=>.ok (.int (a+b)) st
 |x,y,st=>.aD st (pH x y st) .ok
theorem abz(x y:D)(st:List M):(M4 x y st).run=pH x y st:=by
 cases x with
 |int a=>cases y <;> first | rfl | exact Res.cb _
 |_=>exact Res.cb _
def aV:OA pH:={op:=.Add,sim:=WB,t:=M4,ht:=abz}
def gu:OA xz:={op:=.Sub,sim:=Wm}
def M5:OA pF:={op:=.Mult,sim:=KB}
def gS:OA pG:={op:=.Mod,sim:=Wn}
def v6:OA xA:={op:=.FloorDiv,sim:=Wp}
def lE:OA xB:={op:=.Pow,sim:=Wq}
def Ey:OA Cu:={op:=.LShift,sim:=Wt}
def M6:OA Cv:={op:=.RShift,sim:=Wu}
def yP:OA xC:={op:=.BitAnd,sim:=Wv}
def v7:OA xD:={op:=.BitOr,sim:=Ww}
def yQ:D->D->List M->T D
 |.int a,.int b,st=>if a.natAbs<2^64 then .ok (.int (a*b)) st else .aD st (pF (.int a) (.int b) st) .ok
 |x,y,st=>.aD st (pF x y st) .ok
theorem abA(x y)(st):(yQ x y st).run=pF x y st:=by
 cases x with
 |int a=>cases y with
  |int b=>
   by_cases h:a.natAbs<2^64
   .rw[show yQ (.int a) (.int b) st=_ from ax h];exact(ax (.inl h)).symm
   .rw[show yQ (.int a) (.int b) st=_ from aY h];exact Res.cb _
  |_=>exact Res.cb _
 |_=>exact Res.cb _
def dX:OA pF:={op:=.Mult,sim:=KB,t:=yQ,ht:=abA}
def M7:D->D->List M->T D
 |.ab k,y,st=>.aD st (iK (.ab k) y st) .ok
 |.str k,y,st=>.aD st (iK (.str k) y st) .ok
 |x,y,st=>.of (iK x y st)
theorem abB(x y)(st):(M7 x y st).run=iK x y st:=by cases x <;> first | exact Res.cb _ | exact T.cN _
def ct(A B:CE):CE:={item A B with t:=qQ M7 A.t B.t,h:=λK e hn h=>((item A B).h K e hn h).as (by rw[tS abB];exact(tS (vZ iK) _ _).symm)}
def abC:OA DY:={op:=.Mult,sim:=aag}
def abD:OA DZ:={op:=.Mult,sim:=aai}
def abE:OA D0:={op:=.Mult,sim:=aaj}
noncomputable def lF:OC tj:=⟨_,Wx⟩
noncomputable def yR:OC xE:=⟨_,Wy⟩
noncomputable def gT:OC tm:=⟨_,Wz⟩
noncomputable def t8:OC tu:=⟨_,WA⟩
noncomputable def v8:OC qB:=⟨_,WG⟩
noncomputable def iT:OC lm:=⟨_,WK⟩
noncomputable def gv:OC qC:=⟨_,WL⟩
noncomputable def M8:OC vn:=⟨_,WM⟩
noncomputable def abF:OC D3:=⟨_,aas⟩
theorem Ez:BN Il (.type "bytes"):={}
def gU:CC ny:=.bi Il (.type "bytes") cr.bytes.c Ez.e Ez.b Ez.n (λJ=>by kernel_rfl)
theorem fh:BN Tu (.type "range"):={}
def M9:CZ:=cz (nm 1 (rg fh [v 1])) [0] 1 (bA yP (bA M6 (v 0) (bA dX (n 8) (v 1))) (n 255))
def Na:CX:=q (ite (nt (MJ yR lF (n 0) (v 0) (bA Ey (n 1) (bA dX (n 8) (v 1))))) (q yM ed) ed)<|q (ret (av gU [cp M9])) ed
def EA:RF:=bK 2 [] 0 (rn Na.t)
theorem abG:bB 1 180 EA:=cg dq Na 2 0 0 o7 o7 (dF 33) 179 [iA,iz]
def Nb:CC EA:=.fn o7 ⟨1,180,abG⟩
def Nc:CZ:=cz (nm 0 (it (v 0))) [] 1 (av Nb [v 0,n 2])
def Nf:CX:=q (ret (mb yO (tR []) [cp Nc])) ed
def EB:RF:=bK 1 [] 0 (rn Nf.t)
theorem abH:bB 2 185 EB:=cg dq Nf 1 0 1 oZ oZ (dF 34) 184 [IP]
def Ng:CZ:=cz (nm 0 (it (v 0))) [] 1 (av Nb [v 0,n 4])
def Nh:CX:=q (ret (mb yO (tR []) [cp Ng])) ed
def EC:RF:=bK 1 [] 0 (rn Nh.t)
theorem abI:bB 2 190 EC:=cg dq Nh 1 0 1 po po (dF 35) 189 [IP]
def Ni:CX:=q (ret (MG (bC gT (v 0) (n 0)) (bC iT (bA yP (v 0) (bA gu (v 0) (n 1))) (n 0)))) ed
def yS:RF:=bK 1 [] 0 (rn Ni.t)
theorem abJ:bB 1 197 yS:=cg dq Ni 1 0 0 o3 o3 (dF 36) 196 [o9]
theorem abK:fG 105 gn:={}
theorem abL:fG 105 cn:={}
theorem abM:fG 105 fQ:={}
theorem ED:BN Ix (.builtin "len"):={}
def cL:CC pM:=.bi Ix (.builtin "len") cr.len.c ED.e ED.b ED.n (λJ=>by kernel_rfl)
theorem qX:CA 105 cn:={}
theorem abN:fG 105 kU:={}
theorem t9:CA 105 fQ:={}
def Nj:CE:=gI HU 4294967296 273
def Nk:CX:=q (gR abK (v 1) (v 0))<|q (gR abL (av gU [v 2]) (v 0))<|q (gR abM (ka (tC v8 (v 3) nT) (av cL [attr qX (v 0)]) (v 3)) (v 0))<|q (gR abN (v 4) (v 0))<|q (ite (tW [tC lF (attr t9 (v 0)) (av cL [attr qX (v 0)]),tC lF (v 1) (n 0),tC gT (bA aV (v 1) (attr t9 (v 0))) Nj]) (q yM ed) ed) ed
def EF:RF:=bK 5 [] 0 (rn Nk.t)
theorem abO:bB 1 74 EF:=qV Nk 5 0 0 [] ew ⟨#[83,101,103,109,101,110,116,46,95,95,105,110,105,116,95,95]⟩ (dM 30 0) (.ref 67) 73 [] [eA,gn,cn,fQ,kU] (λs P f X=>.of_defaults rfl (X _ _ (show(KF P).lookup 67=some _ from rfl)) rfl rfl rfl) vU
theorem nX:CA 105 gn:={}
def Nn:CX:=q (ret (bA aV (attr nX (v 0)) (attr t9 (v 0)))) ed
def EG:RF:=bK 1 [] 0 (rn Nn.t)
theorem abP:bB 1 81 EG:=cg dq Nn 1 0 0 mS ⟨#[83,101,103,109,101,110,116,46,101,110,100]⟩ (dM 30 1) 80 [eA]
def EH:CM 105 mS EG:={f:=⟨1,81,abP⟩}
def No:CX:=q (ret (ch yR lF (attr nX (v 0)) (v 1) (bP EH (v 0) []))) ed
def EI:RF:=bK 2 [] 0 (rn No.t)
theorem abQ:bB 2 88 EI:=cg dq No 2 0 1 uF ⟨#[83,101,103,109,101,110,116,46,104,111,108,100,115]⟩ (dM 30 2) 87 [eA,gn]
theorem EJ:CA 105 kU:={}
def Np:CX:=q (ret (bC gv (bA yP (attr EJ (v 0)) (v 1)) (n 0))) ed
def EK:RF:=bK 2 [] 0 (rn Np.t)
theorem abR:bB 1 95 EK:=cg dq Np 2 0 0 uI ⟨#[83,101,103,109,101,110,116,46,109,97,121]⟩ (dM 30 3) 94 [eA,Ti]
theorem abS:fG 150 gZ:={}
theorem abT:fG 150 gA:={}
theorem v9:BN Iy (.type "list"):={}
def EL:CC tJ:=.bi Iy (.type "list") cr.list.c v9.e v9.b v9.n (λJ=>by kernel_rfl)
def Nq:CX:=q (gR abS (v 1) (v 0))<|q (gR abT (av EL [v 2]) (v 0)) ed
def EM:RF:=bK 3 [] 0 (rn Nq.t)
theorem abU:bB 1 123 EM:=cg dq Nq 3 0 0 ew ⟨#[73,109,97,103,101,46,95,95,105,110,105,116,95,95]⟩ (dM 31 0) 122 [eA,gZ,gA]
theorem Nr:CA 150 gA:={}
def abV:CM 105 uF EI:={f:=⟨2,88,abQ⟩}
def Nt:CK:=nm 2 (it (attr Nr (v 0)))
def Nu:CX:=q (ite (tr (bP abV (v 2) [v 1])) (q (ret (v 2)) ed) ed) ed
def Nv:CX:=q (dZ Nt Nu)<|q (ret nT) ed
def EN:RF:=bK 2 [] 1 (rn Nv.t)
theorem abW:bB 3 140 EN:=cg dq Nv 2 1 2 uK ⟨#[73,109,97,103,101,46,115,101,103,109,101,110,116,95,97,116]⟩ (dM 31 3) 139 [eA,gn,pn]
theorem abX:fG 171 lZ:={}
theorem abY:fG 171 iA:={}
theorem abZ:fG 171 uG:={}
def Nw:CX:=q (gR abX (v 1) (v 0))<|q (gR abY (v 2) (v 0))<|q (gR abZ (v 3) (v 0)) ed
def EO:RF:=bK 4 [] 0 (rn Nw.t)
theorem ab0:bB 1 168 EO:=cg dq Nw 4 0 0 ew ⟨#[83,121,109,98,111,108,46,95,95,105,110,105,116,95,95]⟩ (dM 32 0) 167 [eA,lZ,iA,uG]
theorem ab1:fG 219 cn:={}
theorem EP:BN Ik (.type "bytearray"):={}
def EQ:CC vw:=.bi Ik (.type "bytearray") fq.bytearray EP.e EP.b EP.n (λJ=>by kernel_rfl)
theorem ab2:fG 219 eW:={}
def Ny:CX:=q (gR ab1 (av EQ [tR [0]]) (v 0))<|q (gR ab2 (D6 ⟨#[]⟩ 0) (v 0)) ed
def ER:RF:=bK 1 [] 0 (rn Ny.t)
theorem ab3:bB 1 211 ER:=cg dq Ny 1 0 0 ew ⟨#[78,97,109,101,84,97,98,108,101,46,95,95,105,110,105,116,95,95]⟩ (dM 37 0) 210 [eA]
theorem ES:CA 219 eW:={}
theorem ua:CA 219 cn:={}
theorem ET:BN ID (.builtin "ord"):={}
def Nz:CC CO:=.bi ID (.builtin "ord") cr.ord.c ET.e ET.b ET.n (λJ=>by kernel_rfl)
def EU:CZ:=cz (nm 0 (it (v 1))) [] 1 (av Nz [v 0])
def NA:CX:=q (ite (tC abF (v 1) (attr ES (v 0))) (q (D4 (av cL [attr ua (v 0)]) (attr ES (v 0)) (v 1))<|q (expr (mb qW (attr ua (v 0)) [bA aV (av gU [cp EU]) (tR [0])])) ed) ed)<|q (ret (abj (attr ES (v 0)) (v 1))) ed
def yT:RF:=bK 2 [] 0 (rn NA.t)
theorem ab4:bB 1 216 yT:=cg dq NA 2 0 0 dj ⟨#[78,97,109,101,84,97,98,108,101,46,112,108,97,99,101]⟩ (dM 37 1) 215 [eA,lZ]
theorem ab5:CA 302 oV:={}
theorem qY:CA 302 kq:={}
def NB:CX:=q (ret (bA aV (attr ab5 (v 0)) (av cL [attr qY (v 0)]))) ed
def EV:RF:=bK 1 [] 0 (rn NB.t)
theorem ab6:bB 1 244 EV:=cg dq NB 1 0 0 kV ⟨#[70,105,108,101,87,114,105,116,101,114,46,104,101,114,101]⟩ (dM 38 1) 243 [eA]
def yU:CM 302 kV EV:={f:=⟨1,244,ab6⟩}
theorem NC:CA 302 ko:={}
theorem EW:CA 302 eW:={}
def ND:CX:=q (expr (mb qW (attr qY (v 0)) [av gU [bA gS (bA gu (attr nX (v 1)) (bP yU (v 0) [])) (attr NC (v 0))]]))<|q (expr (mb jO (attr EW (v 0)) [bP yU (v 0) []]))<|q (expr (mb qW (attr qY (v 0)) [attr qX (v 1)])) ed
def EX:RF:=bK 2 [] 0 (rn ND.t)
theorem ab7:bB 2 251 EX:=cg dq ND 2 0 1 r9 ⟨#[70,105,108,101,87,114,105,116,101,114,46,108,97,121]⟩ (dM 38 2) 250 [eA,pn]
def NE:CX:=q (expr (mb qW (attr qY (v 0)) [av gU [bA gS (neg (bP yU (v 0) [])) (n 4)]]))<|q (set 2 (bP yU (v 0) []))<|q (expr (mb qW (attr qY (v 0)) [v 1]))<|q (ret (v 2)) ed
def yV:RF:=bK 2 [] 1 (rn NE.t)
theorem ab8:bB 2 258 yV:=cg dq NE 2 1 1 mR ⟨#[70,105,108,101,87,114,105,116,101,114,46,97,100,100]⟩ (dM 38 3) 257 [eA,cn,dj]
theorem EY:BN TH (.type "zip"):={}
theorem wa:CA 302 gA:={}
def nZ:CC EC:=.fn po ⟨2,190,abI⟩
def NF:CE:=gI HQ 1 275
def NH:CK:=zp EY [2,3] [attr wa (v 0),attr EW (v 0)]
def NI:CX:=q (set 4 (av cL [attr qX (v 2)]))<|q (expr (mb jO (v 1) [av nZ [lst [NF,v 3,attr nX (v 2),attr nX (v 2),v 4,attr t9 (v 2)]]]))<|q (expr (mb jO (v 1) [av nZ [lst [attr EJ (v 2),attr NC (v 0)]]])) ed
def NJ:CX:=q (set 1 (jX []))<|q (dZ NH NI)<|fz 1<|q (ret (mb yO (tR []) [v 1])) ed
def EZ:RF:=bK 1 [] 4 (rn NJ.t)
theorem ab9:bB 3 265 EZ:=cg dq NJ 1 4 2 kW ⟨#[70,105,108,101,87,114,105,116,101,114,46,114,111,119,115]⟩ (dM 38 4) 264 [eA,r8,pn,dj,fQ]
def NK:CE:=gl HT (.bytes #[127,69,76,70] 251) (.bytes [127,69,76,70]) (λJ=>by kernel_rfl) (λP=>.bytes P _ _)
def NL:CE:=gI HJ 1 253
def NM:CE:=gI HR 1 255
def yW:CE:=gI Ie 1 257
def E0:CC EB:=.fn oZ ⟨2,185,abH⟩
def NN:CE:=gI HM 2 259
def NO:CE:=gI HS 243 261
theorem aca:CA 302 gZ:={}
def wb:CE:=gI HO 52 263
def yX:CE:=gI H7 32 265
def E1:CE:=gI H9 40 267
def E3:CX:=q (set 4 (bA aV (bA aV NK (av gU [lst [NL,NM,yW]])) (av gU [n 9])))<|q (set 4 (bA aV (bA aV (v 4) (av E0 [lst [NN,NO]])) (av nZ [lst [yW,attr aca (v 0),wb,v 1,n 0]])))<|q (set 5 (lst [wb,yX,av cL [attr wa (v 0)],ka (tC gT (v 2) (n 0)) E1 (n 0),v 2,v 3]))<|q (ret (bA aV (v 4) (av E0 [v 5]))) ed
def E4:RF:=bK 4 [] 2 (rn E3.t)
theorem acb:bB 3 272 E4:=cg dq E3 4 2 2 fk ⟨#[70,105,108,101,87,114,105,116,101,114,46,104,101,97,100,101,114]⟩ (dM 38 5) 271 [eA,Tv,iz,Bj,Ir,IH]
def acd:CE:=gI HI 2 297
theorem E5:BN Iw (.type "int"):={}
def yY:CC tz:=.bi Iw (.type "int") cr.int.c E5.e E5.b E5.n (λJ=>by kernel_rfl)
def yZ:CM 105 uI EK:={f:=⟨1,95,abR⟩}
def NP:CE:=gI Ig 2 283
def y0:CE:=gI H8 1 281
def NQ:CE:=gI HY 1 289
def ace:CE:=gI HV 8 295
def wc:CM 219 dj yT:={f:=⟨1,216,ab4⟩}
def E6:CX:=q (set 4 (bA v7 (bA v7 acd (av yY [bP yZ (v 2) [NP]])) (bA dX (n 4) (av yY [bP yZ (v 2) [y0]]))))<|q (set 5 (ka (tC gT (av cL [attr qX (v 2)]) (n 0)) NQ ace))<|q (set 6 (ka (tC iT (v 5) NQ) (av cL [attr qX (v 2)]) (attr t9 (v 2))))<|q (set 7 (bP wc (v 1) [ka (tr (bP yZ (v 2) [y0])) (dp ⟨#[46,116,101,120,116]⟩) (dp ⟨#[46,100,97,116,97]⟩)]))<|q (ret (av nZ [lst [v 7,v 5,v 4,attr nX (v 2),v 3,v 6,n 0,n 0,n 4,n 0]])) ed
def E7:RF:=bK 4 [] 4 (rn E6.t)
theorem acf:bB 3 292 E7:=cg dq E6 4 4 2 sn ⟨#[70,105,108,101,87,114,105,116,101,114,46,115,101,99,116,105,111,110,95,114,111,119]⟩ (dM 38 8) 291 [eA,uO,pn,dj,kU,uH,fQ,IM]
theorem y1:BN Td (.type "enumerate"):={}
def acg:CE:=gI HH 65521 301
def y3:CK:=yL y1 [2,3] [attr wa (v 0)]
def za:CX:=q (ite (MJ yR yR (attr nX (v 3)) (v 1) (bP EH (v 3) [])) (q (ret (bA aV (v 2) (n 1))) ed) ed) ed
def NR:CX:=q (dZ y3 za)<|q (ret acg) ed
def E8:RF:=bK 2 [] 2 (rn NR.t)
theorem ach:bB 2 299 E8:=cg dq NR 2 2 1 qf ⟨#[70,105,108,101,87,114,105,116,101,114,46,111,119,110,101,114]⟩ (dM 38 9) 298 [eA,iA,w7,pn]
def NT:CC (fH 219 ER):=.mk' rV 219 211 ⟨1,211,ab3⟩ rfl
theorem zc:CA 171 uG:={}
def ub:CE:=gI Ic 16 269
theorem NU:CA 171 lZ:={}
theorem E9:CA 171 iA:={}
def NV:CE:=gI HN 1 299
def aci:CM 302 qf E8:={f:=⟨2,299,ach⟩}
def acj:CE:=gI HX 0 287
def ack:CM 302 sn E7:={f:=⟨3,292,acf⟩}
def zd:CM 302 mR yV:={f:=⟨2,258,ab8⟩}
def NW:CE:=gI Ib 2 291
def Fa:CE:=gI Ia 3 293
def NX:CZ:=nW (nm 0 (it (v 1))) [] 1 (nt (tr (attr zc (v 0)))) (v 0)
def NY:CZ:=nW (nm 0 (it (v 1))) [] 1 (tr (attr zc (v 0))) (v 0)
def Fb:CK:=nm 4 (it (v 5))
def Fc:CX:=q (expr (mb qW (v 7) [av nZ [lst [bP wc (v 2) [attr NU (v 4)],attr E9 (v 4),n 0]]]))<|q (expr (mb qW (v 7) [bA aV (av gU [lst [ka (tr (attr zc (v 4))) (bA Ey NV (n 4)) (n 0),n 0]]) (av E0 [lst [bP aci (v 0) [attr E9 (v 4)]]])])) ed
def NZ:CK:=zp EY [9,10] [attr wa (v 0),attr EW (v 0)]
def N0:CX:=q (expr (mb jO (v 8) [bP ack (v 0) [v 3,v 9,v 10]])) ed
def N1:CX:=q (set 11 (av cL [v 8]))<|q (set 10 (bP zd (v 0) [av gU [v 7]]))<|q (set 12 (bP wc (v 3) [dp ⟨#[46,115,121,109,116,97,98]⟩]))<|q (expr (mb jO (v 8) [av nZ [lst [v 12,NW,n 0,n 0,v 10,av cL [v 7],bA aV (v 11) (n 1),v 6,n 4,ub]]]))<|q (set 10 (bP zd (v 0) [av gU [attr ua (v 2)]]))<|q (expr (mb jO (v 8) [av nZ [lst [bP wc (v 3) [dp ⟨#[46,115,116,114,116,97,98]⟩],Fa,n 0,n 0,v 10,av cL [attr ua (v 2)],n 0,n 0,n 1,n 0]]]))<|q (set 12 (bP wc (v 3) [dp ⟨#[46,115,104,115,116,114,116,97,98]⟩]))<|q (set 10 (bP zd (v 0) [av gU [attr ua (v 3)]]))<|q (expr (mb jO (v 8) [av nZ [lst [v 12,Fa,n 0,n 0,v 10,av cL [attr ua (v 3)],n 0,n 0,n 1,n 0]]]))<|fz 8<|q (ret (tup [v 8,bA aV (v 11) (n 2)])) ed
def N2:CX:=q (mF [2,3] (tup [av NT [],av NT []]))<|q (qU 5 NX)<|q (set 6 (bA aV (n 1) (av cL [v 5])))<|q (set 5 (bA aV (v 5) (cp NY)))<|q (set 7 (av EQ [ub]))<|q (dZ Fb Fc)<|q (set 8 (jX [av nZ [bA abD (lst [acj]) (n 10)]]))<|q (dZ NZ N0)<|N1
def ze:RF:=bK 2 [] 11 (rn N2.t)
theorem acl:bB 4 285 ze:=cg dq N2 2 11 3 sh ⟨#[70,105,108,101,87,114,105,116,101,114,46,110,97,109,101,100]⟩ (dM 38 7) 284 [eA,uN,Bl,uO,Tx,Ts,Tf,IJ,kW,pn,dj,iz,IM]
def N3:CM 302 fk E4:={f:=⟨3,272,acb⟩}
def N4:CM 302 kW EZ:={f:=⟨3,265,ab9⟩}
def acm:CM 302 sh ze:={f:=⟨4,285,acl⟩}
def N5:CX:=q (ite (tC v8 (v 1) nT) (q (ret (bA aV (bA aV (bP N3 (v 0) [n 0,n 0,n 0]) (bP N4 (v 0) [])) (av gU [attr qY (v 0)]))) ed) ed)<|q (iS [2,3] (bP acm (v 0) [v 1]))<|q (set 4 (bP zd (v 0) [mb yO (tR []) [v 2]]))<|q (ret (bA aV (bA aV (bP N3 (v 0) [v 4,av cL [v 2],v 3]) (bP N4 (v 0) [])) (av gU [attr qY (v 0)]))) ed
def uc:RF:=bK 2 [] 3 (rn N5.t)
theorem acn:bB 5 280 uc:=qV N5 2 3 4 [] rY ⟨#[70,105,108,101,87,114,105,116,101,114,46,100,111,110,101]⟩ (dM 38 6) (.ref 273) 279 [] [eA,uN,kW,Bj,dj] (λs P f X=>.of_defaults rfl (X _ _ (show(KF P).lookup 273=some _ from rfl)) rfl rfl rfl) vU
def N6:CC yS:=.fn o3 ⟨1,197,abJ⟩
theorem aco:fG 302 gZ:={}
theorem acp:fG 302 gA:={}
theorem acq:fG 302 ko:={}
theorem acr:fG 302 eW:={}
theorem acs:fG 302 kq:={}
theorem act:fG 302 oV:={}
def acu:CM 302 r9 EX:={f:=⟨2,251,ab7⟩}
def N7:CK:=nm 4 (it (attr wa (v 0)))
def N8:CX:=q (expr (bP acu (v 0) [v 4])) ed
def N9:CX:=q (ite (nt (tr (av N6 [v 3]))) (q yM ed) ed)<|q (ite (tC iT (av cL [v 2]) (n 0)) (q yM ed) ed)<|q (gR aco (v 1) (v 0))<|q (gR acp (av EL [v 2]) (v 0))<|q (gR acq (v 3) (v 0))<|q (gR acr (jX []) (v 0))<|q (gR acs (av EQ []) (v 0))<|q (gR act (bA aV wb (bA dX yX (av cL [v 2]))) (v 0))<|q (dZ N7 N8)<|fzA 0 eW ed
def Fd:RF:=bK 4 [] 1 (rn N9.t)
theorem acv:bB 3 237 Fd:=cg dq N9 4 1 2 ew ⟨#[70,105,108,101,87,114,105,116,101,114,46,95,95,105,110,105,116,95,95]⟩ (dM 38 0) 236 [eA,gZ,gA,ko,pn]
theorem acw:fG 359 cn:={}
def Oa:CX:=q (gR acw (av gU [v 1]) (v 0)) ed
def Fe:RF:=bK 2 [] 0 (rn Oa.t)
theorem acx:bB 1 320 Fe:=cg dq Oa 2 0 0 ew ⟨#[70,105,101,108,100,115,46,95,95,105,110,105,116,95,95]⟩ (dM 39 0) 319 [eA,cn]
theorem Ob:CA 359 cn:={}
theorem gb:∀P,nsIn (KF P) mainGlobals eu=some (some (.ref 57)):=λJ=>by kernel_rfl
def Oc:CX:=q (ite (tC gT (bA aV (v 1) (v 2)) (av cL [attr Ob (v 0)])) (q (raise eu gb (Ea ⟨#[32,98,101,121,111,110,100,32,116,104,101,32,102,105,108,101]⟩ (v 3))) ed) ed)<|q (ret (slice (attr Ob (v 0)) (some (v 1)) (some (bA aV (v 1) (v 2))))) ed
def zf:RF:=bK 4 [] 0 (rn Oc.t)
theorem acy:bB 1 327 zf:=cg dq Oc 4 0 0 uJ ⟨#[70,105,101,108,100,115,46,112,97,114,116]⟩ (dM 39 1) 326 [eA,dj,iz,qh]
def we:CM 359 uJ zf:={f:=⟨1,327,acy⟩}
def Od:CK:=nm 5 (it (rev (bP we (v 0) [v 1,v 2,v 3]) (neg (n 1))))
def Oe:CX:=q (set 4 (bA v7 (bA Ey (v 4) (n 8)) (v 5))) ed
def zg:CX:=q (set 4 (n 0))<|q (dZ Od Oe)<|q (ret (v 4)) ed
def zh:RF:=bK 4 [] 2 (rn zg.t)
theorem acz:bB 2 335 zh:=qV zg 4 2 1 [] o9 ⟨#[70,105,101,108,100,115,46,110,117,109,98,101,114]⟩ (dM 39 2) (.ref 328) 334 [] [eA,dj,iz,qh,iA,IC] (λs P f X=>.of_defaults rfl (X _ _ (show(KF P).lookup 328=some _ from rfl)) rfl rfl rfl) vU
def Ff:RF:=bK 3 [.str fk] 2 (rn zg.t)
theorem acA:bB 2 335 Ff:=qV zg 3 2 1 [.str fk] o9 ⟨#[70,105,101,108,100,115,46,110,117,109,98,101,114]⟩ (dM 39 2) (.ref 328) 334 [.str fk 679] [eA,dj,iz,qh,iA,IC] (λs P f X=>.of_defaults rfl (X _ _ (show(KF P).lookup 328=some _ from rfl)) rfl rfl rfl) (Ei λP=>.str P _ _)
def Fg:CM 359 o9 zh:={f:=⟨2,335,acz⟩}
def Fh:CX:=q (ret (bP Fg (v 0) [v 1,n 2,v 2])) ed
def acB:RF:=bK 3 [] 0 (rn Fh.t)
def zi:RF:=bK 2 [.str fk] 0 (rn Fh.t)
theorem acC:bB 3 343 zi:=qV Fh 2 0 2 [.str fk] uE ⟨#[70,105,101,108,100,115,46,104,97,108,102]⟩ (dM 39 3) (.ref 336) 342 [.str fk 692] [eA,dj,qh] (λs P f X=>.of_defaults rfl (X _ _ (show(KF P).lookup 336=some _ from rfl)) rfl rfl rfl) (Ei λP=>.str P _ _)
def zj:CX:=q (ret (bP Fg (v 0) [v 1,n 4,v 2])) ed
def zk:RF:=bK 3 [] 0 (rn zj.t)
theorem acD:bB 3 351 zk:=qV zj 3 0 2 [] qi ⟨#[70,105,101,108,100,115,46,119,111,114,100]⟩ (dM 39 4) (.ref 344) 350 [] [eA,dj,qh] (λs P f X=>.of_defaults rfl (X _ _ (show(KF P).lookup 344=some _ from rfl)) rfl rfl rfl) vU
def zl:RF:=bK 2 [.str fk] 0 (rn zj.t)
theorem acE:bB 3 351 zl:=qV zj 2 0 2 [.str fk] qi ⟨#[70,105,101,108,100,115,46,119,111,114,100]⟩ (dM 39 4) (.ref 344) 350 [.str fk 702] [eA,dj,qh] (λs P f X=>.of_defaults rfl (X _ _ (show(KF P).lookup 344=some _ from rfl)) rfl rfl rfl) (Ei λP=>.str P _ _)
def Fi:CM 359 qi zk:={f:=⟨3,351,acD⟩}
def Of:CZ:=cz (nm 3 (rg fh [v 2])) [1,0,3] 1 (bP Fi (v 1) [bA aV (v 0) (bA dX (n 4) (v 3)),v 2])
def Og:CX:=q (ret (cp Of)) ed
def Fj:RF:=bK 4 [] 0 (rn Og.t)
theorem acF:bB 4 356 Fj:=cg dq Og 4 0 3 qg ⟨#[70,105,101,108,100,115,46,114,111,119]⟩ (dM 39 5) 355 [eA,dj,iz,qh]
def Fk:CM 359 o9 Ff:={f:=⟨2,335,acA⟩}
def Oh:CX:=q (ite (tC gv (bP we (v 0) [n 0,n 4,dp ⟨#[104,101,97,100,101,114]⟩]) NK) (q (raise eu gb (dp ⟨#[109,97,103,105,99,32,110,117,109,98,101,114]⟩)) ed) ed)<|q (ite (tC gv (bP Fk (v 0) [n 4,n 1]) NL) (q (raise eu gb (dp ⟨#[99,108,97,115,115]⟩)) ed) ed)<|q (ite (tC gv (bP Fk (v 0) [n 5,n 1]) NM) (q (raise eu gb (dp ⟨#[111,114,100,101,114,32,111,102,32,111,99,116,101,116,115]⟩)) ed) ed)<|q (ite (tC gv (bP Fk (v 0) [n 6,n 1]) yW) (q (raise eu gb (dp ⟨#[118,101,114,115,105,111,110]⟩)) ed) ed) ed
def Fm:RF:=bK 1 [] 0 (rn Oh.t)
theorem acG:bB 3 370 Fm:=cg dq Oh 1 0 2 oX oX (dF 40) 369 [rZ]
def acH:CC Fm:=.fn oX ⟨3,370,acG⟩
def qZ:CM 359 uE zi:={f:=⟨3,343,acC⟩}
def zm:CM 359 qi zl:={f:=⟨3,351,acE⟩}
def Oi:CX:=q (expr (av acH [v 0]))<|q (expr (bP we (v 0) [n 0,wb,dp ⟨#[104,101,97,100,101,114]⟩]))<|q (ite (tC gv (bP qZ (v 0) [n 16]) NN) (q (raise eu gb (dp ⟨#[107,105,110,100,32,111,102,32,102,105,108,101]⟩)) ed) ed)<|q (ite (tC gv (bP qZ (v 0) [n 18]) NO) (q (raise eu gb (dp ⟨#[109,97,99,104,105,110,101]⟩)) ed) ed)<|q (ite (tC gv (bP zm (v 0) [n 20]) yW) (q (raise eu gb (dp ⟨#[118,101,114,115,105,111,110]⟩)) ed) ed)<|q (ite (tW [tC lF (bP qZ (v 0) [n 40]) wb,tC gv (bP qZ (v 0) [n 42]) yX]) (q (raise eu gb (dp ⟨#[115,105,122,101,115,32,111,102,32,116,104,101,32,104,101,97,100,101,114,32,97,110,100,32,105,116,115,32,114,111,119,115]⟩)) ed) ed) ed
def Fn:RF:=bK 1 [] 0 (rn Oi.t)
theorem acI:bB 4 377 Fn:=cg dq Oi 1 0 3 oW oW (dF 41) 376 [rZ]
def Oj:CX:=q (ite (tC gT (v 2) (v 3)) (q (raise eu gb (dp ⟨#[109,111,114,101,32,111,99,116,101,116,115,32,105,110,32,116,104,101,32,102,105,108,101,32,116,104,97,110,32,105,110,32,109,101,109,111,114,121]⟩)) ed) ed)<|q (ite (tC gT (bA aV (v 1) (v 3)) Nj) (q (raise eu gb (dp ⟨#[97,32,115,101,103,109,101,110,116,32,98,101,121,111,110,100,32,109,101,109,111,114,121]⟩)) ed) ed)<|q (ite (tV [tC gT (v 4) (n 1),tW [nt (tr (av N6 [v 4])),tC gv (bA gS (bA gu (v 1) (v 0)) (v 4)) (n 0)]]) (q (raise eu gb (dp ⟨#[97,108,105,103,110,109,101,110,116]⟩)) ed) ed) ed
def Fo:RF:=bK 5 [] 0 (rn Oj.t)
theorem acJ:bB 2 384 Fo:=cg dq Oj 5 0 1 oY oY (dF 42) 383 [dj,gn,Iq,fQ,ko]
def Ol:CM 359 qg Fj:={f:=⟨4,356,acF⟩}
def acK:CE:=gI HK 2 277
def acL:CE:=gI HP 3 279
def acM:CC Fo:=.fn oY ⟨2,384,acJ⟩
def Om:CC (kG (fH 105 EF)):=.yH rW 105 74 ⟨1,74,abO⟩ rfl
def acN:CE:=gI HZ 4 285
def On:CX:=q (iS [2,3,4,5,6,7,8,9] (bP Ol (v 0) [v 1,n 8,dp ⟨#[114,111,119,115,32,111,102,32,115,101,103,109,101,110,116,115]⟩]))<|q (ite (tC M8 (v 2) (tup [acK,acL])) (q (raise eu gb (dp ⟨#[97,32,112,114,111,103,114,97,109,32,116,104,97,116,32,105,115,32,110,111,116,32,108,105,110,107,101,100]⟩)) ed) ed)<|q (ite (tC gv (v 2) NF) (q (ret nT) ed) ed)<|q (expr (av acM [v 3,v 4,v 6,v 7,v 9]))<|q (set 10 (bP we (v 0) [v 3,v 6,dp ⟨#[97,32,115,101,103,109,101,110,116]⟩]))<|q (ret (ka (tC gT (v 7) (n 0)) (av Om [v 4,v 10,v 7,bA yP (v 8) (bA v7 (bA v7 acN NP) y0)]) nT)) ed
def Fp:RF:=bK 2 [] 9 (rn On.t)
theorem acO:bB 5 391 Fp:=cg dq On 2 9 4 pf pf (dF 43) 390 [rZ,w7,uH,dj,gn,IF,Iq,fQ,kU,ko,cn]
def Oo:CC (kG (fH 359 Fe)):=.yH rS 359 320 ⟨1,320,acx⟩ rfl
def Op:CC Fn:=.fn oW ⟨4,377,acI⟩
def acP:CC Fp:=.fn pf ⟨5,391,acO⟩
def acQ:CC (kG (fH 150 EM)):=.yH rU 150 123 ⟨1,123,abU⟩ rfl
def acR:CM 150 uK EN:={f:=⟨3,140,abW⟩}
theorem Fq:CA 150 gZ:={}
def Oq:CK:=nm 3 (rg fh [bP qZ (v 1) [n 44]])
def Os:CX:=q (set 4 (av acP [v 1,bA aV (bP zm (v 1) [n 28]) (bA dX yX (v 3))]))<|q (ite (tC v8 (v 4) nT) (q cont ed) ed)<|q (ite (tV [tC gT (av cL [v 2]) (n 0),tC lF (attr nX (v 4)) (bP EH (item (v 2) (neg (n 1))) [])]) (q (raise eu gb (dp ⟨#[115,101,103,109,101,110,116,115,32,116,104,97,116,32,111,118,101,114,108,97,112,32,111,114,32,100,111,32,110,111,116,32,97,115,99,101,110,100]⟩)) ed) ed)<|q (expr (mb jO (v 2) [v 4])) ed
def Ot:CX:=q (set 1 (av Oo [v 0]))<|q (expr (av Op [v 1]))<|q (set 2 (jX []))<|q (dZ Oq Os)<|q (ite (tC iT (av cL [v 2]) (n 0)) (q (raise eu gb (dp ⟨#[110,111,116,104,105,110,103,32,116,111,32,108,111,97,100]⟩)) ed) ed)<|fz 2<|q (set 5 (av acQ [bP zm (v 1) [n 24],v 2]))<|q (set 6 (bP acR (v 5) [attr Fq (v 5)]))<|q (ite (tW [tC v8 (v 6) nT,nt (tr (bP yZ (v 6) [y0])),tC gv (bA gS (attr Fq (v 5)) (n 4)) (n 0)]) (q (raise eu gb (dp ⟨#[101,110,116,114,121]⟩)) ed) ed)<|q (ret (v 5)) ed
def Fs:RF:=bK 1 [] 6 (rn Ot.t)
theorem acS:bB 6 398 Fs:=cg dq Ot 1 6 5 pd pd (dF 44) 397 [cn,rZ,gA,Bi,pn,Iv,Iu]
theorem Ft:BN Im (.builtin "chr"):={}
def acT:CC CP:=.bi Im (.builtin "chr") cr.chr.c Ft.e Ft.b Ft.n (λJ=>by kernel_rfl)
def Ou:CT:=tV [tC lF (v 2) (av cL [v 0]),tC gv (item (v 0) (v 2)) (n 0)]
def Fu:CX:=q (aug 2 (n 1)) ed
def Ov:CZ:=cz (nm 0 (it (slice (v 0) (some (v 1)) (some (v 2))))) [] 1 (av acT [v 0])
def Ow:CX:=q (set 2 (v 1))<|q (whl M3 Ou Fu)<|q (ite (tC t8 (v 2) (av cL [v 0])) (q (raise eu gb (dp ⟨#[97,32,110,97,109,101,32,98,101,121,111,110,100,32,105,116,115,32,116,97,98,108,101]⟩)) ed) ed)<|q (ret (mb aby (dp ⟨#[]⟩) [cp Ov])) ed
def Fv:RF:=bK 2 [] 1 (rn Ow.t)
theorem acU:bB 1 403 Fv:=cg dq Ow 2 1 0 o8 o8 (dF 45) 402 [cn,dj,mS]
def Ox:CZ:=cz (nm 2 (rg fh [v 3])) [0,1] 1 (bP Ol (v 0) [bA aV (v 1) (bA dX E1 (v 2)),n 10,dp ⟨#[114,111,119,115,32,111,102,32,115,101,99,116,105,111,110,115]⟩])
def Oy:CX:=q (iS [1,2,3] (tup [bP zm (v 0) [n 32],bP qZ (v 0) [n 46],bP qZ (v 0) [n 48]]))<|q (ite (tV [tC gT (v 3) (n 0),tC gv (v 2) E1]) (q (raise eu gb (dp ⟨#[115,105,122,101,32,111,102,32,116,104,101,32,114,111,119,115,32,111,102,32,115,101,99,116,105,111,110,115]⟩)) ed) ed)<|q (ret (cp Ox)) ed
def Fw:RF:=bK 1 [] 3 (rn Oy.t)
theorem acV:bB 5 408 Fw:=cg dq Oy 1 3 4 pi pi (dF 46) 407 [rZ,dj,fQ,iz]
def acW:CC Fw:=.fn pi ⟨5,408,acV⟩
def acX:CC Fv:=.fn o8 ⟨1,403,acU⟩
def Oz:CC (kG (fH 171 EO)):=.yH rX 171 168 ⟨1,168,ab0⟩ rfl
def OB:CK:=nm 6 (rg fh [n 1,bA v6 (ct (v 4) (n 5)) ub])
def OD:CX:=q (set 7 (bA aV (ct (v 4) (n 4)) (bA dX ub (v 6))))<|q (set 8 (av acX [v 5,bP Fi (v 1) [v 7,dp ⟨#[115,121,109,98,111,108,115]⟩]]))<|q (set 9 (bA M6 (bP Fg (v 1) [bA aV (v 7) (n 12),n 1,dp ⟨#[115,121,109,98,111,108,115]⟩]) (n 4)))<|q (expr (mb jO (v 3) [av Oz [v 8,bP Fi (v 1) [bA aV (v 7) (n 4),dp ⟨#[115,121,109,98,111,108,115]⟩],bC iT (v 9) NV]])) ed
def Fx:CK:=nm 4 (it (v 2))
def Fy:CX:=q (ite (tC gv (ct (v 4) (n 1)) NW) (q cont ed) ed)<|q (ite (tW [tC t8 (ct (v 4) (n 6)) (av cL [v 2]),tC gv (ct (item (v 2) (ct (v 4) (n 6))) (n 1)) Fa,tC gv (ct (v 4) (n 9)) ub,tC gv (bA gS (ct (v 4) (n 5)) ub) (n 0)]) (q (raise eu gb (dp ⟨#[97,32,116,97,98,108,101,32,111,102,32,115,121,109,98,111,108,115,32,119,105,116,104,111,117,116,32,105,116,115,32,110,97,109,101,115]⟩)) ed) ed)<|q (set 5 (bP we (v 1) [ct (item (v 2) (ct (v 4) (n 6))) (n 4),ct (item (v 2) (ct (v 4) (n 6))) (n 5),dp ⟨#[110,97,109,101,115]⟩]))<|q (dZ OB OD) ed
def OE:CX:=q (set 1 (av Oo [v 0]))<|q (expr (av Op [v 1]))<|q (mF [2,3] (tup [av acW [v 1],jX []]))<|q (dZ Fx Fy)<|fz 3<|q (ret (v 3)) ed
def Fz:RF:=bK 1 [] 9 (rn OE.t)
theorem acY:bB 6 415 Fz:=cg dq OE 1 9 5 pg pg (dF 47) 414 [cn,rZ,kW,r8,qg,Bl,w7,dj,lZ,uH]
theorem FA:BN Ii (.builtin "abs"):={}
def zn:CC CN:=.bi Ii (.builtin "abs") cr.abs.c FA.e FA.b FA.n (λJ=>by kernel_rfl)
def OF:CK:=nm 3 (it (slice (v 0) none (some (n 24))))
def OG:CX:=q (ite (tC t8 (av zn [v 3]) (bA lE (n 10) (n 18))) (q (set 1 (bA aV (bA abC (v 1) (bA lE (n 10) (n 120))) (bA gS (av zn [v 3]) (bA lE (n 10) (n 120))))) ed) (q (set 2 (bA gS (bA aV (bA aV (bA aV (bA dX (n 69069) (v 2)) (bA dX (n 2) (av zn [v 3]))) (av yY [bC lF (v 3) (n 0)])) (n 1)) (n 1000000007))) ed)) ed
def OH:CX:=q (iS [1,2] (tup [n 0,n 0]))<|q (dZ OF OG)<|q (ret (jX [v 1,v 2,n 0])) ed
def FC:RF:=bK 1 [] 3 (rn OH.t)
theorem acZ:bB 1 423 FC:=cg io OH 1 3 0 oP oP (dF 50) 422 [IG,Tj,To,S8]
def OI:CX:=q (ite (tC gT (ct (v 0) (n 0)) (n 0)) (q (set 2 (bA gS (ct (v 0) (n 0)) (v 1)))<|q (v5 (bA v6 (ct (v 0) (n 0)) (v 1)) (v 0) (n 0))<|q (ret (v 2)) ed) ed)<|q (v5 (bA aV (ct (v 0) (n 2)) (n 1)) (v 0) (n 2))<|q (ret (bA gS (bA v6 (bA gS (bA lE (bA aV (ct (v 0) (n 1)) (bA dX (n 7919) (ct (v 0) (n 2)))) (n 3)) (n 1000000007)) (n 32)) (v 1))) ed
def wf:RF:=bK 2 [] 1 (rn OI.t)
theorem ac0:bB 1 430 wf:=cg io OI 2 1 0 oD oD (dF 51) 429 [mT,se,Tb]
def OJ:CK:=nm 4 (rg fh [v 3])
def OK:CX:=q (v5 (bA gS (v 2) (n 256)) (v 0) (bA aV (v 1) (v 4)))<|q (set 2 (bA v6 (v 2) (n 256))) ed
def OL:CX:=q (dZ OJ OK) ed
def FD:RF:=bK 4 [] 1 (rn OL.t)
theorem ac1:bB 1 437 FD:=cg io OL 4 1 0 oN oN (dF 52) 436 [cn,dj,iA,iz,o6]
theorem FE:BN II (.builtin "sum"):={}
def OM:CC CQ:=.bi II (.builtin "sum") cr.sum.c FE.e FE.b FE.n (λJ=>by kernel_rfl)
def ON:CZ:=cz (nm 2 (rg fh [v 2])) [0,1] 1 (bA M5 (item (v 0) (bA aV (v 1) (v 2))) (bA lE (n 256) (v 2)))
def OO:CX:=q (ret (av OM [cp ON])) ed
def zo:RF:=bK 3 [] 0 (rn OO.t)
theorem ac2:bB 1 442 zo:=cg io OO 3 0 0 oK oK (dF 53) 441 [cn,dj,iz]
def cI:CC wf:=.fn oD ⟨1,430,ac0⟩
theorem FF:BN IA (.builtin "max"):={}
def wg:CC vp:=.bi IA (.builtin "max") cr.max.c FF.e FF.b FF.n (λJ=>by kernel_rfl)
def FG:CK:=nm 5 (rg fh [v 1])
def FH:CX:=q (set 3 (bA aV (v 3) (item (lst [n 0,n 0,n 4,n 13]) (av cI [v 0,n 4]))))<|q (set 6 (av wg [n 0,bA gu (av cI [v 0,n 14]) (n 3)]))<|q (set 7 (bA aV (bA aV (v 6) (item (lst [n 0,n 5,n 0,n 9]) (av cI [v 0,n 4]))) (bA dX (n 4) (av yY [bC iT (v 5) (v 2)]))))<|q (set 8 (ka (tC iT (v 5) (v 2)) (item (lst [n 5,n 7,n 1]) (av cI [v 0,n 3])) (av cI [v 0,n 8])))<|q (expr (mb jO (v 4) [tup [v 3,v 6,v 7,v 8]]))<|q (set 3 (bA aV (v 3) (v 7))) ed
def OP:CZ:=nW (nm 0 (rg fh [ct (item (v 4) (v 2)) (n 0),bA aV (ct (item (v 4) (v 2)) (n 0)) (ct (item (v 4) (v 2)) (n 2))])) [] 1 (tC iT (bA gS (v 0) (n 4)) (n 0)) (v 0)
def OQ:CX:=q (mF [2,3,4] (tup [av cI [v 0,v 1],item (lst [n 64,n 0,bA gu (bA lE (n 2) (n 31)) (n 20),bA gu (bA lE (n 2) (n 32)) (n 300)]) (av cI [v 0,n 4]),jX []]))<|q (dZ FG FH)<|fz 4<|q (qU 9 OP)<|q (ret (tup [v 4,item (v 9) (av cI [v 0,av cL [v 9]])])) ed
def FI:RF:=bK 2 [] 8 (rn OQ.t)
theorem ac3:bB 2 447 FI:=cg io OQ 2 8 1 oQ oQ (dF 54) 446 [mT,se,Iu,kV,w9,o6,iz,fQ,Bk,Tw]
def OR:CC FI:=.fn oQ ⟨2,447,ac3⟩
def FJ:CE:=gl Ih (.ref 416) Ex (λJ=>by kernel_rfl) abw
def ac4:CC (fH 302 Fd):=.mk' rT 302 237 ⟨3,237,acv⟩ rfl
def ac5:CM 302 rY uc:={f:=⟨5,280,acn⟩}
def zq:CZ:=cz (nm 2 (rg fh [v 8])) [7,3] 1 (bA gS (bA aV (bA aV (v 1) (v 0)) (bA dX (n 29) (v 2))) (n 256))
def OS:CK:=t7 [7,8,9,10] (v 1)
def OT:CX:=q (expr (mb jO (v 6) [tup [v 7,av gU [cp zq],v 9,v 10]])) ed
def OU:CK:=nm 11 (rg fh [bA gu (v 5) (n 1)])
def OV:CX:=q (mF [13,14] (tup [item FJ (av cI [v 0,n 15]),item (lst [n 0,n 77,bA gu (bA lE (n 2) (n 32)) (n 1),n 64]) (av cI [v 0,n 4])]))<|q (expr (mb jO (v 12) [tup [v 13,v 14,bC iT (av cI [v 0,n 2]) (n 0)]])) ed
def FK:CZ:=cz (t7 [0,1,2,3] (v 6)) [] 4 (av Om [v 0,v 1,v 2,v 3])
def FL:CZ:=cz (t7 [0,1,2] (v 12)) [] 3 (av Oz [v 0,v 1,v 2])
def FM:CZ:=nW (nm 0 (it (v 12))) [] 1 (nt (tr (ct (v 0) (n 2)))) (v 0)
def FN:CZ:=nW (nm 0 (it (v 12))) [] 1 (tr (ct (v 0) (n 2))) (v 0)
def FO:CZ:=nW (nm 0 (it (v 6))) [] 1 (tC gT (ct (v 0) (n 2)) (n 0)) (v 0)
def FP:CX:=q (iS [1,2] (av OR [v 0,bA aV (n 1) (av cI [v 0,n 4])]))<|q (iS [3,4,5] (tup [av cI [v 0,n 256],item (lst [n 4,n 1,n 16,n 8]) (av cI [v 0,n 4]),av cI [v 0,n 5]]))<|q (set 6 (jX []))<|q (dZ OS OT)<|fz 6<|q (set 12 (jX []))<|q (dZ OU OV)<|fz 12<|q (set 15 (av ac4 [v 2,cp FK,v 4]))<|q (set 16 (bP ac5 (v 15) [ka (tC gT (v 5) (n 0)) (cp FL) nT]))<|q (set 12 (bA aV (cp FM) (cp FN)))<|q (ret (tup [av EL [v 16],tup [v 2,cp FO],v 12])) ed
def FQ:RF:=bK 1 [] 16 (rn FP.t)
theorem ac6:bB 6 452 FQ:=cg io FP 1 16 5 oU oU (dF 55) 451 [mT,w9,gZ,IL,ko,se,Tt,gn,iz,fQ,Bk,o6,uO,lZ,iA,TG,cn]
def OW:CK:=nm 6 (rg fh [av cL [v 1]])
def OX:CX:=q (set 7 (bA gS (bA aV (v 2) (bA M5 (v 3) (v 6))) (av cL [v 1])))<|q (v5 (v 4) (v 5) (v 7))<|q (set 4 (bA aV (bA aV (v 4) (item (v 1) (v 7))) (av cI [v 0,n 4]))) ed
def OY:CX:=q (mF [2,3,4] (tup [av cI [v 0,av cL [v 1]],item (lst [n 1,neg (n 1)]) (av cI [v 0,n 2]),bA aV (n 52) (av cI [v 0,n 5])]))<|q (set 5 (bA abE (lst [n 0]) (av cL [v 1])))<|q (dZ OW OX)<|fz 5<|q (ret (tup [v 5,v 4])) ed
def zr:RF:=bK 2 [] 6 (rn OY.t)
theorem ac7:bB 2 459 zr:=cg io OY 2 6 1 oM oM (dF 56) 458 [mT,IH,IN,S7,kV,eW,o6,uL]
def wh:CC FD:=.fn oN ⟨1,437,ac1⟩
def zt:CZ:=nW (nm 2 (it (lst [n 0,n 1,n 2,n 4,n 8,n 16]))) [9,14] 1 (tW [tC lF (v 2) (n 2),tC iT (bA gS (bA gu (v 0) (v 1)) (v 2)) (n 0)]) (v 2)
def OZ:CK:=yL y1 [18,19] [lst [n 1,v 14,v 9,bA gu (bA gu (bA lE (n 2) (n 32)) (n 1)) (v 9),v 10,v 11,bA aV (v 12) (v 17),v 15]]
def O0:CX:=q (expr (av wh [v 1,bA aV (v 8) (bA dX (n 4) (v 18)),v 19,n 4])) ed
def FR:CK:=yL y1 [6,7] [v 3]
def FS:CX:=q (set 8 (bA aV (v 2) (bA dX (n 32) (v 6))))<|q (ite (tC lF (v 7) (n 0)) (q (expr (av wh [v 1,v 8,item (lst [n 0,n 4,n 6,n 1879048195]) (av cI [v 0,n 4]),n 4]))<|q cont ed) ed)<|q (iS [9,10,11,12] (item (v 4) (v 7)))<|q (set 13 (bA gu (av cL [v 1]) (v 10)))<|q (set 14 (item (lst [n 0,av cI [v 0,bA aV (v 13) (n 1)],av cI [v 0,bA aV (v 13) (n 1)],v 13]) (av cI [v 0,n 4])))<|q (qU 16 zt)<|q (mF [17,15] (tup [bA dX (n 8) (item (lst [n 0,bA aV (bA lE (n 2) (n 28)) (n 1)]) (av cI [v 0,n 2])),item (v 16) (av cI [v 0,av cL [v 16]])]))<|q (dZ OZ O0)<|q (expr (mb jO (v 5) [v 14])) ed
def O1:CX:=q (set 5 (jX []))<|q (dZ FR FS)<|fz 5<|q (ret (v 5)) ed
def FT:RF:=bK 5 [] 15 (rn O1.t)
theorem ac8:bB 2 464 FT:=cg io O1 5 15 1 oO oO (dF 57) 463 [mT,cn,uM,IE,w9,r8,o6,Tr,dj,gn,iz,fQ,Bk,Te,TC,ko,Th,Bh,uL,iA]
def O2:CK:=t7 [10,11,12] (lst [tup [n 0,bA gu (v 7) (v 4),n 4],tup [n 4,v 8,n 4],tup [n 12,v 9,n 1]])
def O5:CX:=q (expr (av wh [v 1,bA aV (bA aV (v 2) (bA dX (n 16) (v 6))) (v 10),v 11,v 12])) ed
def O6:CK:=nm 6 (rg fh [n 1,v 3])
def O7:CX:=q (mF [7,8,9] (tup [bA aV (v 4) (av cI [v 0,bA gu (n 15) (v 4)]),item (lst [n 0,n 77,bA gu (bA lE (n 2) (n 32)) (n 1),n 64]) (av cI [v 0,n 4]),av cI [v 0,n 5]]))<|q (set 9 (item (lst [n 0,n 16,n 18,n 33,n 2]) (v 9)))<|q (dZ O2 O5)<|q (expr (mb jO (v 5) [tup [item FJ (v 7),v 8,bC M8 (v 9) (tup [n 16,n 18])]])) ed
def O8:CX:=q (set 5 (jX []))<|q (dZ O6 O7)<|fz 5<|q (ret (v 5)) ed
def FU:RF:=bK 5 [] 8 (rn O8.t)
theorem ac9:bB 2 471 FU:=cg io O8 5 8 1 oF oF (dF 58) 470 [mT,cn,uM,se,S9,r8,o6,w7,iA,uH,uL,Tp,iz]
def ada:CC FU:=.fn oF ⟨2,471,ac9⟩
def O9:CK:=nm 5 (rg fh [n 15])
def Pa:CX:=q (v5 (av Nz [ct (bA aV (item FJ (v 5)) (dp ⟨#[0]⟩)) (n 0)]) (v 1) (bA aV (item (v 2) (n 2)) (v 5))) ed
def Pb:CZ:=cz (nm 1 (it (v 4))) [0] 1 (item (lst [n 0,n 7,n 10]) (av cI [v 0,n 3]))
def Pc:CK:=t7 [12,13] (v 11)
def Pd:CX:=q (expr (av wh [v 1,bA aV (v 9) (v 12),v 13,n 4])) ed
def zu:CK:=yL y1 [5,8] [v 3]
def zv:CX:=q (mF [9,10,11] (tup [bA aV (item (v 2) (n 1)) (bA dX (n 40) (v 5)),bA v6 (v 8) (n 2),lst [tup [n 4,item (lst [n 0,n 1,n 8,n 9]) (bA gS (v 5) (n 4))]]]))<|q (ite (tV [tC t8 (v 8) (n 0),tC iT (bA gS (v 8) (n 2)) (n 0)]) (q (set 11 (lst [tup [n 4,n 2],tup [n 16,item (v 2) (bA aV (n 3) (v 10))],tup [n 20,bA dX (n 16) (item (v 4) (v 10))],tup [n 24,mb abx (v 3) [bA aV (v 8) (n 1)]],tup [n 36,n 16]]))<|q (set 7 (bA aV (v 7) (av ada [v 0,v 1,item (v 2) (bA aV (n 3) (v 10)),item (v 4) (v 10),item (v 6) (v 10)]))) ed) (q (ite (tC t8 (v 8) (n 0)) (q (set 11 (lst [tup [n 4,n 3],tup [n 16,bA aV (item (v 2) (n 2)) (item (v 6) (v 10))],tup [n 20,bA gu (n 15) (item (v 6) (v 10))]])) ed) ed) ed))<|q (dZ Pc Pd) ed
def Pe:CX:=q (dZ O9 Pa)<|q (mF [6,7] (tup [cp Pb,lst []]))<|q (dZ zu zv)<|q (ret (v 7)) ed
def FV:RF:=bK 5 [] 9 (rn Pe.t)
theorem adb:bB 3 476 FV:=cg io Pe 5 9 2 oS oS (dF 59) 475 [mT,cn,eW,It,IK,o6,Ta,r8,Tk,dj,IJ,Tq,uL,iA]
def adc:CC zr:=.fn oM ⟨2,459,ac7⟩
def ade:CC FT:=.fn oO ⟨2,464,ac8⟩
def adf:CC FV:=.fn oS ⟨3,476,adb⟩
def Pf:CK:=nm 7 (rg fh [av cI [v 0,n 3]])
def Pg:CX:=q (set 8 (av cI [v 0,bA aV (av cL [v 4]) (n 1)]))<|q (set 4 (bA aV (bA aV (slice (v 4) none (some (v 8))) (lst [neg (n 1)])) (slice (v 4) (some (v 8)) none))) ed
def Ph:CZ:=cz (nm 1 (rg fh [av cI [v 0,n 3]])) [0] 1 (av cI [v 0,n 4])
def Pj:CZ:=cz (nm 0 (it (v 5))) [] 1 (bA dX (n 16) (v 0))
def zw:CZ:=cz (nm 1 (rg fh [v 10])) [11] 1 (bA gS (bA aV (v 0) (bA dX (n 29) (v 1))) (n 256))
def Pk:CK:=t7 [15,16,17] (bA aV (v 14) (lst [tup [n 48,av cL [v 6],n 2]]))
def Pm:CX:=q (expr (av wh [v 13,v 15,v 16,v 17])) ed
def zx:CZ:=cz (zp EY [1,2] [v 2,v 18]) [13] 2 (tup [ct (v 1) (n 0),av gU [slice (v 0) (some (v 2)) (some (bA aV (v 2) (ct (v 1) (n 1))))],ct (v 1) (n 2),ct (v 1) (n 3)])
def FW:CZ:=nW (nm 0 (it (v 20))) [] 1 (tC gT (ct (v 0) (n 2)) (n 0)) (v 0)
def Pn:CX:=q (dZ Pk Pm)<|q (set 18 (av ade [v 0,v 13,item (v 9) (n 0),v 4,v 2]))<|q (set 19 (av adf [v 0,v 13,v 9,v 6,v 5]))<|fz 13<|q (qU 20 zx)<|q (ret (tup [v 13,tup [v 3,cp FW],v 19])) ed
def Pp:CX:=q (set 14 (bA aV (v 14) (lst [tup [n 32,item (v 9) (n 1),n 4],tup [n 40,v 12,n 2],tup [n 42,n 32,n 2],tup [n 44,av cL [v 4],n 2],tup [n 46,ka (tC gv (v 6) (lst [])) (n 40) (n 7),n 2]])))<|Pn
def zy:CX:=q (set 7 (av cI [v 0,bA aV (av cL [v 6]) (n 1)]))<|q (set 6 (bA aV (slice (v 6) (some (v 7)) none) (slice (v 6) none (some (v 7)))))<|q (iS [9,10] (av adc [v 0,bA aV (lst [bA dX (n 32) (av cL [v 4]),bA dX (n 40) (av cL [v 6]),n 15]) (cp Pj)]))<|q (iS [11,12] (tup [av cI [v 0,n 256],bA aV (n 52) (av cI [v 0,n 9])]))<|q (lr 13 zw)<|q (set 14 (lst [tup [n 0,n 1179403647,n 4],tup [n 4,n 65793,n 3],tup [n 16,n 2,n 2],tup [n 18,n 243,n 2],tup [n 20,n 1,n 4],tup [n 24,v 3,n 4],tup [n 28,item (v 9) (n 0),n 4]]))<|Pp
def FX:CX:=q (ite (tr (v 1)) (q (dZ Pf Pg)<|q (qU 5 Ph)<|q (set 6 (bA aV (slice (lst [neg (n 1)]) none (some (av cI [v 0,n 2]))) (ym v9 fh [bA dX (n 2) (av cL [v 5])]))) ed) ed)<|zy
def Pq:CX:=q (iS [2,3] (av OR [v 0,ka (tr (v 1)) (bA aV (n 1) (av cI [v 0,n 4])) (n 1)]))<|q (mF [4,5,6] (tup [ym v9 fh [av cL [v 2]],lst [n 2],lst [n 0,n 1]]))<|FX
def zz:RF:=bK 2 [] 19 (rn Pq.t)
theorem adg:bB 4 481 zz:=cg io Pq 2 19 3 oI oI (dF 60) 480 [mT,IB,w9,gZ,IE,IK,It,IN,uL,eW,Tl,IL,TA,cn,Ir,dj,iA,iz,TF,uO,Bg]
def ud:CC zo:=.fn oK ⟨1,442,ac2⟩
def Ps:CZ:=cz (nm 3 (rg fh [n 5])) [5,0,1] 1 (av ud [v 1,bA aV (bA aV (v 2) (bA dX (n 32) (v 0))) (bA dX (n 4) (v 3)),n 4])
def FY:CK:=nm 5 (rg fh [v 2])
def FZ:CX:=q (iS [6,7,8,9,10] (cp Ps))<|q (ite (tC iT (v 6) (n 1)) (q (set 4 (av wg [v 4,bA aV (v 7) (v 10)]))<|q (set 3 (ka (tC gT (v 10) (n 0)) (av wg [v 3,bA aV (v 7) (v 10)]) (v 3))) ed) ed) ed
def Pu:CX:=q (iS [1,2] (tup [av ud [v 0,n 28,n 4],av ud [v 0,n 44,n 2]]))<|q (set 3 (bA aV (v 1) (bA dX (n 32) (v 2))))<|q (set 4 (v 3))<|q (dZ FY FZ)<|q (ret (tup [v 3,v 4])) ed
def F0:RF:=bK 1 [] 10 (rn Pu.t)
theorem adh:bB 2 486 F0:=cg io Pu 1 10 1 oE oE (dF 61) 485 [cn,uM,se,Iz,Bh,o6,uH,dj,gn,IF,iz]
def Pv:CZ:=cz (nm 3 (rg fh [n 7])) [2,0,1] 1 (av ud [v 1,bA aV (bA aV (v 2) (bA dX (n 40) (v 0))) (bA dX (n 4) (v 3)),n 4])
def Pw:CZ:=cz (nm 2 (rg fh [v 2])) [0,1] 1 (cp Pv)
def Px:CZ:=nW (nm 0 (it (v 3))) [] 1 (tC iT (ct (v 0) (n 1)) (n 2)) (v 0)
def F1:CK:=nm 6 (it (cp Px))
def F4:CX:=q (set 7 (item (v 3) (ct (v 6) (n 6))))<|q (set 5 (av wg [v 5,bA aV (ct (v 7) (n 4)) (ct (v 7) (n 5)),bA aV (ct (v 6) (n 4)) (ct (v 6) (n 5))]))<|q (ite (tC gT (ct (v 6) (n 5)) (n 16)) (q (set 4 (av wg [v 4,bA aV (ct (v 7) (n 4)) (ct (v 7) (n 5)),bA gu (bA aV (ct (v 6) (n 4)) (ct (v 6) (n 5))) (n 3)])) ed) ed) ed
def Py:CX:=q (iS [1,2] (tup [av ud [v 0,n 32,n 4],av ud [v 0,n 48,n 2]]))<|q (ite (tC iT (v 2) (n 0)) (q (ret (tup [n 52,n 52])) ed) ed)<|q (qU 3 Pw)<|q (set 4 (bA aV (v 1) (bA dX (n 40) (v 2))))<|q (set 5 (v 4))<|q (dZ F1 F4)<|q (ret (tup [v 4,v 5])) ed
def wi:RF:=bK 1 [] 7 (rn Py.t)
theorem adi:bB 2 491 wi:=cg io Py 1 7 1 oR oR (dF 62) 490 [cn,uM,se,kW,Iz,Bh,qg,Bl]
def adj:CC Fs:=.fn pd ⟨6,398,acS⟩
def F5:CE:=(av adj [av gU [v 0]])
def Pz:CZ:=cz (nm 0 (it (attr Nr (v 1)))) [] 1 (tup [attr nX (v 0),attr qX (v 0),attr t9 (v 0),attr EJ (v 0)])
def PA:CX:=q (MY 1 eu gb F5)<|q (ret (tup [attr Fq (v 1),cp Pz])) ed
def zB:RF:=bK 1 [] 1 (rn PA.t)
theorem adk:bB 7 496 zB:=cg io PA 1 1 6 oH oH (dF 63) 495 [cn,Iv]
def adl:CC Fz:=.fn pg ⟨6,415,acY⟩
def F6:CE:=(av adl [av gU [v 0]])
def PB:CZ:=cz (nm 0 (it (v 1))) [] 1 (tup [attr NU (v 0),attr E9 (v 0),attr zc (v 0)])
def PC:CX:=q (MY 1 eu gb F6)<|q (ret (cp PB)) ed
def zD:RF:=bK 1 [] 1 (rn PC.t)
theorem adm:bB 7 501 zD:=cg io PC 1 1 6 oJ oJ (dF 64) 500 [cn,r8]
def PD:CX:=q (ite (tC v8 (v 0) nT) (q (ret (bC lF (v 2) (ct (v 3) (n 1)))) ed) ed)<|q (ret (MG (bC t8 (v 2) (ct (v 3) (n 0))) (bC iT (v 0) (v 1)))) ed
def ue:RF:=bK 4 [] 0 (rn PD.t)
theorem adn:bB 1 508 ue:=cg io PD 4 0 0 oG oG (dF 65) 507 [Tz,Bg,fQ,Io]
def ado:CC FC:=.fn oP ⟨1,423,acZ⟩
def adp:CC FQ:=.fn oU ⟨6,452,ac6⟩
def adq:CC zz:=.fn oI ⟨4,481,adg⟩
def adr:CC F0:=.fn oE ⟨2,486,adh⟩
def PE:CC ue:=.fn oG ⟨1,508,adn⟩
def ads:CC zB:=.fn oH ⟨7,496,adk⟩
def adt:CC wi:=.fn oR ⟨2,491,adi⟩
def adu:CC zD:=.fn oJ ⟨7,501,adm⟩
def PF:CZ:=cz (nm 0 (it (v 0))) [] 1 (av zn [v 0])
def zG:CZ:=cz (nm 2 (rg fh [ka (tr (v 2)) (n 3) (n 0)])) [6,1] 1 (av cI [v 1,bA aV (av cL [v 0]) (n 1)])
def zI:CK:=nm 9 (it (bA aV (lst [bA gu (ct (v 8) (n 0)) (n 1),ct (v 8) (n 1),av cL [v 6]]) (v 7)))
def zJ:CX:=q (ite (nt (tr (av PE [av ads [slice (v 6) none (some (v 9))],v 4,v 9,v 8]))) (q (ret (El false)) ed) ed) ed
def zM:CK:=nm 9 (it (bA aV (lst [bA gu (ct (v 8) (n 0)) (n 1),ct (v 8) (n 1),av cL [v 6]]) (v 7)))
def zN:CX:=q (ite (nt (tr (av PE [av adu [slice (v 6) none (some (v 9))],v 5,v 9,v 8]))) (q (ret (El false)) ed) ed) ed
def PG:CX:=q (set 6 (bA aV (v 3) (slice (v 3) none (some (bA aV (n 1) (av cI [v 1,n 9]))))))<|q (qU 7 zG)<|q (set 8 (av adr [v 3]))<|q (dZ zI zJ)<|q (set 8 (av adt [v 3]))<|q (dZ zM zN)<|q (ret (El true)) ed
def PH:CX:=q (iS [1,2] (tup [av ado [v 0],bC gT (av OM [cp PF]) (n 1)]))<|q (ite (tV [tr (v 2),tC iT (av cI [v 1,n 2]) (n 0)]) (q (iS [3,4,5] (av adp [v 1])) ed) (q (iS [3,4,5] (av adq [v 1,v 2])) ed))<|PG
def PI:RF:=bK 1 [] 9 (rn PH.t)
theorem adv:bB 8 513 PI:=cg io PH 1 9 7 qe qe (dF 66) 512 [IG,mT,IB,cn,Bg,uO,Tm,Tc,Io,fQ]
theorem adw{ρ}{U}{h}{vs}{ns}(i:IntsAre vs ns):bv ρ U h vs (ns.map .int):=by
 induction i with
 |nil=>exact .nil
 |cons _ _ _ ih=>exact .cons (.int _ _) ih
abbrev F7:Prop:=∀ns:List Int,ns.length<=63->∃st,PI [.arr (ns.map .int)] []=.ok (.bool true) st
noncomputable def c0(w:World)(mg mb:Str->Option Value)(s:Shared):Cx:={w:=w,mg:=mg,mb:=mb,B:=s.heap,env:={scope:={kind:=.function,names:=[],isGenerator:=false,isCoroutine:=false,more:=[]},locals:=0,globals:=0,cells:=[]},bd:=[],A:=callerA,fr:=[],ex:=[],os:=s.os}
section
variable{w:World}{mg mb:Str->Option Value}{s:Shared}
theorem F8(a):¬iC [] [] a:=λ⟨_,_,h,_⟩=>nomatch h
theorem PJ(a):¬UX (c0 w mg mb s) ⟨[],[],s⟩ a:=λh=>h.elim (F8 a) λh=>nomatch h
theorem w0(hg:s.gens=#[]):aC (c0 w mg mb s) ⟨[],[],s⟩:=
 ⟨λJ J e=>e,hg,rfl,rfl,λJ J J h=>(nomatch h),λa h=>(PJ (w:=w) (mg:=mg) (mb:=mb) a h).elim,λJ J J J J h=>(nomatch h),λa J=>F8 a,λJ h=>(nomatch h),λJ h=>(nomatch h)⟩
theorem adx(F9:F7):BQ:=λw s mg mb l vs ns X T hg hL hI I=>by
 obtain⟨ao,hR⟩:=F9 ns I
 have C:CxA 8 (c0 w mg mb s):=⟨rfl,rfl,rfl,by show 1+claimMargin+6*8<=900;decide +kernel,by show 4+40*8<=2000;exact by decide,X,T⟩
 refine(PT.wp (c0 w mg mb s) (PySem.call (.ref 513) [.ref l])).mono (adv (c0 w mg mb s) ⟨[],[],s⟩ [.ref l] [.arr (ns.map .int)] C (w0 hg) (.cons (.mk (.arr hL) (PJ l) (adw hI)) .nil) (by rw[hR];exact λh=>nomatch h)) (λv s' p=>?_) λx s' p=>?_
 .induction p with | mk d ae e n w' rd=>
  cases hR.symm.trans e
  exact⟨rd.inv,λb o e=>n.keep b o e (F8 b) (.inl λh=>nomatch h),w'.os,w'.gens⟩
 .induction p with | mk ae e=>exact nomatch hR.symm.trans e
end
theorem ady(F9:F7):PySem.Challenge.rw_tk0068_01.Holds:=Vr (adx F9)
section
variable{a b c:Nat}{x y:Int}{st:List M}
theorem uf(h:a<b)(st):tj (.int (a:Int)) (.int (b:Int)) st=.ok (.bool true) st:=aw (λz=>Res.ok (D.bool z) st) (gc (ofNat_lt.mpr h))
theorem q7(h:¬a<b)(st):tj (.int (a:Int)) (.int (b:Int)) st=.ok (.bool false) st:=aw (λz=>Res.ok (D.bool z) st) (decide_eq_false (mt ofNat_lt.mp h))
theorem ug(h:a<=b)(st):xE (.int (a:Int)) (.int (b:Int)) st=.ok (.bool true) st:=aw (λz=>Res.ok (D.bool z) st) (gc (ofNat_le.mpr h))
theorem Ga(h:¬a<=b)(st):xE (.int (a:Int)) (.int (b:Int)) st=.ok (.bool false) st:=aw (λz=>Res.ok (D.bool z) st) (decide_eq_false (mt ofNat_le.mp h))
theorem jo(h:b<a)(st):tm (.int (a:Int)) (.int (b:Int)) st=.ok (.bool true) st:=aw (λz=>Res.ok (D.bool z) st) (gc (ofNat_lt.mpr h))
theorem iU(h:¬b<a)(st):tm (.int (a:Int)) (.int (b:Int)) st=.ok (.bool false) st:=aw (λz=>Res.ok (D.bool z) st) (decide_eq_false (mt ofNat_lt.mp h))
theorem wj(h:b<=a)(st):tu (.int (a:Int)) (.int (b:Int)) st=.ok (.bool true) st:=aw (λz=>Res.ok (D.bool z) st) (gc (ofNat_le.mpr h))
theorem Gb(h:¬b<=a)(st):tu (.int (a:Int)) (.int (b:Int)) st=.ok (.bool false) st:=aw (λz=>Res.ok (D.bool z) st) (decide_eq_false (mt ofNat_le.mp h))
theorem ltI(p:x<y)(st):tj (.int x) (.int y) st=.ok (.bool true) st:=aw (λz=>Res.ok (D.bool z) st) (gc p)
theorem gtI(p:y<x)(st):tm (.int x) (.int y) st=.ok (.bool true) st:=aw (λz=>Res.ok (D.bool z) st) (gc p)
theorem adz(p:¬y<x)(st):tm (.int x) (.int y) st=.ok (.bool false) st:=aw (λz=>Res.ok (D.bool z) st) (decide_eq_false p)
theorem Gc(x y)(st):lm (.int x) (.int y) st=.ok (.bool (x==y)) st:=rfl
theorem eqT(h:a=b)(st):lm (.int (a:Int)) (.int (b:Int)) st=.ok (.bool true) st:=(Gc _ _ _).trans (aw (λz=>Res.ok (D.bool z) st) (beq_iff_eq.mpr (aw Int.ofNat h)))
theorem mG(h:a≠b)(st):lm (.int (a:Int)) (.int (b:Int)) st=.ok (.bool false) st:=(Gc _ _ _).trans (aw (λz=>Res.ok (D.bool z) st) (beq_eq_false_iff_ne.mpr λq=>h (Int.ofNat.inj q)))
theorem neT(h:a≠b)(st):qC (.int (a:Int)) (.int (b:Int)) st=.ok (.bool true) st:=aw (λz=>Res.ok (D.bool z) st) (bne_iff_ne.mpr λq=>h (Int.ofNat.inj q))
theorem iV(h:a=b)(st):qC (.int (a:Int)) (.int (b:Int)) st=.ok (.bool false) st:=aw (λz=>Res.ok (D.bool z) st) (show((a:Int) != b)=false by rw[h];exact bne_self_eq_false _)
theorem neB{b}(st):qC (.bytes b) (.bytes b) st=.ok (.bool false) st:=aw (λz=>Res.ok (D.bool z) st) (bne_self_eq_false _)
theorem n0(h:0<y)(x)(st):pG (.int x) (.int y) st=.ok (.int (x.fmod y)) st:=aY (by lia)
theorem kb(h:0<b)(a:Nat)(st:List M):pG (.int (a:Int)) (.int (b:Int)) st=.ok (.int ((a%b:Nat):Int)) st:=(n0 (ofNat_lt.mpr h) _ _).trans (by rw[Int.fmod_eq_emod_of_nonneg _ (iy _)];rfl)
theorem zO(h:0<y)(Y:y<18446744073709551616)(x)(st):xA (.int x) (.int y) st=.ok (.int (x.fdiv y)) st:=aY (by lia)
theorem wk(h:0<b)(Y:b<18446744073709551616)(a:Nat)(st:List M):xA (.int (a:Int)) (.int (b:Int)) st=.ok (.int ((a/b:Nat):Int)) st:=(zO (ofNat_lt.mpr h) (ofNat_lt.mpr (show b<0x10000000000000000 from L1 [b] 0x1000000000000000011e011000000000000000011e05a Y)) _ _).trans (by rw[Int.fdiv_eq_ediv_of_nonneg _ (iy _)];rfl)
theorem iW(h:b<=a)(st):xz (.int (a:Int)) (.int (b:Int)) st=.ok (.int ((a-b:Nat):Int)) st:=aw (λz=>Res.ok (D.int z) st) (by lia)
theorem wm(x y)(st):xz (.int x) (.int y) st=.ok (.int (x-y)) st:=rfl
theorem PK(h:x.natAbs<18446744073709551616)(y)(st):pF (.int x) (.int y) st=.ok (.int (x*y)) st:=ax (.inl h)
theorem adA(h:a<18446744073709551616)(b:Nat)(st:List M):pF (.int (a:Int)) (.int (b:Int)) st=.ok (.int ((a*b:Nat):Int)) st:=PK (by lia) _ _
theorem n5(h:b<=1000000)(Y:a<18446744073709551616)(st):xB (.int (a:Int)) (.int (b:Int)) st=.ok (.int ((a^b:Nat):Int)) st:=(ax ⟨iy _,ofNat_le.mpr (show b<=1000000 from L1 [b] 0xf42405fa00f42405fa04a h),by lia⟩).trans (by rw[toNat_natCast];simp)
theorem Ge(h:b<=1000000)(Y:a<18446744073709551616)(st):Cu (.int (a:Int)) (.int (b:Int)) st=.ok (.int ((a*2^b:Nat):Int)) st:=(ax ⟨iy _,ofNat_le.mpr (show b<=1000000 from L1 [b] 0xf42405fa00f42405fa04a h),by lia⟩).trans (by rw[toNat_natCast];simp)
theorem PM(a b:Nat)(st:List M):Cv (.int (a:Int)) (.int (b:Int)) st=.ok (.int ((a/2^b:Nat):Int)) st:=by
 show(if(0:Int)<=(b:Int) then Res.ok (D.int (Int.fdiv a (2^(b:Int).toNat))) st else .stuck)=_
 rw[ax (iy _),toNat_natCast,show(2:Int)^b=((2^b:Nat):Int) by simp,Int.fdiv_eq_ediv_of_nonneg _ (iy _)];rfl
theorem Gf{V:List D}{i:Nat}{d:D}(h:V[i]?=some d)(hz:V.length<=1000000000)(st):lq V (i:Int) st=.ok d st:=by
 have hi:=(bH.mp h).1
 unfold lq tw
 rw[ax ⟨iy _,ofNat_lt.mpr hi,ofNat_lt.mpr (show i<0x4000000000000000 from L2 [i,V.length] 0x1013b9aca008fa10400000000000000010e05b hz hi)⟩]
 simp only[bind_some,toNat_natCast,h,qD]
theorem uh{V:List D}{i:Nat}{d:D}(h:V[i]?=some d)(hz:V.length<=1000000000)(st):iK (.lst V) (.int (i:Int)) st=.ok d st:=Gf h hz st
theorem adB{V:List D}{i:Nat}{d:D}(h:V[i]?=some d)(hz:V.length<=1000000000)(st):iK (.tup V) (.int (i:Int)) st=.ok d st:=Gf h hz st
theorem zQ{β:Type}(f:List D->Res β){k:Nat}{V:List D}(h:st[k]?=some (.list V)):(match st[k]? with | some (.list V)=>f V | _=>.stuck)=f V:=by rw[h]
theorem zV{k:Nat}{V:List D}{i:Nat}{d:D}(hk:st[k]?=some (.list V))(h:V[i]?=some d)(hz:V.length<=1000000000):iK (.ab k) (.int (i:Int)) st=.ok d st:=(zQ (λV=>lq V i st) hk).trans (Gf h hz st)
theorem wn{k:Nat}{V:List D}{i:Nat}(v)(hk:st[k]?=some (.list V))(h:i<V.length)(hz:V.length<=1000000000):tA v (.ab k) (.int (i:Int)) st=.ok () (st.set k (.list (V.set i v))):=
 (zQ (λV=>if 0<=(i:Int)/\(i:Int)<V.length/\(i:Int)<4611686018427387904 then .ok () (st.set k (.list (V.set (i:Int).toNat v))) else .stuck) hk).trans (ax ⟨iy _,ofNat_lt.mpr h,ofNat_lt.mpr (show i<0x4000000000000000 from L2 [i,V.length] 0x3b9aca008fa10101400000000000000010e05b h hz)⟩)
theorem fi{V}(h:V.length<=16777216)(st):tE (.lst V) st=.ok V st:=ax h
theorem kL{V}(h:V.length<=16777216)(st):pM [.lst V] st=.ok (.int (V.length:Int)) st:=ax h
theorem pW{b}(h:b.length<=16777216)(st):pM [.bytes b] st=.ok (.int (b.length:Int)) st:=ax h
theorem iX{α β:Type}{x:Option β}{a:β}{f:β->List M->Res α}(h:x=some a)(st):aI x f st=f a st:=by rw[h];rfl
theorem adC{k}{V}(hk:st[k]?=some (.list V)):xG (.ab k) st=some V.length:=by
 show(match st[k]? with | some (M.list V)=>some V.length | some (M.a8 b)=>some b.length | _=>none)=_
 rw[hk]
theorem zW{k:Nat}{V:List D}(hk:st[k]?=some (.list V))(h:V.length<=16777216):pM [.ab k] st=.ok (.int (V.length:Int)) st:=
 (iX (f:=λn st=>if n<=sz then .ok (D.int (n:Int)) st else .stuck) (adC hk) st).trans (ax h)
theorem adD(n:Nat):jm 0 (n:Int)=(List.range n).map λ(i:Nat)=>.int (i:Int):=by unfold jm;simp
theorem fY{n:Nat}(h:n<=16777216)(st):ij [.int (n:Int)] st=.ok ((List.range n).map λ(i:Nat)=>.int (i:Int)) st:=by
 rw[<- adD]
 exact ax ⟨ofNat_le.mpr (show n<=16777216 from L1 [n] 0x10000007fa0010000007fa04a h),by lia⟩
theorem kM{k:Nat}{V:List D}(d)(h:st[k]?=some (.list V))(hz:V.length<=16777216):xP [.ab k,d] st=.ok .none (st.set k (.list (V++[d]))):=
 (zQ (λV=>if V.length<=sz then Res.ok D.none (st.set k (.list (V++[d]))) else .stuck) h).trans (ax hz)
theorem iY{k}{V}(h:st[k]?=some (.list V)):pV vx (.ab k) st=.ok true st:=by
 have:vx (.ab k) st=true:=by show(match st[k]? with | some (M.list _)=>true | _=>false)=true;rw[h]
 unfold pV;rw[ax this]
theorem lG{k}{V}(h:st[k]?=some (.list V)):lz (.ab k) st=.ok (.lst V) (st.set k .gone):=by
 show(match st[k]? with | some (.list V)=>Res.ok (D.lst V) (st.set k .gone) | some (.inst C fs)=>.ok (.obj C fs) (st.set k .gone) | _=>.stuck)=_
 rw[h]
theorem Gg(a b:Nat)(st:List M):vp [.int (a:Int),.int (b:Int)] st=.ok (.int ((max a b:Nat):Int)) st:=aw (λz=>Res.ok (D.int z) st) (by split <;> lia)
theorem nb{a b}(h:autoParam (ble a b=true) rl):a<=b:=le_of_ble_eq_true h
theorem PN{k}{m}(h:k<st.length):(st.set k m)[k]?=some m:=by simp[h]
theorem dP{k}{m m'}(h:st[k]?=some m'):(st.set k m)[k]?=some m:=PN (bH.mp h).1
theorem df{i k}{m}{o}(h:k≠i)(e:st[k]?=o):(st.set i m)[k]?=o:=(di (Ne.symm h)).trans e
end
theorem sC{α:Type}{t:T α}{x:Res D}{d:D}{st ao:List M}{p q:Prop}[Decidable p][Decidable q]{R:Res α}(hx:x=if p then .ok d st else .bad ao)(hq:q->p)(h:p->(t.nD d st).run=if q then R else .bad ao)(e:autoParam (t=.aD t.s x t.nD) kr):t.run=if q then R else .bad ao:=by
 by_cases z:p
 .rw[ax z] at hx;exact sD hx (h z) e
 .rw[aY z] at hx;rw[aY (mt hq z)];exact bD hx e
theorem pC{α:Type}{t:T α}{f:List M->Res D}{d:D}{ao:List M}{p q:Prop}[Decidable p][Decidable q]{R:Res α}(hx:∀st,f st=if p then .ok d st else .bad st)(hq:q->p)(h:p->(t.mD d).run=if q then R else .bad ao)(e:autoParam (t=.aD t.s (f t.s) t.nD) kr)(Z:autoParam (t.s=ao) kr):t.run=if q then R else .bad ao:=by
 have k:t.mD d=t.nD d t.s:=by rw[e];rfl
 rw[k] at h
 subst Z;exact sC (hx _) hq h e
theorem wo{α:Type}{p:Prop}[Decidable p]{a b c:α}(h:p->a=b):(if p then a else c)=if p then b else c:=by
 by_cases q:p
 .rw[ax q,ax q,h q]
 .rw[aY q,aY q]
theorem sX{α:Type}{t t':T α}{R:Res α}(h:t'.run=R)(e:autoParam (t=t') kr):t.run=R:=e▸h
theorem mH{a b}(h:a.length+b.length<=16777216)(st):pH (.lst a) (.lst b) st=.ok (.lst (a++b)) st:=ax h
theorem cR{k}{X}{x}{σ σ'}{st}{R}(e:(X.t σ' st).run=R)(h:autoParam (k.aO x σ=some σ') kr):lp k X x σ st=R:=by unfold lp kH;rw[h];exact e
theorem sE{α:Type}{t:T α}{a:α}(e:autoParam (t=.ok a t.s) kr):t.run=.ok a t.s:=by generalize t.s=u at e ⊢;rw[e];rfl
section
variable{step:D->SS}{x:D}{xs:List D}{σ σ':List (Option D)}{st ao:List M}
theorem ui(h:step x σ st=.ok (.next,σ') ao):de step (x::xs) σ st=de step xs σ' ao:=(aw (Res.bind · (jH (de step xs))) h).trans rfl
theorem adE(h:step x σ st=.ok (.cont,σ') ao):de step (x::xs) σ st=de step xs σ' ao:=(aw (Res.bind · (jH (de step xs))) h).trans rfl
theorem PO{d}(h:step x σ st=.ok (.ret d,σ') ao):de step (x::xs) σ st=.ok (.ret d,σ') ao:=(aw (Res.bind · (jH (de step xs))) h).trans rfl
theorem adF(h:step x σ st=.bad ao):de step (x::xs) σ st=.bad ao:=(aw (Res.bind · (jH (de step xs))) h).trans rfl
inductive lH(step:D->SS)(x:D)(σ:List (Option D))(st:List M)(c:Prop)(Q:List (Option D)->List M->Prop):Prop
 |next (h:c) (σ':List (Option D)) (ao:List M) (e:step x σ st=.ok (.next,σ') ao) (q:Q σ' ao):lH step x σ st c Q
 |cont (h:c) (σ':List (Option D)) (ao:List M) (e:step x σ st=.ok (.cont,σ') ao) (q:Q σ' ao):lH step x σ st c Q
 |bad (h:¬c) (ao:List M) (e:step x σ st=.bad ao):lH step x σ st c Q
inductive n6(step:D->SS)(V:List D)(σ:List (Option D))(st:List M)(c:Prop)(Q:List (Option D)->List M->Prop):Prop
 |ok (h:c) (σ':List (Option D)) (ao:List M) (e:de step V σ st=.ok (.next,σ') ao) (q:Q σ' ao):n6 step V σ st c Q
 |bad (h:¬c) (ao:List M) (e:de step V σ st=.bad ao):n6 step V σ st c Q
theorem n6.front{c c':Prop}{Q}(e:de step (x::xs) σ st=de step xs σ' ao)(hc:c'↔c):n6 step xs σ' ao c Q->n6 step (x::xs) σ st c' Q
 |.ok h a b e' q=>.ok (hc.mpr h) a b (e.trans e') q
 |.bad h b e'=>.bad (mt hc.mp h) b (e.trans e')
theorem Gh{α:Type}(f:α->D):∀(l:List α)(P:Nat->List (Option D)->List M->Prop)(c:Nat->Prop)(σ:List (Option D))(st:List M),(∀j x σ st,l[j]?=some x->P j σ st->lH step (f x) σ st (c j) (P (j+1)))->P 0 σ st->n6 step (l.map f) σ st (∀j,j<l.length->c j) (P l.length)
 |[],_,_,σ,st,_,h=>.ok (λJ h=>nomatch h) σ st rfl h
 |x::xs,P,c,σ,st,hs,h=>by
  have key:c 0->((∀j,j<(x::xs).length->c j)↔∀j,j<xs.length->c (j+1)):=λc0=>⟨λh j hj=>h _ (Nat.succ_lt_succ hj),λh j hj=>match j,hj with | 0,_=>c0 | j+1,hj=>h j (Nat.lt_of_succ_lt_succ hj)⟩
  have ih:=λσ st=>Gh f xs (λj=>P (j+1)) (λj=>c (j+1)) σ st λj y σ st hy hp=>hs (j+1) y σ st hy hp
  cases hs 0 x σ st rfl h with
  |next c0 σ' ao e q=>exact(ih σ' ao q).front (ui e) (key c0)
  |cont c0 σ' ao e q=>exact(ih σ' ao q).front (adE e) (key c0)
  |bad c0 ao e=>exact .bad (λq=>c0 (q 0 (Nat.succ_pos _))) ao (adF e)
theorem adG{n j x}(h:(List.range n)[j]?=some x):j<n/\x=j:=by
 have hj:j<n:=by have:=(bH.mp h).1;rwa [eU] at this
 rw[getElem?_range hj] at h;cases h;exact⟨hj,rfl⟩
theorem zY(f:Nat->D)(n:Nat){P:Nat->List (Option D)->List M->Prop}{c:Nat->Prop}(hs:∀j σ st,j<n->P j σ st->lH step (f j) σ st (c j) (P (j+1)))(h:P 0 σ st):n6 step ((List.range n).map f) σ st (∀j,j<n->c j) (P n):=by
 have:=Gh f (List.range n) P c σ st (λj x σ st hx=>by obtain⟨hj,rfl⟩:=adG hx;exact hs x σ st hj) h
 rwa [eU] at this
inductive zZ(step:D->SS)(V:List D)(σ:List (Option D))(st:List M)(Q:List (Option D)->List M->Prop):Prop
 |mk (σ':List (Option D)) (ao:List M) (e:de step V σ st=.ok (.next,σ') ao) (q:Q σ' ao):zZ step V σ st Q
abbrev fM(step:D->SS)(x:D)(σ:List (Option D))(st:List M)(Q:List (Option D)->List M->Prop):Prop:=lH step x σ st True Q
theorem n6.o{c:Prop}{V}{Q}(hc:c):n6 step V σ st c Q->zZ step V σ st Q
 |.ok _ a b e q=>⟨a,b,e,q⟩
 |.bad h _ _=>absurd hc h
theorem lI{α:Type}(f:α->D)(l:List α){P:Nat->List (Option D)->List M->Prop}(hs:∀j x σ st,l[j]?=some x->P j σ st->fM step (f x) σ st (P (j+1)))(h:P 0 σ st):zZ step (l.map f) σ st (P l.length):=
 (Gh f l P (λJ=>True) σ st hs h).o λJ J=>trivial
theorem uj(f:Nat->D)(n){P:Nat->List (Option D)->List M->Prop}(hs:∀j σ st,j<n->P j σ st->fM step (f j) σ st (P (j+1)))(h:P 0 σ st):zZ step ((List.range n).map f) σ st (P n):=
 (zY f n (c:=λJ=>True) hs h).o λJ J=>trivial
end
structure Sd where
 g:Int
 m:Int
 c:Int
noncomputable def Sd.M(s:Sd):M:=.list [.int s.g,.int s.m,.int s.c]
structure Sd.Ok(s:Sd)(n:Nat):Prop where
 g:0<=s.g
 m:0<=s.m/\s.m<1000000007
 c:0<=s.c/\s.c<=n
inductive bX(st:List M)(k n:Nat):Prop
 |mk (s:Sd) (h:st[k]?=some s.M) (ok:s.Ok n):bX st k n
theorem bX.le{st}{k n m}(h:n<=m):bX st k n->bX st k m
 |⟨s,e,o⟩=>⟨s,e,o.g,o.m,o.c.1,Int.le_trans o.c.2 (ofNat_le.mpr h)⟩
theorem bX.at{st ao}{k n}(h:ao[k]?=st[k]?):bX st k n->bX ao k n
 |⟨s,e,o⟩=>⟨s,h.trans e,o⟩
inductive Gi(st:List M)(k m n:Nat):Prop
 |mk (d:Nat) (ao:List M) (lt:d<m) (eq:wf [.ab k,.int (m:Int)] st=.ok (.int (d:Int)) ao) (s:bX ao k (n+1)) (fr:∀i,i≠k->ao[i]?=st[i]?) (len:ao.length=st.length):Gi st k m n
theorem cJ{st:List M}{k n:Nat}(m)(H:bX st k n)(hn:n<=1000000:=by lia)(hm:autoParam (0<m) dc)(Gj:autoParam (m<18446744073709551616) dc):Gi st k m n:=by
 obtain⟨⟨g,mm,c⟩,hk,hs⟩:=H
 have jB:st[k]?=some (.list [.int g,.int mm,.int c]):=hk
 have fX:(0:Int)<m:=ofNat_lt.mpr hm
 have bc:∀(x:Int)(s':Sd)(ao:List M),0<=x/\x<m->wf [.ab k,.int (m:Int)] st=.ok (.int x) ao->s'.Ok (n+1)->ao=st.set k s'.M->Gi st k m n:=by
  rintro x s' _ hx e o rfl
  refine⟨x.toNat,_,by lia,?_,⟨s',dP hk,o⟩,λi hi=>df hi rfl,et⟩
  rw[e,Int.toNat_of_nonneg hx.1]
 have i0:=zV (i:=0) jB rfl nb
 have i2:=zV (i:=2) jB rfl nb
 by_cases hg:0<g
 .refine bc (g.fmod m) ⟨g.fdiv m,mm,c⟩ _ ⟨Int.fmod_nonneg_of_pos _ fX,Int.fmod_lt_of_pos _ fX⟩ ?_ ⟨Int.fdiv_nonneg hs.g (ofNat_le.mpr (show 0<=m from L0 [m] 2633)),hs.m,hs.c.1,by have:=hs.c.2;show c<=_;simp only at this;lia⟩ rfl
  exact bp (sD i0<|pD (gtI (y:=((0:Nat):Int)) hg)<|sD i0<|pD (n0 fX g)<|sD i0<|pD (zO fX (ofNat_lt.mpr (show m<0x10000000000000000 from L1 [m] 0x1000000000000000011e011000000000000000011e05a Gj)) g)<|sU (wn (i:=0) (.int (g.fdiv m)) jB nb nb))
 .have Y:(st.set k (.list [.int g,.int mm,.int (c+1)]))[k]?=some (.list [.int g,.int mm,.int (c+1)]):=dP hk
  have j1:=zV (i:=1) Y rfl nb
  have j2:=zV (i:=2) Y rfl nb
  have h1:=hs.m;have h2:=hs.c
  simp only at h1 h2
  have hp:(mm+7919*(c+1)).natAbs<18446744073709551616:=by lia
  refine bc (((((mm+7919*(c+1))^3).fmod 1000000007).fdiv 32).fmod m) ⟨g,mm,c+1⟩ _ ⟨Int.fmod_nonneg_of_pos _ fX,Int.fmod_lt_of_pos _ fX⟩ ?_ ⟨hs.g,h1,by show 0<=c+1;lia,by show c+1<=_;lia⟩ rfl
  have pw:∀st,xB (.int (mm+7919*(c+1))) (.int 3) st=.ok (.int ((mm+7919*(c+1))^3)) st:=λst=>ax ⟨by decide,by decide,hp⟩
  exact bp (sD i0<|pD (adz (y:=((0:Nat):Int)) hg)<|sD i2<|sU (wn (i:=2) (.int (c+1)) jB nb nb)<|sD j1<|sD j2<|pD pw<|pD (n0 (y:=1000000007) (by decide) ((mm+7919*(c+1))^3))<|pD (zO (y:=32) (by decide) (by decide) (((mm+7919*(c+1))^3).fmod 1000000007))<|pD (n0 fX ((((mm+7919*(c+1))^3).fmod 1000000007).fdiv 32)))
noncomputable def bk(B:List UInt8)(i:Nat):Nat:=(B.getD i 0).toNat
theorem lJ(B)(i):bk B i<256:=toNat_lt _
noncomputable def le(B:List UInt8)(p:Nat):Nat->Nat
 |0=>0
 |n+1=>bk B p+256*le B (p+1) n
theorem q8{B}{p n}:le B p (n+1)=bk B p+256*le B (p+1) n:=rfl
theorem pX{B B'}:∀{n p q:Nat},(∀i,i<n->bk B (p+i)=bk B' (q+i))->le B p n=le B' q n
 |0,_,_,_=>rfl
 |n+1,p,q,h=>by
  have h0:=h 0 (L0 [n] 436800089)
  have:=pX (B:=B) (B':=B') (n:=n) (p:=p+1) (q:=q+1) λi hi=>by
   have:=h (i+1) (L1 [i,n] 282686578624858 hi)
   rw[show p+1+i=p+(i+1) by exact eK (L0 [p,i] 7345876135614793) (L0 [p,i] 4961654032369993),show q+1+i=q+(i+1) by exact eK (L0 [q,i] 7345876135614793) (L0 [q,i] 4961654032369993)];exact this
  simp only[add_zero] at h0
  rw[q8,q8,h0,this]
theorem wq(B):∀n p,le B p n<256^n
 |0,_=>Nat.one_pos
 |n+1,p=>by
  have h1:=lJ B p
  have h2:=wq B n (p+1)
  rw[q8,pow_succ];exact L2 [bk B p,le B (p+1) n,256^n] 0x211003f71003fa0121003fc11003fb095b h1 h2
theorem PP{B}{m i}(h:i<m):bk (B.take m) i=bk B i:=by unfold bk;simp[eJ,List.getElem?_take,h]
theorem PQ{B}{m i}:bk (B.drop m) i=bk B (m+i):=by unfold bk;simp[eJ,getElem?_drop]
theorem ws{B C}{i}(h:i<B.length):bk (B++C) i=bk B i:=by unfold bk;simp[eJ,dH h]
theorem wv{B C}{i}:bk (B++C) (B.length+i)=bk C i:=by unfold bk;simp[eJ,jz]
theorem PR{B}{m p n}(h:p+n<=m):le (B.take m) p n=le B p n:=pX λi hi=>PP (L2 [p,i,m,n] 0x3112309021095b h hi)
theorem eP{B C}{p n}(h:p+n<=B.length):le (B++C) p n=le B p n:=pX λi hi=>ws (L2 [p,i,B.length,n] 0x3112309021095b h hi)
theorem q9{B C}{p n}:le (B++C) (B.length+p) n=le C p n:=pX λi hi=>by rw[Nat.add_assoc];exact wv
theorem adH{B}{m p n}:le (B.drop m) p n=le B (m+p) n:=pX λi hi=>by rw[PQ,Nat.add_assoc]
noncomputable def lf(v:Nat):Nat->List UInt8
 |0=>[]
 |n+1=>UInt8.ofNat (v%256)::lf (v/256) n
theorem PU{v n}:lf v (n+1)=UInt8.ofNat (v%256)::lf (v/256) n:=rfl
@[simp] theorem ww:∀n v,(lf v n).length=n
 |0,_=>rfl
 |n+1,v=>aw (· + 1) (ww n _)
theorem PV{b}{B}:bk (b::B) 0=b.toNat:=rfl
theorem PX{b}{B}{p n}:le (b::B) (p+1) n=le B p n:=pX λi hi=>by rw[show p+1+i=p+i+1 by exact eK (L0 [p,i] 7336599006255433) (L0 [p,i] 4961654031817033)];rfl
theorem PY:∀n v,le (lf v n) 0 n=v%256^n
 |0,v=>(Nat.mod_one v).symm
 |n+1,v=>by
  rw[PU,q8,PX,PY n,PV,pow_succ,mul_comm (256^n) 256,Nat.mod_mul]
  have:(UInt8.ofNat (v%256)).toNat=v%256:=by simp
  rw[this]
noncomputable def jp(B:List UInt8)(p v:Nat):Nat->List UInt8
 |0=>B
 |n+1=>jp (B.set p (UInt8.ofNat (v%256))) (p+1) (v/256) n
theorem PZ{B}{p v n}:jp B p v (n+1)=jp (B.set p (UInt8.ofNat (v%256))) (p+1) (v/256) n:=rfl
@[simp] theorem Gk:∀n B p v,(jp B p v n).length=B.length
 |0,_,_,_=>rfl
 |n+1,B,p,v=>(Gk n _ _ _).trans et
theorem adI{B}{p i}{x}(h:i≠p):bk (B.set p x) i=bk B i:=by unfold bk;simp[eJ,di (Ne.symm h)]
theorem adJ{B:List UInt8}{p:Nat}{x:UInt8}(h:p<B.length):bk (B.set p x) p=x.toNat:=by unfold bk;simp[eJ,h]
theorem Gl:∀n B p v i,(i<p\/p+n<=i)->bk (jp B p v n) i=bk B i
 |0,_,_,_,_,_=>rfl
 |n+1,B,p,v,i,h=>by
  rw[PZ,Gl n _ _ _ _ (h.elim (λbM=>.inl (L1 [i,p] 69015277658 bM)) λbM=>.inr (L1 [p,n,i] 0x21a19090211a0994a bM)),adI (h.elim (λbM=>L1 [i,p] 16846906 bM) λbM=>L1 [i,p,n] 1797738467370 bM)]
theorem adK{n:Nat}{B:List UInt8}{p v q m:Nat}(h:q+m<=p\/p+n<=q):le (jp B p v n) q m=le B q m:=pX λi hi=>Gl _ _ _ _ _ (h.elim (λbM=>.inl (L2 [q,i,p,m] 9861532961802587 hi bM)) λbM=>.inr (L1 [p,n,q,i] 581161463122250 bM))
theorem P0:∀n B p v,p+n<=B.length->le (jp B p v n) p n=v%256^n
 |0,_,_,v,_=>(Nat.mod_one v).symm
 |n+1,B,p,v,h=>by
  rw[q8,PZ,Gl n _ _ _ _ (.inl (L0 [p] 27299929)),adJ (L1 [p,B.length,n] 19389907734618 h),P0 n _ _ _ (by simp;exact L1 [p,n,B.length] 0x21a19090211a0994a h),pow_succ,mul_comm (256^n) 256,Nat.mod_mul]
  simp
structure dL where
 p:Nat
 v:Nat
 n:Nat
noncomputable def cE(B:List UInt8):List dL->List UInt8
 |[]=>B
 |t::l=>cE (jp B t.p t.v t.n) l
theorem P1{B}{t}{l}:cE B (t::l)=cE (jp B t.p t.v t.n) l:=rfl
@[simp] theorem fw:∀l B,(cE B l).length=B.length
 |[],_=>rfl
 |t::l,B=>(fw l _).trans (Gk _ _ _ _)
theorem rj:∀l l' B,cE B (l++l')=cE (cE B l) l'
 |[],_,_=>rfl
 |t::l,l',B=>rj l l' _
def dL.off(t:dL)(q m:Nat):Prop:=t.p+t.n<=q\/q+m<=t.p
theorem P2:∀{l:List dL} {B:List UInt8} {q m:Nat},(∀t∈l,t.off q m)->le (cE B l) q m=le B q m
 |[],_,_,_,_=>rfl
 |t::l,B,q,m,h=>by
  rw[P1,P2 λt' ei=>h t' (.tail _ ei)]
  exact adK ((h t (.head _)).elim .inr .inl)
inductive fy:List dL->Prop where
 |nil:fy []
 |cons {t:dL} {l:List dL}:(∀t'∈l,t'.off t.p t.n)->fy l->fy (t::l)
theorem P3:∀{l:List dL} {B:List UInt8},fy l->∀t∈l,t.p+t.n<=B.length->le (cE B l) t.p t.n=t.v%256^t.n
 |_,B,.cons (t:=t) (l:=l) h a,t',ei,I=>by
  rcases dI.mp ei with rfl | ei
  .rw[P1,P2 h];exact P0 _ _ _ _ I
  .exact P3 a t' ei (by simpa using I)
def z0(l:List dL)(a b:Nat):Prop:=∀t∈l,a<=t.p/\t.p+t.n<=b
theorem fy.append:∀{l l':List dL},fy l->fy l'->(∀t∈l,∀t'∈l',t'.off t.p t.n)->fy (l++l')
 |_,_,.nil,h,_=>h
 |_,_,.cons h a,Y,hh=>.cons (λt' ei=>(cy.mp ei).elim (h t') (hh _ (.head _) t')) (a.append Y λt ht=>hh t (.tail _ ht))
theorem adL(x y:Nat):Builtin.bitOr (x:Int) (y:Int)=((x ||| y:Nat):Int):=by
 have h1:¬(0:Int)<=-(x:Int)-1:=by lia
 have h2:¬(0:Int)<=-(y:Int)-1:=by lia
 have A:Builtin.bitAnd (-(x:Int)-1) (-(y:Int)-1)=Builtin.bitNot (((Builtin.bitNot (-(x:Int)-1)).toNat ||| (Builtin.bitNot (-(y:Int)-1)).toNat:Nat):Int):=by unfold Builtin.bitAnd;rw[decide_eq_false h1,decide_eq_false h2]
 show Builtin.bitNot (Builtin.bitAnd (-(x:Int)-1) (-(y:Int)-1))=_
 rw[A]
 have e1:(Builtin.bitNot (-(x:Int)-1)).toNat=x:=by unfold Builtin.bitNot;lia
 have e2:(Builtin.bitNot (-(y:Int)-1)).toNat=y:=by unfold Builtin.bitNot;lia
 rw[e1,e2]
 unfold Builtin.bitNot
 lia
theorem adM(v:Nat)(c:UInt8)(st:List M):xD (.int ((v*2^8:Nat):Int)) (.int ((c.toNat:Nat):Int)) st=.ok (.int ((v*256+c.toNat:Nat):Int)) st:=by
 show Res.ok (D.int (Builtin.bitOr _ _)) st=_
 rw[adL]
 have:=Nat.two_pow_add_eq_or_of_lt (i:=8) (toNat_lt c) v
 rw[show v*256=2^8*v by exact eK (L0 [v] 72127619453418569) (L0 [v] 72127688172895049),this,mul_comm]
def fld(F:List UInt8):D:=.obj 359 [(cn,.bytes F)]
noncomputable def part(F:List UInt8)(p n:Nat):List UInt8:=(F.drop p).take n
theorem P4{F:List UInt8}{p n:Nat}(hF:F.length<=16777216)(st):kF (.bytes F) (some (p:Int)) (some ((p+n:Nat):Int)) st=.ok (.bytes (part F p n)) st:=by
 have e:cut (some (p:Int)) (some ((p+n:Nat):Int)) F=part F p n:=by simp only[cut,toNat_natCast,part,drop_take,Nat.add_sub_cancel_left]
 show(if(j6 (some (p:Int))&&j6 (some ((p+n:Nat):Int)))=true/\F.length<=sz then Res.ok (D.bytes (cut (some (p:Int)) (some ((p+n:Nat):Int)) F)) st else .stuck)=_
 rw[ax ⟨by simp[j6];exact ofNat_le.mpr (show 0<=p+n from L0 [p,n] 17369673),hF⟩,e]
theorem adN{x y}(hx:x.length<=1000000)(hy:y.length<=1000000)(st):yy x (.str y) st=.ok (.str (Str.empty++y++x)) st:=ax ⟨hy,hx⟩
theorem rm{F:List UInt8}{p n:Nat}{w:Str}(hF:F.length<=16777216)(hw:w.length<=1000000)(st) :
  zf [fld F,.int p,.int n,.str w] st=if p+n<=F.length then .ok (.bytes (part F p n)) st else .bad st:=by
 by_cases h:p+n<=F.length
 .rw[ax h]
  exact bp (pD (pW hF)<|pD (iU (Nat.not_lt.mpr h))<|pD (P4 (p:=p) (n:=n) hF))
 .rw[aY h]
  exact bp (pD (pW hF)<|pD (jo (Nat.not_le.mp h))<|pD (adN (x:=⟨#[32,98,101,121,111,110,100,32,116,104,101,32,102,105,108,101]⟩) nb hw))
theorem P5{f p n w}:∀(l:List UInt8)(v:Nat)(x:Option D)(st:List M),(v+1)*256^l.length<=2^64->∃y,
  de (lp Od Oe) (l.map λc=>.int (c.toNat:Int)) [some f,some p,some n,some w,some (.int v),x] st =
   .ok (.next,[some f,some p,some n,some w,some (.int (l.foldl (λv c=>v*256+c.toNat) v:Nat)),y]) st
 |[],v,x,st,_=>⟨x,rfl⟩
 |c::l,v,x,st,h=>by
  have hc:=toNat_lt c
  have hv:v<18446744073709551616:=by
   have:0<256^(c::l).length:=Nat.pow_pos (L0 [] 68786195033)
   have:=Nat.le_mul_of_pos_right (v+1) this
   exact L2 [v,(v+1)*256^(c::l).length] 0x11a0901000000000000000011e101000000000000000011e05b h this
  have hb:(v*256+c.toNat+1)*256^l.length<=2^64:=by
   rw[length_cons,pow_succ,mul_comm (256^l.length) 256,<- Nat.mul_assoc] at h
   exact bg (Nat.mul_le_mul_right _ (L1 [v,c.toNat] 0x1003fa111a091003fc1a101003fc994a hc)) h
  obtain⟨y,e⟩:=P5 (f:=f) (p:=p) (n:=n) (w:=w) l (v*256+c.toNat) (some (.int (c.toNat:Int))) st hb
  refine⟨y,(ui (cR (σ':=[some f,some p,some n,some w,some (.int v),some (.int (c.toNat:Int))]) ?_)).trans e⟩
  exact pD (Ge (b:=8) (by decide) hv)<|pD (adM v c)
theorem P6:∀l,l.reverse.foldl (λv c=>v*256+c.toNat) 0=le l 0 l.length
 |[]=>rfl
 |c::l=>by
  rw[reverse_cons,List.foldl_append,P6 l,length_cons,q8,PX,PV,add_comm,mul_comm];rfl
theorem lK{F}{p n}(h:p+n<=F.length):(part F p n).length=n:=by unfold part;rw[length_take,length_drop];exact min_eq_left (L2 [n,F.length-p,p,F.length] 9450315368632395 h (sb F.length p))
theorem adO{F}{p n}:le (part F p n) 0 n=le F p n:=by unfold part;rw[PR (L0 [n] 43337),adH];rfl
theorem adP{b}(h:b.length<=16777216)(st):CJ (.bytes b) (some (-1)) st=.ok (.bytes b.reverse) st:=ax ⟨rfl,h⟩
theorem P7{b}(h:b.length<=16777216)(st):tE (.bytes b) st=.ok (b.map λc=>.int (c.toNat:Int)) st:=ax h
theorem Gm{F:List UInt8}{p n:Nat}{w:Str}(hF:F.length<=16777216)(hw:w.length<=1000000)(hn:n<=8)(st:List M) :
  zh [fld F,.int p,.int n,.str w] st=if p+n<=F.length then .ok (.int (le F p n:Nat)) st else .bad st:=by
 have P:=rm (p:=p) (n:=n) hF hw st
 by_cases h:p+n<=F.length
 .rw[ax h] at P ⊢
  have I:=lK h
  have hp:(part F p n).length<=16777216:=L2 [(part F p n).length,n] 0x1028a1010000007fa04b hn I
  have hr:(part F p n).reverse.length<=16777216:=by rw[length_reverse];exact hp
  have e8:256^n<=2^64:=Nat.pow_le_pow_right (n:=256) (L0 [] 68786195033) hn
  obtain⟨y,e⟩:=P5 (f:=fld F) (p:=.int p) (n:=.int n) (w:=.str w) (part F p n).reverse 0 none st (by rw[length_reverse,I];lia)
  rw[P6,I,adO] at e
  exact bp (sD P<|pD (adP hp)<|pL (P7 hr)<|sF e)
 .rw[aY h] at P ⊢
  exact bp (bD P)
theorem n7{F:List UInt8}{p:Nat}{w:Str}(hF:F.length<=16777216)(hw:w.length<=1000000)(st) :
  acB [fld F,.int p,.str w] st=if p+2<=F.length then .ok (.int (le F p 2:Nat)) st else .bad st:=
 bp (pC (Gm (p:=p) (n:=2) hF hw (by decide)) id λh=>by rw[ax h];kernel_rfl)
theorem adQ{F:List UInt8}{p:Nat}(hF:F.length<=16777216)(st) :
  zi [fld F,.int p] st=if p+2<=F.length then .ok (.int (le F p 2:Nat)) st else .bad st:=n7 (w:=fk) hF nb st
theorem ro{F:List UInt8}{p:Nat}{w:Str}(hF:F.length<=16777216)(hw:w.length<=1000000)(st) :
  zk [fld F,.int p,.str w] st=if p+4<=F.length then .ok (.int (le F p 4:Nat)) st else .bad st:=
 bp (pC (Gm (p:=p) (n:=4) hF hw (by decide)) id λh=>by rw[ax h];kernel_rfl)
theorem adR{F:List UInt8}{p:Nat}(hF:F.length<=16777216)(st) :
  zl [fld F,.int p] st=if p+4<=F.length then .ok (.int (le F p 4:Nat)) st else .bad st:=ro (w:=fk) hF nb st
structure eD(F B:List UInt8):Prop where
 le:∀p n,p+n<=F.length->le F p n=le B p n
 part:∀p n,p+n<=F.length->part F p n=part B p n
 small:F.length<=16777216
theorem eD.take{B}(n)(h:B.length<=16777216):eD (B.take n) B:=by
 refine⟨λp k hk=>?_,λp k hk=>?_,by rw[length_take];exact L2 [min n B.length,B.length] 0x10010000007fa1010000007fa04b h (min_le_right n B.length)⟩
 .rw[length_take] at hk;exact PR (L2 [p,k,n,min n B.length] 9854993857317195 hk (min_le_left n B.length))
 .rw[length_take] at hk
  unfold Internal.part
  rw[drop_take,List.take_take];congr 1;exact min_eq_left (L3 [k,n-p,p,min n B.length,n] 0x4302194030290104c hk (sb n p) (min_le_left n B.length))
section
variable{F B:List UInt8}(P:eD F B)
include P
theorem eD.rm(p n:Nat){w}(hw:w.length<=1000000)(st:List M):zf [fld F,.int p,.int n,.str w] st=if p+n<=F.length then .ok (.bytes (Internal.part B p n)) st else .bad st:=(Internal.rm P.small hw st).trans (wo λh=>by rw[P.part _ _ h])
theorem eD.P8(p n:Nat){w}(hw:w.length<=1000000)(hn:n<=8)(st:List M):zh [fld F,.int p,.int n,.str w] st=if p+n<=F.length then .ok (.int (Internal.le B p n:Nat)) st else .bad st:=(Gm P.small hw hn st).trans (wo λh=>by rw[P.le _ _ h])
theorem eD.Gn(p n:Nat)(hn:n<=8)(st:List M):Ff [fld F,.int p,.int n] st=if p+n<=F.length then .ok (.int (Internal.le B p n:Nat)) st else .bad st:=P.P8 p n nb hn st
theorem eD.n7(p:Nat)(st:List M):zi [fld F,.int p] st=if p+2<=F.length then .ok (.int (Internal.le B p 2:Nat)) st else .bad st:=(adQ P.small st).trans (wo λh=>by rw[P.le _ _ h])
theorem eD.ro(p:Nat)(st:List M):zl [fld F,.int p] st=if p+4<=F.length then .ok (.int (Internal.le B p 4:Nat)) st else .bad st:=(adR P.small st).trans (wo λh=>by rw[P.le _ _ h])
theorem eD.Go(p:Nat){w}(hw:w.length<=1000000)(st:List M):zk [fld F,.int p,.str w] st=if p+4<=F.length then .ok (.int (Internal.le B p 4:Nat)) st else .bad st:=(Internal.ro P.small hw st).trans (wo λh=>by rw[P.le _ _ h])
end
structure n9(B:List UInt8):Prop where
 P9:part B 0 4=[127,69,76,70]
 b4:le B 4 1=1
 b5:le B 5 1=1
 b6:le B 6 1=1
 kind:le B 16 2=2
 machine:le B 18 2=243
 version:le B 20 4=1
 wide:52<=le B 40 2
 row:le B 42 2=32
theorem adS{F B}(P:eD F B)(H:n9 B)(st:List M):Fm [fld F] st=if 7<=F.length then .ok .none st else .bad st:=by
 have m:=P.rm 0 4 (w:=fk) nb
 rw[H.P9] at m
 exact bp (pC m (λbM=>L1 [F.length] 8383853799754 bM) λJ=>pD (neB (b:=[127,69,76,70]))<|pC (P.Gn 4 1 nb) (λbM=>L1 [F.length] 8383803730250 bM) λJ=>pD (iV H.b4)<|pC (P.Gn 5 1 nb) (λbM=>L1 [F.length] 8383803795786 bM) λJ=>pD (iV H.b5)<|pC (P.Gn 6 1 nb) (λbM=>L1 [F.length] 8383803861322 bM) λh=>pD (iV H.b6) (by rw[ax (L1 [F.length] 1815311579722 h)];kernel_rfl))
theorem Qa{F B}(P:eD F B)(H:n9 B)(st:List M):Fn [fld F] st=if 52<=F.length then .ok .none st else .bad st:=
 bp (pC (adS P H) (λbM=>L1 [F.length] 3586197060170 bM) λJ=>pC (P.rm 0 52 (w:=fk) nb) (λbM=>L1 [F.length] 0x342fa00342fa0a94a bM) λh=>by
  rw[ax h]
  have g:=λp n (hp:p+n<=52)=>bg hp h
  have Qb:=λst=>(P.n7 16 st).trans (ax (g 16 2 (by decide)))
  have h18:=λst=>(P.n7 18 st).trans (ax (g 18 2 (by decide)))
  have h20:=λst=>(P.ro 20 st).trans (ax (g 20 4 (by decide)))
  have h40:=λst=>(P.n7 40 st).trans (ax (g 40 2 (by decide)))
  have h42:=λst=>(P.n7 42 st).trans (ax (g 42 2 (by decide)))
  exact pD Qb<|pD (iV H.kind)<|pD h18<|pD (iV H.machine)<|pD h20<|pD (iV H.version)<|pD h40<|pD (q7 (Nat.not_lt.mpr H.wide))<|pD h42<|pD (iV H.row))
theorem Qc{a}(h:a=1\/a=2\/a=4\/a=8\/a=16)(st):yS [.int a] st=.ok (.bool true) st:=by
 have k:∀a:Nat,0<a->Builtin.bitAnd a ((a-1:Nat):Int)=0->yS [.int a] st=.ok (.bool true) st:=λa h e=>
  bp (pD (jo h)<|pD (iW h)<|pD (f:=xC (.int (a:Int)) (.int ((a-1:Nat):Int))) (λst=>aw (λz=>Res.ok (D.int z) st) e)<|pD (eqT (a:=0) rfl))
 rcases h with rfl | rfl | rfl | rfl | rfl <;> exact k _ (by decide) (by decide)
def z4(place adT al:Nat):Prop:=al<=1\/((al=2\/al=4\/al=8\/al=16)/\((adT:Int)-place).fmod al=0)
theorem adU{p a f s al:Nat}(h1:f<=s)(h2:a+s<=4294967296)(h3:z4 p a al)(st):Fo [.int p,.int a,.int f,.int s,.int al] st=.ok .none st:=by
 refine bp (pD (iU (Nat.not_lt.mpr h1))<|pD (iU (Nat.not_lt.mpr h2)) ?_)
 rcases h3 with h | ⟨h,hm⟩
 .exact pD (iU (a:=al) (b:=1) (Nat.not_lt.mpr h))
 .exact pD (jo (a:=al) (b:=1) (h.elim (λbM=>L1 [al] 11277441626 bM) λbM=>bM.elim (λfA=>L1 [al] 19867376218 fA) λfA=>fA.elim (λfB=>L1 [al] 37047245402 fB) λfB=>L1 [al] 17796737014362 fB))<|pD (Qc (a:=al) (by lia))<|pD (wm a p)<|pD (n0 (y:=al) (ofNat_lt.mpr (show 0<al from h.elim (λbM=>L1 [al] 11277437530 bM) λbM=>bM.elim (λfA=>L1 [al] 19867372122 fA) λfA=>fA.elim (λfB=>L1 [al] 37047241306 fB) λfB=>L1 [al] 17796737010266 fB)) (a-p))<|pD (f:=qC (.int (((a:Int)-p).fmod al)) (.int ((0:Nat):Int))) (λst=>by rw[hm];rfl)
section
variable{C:Addr}{st:List M}{fs:List (Str×D)}
theorem jq{x}:(st++[x])[st.length]?=some x:=by rw[jz (dC _),sub_self];rfl
theorem Qd{x y}:(st++[x]).set st.length y=st++[y]:=by rw[List.set_append_right _ _ (dC _),sub_self];rfl
theorem Qe{k}(x)(v)(h:st[k]?=some (.inst C fs))(I:fs.length<=900):pO C x v (.ab k) st=.ok () (st.set k (.inst C (iN x v fs))):=by
 show(match st[k]? with | some (.inst C' fs)=>if C'=C/\fs.length<=900 then Res.ok () (st.set k (.inst C (iN x v fs))) else .stuck | _=>.stuck)=_
 rw[h];exact ax ⟨rfl,I⟩
theorem kc(C)(st)(fs)(x)(v)(I:fs.length<=900:=by exact nb):pO C x v (.ab st.length) (st++[.inst C fs])=.ok () (st++[.inst C (iN x v fs)]):=by rw[Qe x v jq I,Qd]
theorem adV{k}(h:st[k]?=some (.inst C fs)):lg C st (.ab k)=some fs:=by
 show(match st[k]? with | some (.inst C' fs)=>if C'=C then some fs else none | _=>none)=_
 rw[h];exact ax rfl
theorem adW{k}{x}{d}(h:st[k]?=some (.inst C fs))(I:fs.lookup x=some d)(hn:pB d=true):li C x (.ab k) st=.ok d st:=by unfold li;rw[adV h,bind_some,I];exact ax hn
theorem Qf(C)(st)(fs)(x){d}(I:fs.lookup x=some d)(hn:pB d=true):li C x (.ab st.length) (st++[.inst C fs])=.ok d (st++[.inst C fs]):=adW jq I hn
theorem adX{k}(h:st[k]?=some (.inst C fs)):lz (.ab k) st=.ok (.obj C fs) (st.set k .gone):=by
 show(match st[k]? with | some (.list V)=>Res.ok (D.lst V) (st.set k .gone) | some (.inst C' Cq)=>.ok (.obj C' Cq) (st.set k .gone) | _=>.stuck)=_
 rw[h]
theorem adY{r}{V}(h:r (.ab st.length::V) (st++[.inst C []])=.ok .none (st++[.inst C fs])):fH C r V st=.ok (.ab st.length) (st++[.inst C fs]):=by unfold fH;rw[h];rfl
theorem z5{r}{V}(h:r (.ab st.length::V) (st++[.inst C []])=.ok .none (st++[.inst C fs])):kG (fH C r) V st=.ok (.obj C fs) (st++[.gone]):=by
 unfold kG;rw[adY h,Res.gF]
 exact(adX jq).trans (aw _ Qd)
end
theorem Qg(b)(st):ny [.bytes b] st=.ok (.bytes b) st:=rfl
theorem isI(i)(st):qB (.int i) .none st=.ok (.bool false) st:=rfl
theorem Qh(C)(fs)(st):qB (.obj C fs) .none st=.ok (.bool false) st:=rfl
theorem Gp(st):qB .none .none st=.ok (.bool true) st:=rfl
def seg(a:Nat)(b:List UInt8)(s f:Nat):D:=.obj 105 [(gn,.int a),(cn,.bytes b),(fQ,.int s),(kU,.int f)]
theorem Qi{a s f:Nat}{b:List UInt8}(h1:b.length<=s)(h3:a+s<=4294967296)(hb:b.length<=16777216)(st) :
  kG (fH 105 EF) [.int a,.bytes b,.int s,.int f] st=.ok (seg a b s f) (st++[.gone]):=by
 refine z5 (bp ?_)
 have a1:=Qf 105 st [(gn,.int a),(cn,.bytes b),(fQ,.int s),(kU,.int f)] fQ rfl rfl
 have a2:=Qf 105 st [(gn,.int a),(cn,.bytes b),(fQ,.int s),(kU,.int f)] cn rfl rfl
 exact sU (kc 105 st [] gn (.int a))<|pD (Qg b)<|sU (kc 105 st [(gn,.int a)] cn (.bytes b))<|pD (isI s)<|sU (kc 105 st [(gn,.int a),(cn,.bytes b)] fQ (.int s)) <|
  sU (kc 105 st [(gn,.int a),(cn,.bytes b),(fQ,.int s)] kU (.int f))<|sD a1<|sD a2<|pD (pW hb)<|pD (q7 (Nat.not_lt.mpr h1))<|pD (q7 (a:=a) (b:=0) (not_lt_zero _))<|sD a1<|pD (iU (a:=a+s) (b:=4294967296) (Nat.not_lt.mpr h3))
section
variable{z:CZ}{σ:List (Option D)}{st:List M}
theorem rq{aO}{t}{e}{σ σ'}{x}{xs}(h1:aO x σ=some σ'):gO aO t e σ (x::xs) st=(t σ' st).bind λb st=>if b then(e σ' st).bind λy st=>(gO aO t e σ xs st).bind λys st=>.ok (y::ys) st else gO aO t e σ xs st:=by rw[DJ,h1]
section
variable{x:D}{xs ys:List D}{y:D}{σ':List (Option D)}(h1:z.k.aO x (dY z.az z.m σ)=some σ')
include h1
theorem Qj(ht:rn z.tt σ' st=.ok true st)(h2:rn z.el.t σ' st=.ok y st)(h:z.r σ xs st=.ok ys st):z.r σ (x::xs) st=.ok (y::ys) st:=by
 unfold CZ.r at h ⊢
 rw[rq h1,ht,Res.gF,ax rfl,h2,Res.gF,h,Res.gF]
theorem adZ(ht:rn z.tt σ' st=.ok false st)(h:z.r σ xs st=.ok ys st):z.r σ (x::xs) st=.ok ys st:=by
 unfold CZ.r at h ⊢
 rw[rq h1,ht,Res.gF,aY em,h]
theorem ad0(ht:rn z.tt σ' st=.ok true st)(h2:rn z.el.t σ' st=.bad st):z.r σ (x::xs) st=.bad st:=by
 unfold CZ.r
 rw[rq h1,ht,Res.gF,ax rfl,h2,Res.JR]
theorem ad1(ht:rn z.tt σ' st=.ok true st)(h2:rn z.el.t σ' st=.ok y st)(h:z.r σ xs st=.bad st):z.r σ (x::xs) st=.bad st:=by
 unfold CZ.r at h ⊢
 rw[rq h1,ht,Res.gF,ax rfl,h2,Res.gF,h,Res.JR]
end
theorem iZ{α:Type}(i:α->D)(f:α->D)(g:α->List (Option D))(l:List α)(h:∀x∈l,z.k.aO (i x) (dY z.az z.m σ)=some (g x)/\rn z.tt (g x) st=.ok true st/\rn z.el.t (g x) st=.ok (f x) st):z.r σ (l.map i) st=.ok (l.map f) st:=by
 induction l with
 |nil=>rfl
 |cons x l ih=>have:=h x (.head _);exact Qj this.1 this.2.1 this.2.2 (ih λy hy=>h y (.tail _ hy))
theorem og{α:Type}(i:α->D)(f:α->D)(b:α->Bool)(g:α->List (Option D))(l:List α)(h:∀x∈l,z.k.aO (i x) (dY z.az z.m σ)=some (g x)/\rn z.tt (g x) st=.ok (b x) st/\(b x=true->rn z.el.t (g x) st=.ok (f x) st)):z.r σ (l.map i) st=.ok ((l.filter b).map f) st:=by
 induction l with
 |nil=>rfl
 |cons x l ih=>
  obtain⟨h1,h2,h3⟩:=h x (.head _)
  have ih:=ih λy hy=>h y (.tail _ hy)
  cases e:b x with
  |true=>rw[List.filter_cons_of_pos e];exact Qj h1 (e▸h2) (h3 e) ih
  |false=>rw[List.filter_cons_of_neg (by rw[e];exact em)];exact adZ h1 (e▸h2) ih
theorem Qk{α:Type}(i:α->D)(f:α->D)(p:α->Prop)[DecidablePred p](g:α->List (Option D))(l:List α)(h:∀x∈l,z.k.aO (i x) (dY z.az z.m σ)=some (g x)/\rn z.tt (g x) st=.ok true st/\rn z.el.t (g x) st=if p x then .ok (f x) st else .bad st){q:Prop}[Decidable q](hq:q↔∀x∈l,p x) :
  z.r σ (l.map i) st=if q then .ok (l.map f) st else .bad st:=by
 by_cases c:q
 .rw[ax c]
  have:=hq.mp c
  exact iZ i f g l λx hx=>⟨(h x hx).1,(h x hx).2.1,(h x hx).2.2.trans (ax (this x hx))⟩
 .rw[aY c]
  have c:=mt hq.mpr c
  clear hq
  induction l with
  |nil=>exact absurd (λJ h=>nomatch h) c
  |cons x l ih=>
   obtain⟨h1,h2,h3⟩:=h x (.head _)
   by_cases e:p x
   .exact ad1 h1 h2 (h3.trans (ax e)) (ih (λy hy=>h y (.tail _ hy)) λk=>c λy hy=>by
     rcases dI.mp hy with rfl | hy
     .exact e
     .exact k y hy)
   .exact ad0 h1 h2 (h3.trans (aY e))
end
theorem cC{α:Type}{t:T α}{x:Res (List D)}{d:List D}{st ao:List M}{q:Prop}[Decidable q]{R:Res α}(hx:x=if q then .ok d st else .bad ao)(h:q->(t.nL d st).run=R)(e:autoParam (t=.aL t.s x t.nL) kr):t.run=if q then R else .bad ao:=by
 by_cases z:q
 .rw[ax z] at hx ⊢;exact sL hx (h z) e
 .rw[aY z] at hx ⊢;exact bL hx e
section
variable{F B:List UInt8}(P:eD F B)
include P
theorem eD.Ql(p n:Nat){w:Str}(hw:w.length<=1000000)(hn:0<n/\n<=1000)(st:List M) :
  Fj [fld F,.int p,.int n,.str w] st=if p+4*n<=F.length then .ok (.lst ((List.range n).map λ(j:Nat)=>.int (Internal.le B (p+4*j) 4:Nat))) st else .bad st:=by
 have C:=Qk (z:=Of) (σ:=[some (fld F),some (.int p),some (.int n),some (.str w)]) (st:=st) (λ(j:Nat)=>.int (j:Int)) (λ(j:Nat)=>.int (Internal.le B (p+4*j) 4:Nat)) (λj=>p+4*j+4<=F.length)
  (λj=>[some (.int p),some (fld F),some (.str w),some (.int j)]) (List.range n) (λj J=>⟨rfl,rfl,pC (P.Go (p+4*j) hw) id λh=>by rw[ax h];kernel_rfl⟩)
  (q:=p+4*n<=F.length) ⟨λh j hj=>by have:=mem_range.mp hj;exact L2 [p,j,F.length,n] 0x3147234b09024a14b0994b h this,λh=>by have:=h (n-1) (mem_range.mpr (L1 [n-1,n] 75708371034 (show n-1+1=n from gm (L1 [n] 168827466 hn.1))));exact L2 [p,n,F.length,n-1] 0x1a3914624a34b0990214b094b this (sb n 1)⟩
 exact bp (pL (fY (n:=n) (L1 [n] 0x3e83fa0010000007fa04a hn.2))<|cC C λh=>by kernel_rfl)
end
noncomputable abbrev aK(B:List UInt8)(p j:Nat):Nat:=le B (p+4*j) 4
structure Gq(B:List UInt8)(p:Nat):Prop where
 kind:aK B p 0≠2/\aK B p 0≠3
 size:aK B p 0=1->aK B p 4<=aK B p 5
 mem:aK B p 0=1->aK B p 2+aK B p 5<=4294967296
 align:aK B p 0=1->z4 (aK B p 1) (aK B p 2) (aK B p 7)
noncomputable def jr(B:List UInt8)(p:Nat):Nat:=if aK B p 0=1 then max (p+32) (aK B p 1+aK B p 4) else p+32
def rr(B:List UInt8)(p:Nat):Option D:=
 if aK B p 0=1/\0<aK B p 5 then some (seg (aK B p 2) (part B (aK B p 1) (aK B p 4)) (aK B p 5) (aK B p 6%8)) else none
noncomputable def Qm:Option D->D
 |some d=>d
 |none=>.none
theorem Aa{a b c}(h:Builtin.bitOr a b=c)(st):xD (.int a) (.int b) st=.ok (.int c) st:=aw (λz=>Res.ok (D.int z) st) h
theorem Ab{a b c}(h:Builtin.bitAnd a b=c)(st):xC (.int a) (.int b) st=.ok (.int c) st:=aw (λz=>Res.ok (D.int z) st) h
theorem inN{a:Nat}(h2:a≠2)(h3:a≠3)(st):vn (.int (a:Int)) (.tup [.int ((2:Nat):Int),.int ((3:Nat):Int)]) st=.ok (.bool false) st:=by
 have e2:(((2:Nat):Int)==(a:Int))=false:=beq_eq_false_iff_ne.mpr λq=>h2 (Int.ofNat.inj q).symm
 have e3:(((3:Nat):Int)==(a:Int))=false:=beq_eq_false_iff_ne.mpr λq=>h3 (Int.ofNat.inj q).symm
 show Res.ok (D.bool ((((2:Nat):Int)==(a:Int))||((((3:Nat):Int)==(a:Int))||false))) st=_
 rw[e2,e3];rfl
theorem ad2{F B:List UInt8}{p:Nat}(P:eD F B)(R:Gq B p)(st:List M) :
  Fp [fld F,.int p] st=if jr B p<=F.length then .ok (Qm (rr B p)) (if(rr B p).isSome then st++[.gone] else st) else .bad st:=by
 have r:=P.Ql p 8 (w:=⟨#[114,111,119,115,32,111,102,32,115,101,103,109,101,110,116,115]⟩) nb (by decide)
 have i:=inN R.kind.1 R.kind.2
 by_cases k:aK B p 0=1
 .have hE:jr B p=max (p+32) (aK B p 1+aK B p 4):=ax k
  rw[hE]
  refine bp (pC r (λbM=>L2 [p,F.length,max (p+32) (aK B p 1+aK B p 4)] 0x2202fa09012018a4b094b bM (le_max_left (p+32) (aK B p 1+aK B p 4))) λh1=>pD i<|pD (iV k)<|pD (adU (R.size k) (R.mem k) (R.align k))<|pC (P.rm (aK B p 1) (aK B p 4) (w:=⟨#[97,32,115,101,103,109,101,110,116]⟩) nb) (λbM=>L2 [aK B p 1,aK B p 4,F.length,max (p+32) (aK B p 1+aK B p 4)] 0x3109023021094b bM (Nat.le_max_right (p+32) (aK B p 1+aK B p 4))) λh2=>?_)
  rw[ax (max_le.mpr ⟨h1,h2⟩)]
  by_cases h3:0<aK B p 5
  .have I:(part B (aK B p 1) (aK B p 4)).length=aK B p 4:=by rw[<- P.part _ _ h2];exact lK h2
   have hs:=R.size k
   have g:=Qi (a:=aK B p 2) (s:=aK B p 5) (f:=aK B p 6%8) (b:=part B (aK B p 1) (aK B p 4)) (by rw[I];exact hs) (R.mem k) (by rw[I];have:=P.small;exact L2 [aK B p 4,aK B p 1,F.length] 0x10000007fa202019010000007fa04b h2 this) st
   rw[show rr B p=_ from ax ⟨k,h3⟩]
   exact pD (jo h3)<|pD (Aa (a:=(4:Nat)) (b:=(2:Nat)) (c:=(6:Nat)) (by decide))<|pD (Aa (a:=(6:Nat)) (b:=(1:Nat)) (c:=(7:Nat)) (by decide))<|pD (Ab (a:=aK B p 6) (b:=(7:Nat)) (c:=(aK B p 6%8:Nat)) (bitAnd_m3 _))<|sD g
  .rw[show rr B p=none from aY λq=>h3 q.2]
   exact pD (iU h3)
 .rw[show jr B p=p+32 from aY k,show rr B p=none from aY λq=>k q.1]
  exact bp (pC r id λh=>by rw[ax h];exact pD i<|pD (neT k))
structure ar where
 a:Nat
 b:List UInt8
 s:Nat
 f:Nat
def ar.d(v:ar):D:=seg v.a v.b v.s v.f
noncomputable def kf(B:List UInt8)(p:Nat):Option ar:=
 if aK B p 0=1/\0<aK B p 5 then some ⟨aK B p 2,part B (aK B p 1) (aK B p 4),aK B p 5,aK B p 6%8⟩ else none
theorem ad3(B)(p):rr B p=(kf B p).map ar.d:=by unfold rr kf;split <;> rfl
noncomputable def cu(B:List UInt8)(aj i:Nat):List ar:=(List.range i).filterMap λk=>kf B (aj+32*k)
theorem Ac(B)(aj i):cu B aj (i+1)=cu B aj i++(kf B (aj+32*i)).toList:=by
 unfold cu;rw[range_succ,filterMap_append]
 cases h:kf B (aj+32*i) <;> simp[h]
inductive kN:List ar->Prop where
 |nil:kN []
 |cons {v:ar} {l:List ar}:(∀w∈l,v.a+v.s<=w.a)->kN l->kN (v::l)
theorem kN.last:∀{l:List ar} {v w:ar},kN (l++[v]++[w])->v.a+v.s<=w.a
 |[],v,w,h=>by
  cases h with
  |cons h _=>exact h w (by simp)
 |x::l,v,w,h=>by
  cases h with
  |cons _ h=>exact kN.last (l:=l) h
theorem kN.left:∀{l l':List ar},kN (l++l')->kN l
 |[],_,_=>.nil
 |x::l,l',h=>by
  cases h with
  |cons h1 h2=>exact .cons (λw hw=>h1 w (fP _ hw)) h2.left
theorem wx(v:ar)(st:List M):EG [v.d] st=.ok (.int ((v.a+v.s:Nat):Int)) st:=bp (by kernel_rfl)
noncomputable def ar.has(v:ar)(x:Nat):Bool:=decide (v.a<=x/\x<v.a+v.s)
theorem ad4(v:ar)(x:Nat)(st:List M):EI [v.d,.int x] st=.ok (.bool (v.has x)) st:=by
 unfold ar.has
 by_cases h:v.a<=x
 .by_cases k:x<v.a+v.s
  .rw[gc ⟨h,k⟩];exact bp (pD (ug h)<|pD (wx v)<|pD (uf k))
  .rw[decide_eq_false λq=>k q.2];exact bp (pD (ug h)<|pD (wx v)<|pD (q7 k))
 .rw[decide_eq_false λq=>h q.1];exact bp (pD (Ga h))
theorem Gr{v:ar}{x r:Nat}(h:Builtin.bitAnd v.f x=r)(st):EK [v.d,.int x] st=.ok (.bool (decide (r≠0))) st:=by
 by_cases k:r=0
 .rw[decide_eq_false λq=>q k];exact bp (pD (Ab h)<|pD (iV (b:=0) k))
 .rw[gc k];exact bp (pD (Ab h)<|pD (neT (b:=0) k))
theorem ad5{k}{V}{d}{st}(h:st[k]?=some (.list (V++[d])))(hz:V.length<=16777216):iK (.ab k) (.int (-1)) st=.ok d st:=by
 refine(zQ (λV=>lq V (-1) st) h).trans ?_
 unfold lq tw
 rw[aY (by lia),ax (by simp;exact ofNat_le.mpr (show 1<=V.length+1 from L0 [V.length] 436804169)),show(-1+((V++[d]).length:Int)).toNat=V.length by simp;lia,bind_some,getElem?_concat_length];rfl
theorem ru{F}(st):kG (fH 359 Fe) [.bytes F] st=.ok (fld F) (st++[.gone]):=
 z5 (bp (pD (Qg F)<|sU (kc 359 st [] cn (.bytes F))))
def mI(e:Nat)(L:List ar):D:=.obj 150 [(gZ,.int e),(gA,.lst (L.map ar.d))]
theorem ad6{l}(h:l.length<=16777216)(st):tJ [.lst l] st=.ok (.lst l) st:=ax h
theorem ad7{e:Nat}{L:List ar}(hL:L.length<=16777216)(st):kG (fH 150 EM) [.int e,.lst (L.map ar.d)] st=.ok (mI e L) (st++[.gone]):=
 z5 (bp (sU (kc 150 st [] gZ (.int e))<|pD (ad6 (l:=L.map ar.d) (by rw[aG];exact hL))<|sU (kc 150 st [(gZ,.int e)] gA (.lst (L.map ar.d)))))
theorem Qn{e x:Nat}{pY:List ar}{st:List M}:∀(L:List ar)(y:Option D),∃σ',
  de (lp Nt Nu) (L.map ar.d) [some (mI e pY),some (.int x),y] st=(match L.find? (·.has x) with | some v=>.ok (.ret v.d,σ') st | none=>.ok (.next,σ') st)
 |[],y=>⟨_,rfl⟩
 |v::L,y=>by
  have hh:=ad4 v x st
  cases hv:v.has x with
  |true=>
   rw[hv] at hh
   refine⟨[some (mI e pY),some (.int x),some v.d],?_⟩
   rw[find?_cons,hv]
   exact PO (cR (σ':=[some (mI e pY),some (.int x),some v.d]) (sD hh))
  |false=>
   rw[hv] at hh
   obtain⟨σ',h⟩:=Qn (e:=e) (x:=x) (pY:=pY) (st:=st) L (some v.d)
   refine⟨σ',?_⟩
   rw[find?_cons,hv]
   exact(ui (cR (σ':=[some (mI e pY),some (.int x),some v.d]) (R:=.ok (.next,[some (mI e pY),some (.int x),some v.d]) st) (sD hh))).trans h
theorem ad8{e x:Nat}{L:List ar}(hL:L.length<=16777216)(st:List M):EN [mI e L,.int x] st=.ok (Qm ((L.find? (·.has x)).map ar.d)) st:=by
 have hi:=fi (V:=L.map ar.d) (by rw[aG];exact hL)
 obtain⟨σ',h⟩:=Qn (e:=e) (x:=x) (pY:=L) (st:=st) L none
 cases hf:L.find? (·.has x) with
 |some v=>rw[hf] at h;exact bp (pL hi<|sF h)
 |none=>rw[hf] at h;exact bp (pL hi<|sF h)
structure wy(B:List UInt8)(aj aq entry:Nat):Prop where
 head:n9 B
 Qo:le B 24 4=entry
 pZ:le B 28 4=aj
 wz:le B 44 2=aq
 rows:∀k,k<aq->Gq B (aj+32*k)
 asc:kN (cu B aj aq)
 bN:∃v,(cu B aj aq).find? (·.has entry)=some v/\v.f%2=1
 four:entry%4=0
def wA(B:List UInt8)(aj aq n:Nat):Prop:=52<=n/\∀k,k<aq->jr B (aj+32*k)<=n
theorem ad9(B)(aj){i n}(h:i<=n):∃r,cu B aj n=cu B aj i++r:=by
 induction n with
 |zero=>exact⟨[],by rw[show i=0 by exact eK (L1 [i] 2684395594 h) (L0 [i] 2633)];simp⟩
 |succ n ih=>
  by_cases q:i=n+1
  .exact⟨[],by rw[q];simp⟩
  .obtain⟨r,e⟩:=ih ((Nat.lt_or_gt_of_ne q).elim (λbM=>L1 [i,n] 112088649802 bM) λbM=>L2 [i,n] 0x1a1911a1900100ab h bM)
   exact⟨r++(kf B (aj+32*n)).toList,by rw[Ac,e,dG]⟩
theorem Gs(B:List UInt8)(aj i:Nat):(cu B aj i).length<=i:=bg (List.length_filterMap_le _ _) (le_of_eq eU)
inductive Ad(B F:List UInt8)(aj h:Nat)(o:D)(i:Nat):List (Option D)->List M->Prop
 |mk (x y:Option D) (st:List M) (l:st[h]?=some (.list ((cu B aj i).map ar.d))):Ad B F aj h o i [some o,some (fld F),some (.ab h),x,y,none,none] st
theorem aea{F B}{aj aq entry}(P:eD F B)(H:wy B aj aq entry)(I:52<=F.length){o}{h j}{σ}{st}(hj:j<aq)(hm:aq<=65536)(hp:Ad B F aj h o j σ st) :
  lH (lp Oq Os) (.int (j:Int)) σ st (jr B (aj+32*j)<=F.length) (Ad B F aj h o (j+1)):=by
 obtain⟨x,y,_,jk⟩:=hp
 have w:=λst=>((P.ro 28 st).trans (ax (L1 [F.length] 0x342fa004a1c2fa94a I))).trans (by rw[H.pZ])
 have R:=ad2 P (H.rows j hj) st
 by_cases c:jr B (aj+32*j)<=F.length
 .rw[ax c,ad3] at R
  have ss:=Ac B aj j
  cases hv:kf B (aj+32*j) with
  |none=>
   rw[hv] at R ss
   rw[show(none:Option ar).toList=[] from rfl,c9] at ss
   exact .cont c _ _ (cR (σ':=[some o,some (fld F),some (.ab h),some (.int j),y,none,none]) (R:=.ok (.cont,[some o,some (fld F),some (.ab h),some (.int j),some .none,none,none]) st) (pD w<|sD R<|pD Gp)) ⟨_,_,_,ss▸jk⟩
  |some v=>
   rw[hv] at R ss
   have oh:(st++[M.gone])[h]?=some (.list ((cu B aj j).map ar.d)):=by rw[dH (bH.mp jk).1];exact jk
   have hz:((cu B aj j).map ar.d).length<=16777216:=by rw[aG];have:=Gs B aj j;exact L3 [(cu B aj j).length,j,aq] 0x100100005fa2021110000007fa04c hj hm this
   have ap:=kM v.d oh hz
   refine .next c _ _ (cR (σ':=[some o,some (fld F),some (.ab h),some (.int j),y,none,none]) (R:=.ok (.next,[some o,some (fld F),some (.ab h),some (.int j),some v.d,none,none]) ((st++[M.gone]).set h (.list ((cu B aj j).map ar.d++[v.d])))) ?_) ⟨_,_,_,by rw[dP oh,ss];exact aw (λl=>some (M.list l)) (eV (l₂:=[v])).symm⟩
   refine pD w<|sD R<|pD (Qh 105 [(gn,.int v.a),(cn,.bytes v.b),(fQ,.int v.s),(kU,.int v.f)])<|sD (zW oh hz) ?_
   rcases List.eq_nil_or_concat (cu B aj j) with e0 | ⟨l0,v0,e0⟩
   .exact pD (iU (a:=((cu B aj j).map ar.d).length) (b:=0) (by rw[e0];exact lt_irrefl 0))<|sB (iY oh)<|sD ap
   .rw[List.concat_eq_append] at e0
    have aeb:v0.a+v0.s<=v.a:=by
     have A:=H.asc
     obtain⟨r,this⟩:=ad9 B aj (show j+1<=aq from hj)
     rw[this,ss,e0] at A
     exact kN.last (l:=l0) A.left
    have e1:(cu B aj j).map ar.d=l0.map ar.d++[v0.d]:=by rw[e0,eV];rfl
    have it:=ad5 (V:=l0.map ar.d) (d:=v0.d) (st:=st++[M.gone]) (h:=by rw[<- e1];exact oh) (by rw[e1,aW] at hz;exact L1 [(List.map ar.d l0).length,[v0.d].length] 0x10000007fa109010000007fa04a hz)
    exact pD (jo (a:=((cu B aj j).map ar.d).length) (b:=0) (by rw[e1,aW];exact Nat.succ_pos _))<|sD it<|pD (wx v0)<|pD (q7 (Nat.not_lt.mpr aeb))<|sB (iY oh)<|sD ap
 .rw[aY c] at R
  exact .bad c _ (cR (σ':=[some o,some (fld F),some (.ab h),some (.int j),y,none,none]) (pD w<|bD R))
inductive Ae(R:Res D)(c:Prop)(d:D):Prop
 |ok (h:c) (st:List M) (e:R=.ok d st):Ae R c d
 |bad (h:¬c) (st:List M) (e:R=.bad st):Ae R c d
theorem aec{F B}{aj aq entry}{st}(P:eD F B)(H:wy B aj aq entry):Ae (Fs [.bytes F] st) (wA B aj aq F.length) (mI entry (cu B aj aq)):=by
 have hm:aq<=65536:=by rw[<- H.wz];exact Nat.le_of_lt (wq B 2 44)
 have hd:=Qa P H.head (st++[M.gone])
 by_cases d0:52<=F.length
 .rw[ax d0] at hd
  have w24:=λst=>((P.ro 24 st).trans (ax (L1 [F.length] 0x342fa004a182fa94a d0))).trans (by rw[H.Qo])
  have Af:=λst=>((P.n7 44 st).trans (ax (L1 [F.length] 0x342fa002a2c2fa94a d0))).trans (by rw[H.wz])
  cases zY (λ(i:Nat)=>.int (i:Int)) aq (P:=Ad B F aj (st++[M.gone]).length (.bytes F)) (λj σ st hj=>aea P H d0 hj hm) ⟨none,none,st++[M.gone]++[M.list []],jq⟩ with
  |bad c ao e=>exact .bad (λq=>c q.2) ao (bp (sD (ru (F:=F) st)<|sD hd<|pD Af<|pL (fY (n:=aq) (L1 [aq] 0x100005fa0010000007fa04a hm))<|bF e))
  |ok c σ' ao e q=>
   obtain⟨x,y,_,jk⟩:=q
   obtain⟨v,hv,hf⟩:=H.bN
   have hz:=bg (Gs B aj aq) hm
   have hz':((cu B aj aq).map ar.d).length<=16777216:=by rw[aG];exact bg hz nb
   have ne:((cu B aj aq).map ar.d).length≠0:=by rw[aG];intro z;rw[length_eq_zero_iff.mp z] at hv;cases hv
   have sa:=ad8 (e:=entry) (x:=entry) (L:=cu B aj aq) (bg hz nb)
   rw[hv] at sa
   have mv:=Gr (v:=v) (x:=1) (r:=v.f%2) (bitAnd_m1 _)
   rw[hf] at mv
   exact .ok ⟨d0,c⟩ _ (bp (sD (ru (F:=F) st)<|sD hd<|pD Af<|pL (fY (n:=aq) (L1 [aq] 0x100005fa0010000007fa04a hm))<|sF e<|sD (zW jk hz')<|pD (mG (b:=0) ne)<|sD (lG jk)<|pD w24<|sD (ad7 (e:=entry) (L:=cu B aj aq) (bg hz nb) (ao.set (st++[M.gone]).length .gone)) <|
    pD sa<|pD (Qh 105 [(gn,.int v.a),(cn,.bytes v.b),(fQ,.int v.s),(kU,.int v.f)])<|pD mv<|pD (kb (b:=4) (by decide) entry)<|pD (iV (b:=0) H.four) sE))
 .rw[aY d0] at hd
  exact .bad (λq=>d0 q.1) _ (bp (sD (ru (F:=F) st)<|bD hd))
section
variable{t:CT}{X:CX}{n:Nat}{σ σ':List (Option D)}{st ao:List M}
theorem aed(ht:rn t.t σ st=.ok true st)(hb:rn X.t σ st=.ok (.next,σ') ao):jL (rn t.t) (rn X.t) (n+1) σ st=jL (rn t.t) (rn X.t) n σ' ao:=by
 show(rn t.t σ st).bind (λx st=>if x then(rn X.t σ st).bind (jH (jL (rn t.t) (rn X.t) n)) else .ok (.next,σ) st)=_
 rw[ht,Res.gF,ax rfl,hb];rfl
theorem aee(ht:rn t.t σ st=.ok false st):jL (rn t.t) (rn X.t) (n+1) σ st=.ok (.next,σ) st:=by
 show(rn t.t σ st).bind (λx st=>if x then(rn X.t σ st).bind (jH (jL (rn t.t) (rn X.t) n)) else .ok (.next,σ) st)=_
 rw[ht,Res.gF,aY em]
end
noncomputable def bZ(w:List UInt8):Str:=⟨(w.map (·.toNat)).toArray⟩
structure jP(T:List UInt8)(p:Nat)(w:List UInt8):Prop where
 inside:p+w.length<T.length
 octets:∀i,i<w.length->bk T (p+i)=bk w i
 full:∀i,i<w.length->bk w i≠0
 nul:bk T (p+w.length)=0
theorem Qp{T:List UInt8}{i:Nat}(h:i<T.length)(hz:T.length<=16777216)(st):iK (.bytes T) (.int (i:Int)) st=.ok (.int (bk T i:Nat)) st:=by
 show qD (if 0<=(i:Int)/\(i:Int)<T.length/\T.length<=sz then some (D.int (T.getD (i:Int).toNat 0).toNat) else none) st=_
 rw[ax ⟨iy _,ofNat_lt.mpr h,hz⟩];rfl
theorem Qq{T w:List UInt8}{p:Nat}{st:List M}(H:jP T p w)(hz:T.length<=16777216):∀d N i,i+d=w.length->d<N->
  jL (rn Ou.t) (rn Fu.t) N [some (.bytes T),some (.int p),some (.int ((p+i:Nat):Int))] st=.ok (.next,[some (.bytes T),some (.int p),some (.int ((p+w.length:Nat):Int))]) st
 |0,N+1,i,h,_=>by
  obtain rfl:i=w.length:=h
  exact aee (pD (pW hz)<|pD (uf H.inside)<|pD (Qp H.inside hz)<|pD (iV (b:=0) H.nul))
 |d+1,N+1,i,h,hN=>by
  have hi:i<w.length:=L1 [i,w.length,d] 19389907865690 h
  have me:p+i<T.length:=by have:=H.inside;exact L2 [p,i,T.length,d,w.length] 0x2409141a3919221095b h this
  refine(aed (pD (pW hz)<|pD (uf me)<|pD (Qp me hz)<|pD (neT (a:=bk T (p+i)) (b:=0) (by rw[H.octets i hi];exact H.full i hi))) ?_).trans (Qq (st:=st) H hz d N (i+1) (eK (L1 [i,d,w.length] 0x21a19092211a0994a h) (L1 [w.length,i,d] 0x1a2919321a19904a h)) (L1 [d,N] 459121812901978 hN))
  show Internal.T.run (Fu.t [some (.bytes T),some (.int p),some (.int ((p+i:Nat):Int))] st)=_
  kernel_rfl
theorem Qr:∀w:List Nat,Str.join ⟨#[]⟩ (w.map λc=>(⟨#[c]⟩:Str))=⟨w.toArray⟩
 |[]=>rfl
 |[c]=>rfl
 |c::d::w=>by
  have ih:=Qr (d::w)
  rw[map_cons] at ih ⊢
  rw[map_cons]
  show(⟨#[c]⟩:Str)++(⟨#[]⟩:Str)++Str.join ⟨#[]⟩ (⟨#[d]⟩::w.map λc=>(⟨#[c]⟩:Str))=_
  rw[ih]
  show(⟨(#[c]++#[])++(d::w).toArray⟩:Str)=_
  simp
theorem Qs:∀w:List Nat,xQ (w.map λc=>D.str ⟨#[c]⟩)=some (w.map λc=>(⟨#[c]⟩:Str))
 |[]=>rfl
 |c::w=>(aw (λ(z:Option (List Str))=>z.map (List.cons (⟨#[c]⟩:Str))) (Qs w)).trans rfl
theorem Qt:∀w:List Nat,((w.map λc=>(⟨#[c]⟩:Str)).map (·.length)).sum=w.length
 |[]=>rfl
 |c::w=>by rw[map_cons,map_cons,sum_cons,Qt w,length_cons,add_comm];rfl
theorem aef{w:List Nat}(h:w.length<=500000)(st:List M):Dh [.str ⟨#[]⟩,.lst (w.map λc=>D.str ⟨#[c]⟩)] st=.ok (.str ⟨w.toArray⟩) st:=by
 have hk:JoinOk ⟨#[]⟩ (w.map λc=>(⟨#[c]⟩:Str))=true:=joinOk_of_weight (by rw[Qt,aG];exact L1 [w.length] 0x7a1205fa0261000006fa0094a h) (by decide)
 exact(iX (f:=λns st=>if JoinOk ⟨#[]⟩ ns=true then Res.ok (D.str (Txt.join ⟨#[]⟩ ns)) st else .stuck) (Qs w) st).trans ((ax hk).trans (aw (λz=>Res.ok (D.str z) st) ((StrLaws.glued_eq_join _ _).trans (Qr w))))
theorem Ag{A B}(I:A.length=B.length)(h:∀i,i<A.length->bk A i=bk B i):A=B:=by
 refine ext_getElem I λi h1 h2=>?_
 have:=h i h1
 unfold bk at this
 rw[eJ,eJ,c8 h1,c8 h2] at this
 exact toNat_inj.mp this
theorem p4{F}{p n i}(h:i<n):bk (part F p n) i=bk F (p+i):=by unfold part;rw[PP h,PQ]
theorem jP.part{T w}{p}(H:jP T p w):Internal.part T p w.length=w:=by
 have I:(Internal.part T p w.length).length=w.length:=lK (by have:=H.inside;exact L1 [p,w.length,T.length] 2270177593674 this)
 refine Ag I λi hi=>?_
 rw[I] at hi
 rw[p4 hi,H.octets i hi]
theorem aeg{T w}{p}(H:jP T p w)(hz:T.length<=16777216)(hw:w.length<=500000)(st):Fv [.bytes T,.int p] st=.ok (.str (bZ w)) st:=by
 have L:=Qq (st:=st) H hz w.length M3 0 (gk _) (Nat.lt_of_le_of_lt hw nb)
 have sl:=P4 (F:=T) (p:=p) (n:=w.length) hz
 rw[H.part] at sl
 have cp:=iZ (z:=Ov) (σ:=[some (.bytes T),some (.int p),some (.int ((p+w.length:Nat):Int))]) (st:=st) (λc:UInt8=>.int (c.toNat:Int)) (λc=>.str ⟨#[c.toNat]⟩) (λc=>[some (.int (c.toNat:Int))]) w
  λc J=>⟨rfl,rfl,pD (f:=CP [.int (c.toNat:Int)]) (λst=>ax ⟨iy _,by have:=toNat_lt c;exact ofNat_le.mpr (show c.toNat<=1114111 from L1 [c.toNat] 0x1003fa0110ffff6fa04a this)⟩)⟩
 have jn:=aef (w:=w.map (·.toNat)) (by rw[aG];exact hw)
 rw[map_map] at jn
 exact bp (sF L<|pD (pW hz)<|pD (Gb (Nat.not_le.mpr H.inside))<|pD sl<|pL (P7 (b:=w) (bg hw nb))<|sL cp<|pD jn)
noncomputable abbrev sw(B:List UInt8)(s k j:Nat):Nat:=le B (s+40*k+4*j) 4
noncomputable def eQ(B:List UInt8)(s k:Nat):D:=.lst ((List.range 10).map λj=>.int (sw B s k j:Nat))
theorem aeh{F B}{s ag}(P:eD F B)(d0:52<=F.length)(hs:le B 32 4=s)(hc:le B 48 2=ag)(hz:0<ag->le B 46 2=40)(st) :
  Fw [fld F] st=if ag=0\/s+40*ag<=F.length then .ok (.lst ((List.range ag).map (eQ B s))) st else .bad st:=by
 have g:=λp n (hp:p+n<=52)=>bg hp d0
 have w32:=λst=>((P.ro 32 st).trans (ax (g 32 4 (by decide)))).trans (by rw[hs])
 have Gu:=λst=>(P.n7 46 st).trans (ax (g 46 2 (by decide)))
 have Ah:=λst=>((P.n7 48 st).trans (ax (g 48 2 (by decide)))).trans (by rw[hc])
 have sH:ag<65536:=by rw[<- hc];exact wq B 2 48
 have C:=Qk (z:=Ox) (σ:=[some (fld F),some (.int s),some (.int (le B 46 2:Nat)),some (.int ag)]) (st:=st) (λ(j:Nat)=>.int (j:Int)) (eQ B s) (λj=>s+40*j+4*10<=F.length)
  (λj=>[some (fld F),some (.int s),some (.int j)]) (List.range ag) (λj J=>⟨rfl,rfl,pC (P.Ql (s+40*j) 10 (w:=⟨#[114,111,119,115,32,111,102,32,115,101,99,116,105,111,110,115]⟩) nb (by decide)) id λh=>by rw[ax h];kernel_rfl⟩)
  (q:=ag=0\/s+40*ag<=F.length) ⟨λh j hj=>by have:=mem_range.mp hj;exact h.elim (λbM=>L2 [s,j,F.length,ag] 0xa323112aa4b1282fb0990ab this bM) λbM=>L2 [s,j,F.length,ag] 0x23282fb09031282f72aa4b1282fb0994b this bM,λh=>by
   rcases Nat.eq_zero_or_pos ag with z | z
   .exact .inl z
   .have:=h (ag-1) (mem_range.mpr (L1 [ag-1,ag] 75708371034 (show ag-1+1=ag from gm (L1 [ag] 168827466 z))));exact .inr (L2 [s,ag,F.length,ag-1] 0x1a391282f62aa4b3282fb099021282fb094b this (sb ag 1))⟩
 refine bp (pD w32<|pD Gu<|pD Ah ?_)
 rcases Nat.eq_zero_or_pos ag with h0 | h0
 .exact pD (iU (a:=ag) (b:=0) (L1 [ag] 2686454298 h0))<|pL (fY (n:=ag) (L1 [ag] 0xa0210000007fa04a h0))<|cC C λh=>by kernel_rfl
 .exact pD (jo (b:=0) h0)<|pD (iV (hz h0))<|pL (fY (n:=ag) (L1 [ag] 0x100005fa0110000007fa04a sH))<|cC C λh=>by kernel_rfl
def sym(n:Str)(v:Nat)(g:Bool):D:=.obj 171 [(lZ,.str n),(iA,.int v),(uG,.bool g)]
theorem Qu(n:Str)(v:Nat)(g:Bool)(st:List M):kG (fH 171 EO) [.str n,.int v,.bool g] st=.ok (sym n v g) (st++[.gone]):=
 z5 (bp (sU (kc 171 st [] lZ (.str n))<|sU (kc 171 st [(lZ,.str n)] iA (.int v))<|sU (kc 171 st [(lZ,.str n),(iA,.int v)] uG (.bool g))))
noncomputable abbrev cS(B:List UInt8)(s k i:Nat):Nat:=sw B s k 4+16*i
structure rz(B:List UInt8)(s ag:Nat)(nm:Nat->Nat->List UInt8):Prop where
 head:n9 B
 pZ:le B 32 4=s
 Ai:le B 48 2=ag
 Qv:0<ag->le B 46 2=40
 bG:ag<=100
 link:∀k,k<ag->sw B s k 1=2->sw B s k 6<ag/\sw B s (sw B s k 6) 1=3/\sw B s k 9=16/\sw B s k 5%16=0/\sw B s k 5<=1600
 name:∀k,k<ag->sw B s k 1=2->∀i,1<=i->i<sw B s k 5/16->jP (part B (sw B s (sw B s k 6) 4) (sw B s (sw B s k 6) 5)) (le B (cS B s k i) 4) (nm k i)/\(nm k i).length<=500000
def mJ(B:List UInt8)(s:Nat)(nm:Nat->Nat->List UInt8)(k i:Nat):D:=
 sym (bZ (nm k i)) (le B (cS B s k i+4) 4) (le B (cS B s k i+12) 1/16==1)
def kg(B:List UInt8)(s:Nat)(nm:Nat->Nat->List UInt8)(k:Nat):List D:=
 if sw B s k 1=2 then(List.range (sw B s k 5/16-1)).map λi=>mJ B s nm k (i+1) else[]
def uk(B:List UInt8)(s k n:Nat):Prop:=sw B s k 1=2->sw B s (sw B s k 6) 4+sw B s (sw B s k 6) 5<=n/\∀i,i<sw B s k 5/16-1->cS B s k (i+1)+13<=n
theorem Gv{m:Nat}(h:m<=1000)(st):ij [.int ((1:Nat):Int),.int (m:Int)] st=.ok ((List.range (m-1)).map λ(i:Nat)=>.int ((i+1:Nat):Int)) st:=by
 have e:jm 1 (m:Int)=(List.range (m-1)).map λ(i:Nat)=>.int ((i+1:Nat):Int):=by
  unfold jm
  have:((m:Int)-1).toNat=m-1:=by lia
  rw[this]
  refine map_congr_left λj J=>?_
  congr 1;exact Int.ofNat_inj.mpr (show 1+j=j+1 from eK (L0 [j] 111820253513) (L0 [j] 7132023113))
 rw[<- e]
 exact ax ⟨by lia,by lia,by lia⟩
def cW(B:List UInt8)(s:Nat)(nm:Nat->Nat->List UInt8)(i:Nat):List D:=(List.range i).flatMap (kg B s nm)
theorem Aj(B)(s)(nm:Nat->Nat->List UInt8)(i):cW B s nm (i+1)=cW B s nm i++kg B s nm i:=by unfold cW;rw[range_succ];simp
set_option tactic.hygienic true in
theorem Gw{B}{s ag}{nm}(H:rz B s ag nm):∀i,i<=ag->(cW B s nm i).length<=100*i
 |0,_=>by simp[cW]
 |i+1,h=>by
  have ih:=Gw H i (L1 [i,ag] 75708239946 h)
  rw[Aj,aW]
  have:(kg B s nm i).length<=100:=by
   unfold kg
   split
   .rename_i h2
    have:=(H.link i (L1 [i,ag] 75708239962 h) h2).2.2.2.2
    simp;exact L2 [sw B s i 5/16,sw B s i 5] 0x10102fc06403fa10652fa0102fab this (jy (sw B s i 5) 16)
   .simp
  exact L2 [(cW B s nm i).length,(kg B s nm i).length,i] 0x642fa102642fb001a29642fb1094b ih this
theorem Ak(a b:Nat)(st:List M):lm (.int (a:Int)) (.int (b:Int)) st=.ok (.bool (a==b)) st:=by
 by_cases h:a=b
 .rw[eqT h,beq_iff_eq.mpr h]
 .rw[mG h,beq_eq_false_iff_ne.mpr h]
inductive Al(B F T:List UInt8)(s:Nat)(nm:Nat->Nat->List UInt8)(k h:Nat)(o rows:D)(L0:List D)(i:Nat):List (Option D)->List M->Prop
 |mk (x6 x7 x8 x9:Option D) (st:List M) (l:st[h]?=some (.list (L0++(List.range i).map λi=>mJ B s nm k (i+1)))):Al B F T s nm k h o rows L0 i [some o,some (fld F),some rows,some (.ab h),some (eQ B s k),some (.bytes T),x6,x7,x8,x9] st
theorem aei{F B T}{s ag k}{nm}(P:eD F B)(H:rz B s ag nm)(hk:k<ag)(h2:sw B s k 1=2){o rows}{h}{L0}(hL0:L0.length<=100000)
  (hTd:part B (sw B s (sw B s k 6) 4) (sw B s (sw B s k 6) 5)=T)(Gx:T.length<=16777216){j:Nat}{σ:List (Option D)}{st:List M}(hj:j<sw B s k 5/16-1)(hp:Al B F T s nm k h o rows L0 j σ st) :
  lH (lp OB OD) (.int ((j+1:Nat):Int)) σ st (cS B s k (j+1)+13<=F.length) (Al B F T s nm k h o rows L0 (j+1)):=by
 obtain⟨y6,y7,y8,y9,_,jk⟩:=hp
 have w0:=P.Go (cS B s k (j+1)) (w:=uN) nb
 have ul:=P.P8 (cS B s k (j+1)+12) 1 (w:=uN) nb nb
 have w4:=P.Go (cS B s k (j+1)+4) (w:=uN) nb
 have k5:=(H.link k hk h2).2.2.2.2
 obtain⟨N,Nl⟩:=H.name k hk h2 (j+1) (Nat.succ_pos _) (L2 [j,sw B s k 5/16,sw B s k 5/16-1] 0x11a29220111a095b hj (show sw B s k 5/16-1+1=sw B s k 5/16 from gm (L2 [sw B s k 5/16,j,sw B s k 5/16-1] 137993656907 hj (sub_le (sw B s k 5/16) 1))))
 rw[hTd] at N
 have na:=aeg N Gx Nl
 by_cases c:cS B s k (j+1)+13<=F.length
 .have oh:(st++[M.gone])[h]?=some (.list (L0++(List.range j).map λi=>mJ B s nm k (i+1))):=by rw[dH (bH.mp jk).1];exact jk
  have ap:=kM (mJ B s nm k (j+1)) oh (by rw[aW,aG,eU];exact L5 [L0.length,j,sw B s k 5/16-1,sw B s k 5,sw B s k 5/16] 0x34102fc042102f66403fa3021102f7186a05fa0102f610000007fa109102fae hL0 hj k5 (sub_le (sw B s k 5/16) 1) (jy (sw B s k 5) 16))
  have w0:=λst=>(w0 st).trans (ax (L1 [cS B s k (j+1),F.length] 521207187900746 c))
  have ul:=λst=>(ul st).trans (ax (L1 [cS B s k (j+1),F.length] 0x1da09011aca0994a c))
  have w4:=λst=>(w4 st).trans (ax (L1 [cS B s k (j+1),F.length] 0x1da09014a4a0994a c))
  exact .next c _ _ (cR (σ':=[some o,some (fld F),some rows,some (.ab h),some (eQ B s k),some (.bytes T),some (.int ((j+1:Nat):Int)),y7,y8,y9])
   (R:=.ok (.next,[some o,some (fld F),some rows,some (.ab h),some (eQ B s k),some (.bytes T),some (.int ((j+1:Nat):Int)),some (.int (cS B s k (j+1):Nat)),some (.str (bZ (nm k (j+1)))),some (.int ((le B (cS B s k (j+1)+12) 1/2^4:Nat):Int))]) ((st++[M.gone]).set h (.list (L0++((List.range j).map λi=>mJ B s nm k (i+1))++[mJ B s nm k (j+1)]))))
   (pD w0<|pD na<|pD ul<|pD (PM (le B (cS B s k (j+1)+12) 1) 4)<|sB (iY jk)<|pD w4<|pD (Ak (le B (cS B s k (j+1)+12) 1/2^4) 1)<|sD (Qu (bZ (nm k (j+1))) (le B (cS B s k (j+1)+4) 4) (le B (cS B s k (j+1)+12) 1/2^4==1) st)<|sD ap)) ⟨_,_,_,_,_,by rw[dP oh,range_succ,eV,<- dG];rfl⟩
 .refine .bad c st (cR (σ':=[some o,some (fld F),some rows,some (.ab h),some (eQ B s k),some (.bytes T),some (.int ((j+1:Nat):Int)),y7,y8,y9]) ?_)
  by_cases c4:cS B s k (j+1)+4<=F.length
  .exact pD (λst=>(w0 st).trans (ax c4))<|pD na<|bD ((ul st).trans (aY (L1 [cS B s k (j+1),F.length] 0x1da09411aca0990a c)))
  .exact bD ((w0 st).trans (aY c4))
inductive Am(B F:List UInt8)(s ag:Nat)(nm:Nat->Nat->List UInt8)(h:Nat)(o:D)(i:Nat):List (Option D)->List M->Prop
 |mk (x4 x5 x6 x7 x8 x9:Option D) (st:List M) (l:st[h]?=some (.list (cW B s nm i))):Am B F s ag nm h o i [some o,some (fld F),some (.lst ((List.range ag).map (eQ B s))),some (.ab h),x4,x5,x6,x7,x8,x9] st
theorem aej{F B:List UInt8}{s ag:Nat}{nm:Nat->Nat->List UInt8}(P:eD F B)(H:rz B s ag nm){o:D}{db k:Nat}{σ:List (Option D)}{st:List M}(hk:k<ag)(hp:Am B F s ag nm db o k σ st) :
  lH (lp Fx Fy) (eQ B s k) σ st (uk B s k F.length) (Am B F s ag nm db o (k+1)):=by
 obtain⟨y4,y5,y6,y7,y8,y9,_,jk⟩:=hp
 have bG:=H.bG
 have ss:=Aj B s nm k
 unfold kg at ss
 by_cases h2:sw B s k 1=2
 .rw[ax h2] at ss
  obtain⟨k1,k2,k3,k4,k5⟩:=H.link k hk h2
  have ln:=kL (V:=(List.range ag).map (eQ B s)) (by rw[aG,eU];exact L1 [ag] 0x642fa0010000007fa04a bG)
  have ir:=uh (V:=(List.range ag).map (eQ B s)) (i:=sw B s k 6) (d:=eQ B s (sw B s k 6)) (by rw[getElem?_map,getElem?_range k1];rfl) (by rw[aG,eU];exact L1 [ag] 0x642fa003b9aca008fa04a bG)
  have pt:=P.rm (sw B s (sw B s k 6) 4) (sw B s (sw B s k 6) 5) (w:=Bj) nb
  have go:=fun{R} h=>cR (k:=Fx) (X:=Fy) (x:=eQ B s k) (σ:=[some o,some (fld F),some (.lst ((List.range ag).map (eQ B s))),some (.ab db),y4,y5,y6,y7,y8,y9]) (st:=st) (R:=R) (σ':=[some o,some (fld F),some (.lst ((List.range ag).map (eQ B s))),some (.ab db),some (eQ B s k),y5,y6,y7,y8,y9]) (pD (iV h2)<|pD ln<|pD (Gb (b:=((List.range ag).map (eQ B s)).length) (by rw[aG,eU];exact Nat.not_le.mpr k1))<|pD ir<|pD (iV k2)<|pD (iV k3)<|pD (kb (b:=16) (by decide) (sw B s k 5))<|pD (iV (b:=0) k4)<|pD ir<|pD ir<|h)
  by_cases hT:sw B s (sw B s k 6) 4+sw B s (sw B s k 6) 5<=F.length
  .have Gx:(part B (sw B s (sw B s k 6) 4) (sw B s (sw B s k 6) 5)).length<=16777216:=by rw[<- P.part _ _ hT,lK hT];have:=P.small;exact L2 [sw B s (sw B s k 6) 5,sw B s (sw B s k 6) 4,F.length] 0x10000007fa202019010000007fa04b hT this
   have pt:=λst=>(pt st).trans (ax hT)
   have hc:uk B s k F.length↔∀i,i<sw B s k 5/16-1->cS B s k (i+1)+13<=F.length:=⟨λq=>(q h2).2,λq J=>⟨hT,q⟩⟩
   cases zY (λ(i:Nat)=>.int ((i+1:Nat):Int)) (sw B s k 5/16-1) (P:=Al B F (part B (sw B s (sw B s k 6) 4) (sw B s (sw B s k 6) 5)) s nm k db o (.lst ((List.range ag).map (eQ B s))) (cW B s nm k)) (λj σ st hj=>aei P H hk h2 (by have:=Gw H k (Nat.le_of_lt hk);exact L3 [(cW B s nm k).length,k,ag] 0x1642fb00642fa2642f621642f7186a05fa04c hk bG this) rfl Gx hj)
     ⟨y6,y7,y8,y9,st,by rw[jk];exact aw (λl=>some (M.list l)) (c9 _).symm⟩ with
   |ok c σ' ao e q=>
    obtain⟨z6,z7,z8,z9,_,l⟩:=q
    exact .next (hc.mpr c) _ ao (go (R:=.ok (.next,[some o,some (fld F),some (.lst ((List.range ag).map (eQ B s))),some (.ab db),some (eQ B s k),some (.bytes (part B (sw B s (sw B s k 6) 4) (sw B s (sw B s k 6) 5))),z6,z7,z8,z9]) ao)
     (pD pt<|pD (wk (b:=16) (by decide) (by decide) (sw B s k 5))<|pL (Gv (m:=sw B s k 5/16) (L2 [sw B s k 5/16,sw B s k 5] 0x10102fc06403fa103e83fa0102fab k5 (jy (sw B s k 5) 16)))<|sF e)) ⟨_,_,_,_,_,_,_,ss▸l⟩
   |bad c ao e=>
    exact .bad (mt hc.mp c) ao (go (pD pt<|pD (wk (b:=16) (by decide) (by decide) (sw B s k 5))<|pL (Gv (m:=sw B s k 5/16) (L2 [sw B s k 5/16,sw B s k 5] 0x10102fc06403fa103e83fa0102fab k5 (jy (sw B s k 5) 16)))<|bF e))
  .exact .bad (λq=>hT (q h2).1) st (go (bD ((pt st).trans (aY hT))))
 .rw[aY h2,c9] at ss
  exact .cont (λq=>absurd q h2) _ st (cR (σ':=[some o,some (fld F),some (.lst ((List.range ag).map (eQ B s))),some (.ab db),some (eQ B s k),y5,y6,y7,y8,y9])
   (R:=.ok (.cont,[some o,some (fld F),some (.lst ((List.range ag).map (eQ B s))),some (.ab db),some (eQ B s k),y5,y6,y7,y8,y9]) st) (pD (neT h2))) ⟨_,_,_,_,_,_,_,ss▸jk⟩
def wB(B:List UInt8)(s ag n:Nat):Prop:=52<=n/\(ag=0\/s+40*ag<=n)/\∀k,k<ag->uk B s k n
theorem aek{F B}{s ag}{nm}{st}(P:eD F B)(H:rz B s ag nm):Ae (Fz [.bytes F] st) (wB B s ag F.length) (.lst (cW B s nm ag)):=by
 have hd:=Qa P H.head (st++[M.gone])
 have bG:=H.bG
 by_cases d0:52<=F.length
 .rw[ax d0] at hd
  have sr:=aeh P d0 H.pZ H.Ai H.Qv (st++[M.gone])
  by_cases hr:ag=0\/s+40*ag<=F.length
  .rw[ax hr] at sr
   have it:=fi (V:=(List.range ag).map (eQ B s)) (by rw[aG,eU];exact L1 [ag] 0x642fa0010000007fa04a bG)
   cases zY (eQ B s) ag (P:=Am B F s ag nm (st++[M.gone]).length (.bytes F)) (λk σ st hk=>aej P H hk) ⟨none,none,none,none,none,none,st++[M.gone]++[M.list []],jq⟩ with
   |ok c σ' ao e q=>
    obtain⟨_,_,_,_,_,_,_,l⟩:=q
    exact .ok ⟨d0,hr,c⟩ _ (bp (sD (ru (F:=F) st)<|sD hd<|sD sr<|pL it<|sF e<|sD (lG l) sE))
   |bad c ao e=>exact .bad (λq=>c q.2.2) ao (bp (sD (ru (F:=F) st)<|sD hd<|sD sr<|pL it<|bF e))
  .rw[aY hr] at sr
   exact .bad (λq=>hr q.2.1) _ (bp (sD (ru (F:=F) st)<|sD hd<|bD sr))
 .rw[aY d0] at hd
  exact .bad (λq=>d0 q.1) _ (bp (sD (ru (F:=F) st)<|bD hd))
noncomputable def aJ(B:List UInt8):List D:=B.map λc=>.int (c.toNat:Int)
theorem i6(B):(aJ B).length=B.length:=aG ..
theorem ael{B}{i}(h:i<B.length):(aJ B)[i]?=some (.int (bk B i:Nat)):=by
 unfold aJ bk
 rw[getElem?_map,eJ,c8 h];rfl
theorem Qw{B}{i v}:(aJ B).set i (.int ((v%256:Nat):Int))=aJ (B.set i (UInt8.ofNat (v%256))):=by
 unfold aJ
 rw[map_set]
 congr 2
 rw[toNat_ofNat',mod_mod]
theorem Qx:∀B,vq (aJ B)=some B
 |[]=>rfl
 |c::B=>by
  have hc:=toNat_lt c
  show(if(0:Int)<=(c.toNat:Int)/\(c.toNat:Int)<256 then(vq (aJ B)).map (UInt8.ofNat (c.toNat:Int).toNat :: ·) else none)=_
  rw[ax ⟨iy _,ofNat_lt.mpr (show c.toNat<256 from L1 [c.toNat] 0x1003fa011003fa05a hc)⟩,Qx B,toNat_natCast,UInt8.ofNat_toNat];rfl
theorem um{B}(h:B.length<=16777216)(st):ny [.lst (aJ B)] st=.ok (.bytes B) st:=
 (iX (f:=λb st=>if(aJ B).length<=sz then .ok (D.bytes b) st else .stuck) (Qx B) st).trans (ax (by rw[i6];exact h))
theorem Qy{a}{i}{σ}{st ao}{d}(h:a σ st=.ok d ao):lC i a σ st=.ok (.next,σ.set i (some d)) ao:=by unfold lC;rw[h]
theorem Qz{a}{i}{σ}{st ao}(h:a σ st=.bad ao):lC i a σ st=.ok (.ret .none,σ) ao:=by unfold lC;rw[h]
inductive An(R:Res D)(c:Prop)(d:D):Prop
 |yes (h:c) (st:List M) (e:R=.ok d st):An R c d
 |no (h:¬c) (st:List M) (e:R=.ok .none st):An R c d
noncomputable def ar.t(v:ar):D:=.tup [.int v.a,.bytes v.b,.int v.s,.int v.f]
noncomputable def gV(e:Nat)(L:List ar):D:=.tup [.int e,.lst (L.map ar.t)]
theorem aem{F B}{aj aq entry}{st}(P:eD F B)(H:wy B aj aq entry):An (zB [.lst (aJ F)] st) (wA B aj aq F.length) (gV entry (cu B aj aq)):=by
 have bi:=um P.small
 cases aec (st:=st) P H with
 |ok c ao e=>
  have hz:((cu B aj aq).map ar.d).length<=16777216:=by
   rw[aG]
   exact bg (Gs B aj aq) (bg (Nat.le_of_lt (H.wz▸wq B 2 44)) nb)
  have cp:=iZ (z:=Pz) (σ:=[some (.lst (aJ F)),some (mI entry (cu B aj aq))]) (st:=ao) ar.d ar.t (λv=>[some v.d]) (cu B aj aq) λv J=>⟨rfl,rfl,by kernel_rfl⟩
  exact .yes c ao (bp (sF (Qy (a:=rn F5.t) (i:=1) (σ:=[some (.lst (aJ F)),none]) (st:=st) (ao:=ao) (d:=(mI entry (cu B aj aq))) (pD bi<|sD e))<|pL (fi hz)<|sL cp))
 |bad c ao e=>exact .no c ao (bp (sF (Qz (a:=rn F5.t) (i:=1) (σ:=[some (.lst (aJ F)),none]) (st:=st) (ao:=ao) (pD bi<|bD e))))
noncomputable def fZ:D->D
 |.obj _ [(_,n),(_,v),(_,g)]=>.tup [n,v,g]
 |d=>d
theorem QA{B}{s}{nm}{ag}:∀x∈cW B s nm ag,∃n v g,x=sym n v g:=by
 intro x hx
 obtain⟨k,_,hx⟩:=List.mem_flatMap.mp hx
 unfold kg at hx
 split at hx
 .obtain⟨i,_,rfl⟩:=da.mp hx
  exact⟨_,_,_,rfl⟩
 .exact nomatch hx
theorem aen{F B}{s ag}{nm}{st}(P:eD F B)(H:rz B s ag nm):An (zD [.lst (aJ F)] st) (wB B s ag F.length) (.lst ((cW B s nm ag).map fZ)):=by
 have bi:=um P.small
 cases aek (st:=st) P H with
 |ok c ao e=>
  have hz:(cW B s nm ag).length<=16777216:=bg (Gw H ag (dC _)) (bg (mul_le_mul_left 100 H.bG) nb)
  have cp:=iZ (z:=PB) (σ:=[some (.lst (aJ F)),some (.lst (cW B s nm ag))]) (st:=ao) id fZ (λx=>[some x]) (cW B s nm ag) λx hx=>⟨rfl,rfl,by obtain⟨n,v,g,rfl⟩:=QA x hx;kernel_rfl⟩
  rw[List.map_id] at cp
  exact .yes c ao (bp (sF (Qy (a:=rn F6.t) (i:=1) (σ:=[some (.lst (aJ F)),none]) (st:=st) (ao:=ao) (d:=(.lst (cW B s nm ag))) (pD bi<|sD e))<|pL (fi hz)<|sL cp))
 |bad c ao e=>exact .no c ao (bp (sF (Qz (a:=rn F6.t) (i:=1) (σ:=[some (.lst (aJ F)),none]) (st:=st) (ao:=ao) (pD bi<|bD e))))
theorem QB{due:D}{size lo hi:Nat}(h:size<hi)(st):ue [.none,due,.int size,.tup [.int lo,.int hi]] st=.ok (.bool true) st:=
 bp (pD Gp<|pD (uf h))
theorem QC{d:D}{size lo hi:Nat}(h:fu 8 d d=some true)(hn:∀st,qB d .none st=.ok (.bool false) st)(hs:lo<=size)(st):ue [d,d,.int size,.tup [.int lo,.int hi]] st=.ok (.bool true) st:=
 bp (pD hn<|pD (wj hs)<|pD (f:=lm d d) (d:=.bool true) (λst=>by unfold lm;rw[h]))
theorem QD{f}{x}{xs}(h:f x x=some true)(Y:iI f xs xs=some true):iI f (x::xs) (x::xs)=some true:=by
 show(match f x x,iI f xs xs with | some a,some b=>some (a&&b) | _,_=>none)=some true
 rw[h,Y];rfl
theorem QE{f}:∀xs,(∀x∈xs,f x x=some true)->iI f xs xs=some true
 |[],_=>rfl
 |x::xs,h=>by
  exact QD (h x (.head _)) (QE xs λy hy=>h y (.tail _ hy))
theorem QF{n}{xs}(h:∀x∈xs,fu n x x=some true):fu (n+1) (.lst xs) (.lst xs)=some true:=(ax rfl).trans (QE xs h)
theorem Gy{n}{xs}(h:iI (fu n) xs xs=some true):fu (n+1) (.tup xs) (.tup xs)=some true:=(ax rfl).trans h
theorem oi{n}{x}{xs}(h:fu n x x=some true)(Y:iI (fu n) xs xs=some true):iI (fu n) (x::xs) (x::xs)=some true:=QD h Y
theorem wC(n)(i):fu (n+1) (.int i) (.int i)=some true:=aw some (beq_self_eq_true i)
theorem aeo(n)(b):fu (n+1) (.bytes b) (.bytes b)=some true:=aw some (gc rfl)
theorem aep(e)(L):fu 8 (gV e L) (gV e L)=some true:=
 Gy (oi (wC _ _) (oi (QF λy hy=>by
  obtain⟨v,_,rfl⟩:=da.mp hy
  exact Gy (oi (wC _ _) (oi (aeo _ _) (oi (wC _ _) (oi (wC _ _) rfl))))) rfl))
theorem aeq(L:List D)(h:∀x∈L,∃n v g,x=sym n v g):fu 8 (.lst (L.map fZ)) (.lst (L.map fZ))=some true:=
 QF λx hx=>by
  obtain⟨y,hy,rfl⟩:=da.mp hx
  obtain⟨n,v,g,rfl⟩:=h y hy
  exact Gy (xs:=[.str n,.int v,.bool g]) (oi (aw some (beq_self_eq_true n)) (oi (wC _ _) (oi (aw some (beq_self_eq_true g)) rfl)))
theorem QG:∀ns:List Nat,mu (ns.map λ(n:Nat)=>D.int (n:Int))=some (ns.map λ(n:Nat)=>(n:Int))
 |[]=>rfl
 |n::ns=>(aw (λ(z:Option (List Int))=>z.map (List.cons (n:Int))) (QG ns)).trans rfl
theorem QH:∀ns:List Nat,(ns.map λ(n:Nat)=>(n:Int)).sum=(ns.sum:Nat)
 |[]=>rfl
 |n::ns=>by rw[map_cons,sum_cons,sum_cons,QH ns];rfl
theorem QI{ns:List Nat}(st:List M):CQ [.lst (ns.map λ(n:Nat)=>.int (n:Int))] st=.ok (.int (ns.sum:Nat)) st:=by exact(iX (f:=λns st=>Res.ok (D.int ns.sum) st) (QG ns) st).trans (aw (λz=>Res.ok (D.int z) st) (QH ns))
theorem QJ:∀l:List Nat,(l.map (256 * ·)).sum=256*l.sum
 |[]=>rfl
 |a::l=>by rw[map_cons,sum_cons,sum_cons,QJ l,Nat.mul_add]
theorem QK(B:List UInt8):∀n p,((List.range n).map λk=>bk B (p+k)*256^k).sum=le B p n
 |0,_=>rfl
 |n+1,p=>by
  rw[List.range_succ_eq_map,map_cons,sum_cons,map_map,q8,<- QK B n (p+1),<- QJ,map_map]
  refine congr (aw _ (Nat.mul_one _)) (aw _ (map_congr_left λk J=>?_))
  show bk B (p+(k+1))*256^(k+1)=256*(bk B (p+1+k)*256^k)
  rw[Nat.add_right_comm,<- Nat.add_assoc,pow_succ,mul_comm (256^k) 256,Nat.mul_left_comm]
theorem rA{B:List UInt8}{p n:Nat}(h:p+n<=B.length)(hB:B.length<=16777216)(hn:n<=8)(st):zo [.lst (aJ B),.int p,.int n] st=.ok (.int (le B p n:Nat)) st:=by
 have cp:=iZ (z:=ON) (σ:=[some (.lst (aJ B)),some (.int p),some (.int n)]) (st:=st) (λ(k:Nat)=>.int (k:Int)) (λ(k:Nat)=>.int ((bk B (p+k)*256^k:Nat):Int)) (λk=>[some (.lst (aJ B)),some (.int p),some (.int k)]) (List.range n)
  λk hk=>⟨rfl,rfl,by
   have hk:=mem_range.mp hk
   exact pD (uh (i:=p+k) (ael (B:=B) (i:=p+k) (L2 [p,k,B.length,n] 0x3112309021095b h hk)) (by rw[i6];exact L1 [B.length] 0x10000007fa003b9aca008fa04a hB))<|pD (n5 (a:=256) (b:=k) (L2 [k,n] 0x1018a10f42405fa04b hn hk) (by decide))<|pD (adA (lt_trans (lJ B (p+k)) (by decide)) (256^k))⟩
 have sm:=QI (ns:=(List.range n).map λk=>bk B (p+k)*256^k)
 rw[QK,map_map] at sm
 exact bp (pL (fY (n:=n) (L1 [n] 0x8a0010000007fa04a hn))<|sL cp<|pD sm)
theorem QL{st:List M}{k:Nat}{m:M}(h:st[k]?=some m):st.set k m=st:=by
 refine List.ext_getElem? λi=>?_
 by_cases q:k=i
 .subst q;rw[dP h,h]
 .rw[di q]
theorem QM{k p:Nat}{c:D}:∀n i v B y st,st[k]?=some (.list (aJ B))->p+i+n<=B.length->B.length<=16777216->∃x v',
  de (lp OJ OK) ((range' i n).map λ(i:Nat)=>.int (i:Int)) [some (.ab k),some (.int p),some (.int (v:Nat)),some c,y] st =
   .ok (.next,[some (.ab k),some (.int p),v',some c,x]) (st.set k (.list (aJ (jp B (p+i) v n))))
 |0,i,v,B,y,st,h,_,_=>⟨y,_,by rw[show jp B (p+i) v 0=B from rfl,QL h];rfl⟩
 |n+1,i,v,B,y,st,h,I,hz=>by
  have si:=wn (.int ((v%256:Nat):Int)) (i:=p+i) h (by rw[i6];exact L1 [p,i,B.length,n] 0x21a391099021095a I) (by rw[i6];exact L1 [B.length] 0x10000007fa003b9aca008fa04a hz)
  rw[Qw] at si
  obtain⟨x,v',e⟩:=QM (k:=k) (p:=p) (c:=c) n (i+1) (v/256) (B.set (p+i) (UInt8.ofNat (v%256))) (some (.int (i:Int))) _ (dP h) (by rw[et];exact L1 [p,i,n,B.length] 0x31a2910990321a190994a I) (by rw[et];exact hz)
  rw[set_set] at e
  exact⟨x,v',(ui (cR (σ':=[some (.ab k),some (.int p),some (.int (v:Nat)),some c,some (.int (i:Int))]) (R:=.ok (.next,[some (.ab k),some (.int p),some (.int ((v/256:Nat):Int)),some c,some (.int (i:Int))]) _)
   (pD (kb (b:=256) (by decide) v)<|sU si<|pD (wk (b:=256) (by decide) (by decide) v)))).trans e⟩
theorem wD{k p v n:Nat}{B:List UInt8}{st:List M}(h:st[k]?=some (.list (aJ B)))(I:p+n<=B.length)(hz:B.length<=16777216):FD [.ab k,.int p,.int v,.int n] st=.ok .none (st.set k (.list (aJ (jp B p v n)))):=by
 obtain⟨x,v',e⟩:=QM (p:=p) (c:=.int n) n 0 v B none st h I hz
 rw[<- List.range_eq_range'] at e
 exact bp (pL (fY (n:=n) (L2 [n,p,B.length] 0x10000007fa202019010000007fa04b I hz))<|sF e)
theorem QN(a b c:Nat)(st:List M):vp [.int (a:Int),.int (b:Int),.int (c:Int)] st=.ok (.int ((max a (max b c):Nat):Int)) st:=aw (λz=>Res.ok (D.int z) st) (by split <;> split <;> lia)
structure p5(b:Nat)(l:List Nat)(L H:Nat->Nat)(lo hi:Nat):Prop where
 base:b<=hi
 least:b<=lo
 high:∀k∈l,H k<=hi
 low:∀n,b<=n->(∀k∈l,L k<=n)->lo<=n
theorem p5.nil(b)(L H:Nat->Nat):p5 b [] L H b b:=⟨dC _,dC _,λJ h=>(nomatch h),λJ h J=>h⟩
theorem p5.snoc{b}{l}{L H}{lo hi}(u:p5 b l L H lo hi)(k){lL gK}(e:lL=max lo (L k))(e':gK=max hi (H k)):p5 b (l++[k]) L H lL gK:=by
 subst e e'
 refine⟨bg u.base (le_max_left ..),bg u.least (le_max_left ..),λj hj=>?_,λn hn h=>?_⟩
 .rcases cy.mp hj with hj | hj
  .exact bg (u.high j hj) (le_max_left ..)
  .rw[dT] at hj;subst hj;exact Nat.le_max_right ..
 .exact max_le.mpr ⟨u.low n hn λj hj=>h j (fP _ hj),h k (cA _ (.head _))⟩
structure Gz(B:List UInt8)(aj aq lo hi:Nat):Prop where
 base:aj+32*aq<=hi
 high:∀k,k<aq->aK B (aj+32*k) 0=1->aK B (aj+32*k) 1+aK B (aj+32*k) 4<=hi
 low:∀n,aj+32*aq<=n->(∀k,k<aq->aK B (aj+32*k) 0=1->aK B (aj+32*k) 1+aK B (aj+32*k) 4<=n)->lo<=n
 least:aj+32*aq<=lo
noncomputable def GA(B:List UInt8)(aj k:Nat):Nat:=if aK B (aj+32*k) 0=1 then(if 0<aK B (aj+32*k) 4 then aK B (aj+32*k) 1+aK B (aj+32*k) 4 else 0) else 0
noncomputable def GB(B:List UInt8)(aj k:Nat):Nat:=if aK B (aj+32*k) 0=1 then aK B (aj+32*k) 1+aK B (aj+32*k) 4 else 0
inductive Ao(B:List UInt8)(aj aq:Nat)(bV:List M)(j:Nat):List (Option D)->List M->Prop
 |mk (lo hi:Nat) (x5 x6 x7 x8 x9 aR:Option D) (u:p5 (aj+32*aq) (List.range j) (GA B aj) (GB B aj) lo hi):Ao B aj aq bV j [some (.lst (aJ B)),some (.int aj),some (.int aq),some (.int lo),some (.int hi),x5,x6,x7,x8,x9,aR] bV
theorem QO{B:List UInt8}{p m:Nat}{st:List M}{z:CZ}{σ:List (Option D)}(g:Nat->List (Option D))(hB:B.length<=16777216)(I:p+4*m<=B.length)(h:∀i:Nat,z.k.aO (.int (i)) (dY z.az z.m σ)=some (g i)/\rn z.tt (g i) st=.ok true st/\rn z.el.t (g i) st=zo [.lst (aJ B),.int ((p+4*i):Int),.int ((4):Int)] st) :
  z.r σ ((List.range m).map λ(i:Nat)=>.int (i:Int)) st=.ok ((List.range m).map λi=>.int (le B (p+4*i) 4:Nat)) st:=
 iZ _ _ g _ λi hi=>⟨(h i).1,(h i).2.1,(h i).2.2.trans (rA (by have:=mem_range.mp hi;exact L2 [p,i,B.length,m] 0x3147234b09024a14b0994b I this) hB (by decide) st)⟩
theorem QP{t:T D}{x:Res D}(e:autoParam (t=.aD t.s x .ok) kr):t.run=x:=by generalize t.s=u at e;rw[e];exact Res.cb _
theorem aer{B:List UInt8}{aj aq j:Nat}{bV st:List M}{σ:List (Option D)}(hB:B.length<=16777216)(I:aj+32*aq<=B.length)(hj:j<aq)(hp:Ao B aj aq bV j σ st):fM (lp FY FZ) (.int (j:Int)) σ st (Ao B aj aq bV (j+1)):=by
 obtain⟨lo,hi,x5,x6,x7,x8,x9,aR,u⟩:=hp
 have cp:=QO (B:=B) (p:=aj+32*j) (m:=5) (z:=Ps) (σ:=[some (.lst (aJ B)),some (.int aj),some (.int aq),some (.int lo),some (.int hi),some (.int j),x6,x7,x8,x9,aR]) (st:=bV)
  (λi=>[some (.int j),some (.lst (aJ B)),some (.int aj),some (.int i)]) hB (L2 [aj,j,B.length,aq] 0x31202f723202fb09025a4b1202fb0994b I hj) λi=>⟨rfl,rfl,QP⟩
 have u':=λlL gK e e'=>range_succ▸u.snoc j (lL:=lL) (gK:=gK) e e'
 let bc:Nat->Nat->List (Option D):=λlo hi=>[some (.lst (aJ B)),some (.int aj),some (.int aq),some (.int lo),some (.int hi),some (.int j),some (.int (aK B (aj+32*j) 0)),some (.int (aK B (aj+32*j) 1)),some (.int (aK B (aj+32*j) 2)),some (.int (aK B (aj+32*j) 3)),some (.int (aK B (aj+32*j) 4))]
 have go:=λlL gK h=>cR (k:=FY) (X:=FZ) (x:=.int (j:Int)) (σ:=[some (.lst (aJ B)),some (.int aj),some (.int aq),some (.int lo),some (.int hi),x5,x6,x7,x8,x9,aR]) (st:=bV) (R:=.ok (.next,bc lL gK) bV)
  (σ':=[some (.lst (aJ B)),some (.int aj),some (.int aq),some (.int lo),some (.int hi),some (.int j),x6,x7,x8,x9,aR]) (pL (fY (n:=5) (by decide))<|sL cp h)
 unfold GA GB at u'
 by_cases k1:aK B (aj+32*j) 0=1
 .rw[ax k1,ax k1] at u'
  by_cases f0:0<aK B (aj+32*j) 4
  .rw[ax f0] at u'
   exact .next trivial _ _ (go (max lo (aK B (aj+32*j) 1+aK B (aj+32*j) 4)) (max hi (aK B (aj+32*j) 1+aK B (aj+32*j) 4)) (pD (eqT k1)<|pD (Gg hi (aK B (aj+32*j) 1+aK B (aj+32*j) 4))<|pD (jo f0)<|pD (Gg lo (aK B (aj+32*j) 1+aK B (aj+32*j) 4)))) ⟨_,_,_,_,_,_,_,_,u' _ _ rfl rfl⟩
  .rw[aY f0] at u'
   exact .next trivial _ _ (go lo (max hi (aK B (aj+32*j) 1+aK B (aj+32*j) 4)) (pD (eqT k1)<|pD (Gg hi (aK B (aj+32*j) 1+aK B (aj+32*j) 4))<|pD (iU f0))) ⟨_,_,_,_,_,_,_,_,u' _ _ (max_zero _).symm rfl⟩
 .rw[aY k1,aY k1] at u'
  exact .next trivial _ _ (go lo hi (pD (mG k1))) ⟨_,_,_,_,_,_,_,_,u' _ _ (max_zero _).symm (max_zero _).symm⟩
inductive Ends(R:Res D)(st:List M)(Q:Nat->Nat->Prop):Prop
 |mk (lo hi:Nat) (e:R=.ok (.tup [.int lo,.int hi]) st) (q:Q lo hi):Ends R st Q
theorem aes{B}{aj aq}{st}(hB:B.length<=16777216)(d0:52<=B.length)(hs:le B 28 4=aj)(hm:le B 44 2=aq)(I:aj+32*aq<=B.length):Ends (F0 [.lst (aJ B)] st) st (Gz B aj aq):=by
 have n28:=λst=>(rA (B:=B) (p:=28) (n:=4) (bg (by decide) d0) hB (by decide) st).trans (by rw[hs])
 have n44:=λst=>(rA (B:=B) (p:=44) (n:=2) (bg (by decide) d0) hB (by decide) st).trans (by rw[hm])
 obtain⟨σ',ao,e,q⟩:=uj (λ(i:Nat)=>.int (i:Int)) aq (P:=Ao B aj aq st) (λj σ st hj=>aer hB I hj) ⟨_,_,none,none,none,none,none,none,.nil _ _ _⟩
 obtain⟨lo,hi,_,_,_,_,_,_,u⟩:=q
 refine⟨lo,hi,bp (pD n28<|pD n44<|pL (fY (n:=aq) (L2 [aq,B.length,aj] 0x10202fb29010000007fa1010000007fa0202fab hB I))<|sF e),u.base,λk hk h=>?_,λn hn h=>u.low n hn λk hk=>?_,u.least⟩
 .have:=u.high k (mem_range.mpr hk)
  unfold GB at this;rwa [ax h] at this
 .unfold GA
  split
  .split
   .exact h k (mem_range.mp hk) ‹_›
   .exact zero_le _
  .exact zero_le _
noncomputable def gw(B:List UInt8)(s k:Nat):D:=.lst ((List.range 7).map λj=>.int (sw B s k j:Nat))
structure Aq(B:List UInt8)(s ag lo hi:Nat):Prop where
 base:s+40*ag<=hi
 high:∀k,k<ag->sw B s k 1=2->sw B s (sw B s k 6) 4+sw B s (sw B s k 6) 5<=hi/\sw B s k 4+sw B s k 5<=hi
 low:∀n,s+40*ag<=n->(∀k,k<ag->sw B s k 1=2->16<sw B s k 5->sw B s (sw B s k 6) 4+sw B s (sw B s k 6) 5<=n/\sw B s k 4+sw B s k 5-3<=n)->lo<=n
 least:s+40*ag<=lo
noncomputable def wE(B:List UInt8)(s k:Nat):Nat:=if 16<sw B s k 5 then max (sw B s (sw B s k 6) 4+sw B s (sw B s k 6) 5) (sw B s k 4+sw B s k 5-3) else 0
noncomputable def QQ(B:List UInt8)(s k:Nat):Nat:=max (sw B s (sw B s k 6) 4+sw B s (sw B s k 6) 5) (sw B s k 4+sw B s k 5)
inductive Ar(B:List UInt8)(s ag:Nat)(ks:List Nat)(bV:List M)(j:Nat):List (Option D)->List M->Prop
 |mk (lo hi:Nat) (x6 x7:Option D) (u:p5 (s+40*ag) (ks.take j) (wE B s) (QQ B s) lo hi):Ar B s ag ks bV j [some (.lst (aJ B)),some (.int s),some (.int ag),some (.lst ((List.range ag).map (gw B s))),some (.int lo),some (.int hi),x6,x7] bV
theorem aet{B}{s ag j k}{ks}{bV st}{σ}(hc:ag<=65536)(hk:ks[j]?=some k)(I:sw B s k 6<ag)(hp:Ar B s ag ks bV j σ st):fM (lp F1 F4) (gw B s k) σ st (Ar B s ag ks bV (j+1)):=by
 obtain⟨lo,hi,x6,x7,u⟩:=hp
 have u':=λlL gK e e'=>show p5 (s+40*ag) (ks.take (j+1)) (wE B s) (QQ B s) lL gK from by rw[take_add_one,hk];exact u.snoc k e e'
 have ir:=uh (V:=(List.range ag).map (gw B s)) (i:=sw B s k 6) (d:=gw B s (sw B s k 6)) (by rw[getElem?_map,getElem?_range I];rfl) (by rw[aG,eU];exact L1 [ag] 0x100005fa003b9aca008fa04a hc)
 have go:=λ(lL:Nat) h=>cR (k:=F1) (X:=F4) (x:=gw B s k) (σ:=[some (.lst (aJ B)),some (.int s),some (.int ag),some (.lst ((List.range ag).map (gw B s))),some (.int lo),some (.int hi),x6,x7]) (st:=bV) (R:=.ok (.next,[some (.lst (aJ B)),some (.int s),some (.int ag),some (.lst ((List.range ag).map (gw B s))),some (.int lL),some (.int ((max hi (max (sw B s (sw B s k 6) 4+sw B s (sw B s k 6) 5) (sw B s k 4+sw B s k 5)):Nat):Int)),some (gw B s k),some (gw B s (sw B s k 6))]) bV)
  (σ':=[some (.lst (aJ B)),some (.int s),some (.int ag),some (.lst ((List.range ag).map (gw B s))),some (.int lo),some (.int hi),some (gw B s k),x7]) (pD ir<|pD (QN hi (sw B s (sw B s k 6) 4+sw B s (sw B s k 6) 5) (sw B s k 4+sw B s k 5)) h)
 by_cases f:16<sw B s k 5
 .exact .next trivial _ _ (go (max lo (max (sw B s (sw B s k 6) 4+sw B s (sw B s k 6) 5) (sw B s k 4+sw B s k 5-3))) (pD (jo (b:=16) f)<|pD (iW (b:=3) (a:=sw B s k 4+sw B s k 5) (L1 [sw B s k 4,sw B s k 5] 4788347654978122 f))<|pD (QN lo (sw B s (sw B s k 6) 4+sw B s (sw B s k 6) 5) (sw B s k 4+sw B s k 5-3)))) ⟨_,_,_,_,u' _ _ (by rw[show wE B s k=_ from ax f]) rfl⟩
 .exact .next trivial _ _ (go lo (pD (iU (b:=16) f))) ⟨_,_,_,_,u' _ _ (by rw[show wE B s k=_ from aY f,max_zero]) rfl⟩
theorem aeu{B}{s}(hB:B.length<=16777216)(d0:52<=B.length)(hs:le B 32 4=s)(hm:le B 48 2=0)(st):wi [.lst (aJ B)] st=.ok (.tup [.int (52:Nat),.int (52:Nat)]) st:=by
 have GC:=rA (B:=B) (p:=32) (n:=4) (bg (by decide) d0) hB (by decide)
 have GD:=rA (B:=B) (p:=48) (n:=2) (bg (by decide) d0) hB (by decide)
 exact bp (pD GC<|pD GD<|pD (eqT hm))
theorem aev{B:List UInt8}{s ag:Nat}{st:List M}(hB:B.length<=16777216)(d0:52<=B.length)(hs:le B 32 4=s)(hm:le B 48 2=ag)(h0:0<ag)(I:s+40*ag<=B.length)(aew:∀k,k<ag->sw B s k 1=2->sw B s k 6<ag) :
  Ends (wi [.lst (aJ B)] st) st (Aq B s ag):=by
 have GC:=λst=>(rA (B:=B) (p:=32) (n:=4) (bg (by decide) d0) hB (by decide) st).trans (by rw[hs])
 have GD:=λst=>(rA (B:=B) (p:=48) (n:=2) (bg (by decide) d0) hB (by decide) st).trans (by rw[hm])
 have hc:ag<=65536:=by rw[<- hm];exact Nat.le_of_lt (wq B 2 48)
 have c1:=iZ (z:=Pw) (σ:=[some (.lst (aJ B)),some (.int s),some (.int ag),none,none,none,none,none]) (st:=st) (λ(k:Nat)=>.int (k:Int)) (gw B s) (λk=>[some (.lst (aJ B)),some (.int s),some (.int k)]) (List.range ag)
  λk hk=>⟨rfl,rfl,by
   have hk:=mem_range.mp hk
   exact pL (fY (n:=7) (by decide))<|sL (QO (B:=B) (p:=s+40*k) (m:=7) (z:=Pv) (σ:=[some (.lst (aJ B)),some (.int s),some (.int k)]) (st:=st) (λi=>[some (.int k),some (.lst (aJ B)),some (.int s),some (.int i)]) hB (L2 [s,k,B.length,ag] 0x31282f723282fb09027a4b1282fb0994b I hk) λi=>⟨rfl,rfl,QP⟩)⟩
 have rl:((List.range ag).map (gw B s)).length<=16777216:=by rw[aG,eU];exact L1 [ag] 0x100005fa0010000007fa04a hc
 have c2:=og (z:=Px) (σ:=[some (.lst (aJ B)),some (.int s),some (.int ag),some (.lst ((List.range ag).map (gw B s))),some (.int (s+40*ag:Nat)),some (.int (s+40*ag:Nat)),none,none]) (st:=st) (gw B s) (gw B s) (λk=>sw B s k 1==2) (λk=>[some (gw B s k)]) (List.range ag)
  λk J=>⟨rfl,pD (Ak (sw B s k 1) 2),λJ=>rfl⟩
 have mem:∀k,k∈(List.range ag).filter (λk=>sw B s k 1==2)↔k<ag/\sw B s k 1=2:=λk=>by rw[mem_filter,mem_range,beq_iff_eq]
 have kl:(((List.range ag).filter λk=>sw B s k 1==2).map (gw B s)).length<=16777216:=by rw[aG];exact bg (length_filter_le _ _) (by rw[eU];exact L1 [ag] 0x100005fa0010000007fa04a hc)
 generalize(List.range ag).filter (λk=>sw B s k 1==2)=ks at c2 mem kl
 obtain⟨σ',ao,e,q⟩:=lI (gw B s) ks (P:=Ar B s ag ks st) (λj k σ st hk=>by have:=(mem k).mp (cU hk);exact aet hc hk (aew k this.1 this.2)) ⟨_,_,none,none,.nil _ _ _⟩
 obtain⟨lo,hi,_,_,u⟩:=q
 rw[take_length] at u
 refine⟨lo,hi,bp (pD GC<|pD GD<|pD (mG (a:=ag) (b:=0) (L1 [ag] 168861738 h0))<|pL (fY (n:=ag) (L1 [ag] 0x100005fa0010000007fa04a hc))<|sL c1<|pL (fi rl)<|sL c2<|pL (fi kl)<|sF e),u.base,λk hk h=>?_,λn hn h=>u.low n hn λk hk=>?_,u.least⟩
 .exact max_le.mp (u.high k ((mem k).mpr ⟨hk,h⟩))
 .obtain⟨h1,h2⟩:=(mem k).mp hk
  unfold wE
  split
  .exact max_le.mpr (h k h1 h2 ‹_›)
  .exact zero_le _
structure jQ(B:List UInt8)(aj aq entry:Nat):Prop where
 ok:wy B aj aq entry
 low:52<=aj
 some:0<aq
 rows:aj+32*aq<=B.length
 QR:∀k,k<aq->aK B (aj+32*k) 0=1->aK B (aj+32*k) 1+aK B (aj+32*k) 4<=B.length
structure kh(B:List UInt8)(s ag:Nat)(nm:Nat->Nat->List UInt8):Prop where
 ok:rz B s ag nm
 low:0<ag->52<=s
 rows:s+40*ag<=B.length
 texts:∀k,k<ag->sw B s k 1=2->sw B s (sw B s k 6) 4+sw B s (sw B s k 6) 5<=B.length/\sw B s k 4+sw B s k 5<=B.length
section
variable{B C:List UInt8}
theorem un{p n}(h:p+n<=B.length):part (B++C) p n=part B p n:=by
 have h1:(part (B++C) p n).length=n:=lK (by rw[aW];exact L1 [p,n,B.length,C.length] 581161463122250 h)
 have h2:(part B p n).length=n:=lK h
 refine Ag (h1.trans h2.symm) λi hi=>?_
 rw[h1] at hi
 rw[p4 hi,p4 hi,ws (L2 [p,i,B.length,n] 0x3112309021095b h hi)]
theorem n9.app(H:n9 B)(h:52<=B.length):n9 (B++C):=
 ⟨(un (L1 [B.length] 0x342fa004a0a94a h)).trans H.P9,(eP (L1 [B.length] 0x342fa001a4a94a h)).trans H.b4,(eP (L1 [B.length] 0x342fa001a5a94a h)).trans H.b5,(eP (L1 [B.length] 0x342fa001a6a94a h)).trans H.b6,(eP (L1 [B.length] 0x342fa002a102fa94a h)).trans H.kind,(eP (L1 [B.length] 0x342fa002a122fa94a h)).trans H.machine,(eP (L1 [B.length] 0x342fa004a142fa94a h)).trans H.version,
  by rw[eP (L1 [B.length] 0x342fa002a282fa94a h)];exact H.wide,(eP (L1 [B.length] 0x342fa002a2a2fa94a h)).trans H.row⟩
theorem jQ.rw{aj aq entry}(H:jQ B aj aq entry){k j}(hk:k<aq)(hj:j<8):aK (B++C) (aj+32*k) j=aK B (aj+32*k) j:=eP (by have:=H.rows;exact L3 [aj,k,j,B.length,aq] 0x34202fb0908a24741202f734a24b1202fb09994c hk hj this)
theorem jQ.aex{aj aq entry}(H:jQ B aj aq entry){k}(hk:k<aq):kf (B++C) (aj+32*k)=kf B (aj+32*k):=by
 unfold kf
 rw[H.rw hk (L0 [] 9046617),H.rw hk (L0 [] 9067097),H.rw hk (L0 [] 9054809),H.rw hk (L0 [] 9050713),H.rw hk (L0 [] 9063001),H.rw hk (L0 [] 9071193)]
 by_cases q:aK B (aj+32*k) 0=1/\0<aK B (aj+32*k) 5
 .rw[ax q,ax q,un (H.QR k hk q.1)]
 .rw[aY q,aY q]
theorem jQ.As{aj aq entry}(H:jQ B aj aq entry):∀i,i<=aq->cu (B++C) aj i=cu B aj i
 |0,_=>rfl
 |i+1,h=>by rw[Ac,Ac,jQ.As H i (L1 [i,aq] 75708239946 h),H.aex (L1 [i,aq] 75708239962 h)]
theorem jQ.app{aj aq entry}(H:jQ B aj aq entry):wy (B++C) aj aq entry:=by
 have I:52<=B.length:=by have:=H.rows;have:=H.low;lia
 refine⟨H.ok.head.app I,(eP (L1 [B.length] 0x342fa004a182fa94a I)).trans H.ok.Qo,(eP (L1 [B.length] 0x342fa004a1c2fa94a I)).trans H.ok.pZ,(eP (L1 [B.length] 0x342fa002a2c2fa94a I)).trans H.ok.wz,λk hk=>?_,?_,?_,H.ok.four⟩
 .have R:=H.ok.rows k hk
  refine⟨?_,?_,?_,?_⟩
  .rw[H.rw hk (L0 [] 9046617)];exact R.kind
  .rw[H.rw hk (L0 [] 9046617),H.rw hk (L0 [] 9063001),H.rw hk (L0 [] 9067097)];exact R.size
  .rw[H.rw hk (L0 [] 9046617),H.rw hk (L0 [] 9054809),H.rw hk (L0 [] 9067097)];exact R.mem
  .rw[H.rw hk (L0 [] 9046617),H.rw hk (L0 [] 9050713),H.rw hk (L0 [] 9054809),H.rw hk (L0 [] 9075289)];exact R.align
 .rw[H.As _ (dC _)];exact H.ok.asc
 .rw[H.As _ (dC _)];exact H.ok.bN
theorem jQ.asks{aj aq entry}(H:jQ B aj aq entry){lo hi n m}(E:Gz B aj aq lo hi) :
  (wA (B++C) aj aq n->lo<=n)/\(¬wA (B++C) aj aq n->n<hi)/\(B.length<=m->wA (B++C) aj aq m):=by
 have I:52<=B.length:=by have:=H.rows;have:=H.low;lia
 have re:∀k,k<aq->jr (B++C) (aj+32*k)=jr B (aj+32*k):=λk hk=>by
  unfold jr
  rw[H.rw hk (L0 [] 9046617),H.rw hk (L0 [] 9050713),H.rw hk (L0 [] 9063001)]
 have hm:=H.some
 refine⟨λq=>E.low n ?_ λk hk h1=>?_,λq=>?_,λq=>⟨L2 [m,B.length] 0x101342fa00342fa4b I q,λk hk=>?_⟩⟩
 .have:=q.2 (aq-1) (L1 [aq-1,aq] 75708371034 (show aq-1+1=aq from gm (L1 [aq] 168827466 hm)))
  have h2:aj+32*(aq-1)+32<=jr (B++C) (aj+32*(aq-1)):=by unfold jr;split <;> lia
  exact L3 [aj,aq,n,jr (B++C) (aj+32*(aq-1)),aq-1] 0x1a491202f63202fa4202fb099023021202fb094c this h2 (sb aq 1)
 .have:=q.2 k hk
  rw[re k hk] at this
  unfold jr at this
  rw[ax h1] at this
  exact L2 [aK B (aj+32*k) 1,aK B (aj+32*k) 4,n,max (aj+32*k+32) (aK B (aj+32*k) 1+aK B (aj+32*k) 4)] 0x3109023021094b this (Nat.le_max_right (aj+32*k+32) (aK B (aj+32*k) 1+aK B (aj+32*k) 4))
 .refine lt_of_not_le λhn=>q ⟨by have:=E.base;have:=H.low;lia,λk hk=>?_⟩
  rw[re k hk]
  unfold jr
  have:=E.base
  split
  .have:=E.high k hk (by assumption);lia
  .exact L3 [aj,k,n,hi,aq] 0x34202fb09041202f72302202fa1202fb0994c hn hk this
 .rw[re k hk]
  unfold jr
  have:=H.rows
  split
  .have:=H.QR k hk (by assumption);lia
  .exact L3 [aj,k,m,B.length,aq] 0x34202fb09041202f72302202fa1202fb0994c q hk this
theorem kh.QS{s ag}{nm}(H:kh B s ag nm){k j}(hk:k<ag)(hj:j<10):sw (B++C) s k j=sw B s k j:=eP (by have:=H.rows;exact L3 [s,k,j,B.length,ag] 0x34282fb090aa24741282f734a24b1282fb09994c hk hj this)
theorem kh.entry{s ag}{nm}(H:kh B s ag nm){k i d n}(hk:k<ag)(h2:sw B s k 1=2)(hi:16*i+d+n<=sw B s k 5):le (B++C) (cS B s k i+d) n=le B (cS B s k i+d) n:=
 eP (by have:=(H.texts k hk h2).2;unfold cS;exact L2 [sw B s k 4,i,d,n,B.length,sw B s k 5] 0x450905321102fb9904321102fb09994b hi this)
set_option tactic.hygienic true in
theorem kh.app{s ag}{nm}(H:kh B s ag nm)(I:52<=B.length):rz (B++C) s ag nm/\cW (B++C) s nm ag=cW B s nm ag:=by
 have hs:∀{k j},k<ag->j<10->sw (B++C) s k j=sw B s k j:=λhk hj=>H.QS hk hj
 have hp:∀k i,k<ag->cS (B++C) s k i=cS B s k i:=λk i hk=>by unfold cS;rw[hs hk (L0 [] 11160153)]
 refine⟨⟨H.ok.head.app I,(eP (L1 [B.length] 0x342fa004a202fa94a I)).trans H.ok.pZ,(eP (L1 [B.length] 0x342fa002a302fa94a I)).trans H.ok.Ai,λq=>(eP (L1 [B.length] 0x342fa002a2e2fa94a I)).trans (H.ok.Qv q),H.ok.bG,λk hk h2=>?_,λk hk h2 i wF gx=>?_⟩,?_⟩
 .rw[hs hk (L0 [] 11147865)] at h2
  have L:=H.ok.link k hk h2
  rw[hs hk (L0 [] 11168345),hs hk (L0 [] 11180633),hs hk (L0 [] 11164249),hs L.1 (L0 [] 11147865)]
  exact L
 .rw[hs hk (L0 [] 11147865)] at h2
  have L:=H.ok.link k hk h2
  have T:=H.texts k hk h2
  rw[hs hk (L0 [] 11164249)] at gx
  have N:=H.ok.name k hk h2 i wF gx
  rw[hs hk (L0 [] 11168345),hs L.1 (L0 [] 11160153),hs L.1 (L0 [] 11164249),un T.1,hp k i hk]
  have:=H.entry (C:=C) (d:=0) (n:=4) (i:=i) hk h2 (L2 [i,sw B s k 5,sw B s k 5/16] 0x12102fc020102f714a0a0102fb994b gx (jy (sw B s k 5) 16))
  simp only[add_zero] at this
  rw[this]
  exact N
 .have tk:∀k,k<ag->kg (B++C) s nm k=kg B s nm k:=λk hk=>by
   unfold kg
   rw[hs hk (L0 [] 11147865),hs hk (L0 [] 11164249)]
   split
   .rename_i h2
    have L:=H.ok.link k hk h2
    refine map_congr_left λi hi=>?_
    have hi:=mem_range.mp hi
    unfold mJ
    rw[hp k _ hk]
    have e1:=H.entry (C:=C) (d:=4) (n:=4) (i:=i+1) hk h2 (by lia)
    have e2:=H.entry (C:=C) (d:=12) (n:=1) (i:=i+1) hk h2 (by lia)
    rw[e1,e2]
   .rfl
  have:∀i,i<=ag->cW (B++C) s nm i=cW B s nm i:=λi=>by
   induction i with
   |zero=>intro _;rfl
   |succ i ih=>intro h;rw[Aj,Aj,ih (L1 [i,ag] 75708239946 h),tk i (L1 [i,ag] 75708239962 h)]
  exact this ag (dC _)
theorem kh.asks{s ag}{nm}(H:kh B s ag nm)(I:52<=B.length){lo hi n m}(E:(ag=0/\lo=52/\hi=52)\/(0<ag/\Aq B s ag lo hi)) :
  (wB (B++C) s ag n->lo<=n)/\(¬wB (B++C) s ag n->n<hi)/\(B.length<=m->wB (B++C) s ag m):=by
 have hs:∀{k j},k<ag->j<10->sw (B++C) s k j=sw B s k j:=λhk hj=>H.QS hk hj
 have hp:∀k i,k<ag->cS (B++C) s k i=cS B s k i:=λk i hk=>by unfold cS;rw[hs hk (L0 [] 11160153)]
 have ta:∀k n,k<ag->(uk (B++C) s k n↔uk B s k n):=λk n hk=>by
  unfold uk
  rw[hs hk (L0 [] 11147865),hs hk (L0 [] 11168345),hs hk (L0 [] 11164249)]
  by_cases h2:sw B s k 1=2
  .have L:=H.ok.link k hk h2
   rw[hs L.1 (L0 [] 11160153),hs L.1 (L0 [] 11164249)]
   simp only[hp k _ hk]
  .exact⟨λJ q=>(h2 q).elim,λJ q=>(h2 q).elim⟩
 rcases E with⟨rfl,rfl,rfl⟩ | ⟨h0,E⟩
 .refine⟨λq=>q.1,λq=>lt_of_not_le λhn=>q ⟨hn,.inl rfl,λk hk=>by lia⟩,λq=>⟨L2 [m,B.length] 0x101342fa00342fa4b I q,.inl rfl,λk hk=>by lia⟩⟩
 .refine⟨λq=>E.low n ?_ λk hk h2 Qb=>?_,λq=>?_,λq=>⟨L2 [m,B.length] 0x101342fa00342fa4b I q,.inr (by have:=H.rows;exact L2 [s,ag,m,B.length] 0x31282fb09023021282fb094b q this),λk hk=>(ta k m hk).mpr λh2=>?_⟩⟩
  .rcases q.2.1 with z | z
   .exact L2 [s,ag,n] 0xa1210a121282fb090ab h0 z
   .exact z
  .have T:=(ta k n hk).mp (q.2.2 k hk) h2
   have L:=H.ok.link k hk h2
   have:=T.2 (sw B s k 5/16-2) (by lia)
   unfold cS at this
   exact⟨T.1,by lia⟩
  .refine lt_of_not_le λhn=>q ⟨by have:=E.base;have:=H.low h0;lia,.inr (by have:=E.base;exact L2 [s,ag,n,hi] 0x31282fb09023021282fb094b hn this),λk hk=>(ta k n hk).mpr λh2=>?_⟩
   have L:=H.ok.link k hk h2
   have hh:=E.high k hk h2
   exact⟨L2 [sw B s (sw B s k 6) 4,sw B s (sw B s k 6) 5,n,hi] 0x3109023021094b hn hh.1,λi hi=>by unfold cS;lia⟩
  .have T:=H.texts k hk h2
   exact⟨L2 [sw B s (sw B s k 6) 4,sw B s (sw B s k 6) 5,m,B.length] 0x3109023021094b q T.1,λi hi=>by unfold cS;lia⟩
end
theorem GF{V:List D}{n:Nat}(h:V.length<=16777216)(st):mw V none (some (n:Int)) st=.ok (.lst (V.take n)) st:=by
 unfold mw
 rw[ax ⟨by simp[j6],h⟩]
 exact aw (λz=>Res.ok (D.lst z) st) (by simp[cut])
theorem GG{B:List UInt8}{n:Nat}(h:B.length<=16777216)(st):kF (.lst (aJ B)) none (some (n:Int)) st=.ok (.lst (aJ (B.take n))) st:=
 (GF (by rw[i6];exact h) st).trans (aw (λz=>Res.ok (D.lst z) st) (map_take ..).symm)
inductive rB(pre:List (Option D))(j:Nat):List (Option D)->List M->Prop
 |mk (x:Option D) (st:List M):rB pre j (pre++[x]) st
theorem aey{B C:List UInt8}{aj aq entry lo hi n j:Nat}(H:jQ B aj aq entry)(E:Gz B aj aq lo hi)(hz:(B++C).length<=16777216){x0 x1 x2 x3 x5 x7 x9:Option D}{st:List M} :
  fM (lp zI zJ) (.int (n:Int)) [x0,x1,x2,x3,some (gV entry (cu B aj aq)),x5,some (.lst (aJ (B++C))),x7,some (.tup [.int lo,.int hi]),x9] st (rB [x0,x1,x2,x3,some (gV entry (cu B aj aq)),x5,some (.lst (aJ (B++C))),x7,some (.tup [.int lo,.int hi])] j):=by
 have go:=λwG ao h1 h2=>lH.next (c:=True) (x:=.int (n:Int)) trivial _ ao (cR (st:=st) (k:=zI) (X:=zJ) (σ:=[x0,x1,x2,x3,some (gV entry (cu B aj aq)),x5,some (.lst (aJ (B++C))),x7,some (.tup [.int lo,.int hi]),x9]) (R:=.ok (.next,[x0,x1,x2,x3,some (gV entry (cu B aj aq)),x5,some (.lst (aJ (B++C))),x7,some (.tup [.int lo,.int hi]),some (.int (n:Int))]) ao)
  (σ':=[x0,x1,x2,x3,some (gV entry (cu B aj aq)),x5,some (.lst (aJ (B++C))),x7,some (.tup [.int lo,.int hi]),some (.int (n:Int))])
  (pD (GG (B:=B++C) (n:=n) hz)<|sD (x:=zB [.lst (aJ ((B++C).take n))] st) (d:=wG) (st:=ao) h1<|sD (x:=ue [wG,gV entry (cu B aj aq),.int (n:Int),.tup [.int lo,.int hi]] ao) (d:=.bool true) (st:=ao) h2)) (rB.mk (pre:=[x0,x1,x2,x3,some (gV entry (cu B aj aq)),x5,some (.lst (aJ (B++C))),x7,some (.tup [.int lo,.int hi])]) (j:=j) (some (.int (n:Int))) ao)
 have A:=H.asks (C:=C) (n:=((B++C).take n).length) (m:=(B++C).length) E
 have I:((B++C).take n).length=min n (B++C).length:=length_take
 cases aem (st:=st) (eD.take (B:=B++C) n hz) H.app with
 |yes q ao e=>
  rw[H.As aq (dC _)] at e
  exact go _ ao e (QC (aep _ _) (λJ=>rfl) (bg (A.1 q) (I▸min_le_left ..)) ao)
 |no q ao e=>
  refine go _ ao e (QB ?_ ao)
  have h1:=A.2.1 q
  rcases lt_or_ge n (B++C).length with z | z
  .rwa [I,min_eq_left (Nat.le_of_lt z)] at h1
  .exact absurd (A.2.2 (by rw[aW];exact fN ..)) (by rwa [I,Nat.min_eq_right z] at q)
theorem aez{B C:List UInt8}{s ag lo hi n j:Nat}{nm:Nat->Nat->List UInt8}(H:kh B s ag nm)(QT:52<=B.length)(E:(ag=0/\lo=52/\hi=52)\/(0<ag/\Aq B s ag lo hi))(hz:(B++C).length<=16777216){x0 x1 x2 x3 x4 x7 x9:Option D}{st:List M} :
  fM (lp zM zN) (.int (n:Int)) [x0,x1,x2,x3,x4,some (.lst ((cW B s nm ag).map fZ)),some (.lst (aJ (B++C))),x7,some (.tup [.int lo,.int hi]),x9] st (rB [x0,x1,x2,x3,x4,some (.lst ((cW B s nm ag).map fZ)),some (.lst (aJ (B++C))),x7,some (.tup [.int lo,.int hi])] j):=by
 have go:=λwG ao h1 h2=>lH.next (c:=True) (x:=.int (n:Int)) trivial _ ao (cR (st:=st) (k:=zM) (X:=zN) (σ:=[x0,x1,x2,x3,x4,some (.lst ((cW B s nm ag).map fZ)),some (.lst (aJ (B++C))),x7,some (.tup [.int lo,.int hi]),x9]) (R:=.ok (.next,[x0,x1,x2,x3,x4,some (.lst ((cW B s nm ag).map fZ)),some (.lst (aJ (B++C))),x7,some (.tup [.int lo,.int hi]),some (.int (n:Int))]) ao)
  (σ':=[x0,x1,x2,x3,x4,some (.lst ((cW B s nm ag).map fZ)),some (.lst (aJ (B++C))),x7,some (.tup [.int lo,.int hi]),some (.int (n:Int))])
  (pD (GG (B:=B++C) (n:=n) hz)<|sD (x:=zD [.lst (aJ ((B++C).take n))] st) (d:=wG) (st:=ao) h1<|sD (x:=ue [wG,.lst ((cW B s nm ag).map fZ),.int (n:Int),.tup [.int lo,.int hi]] ao) (d:=.bool true) (st:=ao) h2)) (rB.mk (pre:=[x0,x1,x2,x3,x4,some (.lst ((cW B s nm ag).map fZ)),some (.lst (aJ (B++C))),x7,some (.tup [.int lo,.int hi])]) (j:=j) (some (.int (n:Int))) ao)
 obtain⟨S1,S2⟩:=H.app (C:=C) QT
 have A:=H.asks (C:=C) QT (n:=((B++C).take n).length) (m:=(B++C).length) E
 have I:((B++C).take n).length=min n (B++C).length:=length_take
 cases aen (st:=st) (eD.take (B:=B++C) n hz) S1 with
 |yes q ao e=>
  rw[S2] at e
  exact go _ ao e (QC (aeq _ λx hx=>QA x hx) (λJ=>rfl) (bg (A.1 q) (I▸min_le_left ..)) ao)
 |no q ao e=>
  refine go _ ao e (QB ?_ ao)
  have h1:=A.2.1 q
  rcases lt_or_ge n (B++C).length with z | z
  .rwa [I,min_eq_left (Nat.le_of_lt z)] at h1
  .exact absurd (A.2.2 (by rw[aW];exact fN ..)) (by rwa [I,Nat.min_eq_right z] at q)
theorem wH(a)(st):CN [.int a] st=.ok (.int (a.natAbs:Int)) st:=aw (λz=>Res.ok (D.int z) st) (by split <;> lia)
theorem aeA{V:List D}{n:Nat}(h:V.length<=16777216)(st):kF (.arr V) none (some (n:Int)) st=.ok (.lst (V.take n)) st:=GF h st
theorem aeB{i}(hi:i<=24):(10^120)^i<=2^19999:=
 bg (Nat.pow_le_pow_right (by decide) hi) (show(10^120)^24<=2^19999 by decide +kernel)
inductive At(a:D)(j:Nat):List (Option D)->List M->Prop
 |mk (g m:Nat) (x:Option D) (hg:g<(10^120)^j) (hm:m<1000000007):At a j [some a,some (.int g),some (.int m),x] []
theorem aeC{a}{c}{j}{σ}{st}(hj:j<24)(hp:At a j σ st):fM (lp OF OG) (.int c) σ st (At a (j+1)):=by
 obtain⟨g,m,x,hg,hm⟩:=hp
 have QU:=n5 (a:=10) (b:=18) (by decide) (by decide)
 have QV:=n5 (a:=10) (b:=120) (by decide) (by decide)
 by_cases hc:10^18<=c.natAbs
 .have mb:∀st,DY (.int (g:Int)) (.int ((10^120:Nat):Int)) st=.ok (.int ((g*10^120:Nat):Int)) st:=λst=>ax ⟨by
   rw[Int.natAbs_natCast];exact lt_of_lt_of_le (lt_of_lt_of_le hg (aeB (Nat.le_of_lt hj))) (Nat.pow_le_pow_right (by decide) (by decide)),by
   rw[Int.natAbs_natCast];decide +kernel⟩
  refine .next trivial _ _ (cR (σ':=[some a,some (.int g),some (.int m),some (.int c)]) (R:=.ok (.next,[some a,some (.int ((g*10^120+c.natAbs%10^120:Nat):Int)),some (.int m),some (.int c)]) [])
   (pD (wH c)<|pD QU<|pD (wj hc)<|pD QV<|pD mb<|pD (wH c)<|pD QV<|pD (kb (b:=10^120) (by decide) c.natAbs))) ⟨_,_,_,?_,hm⟩
  have:=mod_lt c.natAbs (show 0<10^120 by decide)
  rw[pow_succ]
  refine lt_of_lt_of_le (Nat.add_lt_add_left this _) ?_
  rw[<- Nat.succ_mul]
  exact Nat.mul_le_mul_right _ hg
 .have it:∀b:Bool,∀st,tz [.bool b] st=.ok (.int ((b.toNat:Nat):Int)) st:=λb st=>by cases b <;> rfl
  exact .next trivial _ _ (cR (σ':=[some a,some (.int g),some (.int m),some (.int c)]) (R:=.ok (.next,[some a,some (.int g),some (.int (((69069*m+2*c.natAbs+(decide (c<0)).toNat+1)%1000000007:Nat):Int)),some (.int c)]) [])
   (pD (wH c)<|pD QU<|pD (Gb hc)<|pD (wH c)<|pD (f:=tj (.int c) (.int ((0:Nat):Int))) (d:=.bool (decide (c<0))) (λJ=>rfl)<|pD (it (decide (c<0)))<|pD (kb (b:=1000000007) (by decide) (69069*m+2*c.natAbs+(decide (c<0)).toNat+1)))) ⟨_,_,_,lt_of_lt_of_le hg (Nat.pow_le_pow_right (by decide) (le_succ _)),mod_lt _ (by decide)⟩
inductive QW(R:Res D):Prop
 |mk (st:List M) (e:R=.ok (.ab 0) st) (s:bX st 0 0):QW R
theorem aeD{ns:List Int}(hn:ns.length<=63):QW (FC [.arr (ns.map .int)] []):=by
 have I:(ns.map D.int).length<=16777216:=by rw[aG];exact bg hn nb
 have sl:=aeA (V:=ns.map D.int) (n:=24) I
 rw[<- map_take] at sl
 have it:=fi (V:=(ns.take 24).map D.int) (by rw[aG];exact bg (length_take_le ..) nb)
 obtain⟨σ',ao,e,q⟩:=lI D.int (ns.take 24) (P:=At (.arr (ns.map .int))) (λj c σ st hc=>aeC (lt_of_lt_of_le (bH.mp hc).1 (length_take_le ..))) ⟨0,0,none,Nat.pow_pos (by decide),by decide⟩
 obtain⟨g,m,x,hg,hm⟩:=q
 exact⟨_,bp (pD sl<|pL it<|sF e (show _=Res.ok (D.ab 0) [M.list [.int g,.int m,.int ((0:Nat):Int)]] by kernel_rfl)),⟨g,m,0⟩,rfl,iy _,⟨iy _,ofNat_lt.mpr hm⟩,Int.le_refl _,Int.le_refl _⟩
structure Au(B:List UInt8)(aj aq entry s ag:Nat)(nm:Nat->Nat->List UInt8):Prop where
 rC:jQ B aj aq entry
 sym:kh B s ag nm
 small:B.length<=1000000
abbrev Av(B:List UInt8)(aj aq entry s ag:Nat)(nm:Nat->Nat->List UInt8):D:=
 .tup [.lst (aJ B),gV entry (cu B aj aq),.lst ((cW B s nm ag).map fZ)]
inductive Aw(R:Res D)(k:Nat):Prop
 |mk (B:List UInt8) (aj aq entry s ag:Nat) (nm:Nat->Nat->List UInt8) (st:List M) (e:R=.ok (Av B aj aq entry s ag nm) st) (G:Au B aj aq entry s ag nm) (sd:bX st k 100000):Aw R k
abbrev QX:Prop:=∀st k,bX st k 1->Aw (FQ [.ab k] st) k
abbrev QY:Prop:=∀st k b,bX st k 1->Aw (zz [.ab k,.bool b] st) k
inductive QZ(z:CZ)(σ:List (Option D))(V:List D)(st:List M):Prop
 |mk (ms:List Nat) (ao:List M) (e:z.r σ V st=.ok (ms.map λ(i:Nat)=>.int (i:Int)) ao) (l:ms.length=V.length):QZ z σ V st
theorem Q0{B}{k}{b}{x0 x3 x4 x5 x7 x8 x9}(hB:B.length<=16777215):∀V st n,V.length<=3->n<=900000+(3-V.length)->bX st k n->QZ zG [x0,some (.ab k),some (.bool b),x3,x4,x5,some (.lst (aJ B)),x7,x8,x9] V st
 |[],st,_,_,_,_=>⟨[],st,rfl,rfl⟩
 |x::xs,st,n,I,hn,sd=>by
  rw[length_cons] at I hn
  obtain⟨d,bW,_,q,p6,_,_⟩:=cJ (B.length+1) sd (L2 [n,3-(xs.length+1)] 0x3a101dbba05fa900f42405fa04b hn (sub_le 3 (xs.length+1))) (Nat.succ_pos _) (L1 [B.length] 0xffffff6fa001000000000000000011e1a095a hB)
  obtain⟨ms,ao,e,l⟩:=Q0 (b:=b) (x0:=x0) (x3:=x3) (x4:=x4) (x5:=x5) (x7:=x7) (x8:=x8) (x9:=x9) hB xs bW (n+1) (L1 [xs.length] 63883494793290 I) (L3 [n,3-xs.length,3-(xs.length+1),xs.length] 0x3a1a392923193a02dbba05fa9001dbba05fa91a094c hn (sb 3 xs.length) (show 3-(xs.length+1)+(xs.length+1)=3 from gm (L1 [xs.length] 0x3a1a0903a1a094a I))) p6
  refine⟨d::ms,ao,?_,aw Nat.succ l⟩
  unfold CZ.r at e ⊢
  rw[rq (σ':=[some (.lst (aJ B)),some (.ab k),some x]) (by kernel_rfl),show rn zG.tt _ _=Res.ok true st by kernel_rfl,Res.gF,ax rfl,
   show rn zG.el.t [some (.lst (aJ B)),some (.ab k),some x] st=.ok (.int d) bW from pD (kL (V:=aJ B) (by rw[i6];exact L1 [B.length] 0xffffff6fa0010000007fa04a hB))<|sD (x:=wf [.ab k,.int ((aJ B).length+1:Nat)] st) (d:=.int d) (st:=bW) (by rw[i6];exact q),Res.gF,e]
  rfl
noncomputable abbrev GH(lo hi n:Nat)(ms:List Nat):List Nat:=(lo-1)::hi::n::ms
inductive Q1(R:Res D):Prop
 |mk (st:List M) (e:R=.ok (.bool true) st):Q1 R
inductive Q2(B:List UInt8)(s ag:Nat)(st:List M):Prop
 |mk (lo hi:Nat) (e:wi [.lst (aJ B)] st=.ok (.tup [.int lo,.int hi]) st) (E:(ag=0/\lo=52/\hi=52)\/(0<ag/\Aq B s ag lo hi)) (h:1<=lo):Q2 B s ag st
theorem GI{x0:D}{k:Nat}{b:Bool}{B:List UInt8}{aj aq entry s ag:Nat}{nm:Nat->Nat->List UInt8}(G:Au B aj aq entry s ag nm){st:List M}(sd:bX st k 100000) :
  Q1 (lD (PG.t [some x0,some (.ab k),some (.bool b),some (.lst (aJ B)),some (gV entry (cu B aj aq)),some (.lst ((cW B s nm ag).map fZ)),none,none,none,none] st)).run:=by
 have hB:=G.small
 have d0:52<=B.length:=by have:=G.rC.rows;have:=G.rC.low;lia
 obtain⟨d,bW,hd,q1,p6,_,_⟩:=cJ 9 sd
 have sl:=GG (B:=B) (n:=1+d) (bg hB nb)
 have GJ:(B.take (1+d)).length<=10:=bg (length_take_le ..) (L1 [d] 0x9a01aa01a94a hd)
 generalize B.take (1+d)=C at sl GJ
 have ad:=mH (a:=aJ B) (b:=aJ C) (by rw[i6,i6];exact L2 [B.length,C.length] 0xaa10f42405fa0010000007fa1094b hB GJ)
 rw[show aJ B++aJ C=aJ (B++C) from(eV ..).symm] at ad
 have hz:(B++C).length<=1000010:=by rw[aW];exact L2 [B.length,C.length] 0xaa10f42405fa00f424a5fa1094b hB GJ
 obtain⟨ms,b8,dn,Ax⟩:=Q0 (x0:=some x0) (x3:=some (.lst (aJ B))) (x4:=some (gV entry (cu B aj aq))) (x5:=some (.lst ((cW B s nm ag).map fZ))) (x7:=none) (x8:=none) (x9:=none) (B:=B++C) (k:=k) (b:=b) (L1 [(B++C).length] 0xf424a5fa00ffffff6fa04a hz)
  ((List.range (cond b 3 0)).map λ(i:Nat)=>.int (i:Int)) bW 100001 (by cases b <;> decide) (by cases b <;> decide) p6
 have Ax:ms.length<=3:=by rw[Ax];cases b <;> decide
 obtain⟨lo,hi,en,E⟩:=aes (st:=b8) (bg hB nb) d0 G.rC.ok.pZ G.rC.ok.wz G.rC.rows
 have sM:1<=lo:=by have:=E.least;have:=G.rC.low;lia
 obtain⟨_,cf,l1,⟨y,_⟩⟩:=lI (λ(i:Nat)=>.int (i:Int)) (GH lo hi (B++C).length ms) (step:=lp zI zJ) (st:=b8)
  (P:=rB [some x0,some (.ab k),some (.bool b),some (.lst (aJ B)),some (gV entry (cu B aj aq)),some (.lst ((cW B s nm ag).map fZ)),some (.lst (aJ (B++C))),some (.lst (ms.map λ(i:Nat)=>.int (i:Int))),some (.tup [.int lo,.int hi])])
  (λj n σ st hn hp=>by obtain⟨x9,st⟩:=hp;exact aey G.rC E (bg hz nb)) ⟨none,b8⟩
 obtain⟨kO,gx,Q3,E2,Q4⟩:Q2 B s ag cf:=by
  rcases Nat.eq_zero_or_pos ag with h0 | h0
  .subst h0
   exact⟨52,52,aeu (bg hB nb) d0 G.sym.ok.pZ G.sym.ok.Ai cf,.inl ⟨rfl,rfl,rfl⟩,by decide⟩
  .obtain⟨kO,gx,e,T⟩:=aev (st:=cf) (bg hB nb) d0 G.sym.ok.pZ G.sym.ok.Ai h0 G.sym.rows λk hk h2=>(G.sym.ok.link k hk h2).1
   exact⟨kO,gx,e,.inr ⟨h0,T⟩,by have:=T.least;have:=G.sym.low h0;lia⟩
 obtain⟨_,cM,l2,⟨y2,_⟩⟩:=lI (λ(i:Nat)=>.int (i:Int)) (GH kO gx (B++C).length ms) (step:=lp zM zN) (st:=cf)
  (P:=rB [some x0,some (.ab k),some (.bool b),some (.lst (aJ B)),some (gV entry (cu B aj aq)),some (.lst ((cW B s nm ag).map fZ)),some (.lst (aJ (B++C))),some (.lst (ms.map λ(i:Nat)=>.int (i:Int))),some (.tup [.int kO,.int gx])])
  (λj n σ st hn hp=>by obtain⟨x9,st⟩:=hp;exact aez G.sym d0 E2 (bg hz nb)) ⟨y,cf⟩
 have ln:=kL (V:=aJ (B++C)) (by rw[i6];exact L1 [(B++C).length] 0xf424a5fa0010000007fa04a hz)
 have a3:=λl h:Nat=>mH (a:=[.int ((l-1:Nat):Int),.int (h:Int),.int ((aJ (B++C)).length:Int)]) (b:=ms.map λ(i:Nat)=>.int (i:Int)) (by rw[aG];show 3+_<=_;exact L1 [ms.length] 0x3a0010000007fa03a94a Ax)
 have it:=λl h:Nat=>fi (V:=(GH l h (aJ (B++C)).length ms).map λ(i:Nat)=>.int (i:Int)) (by rw[aG];show _+1+1+1<=_;exact L1 [ms.length] 0x3a0010000007fa1a1a1a09994a Ax)
 rw[<- i6] at l1 l2
 have r3:ij [.int ((cond b 3 0:Nat):Int)] bW=_:=fY (n:=cond b 3 0) (by cases b <;> decide) bW
 cases b with
 |true=>exact⟨cM,sD q1<|pD sl<|pD ad<|sL r3<|sL dn<|sD en<|pD (iW sM)<|pD ln<|pD (a3 lo hi)<|pL (it lo hi)<|sF l1<|sD Q3<|pD (iW Q4)<|pD ln<|pD (a3 kO gx)<|pL (it kO gx)<|sF l2⟩
 |false=>exact⟨cM,sD q1<|pD sl<|pD ad<|sL r3<|sL dn<|sD en<|pD (iW sM)<|pD ln<|pD (a3 lo hi)<|pL (it lo hi)<|sF l1<|sD Q3<|pD (iW Q4)<|pD ln<|pD (a3 kO gx)<|pL (it kO gx)<|sF l2⟩
theorem aeE(HW:QX)(HL:QY):F7:=by
 intro ns hn
 obtain⟨lA,e0,sd⟩:=aeD hn
 have it:∀st,tE (.arr (ns.map D.int)) st=.ok (ns.map D.int) st:=λst=>ax (by rw[aG];exact bg hn nb)
 have cp:=iZ (z:=PF) (σ:=[some (.arr (ns.map D.int)),none,none,none,none,none,none,none,none,none]) (st:=lA) D.int (λi=>.int ((i.natAbs:Nat):Int)) (λi=>[some (.int i)]) ns λi J=>⟨rfl,rfl,pD (wH i)⟩
 have sm:=QI (ns:=ns.map Int.natAbs)
 rw[map_map] at sm
 by_cases hm:1<(ns.map Int.natAbs).sum
 .obtain⟨d,bW,hd,q1,p6,_,_⟩:=cJ 2 sd
  by_cases qv:d=0
  .obtain⟨B,aj,aq,entry,s,ag,nm,ao,e,G,wI⟩:=HW bW 0 p6
   obtain⟨rE,e'⟩:=GI (x0:=.arr (ns.map D.int)) (b:=true) G wI
   exact⟨rE,bp (sD e0<|pL it<|sL cp<|pD sm<|pD (jo (b:=1) hm)<|sD q1<|pD (eqT (b:=0) qv)<|sD e<|sX e')⟩
  .obtain⟨B,aj,aq,entry,s,ag,nm,ao,e,G,wI⟩:=HL bW 0 true p6
   obtain⟨rE,e'⟩:=GI (x0:=.arr (ns.map D.int)) (b:=true) G wI
   exact⟨rE,bp (sD e0<|pL it<|sL cp<|pD sm<|pD (jo (b:=1) hm)<|sD q1<|pD (mG (b:=0) qv)<|sD e<|sX e')⟩
 .obtain⟨B,aj,aq,entry,s,ag,nm,ao,e,G,wI⟩:=HL lA 0 false (sd.le (zero_le _))
  obtain⟨rE,e'⟩:=GI (x0:=.arr (ns.map D.int)) (b:=false) G wI
  exact⟨rE,bp (sD e0<|pL it<|sL cp<|pD sm<|pD (iU (b:=1) hm)<|sD e<|sX e')⟩
theorem dQ(l:List Nat){d}(h:d<l.length)(I:l.length<=1000000000:=by exact nb)(st:List M):iK (.lst (l.map λ(n:Nat)=>.int (n:Int))) (.int (d:Int)) st=.ok (.int ((l.getD d 0:Nat):Int)) st:=
 uh (by rw[getElem?_map,c8 h,eJ,c8 h];rfl) (by rw[aG];exact I) st
theorem js{p:Nat->Prop}{l:List Nat}(h:∀x∈l,p x){i:Nat}(hi:i<l.length):p (l.getD i 0):=by rw[eJ,c8 hi];exact h _ (getElem_mem hi)
structure Span where
 a:Nat
 c:Nat
 s:Nat
 r:Nat
noncomputable def Span.d(p:Span):D:=.tup [.int p.a,.int p.c,.int p.s,.int p.r]
inductive p7:List Span->Nat->Prop where
 |nil (e:Nat):p7 [] e
 |snoc {l:List Span} {e e':Nat} {p:Span}:p7 l e->e<=p.a->p.a+p.s<=e'->p7 (l++[p]) e'
structure uo(L:List Span)(bN base e i:Nat):Prop where
 asc:p7 L e
 len:L.length=i
 each:∀p∈L,p.c<=p.s/\p.c<=10/\p.r<8/\base<=p.a
 end_:e<=base+36*i
 bN:∀p,L[bN]?=some p->4<=p.s/\p.r%2=1
 base:base<=e
theorem uo.more{L}{bN base e i g c w r}(S:uo L bN base e i)(hg:g<=13)(hc:c<=10)(hcw:c<=w)(hw:w<=23)(hr:r<8)(hh:i=bN->4<=w/\r%2=1):uo (L++[⟨e+g,c,w,r⟩]) bN base (e+g+w) (i+1):=by
 have:=S.end_;have:=S.base
 refine⟨.snoc S.asc (fN ..) (dC _),by rw[aW,S.len];rfl,λp hp=>?_,by lia,λp hp=>?_,L1 [base,e,g,w] 1100352163914 this⟩
 .rcases cy.mp hp with hp | hp
  .exact S.each p hp
  .cases dT.mp hp
   exact⟨hcw,hc,hr,by show base<=e+g;exact L1 [base,e,g] 4297166922 this⟩
 .rw[List.getElem?_append,S.len] at hp
  split at hp
  .exact S.bN p hp
  .cases dT.mp (cU hp)
   have:=(bH.mp hp).1
   exact hh (by rw[length_singleton] at this;lia)
inductive Ay(k h aq bN base n:Nat)(x9:Option D)(i:Nat):List (Option D)->List M->Prop
 |mk (L:List Span) (e:Nat) (x5 x6 x7 x8:Option D) (st:List M) (sd:bX st k (n+4*i)) (hh:st[h]?=some (.list (L.map Span.d))) (S:uo L bN base e i):Ay k h aq bN base n x9 i [some (.ab k),some (.int aq),some (.int bN),some (.int e),some (.ab h),x5,x6,x7,x8,x9] st
theorem aeF(a b:Nat)(st:List M):vp [.int ((0:Nat):Int),.int ((a:Int)-(b:Int))] st=.ok (.int ((a-b:Nat):Int)) st:=aw (λz=>Res.ok (D.int z) st) (by split <;> lia)
theorem aeG{k h aq bN base n i:Nat}{x9:Option D}{σ:List (Option D)}{st:List M}(bq:h≠k)(hn:n<=900000)(hi:i<=100)(hp:Ay k h aq bN base n x9 i σ st):fM (lp FG FH) (.int (i:Int)) σ st (Ay k h aq bN base n x9 (i+1)):=by
 obtain⟨L,e,x5,x6,x7,x8,_,sd,hh,S⟩:=hp
 have I:(L.map Span.d).length<=16777216:=by rw[aG,S.len];exact bg hi nb
 obtain⟨d1,bW,l1,q1,s1,f1,_⟩:=cJ 4 sd
 obtain⟨d2,b8,l2,q2,s2,f2,_⟩:=cJ 14 s1
 obtain⟨d3,cf,l3,q3,s3,f3,_⟩:=cJ 4 s2
 have h3:=(f3 h bq).trans ((f2 h bq).trans ((f1 h bq).trans hh))
 have b1:[0,0,4,13].getD d1 0<=13:=js (p:=(·<=13)) (by decide) l1
 have b3:[0,5,0,9].getD d3 0<=9:=js (p:=(·<=9)) (by decide) l3
 have go:=λ(w r:Nat) rE hx=>cR (k:=FG) (X:=FH) (x:=.int (i:Int)) (σ:=[some (.ab k),some (.int aq),some (.int bN),some (.int e),some (.ab h),x5,x6,x7,x8,x9]) (st:=st)
  (R:=.ok (.next,[some (.ab k),some (.int aq),some (.int bN),some (.int (e+[0,0,4,13].getD d1 0+w:Nat)),some (.ab h),some (.int i),some (.int (d2-3:Nat)),some (.int w),some (.int r),x9]) rE)
  (σ':=[some (.ab k),some (.int aq),some (.int bN),some (.int e),some (.ab h),some (.int i),x6,x7,x8,x9]) (sD q1<|pD (dQ [0,0,4,13] l1)<|sD q2<|pD (wm (d2:Int) (3:Nat))<|pD (aeF d2 3)<|sD q3<|pD (dQ [0,5,0,9] l3) hx)
 have ap:=λr (cM:List M) (h4:cM[h]?=some (.list (L.map Span.d))) w=>kM (d:=Span.d ⟨e+[0,0,4,13].getD d1 0,d2-3,w,r⟩) h4 I
 have ls:=λr (cM:List M) (h4:cM[h]?=some (.list (L.map Span.d))) w=>show(cM.set h (.list (L.map Span.d++[Span.d ⟨e+[0,0,4,13].getD d1 0,d2-3,w,r⟩])))[h]?=some (.list ((L++[(⟨e+[0,0,4,13].getD d1 0,d2-3,w,r⟩:Span)]).map Span.d)) from(dP h4).trans (by rw[eV];rfl)
 have mo:=λr w=>S.more (g:=[0,0,4,13].getD d1 0) (c:=d2-3) (w:=w) (r:=r) b1 (by lia)
 have sl:=λ(cM:List M)(s4:bX cM k (n+4*i+1+1+1+1)) m=>show bX (cM.set h m) k (n+4*(i+1)) from s4.at (di bq)
 by_cases ih:i=bN
 .obtain⟨d4,cM,l4,q4,s4,f4,_⟩:=cJ 3 s3
  have h4:=(f4 h bq).trans h3
  have b4:=js (p:=λr=>r<8/\r%2=1) (l:=[5,7,1]) (by decide) l4
  exact .next trivial _ _ (go (d2-3+[0,5,0,9].getD d3 0+4*1) ([5,7,1].getD d4 0) _<|pD (eqT ih)<|pD (f:=tz [.bool true]) (d:=.int (1:Nat)) (λJ=>rfl)<|pD (eqT ih)<|sD q4<|pD (dQ [5,7,1] l4)<|sB (iY h4)<|sD (ap ([5,7,1].getD d4 0) cM h4 (d2-3+[0,5,0,9].getD d3 0+4*1)))
   ⟨_,_,_,_,_,_,_,sl cM s4 _,ls _ _ h4 _,mo _ _ (L0 [d2-3,[0,5,0,9].getD d3 0] 1806856458313) (by lia) b4.1 λJ=>⟨L0 [d2-3,[0,5,0,9].getD d3 0] 28909703350857,b4.2⟩⟩
 .obtain⟨d4,cM,l4,q4,s4,f4,_⟩:=cJ 8 s3
  have h4:=(f4 h bq).trans h3
  exact .next trivial _ _ (go (d2-3+[0,5,0,9].getD d3 0+4*0) d4 _<|pD (mG ih)<|pD (f:=tz [.bool false]) (d:=.int (0:Nat)) (λJ=>rfl)<|pD (mG ih)<|sD q4<|sB (iY h4)<|sD (ap d4 cM h4 (d2-3+[0,5,0,9].getD d3 0+4*0)))
   ⟨_,_,_,_,_,_,_,sl cM s4 _,ls _ _ h4 _,mo _ _ (L0 [d2-3,[0,5,0,9].getD d3 0] 707344830537) (L3 [d2-3,[0,5,0,9].getD d3 0,d2] 0x2009a10ea21172fa0a4b10994c l2 b3 (sub_le d2 3)) l4 λh=>absurd h ih⟩
noncomputable def mK(p:Span):List Nat:=((List.range p.s).map (p.a + ·)).filter (· % 4==0)
theorem aeH(a n:Nat):jm (a:Int) ((a:Int)+(n:Int))=((List.range n).map (a + ·)).map λ(i:Nat)=>D.int (i:Int):=by
 unfold jm
 rw[show((a:Int)+(n:Int)-(a:Int)).toNat=n by lia,map_map]
 rfl
theorem aeI{a n:Nat}(h:n<=16777216)(Y:a+n<=8589934592)(st:List M):ij [.int (a:Int),.int ((a:Int)+(n:Int))] st=.ok (((List.range n).map (a + ·)).map λ(i:Nat)=>D.int (i:Int)) st:=by rw[<- aeH];exact ax ⟨by lia,by lia,by lia⟩
theorem aeJ{p}{x}(h:x∈mK p):x%4=0/\p.a<=x/\x<p.a+p.s:=by
 obtain⟨h1,h2⟩:=mem_filter.mp h
 obtain⟨i,hi,rfl⟩:=da.mp h1
 exact⟨beq_iff_eq.mp h2,fN ..,Nat.add_lt_add_left (mem_range.mp hi) _⟩
theorem aeK{p}(h:4<=p.s):0<(mK p).length:=
 List.length_pos_of_mem (a:=p.a+(4-p.a%4)%4) (mem_filter.mpr ⟨da.mpr ⟨(4-p.a%4)%4,mem_range.mpr (L2 [(4-p.a%4)%4,p.s] 81368501456987 h (ml (4-p.a%4) 3)),rfl⟩,beq_iff_eq.mpr (by lia)⟩)
theorem p7.le{L}{e}(A:p7 L e){p}(hp:p∈L):p.a+p.s<=e:=by
 induction A with
 |nil=>nomatch hp
 |snoc a h1 h2 ih=>
  rcases cy.mp hp with hp | hp
  .exact bg (ih hp) (bg h1 (bg (fN ..) h2))
  .cases dT.mp hp;exact h2
inductive Q5(R:Res D)(k n aq:Nat):Prop
 |mk (L:List Span) (entry bN base e:Nat) (p:Span) (st:List M) (eq:R=.ok (.tup [.lst (L.map Span.d),.int entry]) st) (sd:bX st k (n+20)) (lt:bN<aq) (S:uo L bN base e aq) (b:base<=4294966996) (m:entry%4=0) (at_:L[bN]?=some p) (h1:p.a<=entry) (h2:entry<p.a+p.s):Q5 R k n aq
theorem GK{k n aq:Nat}{st:List M}(sd:bX st k n)(hn:n<=700000)(hm:1<=aq)(fX:aq<=4):Q5 (FI [.ab k,.int aq] st) k n aq:=by
 obtain⟨bN,bW,l1,q1,s1,f1,n1⟩:=cJ aq sd (L1 [n] 0xaae605fa00f42405fa04a hn) hm (L1 [aq] 0x4a001000000000000000011e05a fX)
 obtain⟨d2,b8,l2,q2,s2,f2,n2⟩:=cJ 4 s1
 have cD:k<b8.length:=by rw[n2,n1];obtain⟨s,hk,_⟩:=sd;exact(bH.mp hk).1
 have b2:[64,0,2^31-20,2^32-300].getD d2 0<=4294966996:=js (p:=(·<=4294966996)) (by decide) l2
 have pb:=dQ [64,0,2^31-20,2^32-300] l2
 generalize[64,0,2^31-20,2^32-300].getD d2 0=base at pb b2
 obtain⟨_,cf,lo,⟨L,e,x5,x6,x7,x8,_,s3,h3,S⟩⟩:=uj (λ(i:Nat)=>.int (i:Int)) aq (P:=Ay k b8.length aq bN base (n+2) none) (λj σ st hj=>aeG (gj cD) (L1 [n] 0xaae605fa00dbba05fa2a094a hn) (L2 [j,aq] 72420503275413579 fX hj)) (.mk [] base none none none none (b8++[.list []]) (s2.at (dH cD)) jq ⟨.nil _,rfl,(λJ h=>nomatch h),dC _,(λJ h=>nomatch h),dC _⟩)
 obtain⟨p,hp⟩:∃p,L[bN]?=some p:=⟨_,c8 (by rw[S.len];exact l1)⟩
 have Q6:=cU hp
 have GL:=S.asc.le Q6
 have hps:=(S.bN p hp).1
 have GN:=S.end_
 have Q7:=(S.each p Q6).2.2.2
 have s4:bX (cf.set b8.length .gone) k (n+2+4*aq):=s3.at (di (gj cD))
 have fz:=lG h3
 have it:=uh (V:=L.map Span.d) (i:=bN) (d:=p.d) (by rw[getElem?_map,hp];rfl) (by rw[aG,S.len];exact L1 [aq] 0x4a003b9aca008fa04a fX)
 have cp:=λst=>og (z:=OP) (σ:=[some (.ab k),some (.int aq),some (.int bN),some (.int e),some (.lst (L.map Span.d)),x5,x6,x7,x8,none]) (st:=st) (λ(i:Nat)=>.int (i:Int)) (λ(i:Nat)=>.int (i:Int)) (· % 4==0) (λi=>[some (.int i)]) ((List.range p.s).map (p.a + ·))
  λi J=>⟨rfl,pD (kb (b:=4) (by decide) i)<|pD (Ak (i%4) 0),λJ=>rfl⟩
 have sl:(mK p).length<=1000:=bg (length_filter_le ..) (by rw[aG,eU];exact L4 [p.s,aq,p.a,e,base] 0x2401242fb4930302904a1242f63e83fa04d fX GL GN Q7)
 obtain⟨d5,ki,l5,q5,s5,_,_⟩:=cJ (mK p).length s4 (L2 [n,aq] 0x4a146aae605fa00f42405fa14b2a0994b hn fX) (aeK hps) (L1 [(mK p).length] 0x3e83fa001000000000000000011e05a sl)
 have pk:=dQ (mK p) l5 (bg sl nb)
 have sm:=aeJ (js (p:=(·∈mK p)) (λJ h=>h) l5)
 have ln:=kL (V:=(mK p).map λ(i:Nat)=>D.int (i:Int)) (by rw[aG];exact L1 [(mK p).length] 0x3e83fa0010000007fa04a sl)
 rw[aG] at ln
 exact⟨L,(mK p).getD d5 0,bN,base,e,p,ki,bp (sD q1<|pD (n5 (a:=2) (b:=31) nb (by decide))<|pD (iW (a:=2^31) (b:=20) (by decide))<|pD (n5 (a:=2) (b:=32) nb (by decide))<|pD (iW (a:=2^32) (b:=300) (by decide))<|sD q2<|pD pb<|pL (fY (n:=aq) (L1 [aq] 0x4a0010000007fa04a fX))<|sF lo<|sD fz <|
  pD it<|pD it<|pD it<|pL (aeI (a:=p.a) (n:=p.s) (L4 [p.s,aq,p.a,e,base] 0x2401242fb4930302904a1242f610000007fa04d fX GL GN Q7) (L4 [p.a,p.s,aq,base,e] 0x2242fb394041090fffffed48fa304a2242f62000000009fa1094d fX b2 GL GN))<|pL cp<|pD ln<|sD q5<|pD pk),s5.le (L1 [n,aq] 0x4a146142fa091a14b2a09994a fX),l1,S,b2,sm.1,hp,sm.2.1,sm.2.2⟩
noncomputable abbrev aQ(l:List Nat):List D:=l.map λ(i:Nat)=>.int (i:Int)
theorem jR(l):(aQ l).length=l.length:=aG _
structure wJ(N:Nat)(dg r:Nat->Nat):Prop where
 lt:∀i,i<N->dg i<N
 back:∀q,q<N->r q<N/\dg (r q)=q
 inv:∀i,i<N->r (dg i)=i
theorem uq{N:Nat}(h:0<N)(x):((x%(N:Int)).toNat:Int)=x%N:=Int.toNat_of_nonneg (Int.emod_nonneg _ (Int.ne_of_gt (ofNat_lt.mpr h)))
theorem Q8(a c b N:Int):(a+c*(b%N))%N=(a+c*b)%N:=by rw[Int.add_emod,Int.mul_emod,Int.emod_emod,<- Int.mul_emod,<- Int.add_emod]
theorem Q9{q N:Nat}(h:q<N):(q:Int)%N=q:=Int.emod_eq_of_lt (iy _) (ofNat_lt.mpr h)
theorem aeL{N t:Nat}{c:Int}(h:0<N)(hc:c*c=1):wJ N (λi=>(((t:Int)+c*(i:Int))%N).toNat) (λq=>((-(c*t)+c*(q:Int))%N).toNat):=by
 have lt:=λx:Int=>ofNat_lt.mp ((uq h x).symm▸Int.emod_lt_of_pos x (ofNat_lt.mpr h))
 refine⟨λi J=>lt _,λq hq=>⟨lt _,Int.ofNat.inj ?_⟩,λi hi=>Int.ofNat.inj ?_⟩
 .show((((t:Int)+c*(((-(c*t)+c*(q:Int))%N).toNat:Int))%(N:Int)).toNat:Int)=q
  rw[uq h,uq h,Q8,Int.mul_add,Int.mul_neg,<- Int.mul_assoc,<- Int.mul_assoc,hc,Int.one_mul,Int.one_mul,<- Int.add_assoc,Int.add_right_neg,Int.zero_add,Q9 hq]
 .show(((-(c*t)+c*((((t:Int)+c*(i:Int))%N).toNat:Int))%(N:Int)).toNat:Int)=i
  rw[uq h,uq h,Q8,Int.mul_add,<- Int.mul_assoc,hc,Int.one_mul,<- Int.add_assoc,Int.add_left_neg,Int.zero_add,Q9 hi]
inductive Way(N t:Nat)(d:D):Prop
 |mk (ah:Int) (dg r:Nat->Nat) (e:d=.int ah) (h:ah.natAbs<18446744073709551616) (T:wJ N dg r) (m:∀(i:Nat) st,pG (.int ((t:Int)+ah*(i:Int))) (.int (N:Int)) st=.ok (.int (dg i:Int)) st):Way N t d
theorem Way.of{N t:Nat}(h:0<N)(c)(hc:c*c=1)(hz:c.natAbs<18446744073709551616):Way N t (.int c):=
 ⟨c,_,_,rfl,hz,aeL h hc,λi st=>(n0 (ofNat_lt.mpr h) _ st).trans (by rw[Int.fmod_eq_emod_of_nonneg _ (iy _),uq h])⟩
theorem aeM{N t d:Nat}(h:0<N)(hd:d<2):∃x,Way N t x/\∀st,iK (.lst [.int 1,.int (-1)]) (.int (d:Int)) st=.ok x st:=
 match d,hd with
 |0,_=>⟨_,.of h 1 rfl (by decide),λJ=>rfl⟩
 |1,_=>⟨_,.of h (-1) rfl (by decide),λJ=>rfl⟩
structure ur(S:List Nat)(r:Nat->Nat)(az:Nat)(Pl:List Nat)(e i:Nat):Prop where
 len:Pl.length=S.length
 each:∀q,q<S.length->r q<i->52<=Pl.getD q 0/\Pl.getD q 0+S.getD q 0<=e
 apart:∀q q',q<S.length->q'<S.length->r q<r q'->r q'<i->Pl.getD q 0+S.getD q 0<=Pl.getD q' 0
 low:52<=e
 high:e<=56+i*(az+3)
theorem aeN{l:List Nat}{p q v:Nat}(h:p≠q):(l.set p v).getD q 0=l.getD q 0:=by rw[eJ,eJ,di h]
theorem aeO{l:List Nat}{p v:Nat}(h:p<l.length):(l.set p v).getD p 0=v:=by rw[eJ,getElem?_set_self h];rfl
theorem ur.step{S:List Nat}{dg r:Nat->Nat}{az e i g:Nat}{Pl:List Nat}(H:ur S r az Pl e i)(T:wJ S.length dg r)(hi:i<S.length)(hc:∀q,S.getD q 0<=az)(hg:g<4) :
  ur S r az (Pl.set (dg i) e) (e+S.getD (dg i) 0+g) (i+1):=by
 have hs:=T.lt i hi
 have hr:=T.inv i hi
 have hx:=hc (dg i)
 have hh:=H.high
 have sf:=aeO (v:=e) (H.len.symm▸hs:dg i<Pl.length)
 have at_:∀q,q<S.length->r q<i+1->(q=dg i/\r q=i)\/((Pl.set (dg i) e).getD q 0=Pl.getD q 0/\r q<i):=λq hq h=>by
  by_cases z:dg i=q
  .exact .inl ⟨z.symm,z▸hr⟩
  .refine .inr ⟨aeN z,Nat.lt_of_le_of_ne (le_of_lt_succ h) λk=>z ?_⟩
   rw[<- k];exact(T.back q hq).2
 refine⟨et.trans H.len,λq hq h=>?_,λq q' hq pN h Y=>?_,by have:=H.low;exact L1 [e,S.getD (dg i) 0,g] 0x342fa021099342fa4a this,by rw[Nat.succ_mul];exact L3 [e,S.getD (dg i) 0,g,i*(az+3),az] 0x3382fa9004104a213a4939382fa9210994c hg hx hh⟩
 .rcases at_ q hq h with⟨rfl,_⟩ | ⟨z,k⟩
  .rw[sf];have:=H.low;exact⟨L1 [e] 0x342fa00342fa4a this,L0 [e,S.getD (dg i) 0,g] 141894420809⟩
  .rw[z];have:=H.each q hq k;exact⟨L1 [Pl.getD q 0] 0x342fa00342fa4a this.1,L1 [Pl.getD q 0,S.getD q 0,e,S.getD (dg i) 0,g] 0x21090432991094a this.2⟩
 .rcases at_ q hq (L2 [r q,i,r q'] 0x1a19212011a1905b h Y) with⟨rfl,k⟩ | ⟨z,k⟩
  .exact L3 [(Pl.set (dg i) e).getD (dg i) 0,S.getD (dg i) 0,(Pl.set (dg i) e).getD q' 0,r (dg i),i,r q'] 0x5311a495143321090ac hr Y h
  .rw[z]
   rcases at_ q' pN Y with⟨rfl,k'⟩ | ⟨z',k'⟩
   .rw[sf];exact(H.each q hq k).2
   .rw[z'];exact H.apart q q' hq pN h k'
structure kP(S Pl:List Nat)(last az:Nat):Prop where
 len:Pl.length=S.length
 each:∀q,q<S.length->52<=Pl.getD q 0/\Pl.getD q 0+S.getD q 0<=last
 apart:∀q q',q<S.length->q'<S.length->q≠q'->Pl.getD q 0+S.getD q 0<=Pl.getD q' 0\/Pl.getD q' 0+S.getD q' 0<=Pl.getD q 0
 high:last<=56+S.length*(az+3)
theorem ur.places{S}{dg r}{az e}{Pl}(H:ur S r az Pl e S.length)(T:wJ S.length dg r):kP S Pl e az:=by
 refine⟨H.len,λq hq=>H.each q hq (T.back q hq).1,λq q' hq pN bq=>?_,H.high⟩
 have b:=T.back q hq
 have b':=T.back q' pN
 rcases Nat.lt_trichotomy (r q) (r q') with z | z | z
 .exact .inl (H.apart q q' hq pN z b'.1)
 .exact absurd (b.2.symm.trans ((aw dg z).trans b'.2)) bq
 .exact .inr (H.apart q' q pN hq z b.1)
inductive Az(k h:Nat)(S:List Nat)(eY:Nat)(ah:Int)(r:Nat->Nat)(az n i:Nat):List (Option D)->List M->Prop
 |mk (Pl:List Nat) (e:Nat) (x6 x7:Option D) (st:List M) (sd:bX st k (n+i)) (hh:st[h]?=some (.list (aQ Pl))) (P:ur S r az Pl e i):Az k h S eY ah r az n i [some (.ab k),some (.lst (aQ S)),some (.int (eY:Int)),some (.int ah),some (.int (e:Int)),some (.ab h),x6,x7] st
theorem us{l}(h:l.length<=16777216)(st):pM [.lst (aQ l)] st=.ok (.int (l.length:Int)) st:=(kL (by rw[jR];exact h) st).trans (by rw[jR])
theorem aeP{st:List M}{h p v:Nat}{l:List Nat}(hh:st[h]?=some (.list (aQ l)))(hp:p<l.length)(hz:l.length<=1000000000):tA (.int (v:Int)) (.ab h) (.int (p:Int)) st=.ok () (st.set h (.list (aQ (l.set p v)))):=
 (wn (.int (v:Int)) hh (by rw[jR];exact hp) (by rw[jR];exact hz)).trans (aw (λz=>Res.ok () (st.set h (.list z))) map_set.symm)
theorem aeQ{k h eY n az i:Nat}{S:List Nat}{ah:Int}{dg r:Nat->Nat}{σ:List (Option D)}{st:List M}(bq:h≠k)(hn:n<=900000)(hS:S.length<=100)(hi:i<S.length)(hc:∀q,S.getD q 0<=az)(ha:ah.natAbs<18446744073709551616)(T:wJ S.length dg r)
  (m:∀(i:Nat) st,pG (.int ((eY:Int)+ah*(i:Int))) (.int (S.length:Int)) st=.ok (.int (dg i:Int)) st)(hp:Az k h S eY ah r az n i σ st):fM (lp OW OX) (.int (i:Int)) σ st (Az k h S eY ah r az n (i+1)):=by
 obtain⟨Pl,e,x6,x7,_,sd,hh,P⟩:=hp
 have hs:=T.lt i hi
 have si:=aeP (v:=e) hh (P.len.symm▸hs) (by rw[P.len];exact L1 [S.length] 0x642fa003b9aca008fa04a hS)
 have p6:bX (st.set h (.list (aQ (Pl.set (dg i) e)))) k (n+i):=sd.at (di bq)
 have h1:=dP (m:=.list (aQ (Pl.set (dg i) e))) hh
 obtain⟨g,b8,l2,q2,s2,f2,_⟩:=cJ 4 p6
 exact .next trivial _ _ (cR (σ':=[some (.ab k),some (.lst (aQ S)),some (.int (eY:Int)),some (.int ah),some (.int (e:Int)),some (.ab h),some (.int (i:Int)),x7])
  (R:=.ok (.next,[some (.ab k),some (.lst (aQ S)),some (.int (eY:Int)),some (.int ah),some (.int (e+S.getD (dg i) 0+g:Nat)),some (.ab h),some (.int (i:Int)),some (.int (dg i:Int))]) b8)
  (pD (PK ha (i:Int))<|pD (us (l:=S) (bg hS nb))<|pD (m i)<|sU si<|pD (dQ S hs (bg hS nb))<|sD q2)) ⟨_,_,_,_,_,s2,(f2 h bq).trans h1,P.step T hi hc l2⟩
inductive Ra(R:Res D)(S:List Nat)(az k n:Nat):Prop
 |mk (Pl:List Nat) (last:Nat) (st:List M) (e:R=.ok (.tup [.lst (aQ Pl),.int (last:Int)]) st) (sd:bX st k n) (P:kP S Pl last az):Ra R S az k n
theorem Rb:∀n,(List.replicate n [D.int 0]).flatten=aQ (List.replicate n 0)
 |0=>rfl
 |n+1=>aw (D.int 0 :: ·) (Rb n)
theorem aeR{n:Nat}(h:n<=16777216)(st):D0 (.lst [.int 0]) (.int (n:Int)) st=.ok (.ab st.length) (st++[.list (aQ (List.replicate n 0))]):=
 (ax (c:=yo [.int 0] (n:Int)) ⟨by show 1*(n:Int).toNat<=16777216;lia,by lia⟩).trans (by unfold yn;rw[toNat_natCast,Rb])
theorem aeS{k n az:Nat}{S:List Nat}{st:List M}(sd:bX st k n)(hn:n<=700000)(hN:0<S.length/\S.length<=100)(hc:∀q,S.getD q 0<=az):Ra (zr [.ab k,.lst (aQ S)] st) S az k (n+3+S.length):=by
 obtain⟨eY,bW,l1,q1,s1,f1,n1⟩:=cJ S.length sd (L1 [n] 0xaae605fa00f42405fa04a hn) hN.1 (L1 [S.length] 0x642fa001000000000000000011e05a hN.2)
 obtain⟨d2,b8,l2,q2,s2,f2,n2⟩:=cJ 2 s1
 obtain⟨d3,cf,l3,q3,s3,f3,n3⟩:=cJ 5 s2
 obtain⟨_,⟨ah,dg,r,rfl,ha,T,m⟩,pk⟩:=aeM hN.1 l2
 have cD:k<cf.length:=by obtain⟨s,hk,_⟩:=s3;exact(bH.mp hk).1
 have hz:=bg hN.2 (nb (b:=16777216))
 obtain⟨_,cM,lo,⟨Pl,e,x6,x7,_,s4,h4,P⟩⟩:=uj (λ(i:Nat)=>.int (i:Int)) S.length (P:=Az k cf.length S eY ah r az (n+3)) (λj σ st hj hp=>aeQ (gj cD) (L1 [n] 0xaae605fa00dbba05fa3a094a hn) hN.2 hj hc ha T m hp)
  (.mk (List.replicate S.length 0) (52+d3) none none (cf++[.list (aQ (List.replicate S.length 0))]) (s3.at (dH cD)) jq ⟨gY,(λJ J h=>nomatch h),(λJ J J J J h=>nomatch h),fN ..,L1 [d3,az] 0x5a013a190b382fa90342fa94a l3⟩)
 exact⟨Pl,e,cM.set cf.length .gone,bp (pD (us hz)<|sD q1<|sD q2<|pD pk<|sD q3<|pD (us hz)<|sD (aeR hz cf)<|pD (us hz)<|pL (fY (n:=S.length) hz)<|sF lo<|sD (lG h4)),s4.at (di (gj cD)),P.places T⟩
noncomputable def om{α:Type}(f:Nat->α->List dL):Nat->List α->List dL
 |_,[]=>[]
 |i,a::l=>f i a++om f (i+1) l
section
variable{α:Type}{f:Nat->α->List dL}{l:List α}{i:Nat}{t:dL}
theorem GO(a:α):om f i (l++[a])=om f i l++f (i+l.length) a:=by
 induction l generalizing i with
 |nil=>exact c9 _
 |cons b l ih=>exact(aw (f i b++·) (ih (i:=i+1))).trans (by rw[succ_add_eq_add_succ];exact(dG ..).symm)
theorem GP{j}{a}(h:l[j]?=some a)(ht:t∈f (i+j) a):t∈om f i l:=by
 induction l generalizing i j with
 |nil=>nomatch h
 |cons b l ih=>cases j with
  |zero=>cases h;exact fP _ ht
  |succ j=>exact cA _ (ih (i:=i+1) (j:=j) h (by rwa [succ_add_eq_add_succ]))
theorem AA(ht:t∈om f i l):∃j a,l[j]?=some a/\t∈f (i+j) a:=by
 induction l generalizing i with
 |nil=>nomatch ht
 |cons b l ih=>
  rcases cy.mp ht with h | h
  .exact⟨0,b,rfl,h⟩
  .obtain⟨j,a,h1,h2⟩:=ih h
   exact⟨j+1,a,h1,by rwa [succ_add_eq_add_succ] at h2⟩
theorem GQ(h1:∀j a,l[j]?=some a->fy (f (i+j) a))(h2:∀j j' a a',j<j'->l[j]?=some a->l[j']?=some a'->∀t∈f (i+j) a,∀t'∈f (i+j') a',t'.off t.p t.n):fy (om f i l):=by
 induction l generalizing i with
 |nil=>exact .nil
 |cons b l ih=>
  refine(h1 0 b rfl).append (ih (λj a h=>succ_add_eq_add_succ i j▸h1 (j+1) a h) λj j' a a' q h Y=>?_) λt ht t' ei=>?_
  .rw[succ_add_eq_add_succ,succ_add_eq_add_succ];exact h2 (j+1) (j'+1) a a' (Nat.succ_lt_succ q) h Y
  .obtain⟨j,a,h,ei⟩:=AA ei
   rw[succ_add_eq_add_succ] at ei
   exact h2 0 (j+1) b a (Nat.succ_pos _) rfl h t ht t' ei
end
theorem fy.map{α:Type}{g:α->dL}{l:List α}(h:l.Pairwise λx y=>(g y).off (g x).p (g x).n):fy (l.map g):=by
 induction h with
 |nil=>exact .nil
 |cons h _ ih=>exact .cons (λt ht=>by obtain⟨y,hy,rfl⟩:=da.mp ht;exact h y hy) ih
def Holds(B:List UInt8)(PS:List dL):Prop:=∀t∈PS,le B t.p t.n=t.v%256^t.n
theorem aeT{B}{PS}(A:fy PS)(h:∀t∈PS,t.p+t.n<=B.length):Holds (cE B PS) PS:=λt ht=>P3 A t ht (h t ht)
inductive p8(R:Res (Fl×List (Option D)))(st:List M)(h:Nat)(B:List UInt8)(au:List (Option D)->Prop):Prop
 |mk (σ:List (Option D)) (i:au σ) (e:R=.ok (.next,σ) (st.set h (.list (aJ B)))):p8 R st h B au
theorem wK{α:Type}{step}{h}{au}(f:α->D)(g:α->dL)(l:List α){N}{σ}{st}{B}(i:au σ)(hh:st[h]?=some (.list (aJ B)))(hN:B.length=N)
  (hs:∀x∈l,∀σ st B,au σ->st[h]?=some (.list (aJ B))->B.length=N->p8 (step (f x) σ st) st h (jp B (g x).p (g x).v (g x).n) au):p8 (de step (l.map f) σ st) st h (cE B (l.map g)) au:=by
 induction l generalizing σ st B with
 |nil=>exact⟨σ,i,by rw[show cE B (List.map g [])=B from rfl,QL hh];rfl⟩
 |cons x l ih=>
  obtain⟨σ1,i1,e1⟩:=hs x (.head _) σ st B i hh hN
  obtain⟨σ2,i2,e2⟩:=ih i1 (dP (m:=.list (aJ (jp B (g x).p (g x).v (g x).n))) hh) (by rw[Gk];exact hN) λy hy=>hs y (.tail _ hy)
  exact⟨σ2,i2,(ui e1).trans (e2.trans (by rw[set_set];rfl))⟩
theorem GR{α:Type}(f:α->D)(l:List α)(i:Nat):nK i (l.map f)=(l.zipIdx i).map λx=>.tup [.int (x.2:Int),f x.1]:=by
 induction l generalizing i with
 |nil=>rfl
 |cons a l ih=>exact aw (D.tup [.int (i:Int),f a] :: ·) (ih (i+1))
theorem AB{V}(h:V.length<=16777216)(st):yc [.lst V] st=.ok (nK 0 V) st:=ax h
noncomputable def rF(p:Nat)(vs:List Nat):List dL:=vs.zipIdx.map λx=>⟨p+4*x.2,x.1,4⟩
theorem aeU{α:Type}(l:List α)(i:Nat):(l.zipIdx i).Pairwise λx y=>x.2<y.2:=by
 induction l generalizing i with
 |nil=>exact .nil
 |cons a l ih=>exact .cons (λy hy=>(List.mem_zipIdx hy).1) (ih (i+1))
theorem Rc{α:Type}{l:List α}{x:α×Nat}(h:x∈l.zipIdx):l[x.2]?=some x.1:=List.mem_zipIdx_iff_getElem?.mp h
theorem aeV{p j v:Nat}{vs:List Nat}(h:vs[j]?=some v):⟨p+4*j,v,4⟩∈rF p vs:=da.mpr ⟨(v,j),List.mem_zipIdx_iff_getElem?.mpr h,rfl⟩
theorem aeW(p:Nat)(vs:List Nat):fy (rF p vs):=.map ((aeU vs 0).imp fun{x y} h=>.inr (show p+4*x.2+4<=p+4*y.2 by exact L1 [p,x.snd,y.snd] 0x214724b094a14b0994a h))
theorem GS(p)(vs):z0 (rF p vs) p (p+4*vs.length):=λt ht=>by
 obtain⟨x,hx,rfl⟩:=da.mp ht
 have:=(bH.mp (Rc hx)).1
 exact⟨fN ..,show p+4*x.2+4<=_ by exact L1 [p,x.snd,vs.length] 0x214724b094a14b0994a this⟩
inductive bE where
 |jS (k:Nat)
 |seg (p:Span) (w hi al:Nat)
noncomputable def bE.words:bE->List Nat
 |.jS k=>[k]
 |.seg p w hi al=>[1,w,p.a,4294967295-p.a,p.c,p.s,p.r+hi,al]
noncomputable def bE.span?:bE->Option Span
 |.jS _=>none
 |.seg p _ _ _=>some p
noncomputable def bE.f7:bE->Option Nat
 |.jS _=>none
 |.seg _ w _ _=>some w
def bE.Ok(N:Nat):bE->Prop
 |.jS k=>k≠1/\k≠2/\k≠3/\k<4294967296
 |.seg p w hi al=>w+p.c<=N/\hi%8=0/\hi<=2147483656/\al<=16/\z4 w p.a al
noncomputable def lM(aj:Nat)(K:List bE):List dL:=om (λi x=>rF (aj+32*i) x.words) 0 K
noncomputable def kQ:Option Nat->Int
 |none=>-1
 |some q=>(q:Int)
noncomputable abbrev bR(O:List (Option Nat)):List D:=O.map λo=>.int (kQ o)
noncomputable def AC(a w al:Nat):Bool:=if al<2 then true else((a:Int)-(w:Int)).fmod (al:Int)==((0:Nat):Int)
noncomputable def lN(a w:Nat):List Nat:=[0,1,2,4,8,16].filter (AC a w)
theorem aeX{a w al}(h:al∈lN a w):al<=16/\z4 w a al:=by
 obtain⟨h1,h2⟩:=mem_filter.mp h
 have k:al<=16/\(al<2\/(al=2\/al=4\/al=8\/al=16)):=(show∀x∈[0,1,2,4,8,16],x<=16/\(x<2\/(x=2\/x=4\/x=8\/x=16)) by decide) al h1
 refine⟨k.1,?_⟩
 unfold AC at h2
 by_cases q:al<2
 .exact .inl (le_of_lt_succ q)
 .rw[aY q] at h2
  exact .inr ⟨k.2.resolve_left q,eq_of_beq h2⟩
theorem aeY{a w:Nat}{σ:List (Option D)}{st:List M}(h9:autoParam (dY [9,14] 1 σ=[some (.int (a:Int)),some (.int (w:Int)),none]) rl):zt.r σ (aQ [0,1,2,4,8,16]) st=.ok (aQ (lN a w)) st:=
 og (z:=zt) (σ:=σ) (st:=st) (λ(n:Nat)=>.int (n:Int)) (λ(n:Nat)=>.int (n:Int)) (AC a w) (λn=>[some (.int (a:Int)),some (.int (w:Int)),some (.int (n:Int))]) [0,1,2,4,8,16] λn hn=>by
  refine⟨(aw (λs=>zt.k.aO (.int (n:Int)) s) h9).trans (by kernel_rfl),?_,λJ=>by kernel_rfl⟩
  unfold AC
  by_cases q:n<2
  .rw[ax q];exact pD (uf (b:=2) q)
  .rw[aY q];exact pD (q7 (b:=2) q)<|pD (wm (a:Int) (w:Int))<|pD (n0 (y:=(n:Int)) (ofNat_lt.mpr (show 0<n from L1 [n] 11279534682 q)) ((a:Int)-(w:Int)))<|pD (Gc (((a:Int)-(w:Int)).fmod (n:Int)) ((0:Nat):Int)) (by generalize(((a:Int)-(w:Int)).fmod (n:Int)==((0:Nat):Int))=b;cases b <;> kernel_rfl)
inductive Re(x0:Option D)(h:Nat)(x2 x3 x4 x5 x6 x7:Option D)(p:Nat)(x9 aR bf bm x13 x14 x15 x16 x17:Option D):List (Option D)->Prop
 |mk (x18 x19:Option D):Re x0 h x2 x3 x4 x5 x6 x7 p x9 aR bf bm x13 x14 x15 x16 x17 [x0,some (.ab h),x2,x3,x4,x5,x6,x7,some (.int (p:Int)),x9,aR,bf,bm,x13,x14,x15,x16,x17,x18,x19]
theorem aeZ{x0:Option D}{h:Nat}{x2 x3 x4 x5 x6 x7:Option D}{p:Nat}{x9 aR bf bm x13 x14 x15 x16 x17 x18 x19:Option D}{vs:List Nat}{st:List M}{B:List UInt8}(hh:st[h]?=some (.list (aJ B)))(I:p+4*vs.length<=B.length)(hz:B.length<=16777216) :
  p8 (de (lp OZ O0) (nK 0 (aQ vs)) [x0,some (.ab h),x2,x3,x4,x5,x6,x7,some (.int (p:Int)),x9,aR,bf,bm,x13,x14,x15,x16,x17,x18,x19] st) st h (cE B (rF p vs)) (Re x0 h x2 x3 x4 x5 x6 x7 p x9 aR bf bm x13 x14 x15 x16 x17):=by
 rw[GR]
 refine wK (λ(x:Nat×Nat)=>.tup [.int (x.2:Int),.int (x.1:Int)]) (λx=>⟨p+4*x.2,x.1,4⟩) vs.zipIdx (.mk x18 x19) hh rfl λx hx σ st B' i hh hN=>?_
 obtain⟨Rf,Rg⟩:=i
 have hj:=(bH.mp (Rc hx)).1
 exact⟨_,.mk (some (.int (x.2:Int))) (some (.int (x.1:Int))),cR (σ':=[x0,some (.ab h),x2,x3,x4,x5,x6,x7,some (.int (p:Int)),x9,aR,bf,bm,x13,x14,x15,x16,x17,some (.int (x.2:Int)),some (.int (x.1:Int))]) (sD (wD (p:=p+4*x.2) (v:=x.1) (n:=4) hh (L3 [p,x.snd,B'.length,vs.length,B.length] 0x3147423434b09024a14b0994c I hN hj) (L2 [B'.length,B.length] 0x10210000007fa1010000007fa04b hz hN)))⟩
structure AD(p:Span):Prop where
 mem:p.a+p.s<=4294967296
 cs:p.c<=p.s
 bG:p.c<=10
 r:p.r<8
 a:p.a<=4294967295
 s:p.s<=4294967295
noncomputable abbrev rG(L:List Span)(O:List (Option Nat)):List (Option Span):=O.map λo=>o.bind (L[·]?)
inductive ut(k h hf aj:Nat)(B:List UInt8)(L:List Span)(O:List (Option Nat))(n i:Nat):List (Option D)->List M->Prop
 |mk (K:List bE) (x6 x7 x8 x9 aR bf bm x13 x14 x15 x16 x17 x18 x19:Option D) (st:List M) (sd:bX st k (n+5*i)) (hh:st[h]?=some (.list (aJ (cE B (lM aj K))))) (hw:st[hf]?=some (.list (aQ (K.filterMap bE.f7))))
  (len:K.length=i)(S:K.map bE.span?=rG L (O.take i))(ok:∀x∈K,x.Ok B.length):ut k h hf aj B L O n i [some (.ab k),some (.ab h),some (.int (aj:Int)),some (.lst (bR O)),some (.lst (L.map Span.d)),some (.ab hf),x6,x7,x8,x9,aR,bf,bm,x13,x14,x15,x16,x17,x18,x19] st
section
variable{k h hf aj n i:Nat}{B:List UInt8}{L:List Span}{O:List (Option Nat)}{K:List bE}{x:bE}{o:Option Nat}{σ:List (Option D)}{st:List M}
theorem Rh(len:K.length=i):cE B (lM aj (K++[x]))=cE (cE B (lM aj K)) (rF (aj+32*i) x.words):=by unfold lM;rw[GO,rj,gk,len]
theorem Ri(ho:O[i]?=some o)(S:K.map bE.span?=rG L (O.take i))(e:x.span?=o.bind (L[·]?)):(K++[x]).map bE.span?=rG L (O.take (i+1)):=by
 rw[take_add_one,ho,eV,S]
 exact(aw (λy=>rG L (O.take i)++[y]) e).trans (eV (l₂:=[o])).symm
theorem Rj{P:bE->Prop}(h:∀y∈K,P y)(hx:P x):∀y∈K++[x],P y:=λy hy=>(cy.mp hy).elim (h y) λhy=>by cases dT.mp hy;exact hx
variable(bq:h≠k)(rH:hf≠k)(rI:hf≠h)(hn:n<=700000)(hz:B.length<=1000000)(I:aj+32*(i+1)<=B.length)(hi:i<100)
include bq rH rI hn hz I hi
theorem ae0(ho:O[i]?=some none)(hp:ut k h hf aj B L O n i σ st):fM (lp FR FS) (.tup [.int (i:Int),.int (-1)]) σ st (ut k h hf aj B L O n (i+1)):=by
 obtain⟨K,x6,x7,x8,x9,aR,bf,bm,x13,x14,x15,x16,x17,x18,x19,_,sd,hh,hw,len,S,ok⟩:=hp
 obtain⟨d,bW,l1,q1,s1,f1,_⟩:=cJ 4 sd
 have m1:=js (p:=λx=>x≠1/\x≠2/\x≠3/\x<4294967296) (l:=[0,4,6,1879048195]) (by decide) l1
 have h1:=(f1 h bq).trans hh
 exact .cont trivial _ _ (cR (σ':=[some (.ab k),some (.ab h),some (.int (aj:Int)),some (.lst (bR O)),some (.lst (L.map Span.d)),some (.ab hf),some (.int (i:Int)),some (.int (-1)),x8,x9,aR,bf,bm,x13,x14,x15,x16,x17,x18,x19])
  (R:=.ok (.cont,[some (.ab k),some (.ab h),some (.int (aj:Int)),some (.lst (bR O)),some (.lst (L.map Span.d)),some (.ab hf),some (.int (i:Int)),some (.int (-1)),some (.int ((aj+32*i:Nat):Int)),x9,aR,bf,bm,x13,x14,x15,x16,x17,x18,x19]) _)
  (pD (ltI (x:=-1) (y:=((0:Nat):Int)) (by decide))<|sD q1<|pD (dQ [0,4,6,1879048195] l1)<|sD (wD (p:=aj+32*i) (v:=[0,4,6,1879048195].getD d 0) (n:=4) h1 (by rw[fw];exact L1 [aj,i,B.length] 0x21a19202fb09024a1202fb0994a I) (by rw[fw];exact L1 [B.length] 0xf42405fa0010000007fa04a hz))))
  (.mk (K++[.jS ([0,4,6,1879048195].getD d 0)]) _ _ _ _ _ _ _ _ _ _ _ _ _ _ _ ((s1.at (di bq)).le (L0 [n,i] 0x1a195b091a15b09949)) (by rw[Rh len];exact dP h1) (by rw[filterMap_append];exact(df rI ((f1 hf rH).trans hw)).trans (by rw[show[bE.jS _].filterMap bE.f7=[] from rfl,c9])) (by rw[aW,len];rfl) (Ri (x:=.jS ([0,4,6,1879048195].getD d 0)) ho S rfl) (Rj (x:=.jS ([0,4,6,1879048195].getD d 0)) ok m1))
theorem ae1{q:Nat}{p:Span}(ho:O[i]?=some (some q))(hq:L[q]?=some p)(hL:L.length<=100)(P:AD p)(hp:ut k h hf aj B L O n i σ st):fM (lp FR FS) (.tup [.int (i:Int),.int (q:Int)]) σ st (ut k h hf aj B L O n (i+1)):=by
 obtain⟨K,x6,x7,x8,x9,aR,bf,bm,x13,x14,x15,x16,x17,x18,x19,_,sd,hh,hw,len,S,ok⟩:=hp
 have bG:=P.bG
 obtain⟨d1,bW,l1,q1,s1,f1,_⟩:=cJ (B.length-p.c+1) sd (L3 [n,i,B.length,aj] 0x21a19202fb3956f42405fa256aae605fa0202f6f42405fa15b09202fac hn hz I) (Nat.succ_pos _) (L2 [B.length-p.c,B.length] 0x100f42405fa101000000000000000011e1a095b hz (sub_le B.length p.c))
 obtain⟨d2,b8,l2,q2,s2,f2,_⟩:=cJ (B.length-p.c+1) s1 (L3 [n,i,B.length,aj] 0x21a19202fb3956f42405fa256aae605fa0202f6f42405fa1a15b099202fac hn hz I) (Nat.succ_pos _) (L2 [B.length-p.c,B.length] 0x100f42405fa101000000000000000011e1a095b hz (sub_le B.length p.c))
 obtain⟨d3,cf,l3,q3,s3,f3,_⟩:=cJ 4 s2
 have bw:[0,d1,d2,B.length-p.c].getD d3 0+p.c<=B.length:=js (p:=λw=>w+p.c<=B.length) (l:=[0,d1,d2,B.length-p.c]) (bU.mpr ⟨L2 [p.c,B.length,aj,i] 0xaa0011a39202fb290100a94b I bG,bU.mpr ⟨L2 [d1,p.c,B.length,B.length-p.c] 0x213921a390121094b l1 (show B.length-p.c+p.c=B.length from gm (L2 [p.c,B.length,aj,i] 0xaa0011a39202fb290104b I bG)),bU.mpr ⟨L2 [d2,p.c,B.length,B.length-p.c] 0x213921a390121094b l2 (show B.length-p.c+p.c=B.length from gm (L2 [p.c,B.length,aj,i] 0xaa0011a39202fb290104b I bG)),gz.mpr (L1 [B.length-p.c,p.c,B.length] 2270194370890 (show B.length-p.c+p.c=B.length from gm (L2 [p.c,B.length,aj,i] 0xaa0011a39202fb290104b I bG)))⟩⟩⟩) l3
 have pw:=dQ [0,d1,d2,B.length-p.c] l3
 generalize[0,d1,d2,B.length-p.c].getD d3 0=w at bw pw
 obtain⟨d4,cM,l4,q4,s4,f4,_⟩:=cJ 2 s3
 have fl:(lN p.a w).length<=6:=length_filter_le _ _
 obtain⟨d5,ki,l5,q5,s5,f5,_⟩:=cJ (lN p.a w).length s4 (L3 [n,i,B.length,aj] 0x21a19202fb3956f42405fa256aae605fa0202f6f42405fa1a1a1a1a15b099999202fac hn hz I) (List.length_pos_of_mem (a:=0) (mem_filter.mpr ⟨.head _,rfl⟩)) (L1 [(lN p.a w).length] 0x6a001000000000000000011e05a fl)
 have bh:=js (p:=λx=>8*x<=2147483656) (l:=[0,2^28+1]) (by decide) l4
 have ph:=dQ [0,2^28+1] l4
 generalize[0,2^28+1].getD d4 0=h8 at bh ph
 have ba:=aeX (js (p:=(·∈lN p.a w)) (λJ h=>h) l5)
 have pa:=dQ (lN p.a w) l5 (bg fl nb)
 generalize(lN p.a w).getD d5 0=al at ba pa
 have g:∀j,j≠k->ki[j]?=st[j]?:=λj hj=>(f5 j hj).trans ((f4 j hj).trans ((f3 j hj).trans ((f2 j hj).trans (f1 j hj))))
 have h5:=(g h bq).trans hh
 have w5:=(g hf rH).trans hw
 obtain⟨_,⟨Rf,Rg⟩,lo⟩:=aeZ (x0:=some (.ab k)) (x2:=some (.int (aj:Int))) (x3:=some (.lst (bR O))) (x4:=some (.lst (L.map Span.d))) (x5:=some (.ab hf)) (x6:=some (.int (i:Int))) (x7:=some (.int (q:Int))) (p:=aj+32*i) (x9:=some (.int p.a)) (aR:=some (.int p.c)) (bf:=some (.int p.s)) (bm:=some (.int p.r))
  (x13:=some (.int (B.length-p.c:Nat))) (x14:=some (.int w)) (x15:=some (.int al)) (x16:=some (.lst (aQ (lN p.a w)))) (x17:=some (.int (8*h8:Nat))) (x18:=x18) (x19:=x19) (vs:=(bE.seg p w (8*h8) al).words) h5 (by rw[fw];show _+4*8<=_;exact L1 [aj,i,B.length] 0x21a19202fb09028a4b1202fb0994a I) (by rw[fw];exact L1 [B.length] 0xf42405fa0010000007fa04a hz)
 have w6:=df (m:=.list (aJ (cE (cE B (lM aj K)) (rF (aj+32*i) (bE.seg p w (8*h8) al).words)))) rI w5
 have wl:(K.filterMap bE.f7).length<=100:=bg (List.length_filterMap_le ..) (L2 [K.length,i] 0x102642fa11642fa04b hi len)
 have ln:=zW hh (by rw[i6,fw];exact L1 [B.length] 0xf42405fa0010000007fa04a hz)
 rw[i6,fw] at ln
 have fc:=aeY (a:=p.a) (w:=w) (σ:=[some (.ab k),some (.ab h),some (.int (aj:Int)),some (.lst (bR O)),some (.lst (L.map Span.d)),some (.ab hf),some (.int (i:Int)),some (.int (q:Int)),some (.int ((aj+32*i:Nat):Int)),some (.int p.a),some (.int p.c),some (.int p.s),some (.int p.r),some (.int (B.length-p.c:Nat)),some (.int w),x15,x16,x17,x18,x19]) (st:=cf) rfl
 exact .next trivial _ _ (cR (σ':=[some (.ab k),some (.ab h),some (.int (aj:Int)),some (.lst (bR O)),some (.lst (L.map Span.d)),some (.ab hf),some (.int (i:Int)),some (.int (q:Int)),x8,x9,aR,bf,bm,x13,x14,x15,x16,x17,x18,x19])
  (R:=.ok (.next,[some (.ab k),some (.ab h),some (.int (aj:Int)),some (.lst (bR O)),some (.lst (L.map Span.d)),some (.ab hf),some (.int (i:Int)),some (.int (q:Int)),some (.int ((aj+32*i:Nat):Int)),some (.int p.a),some (.int p.c),some (.int p.s),some (.int p.r),some (.int (B.length-p.c:Nat)),some (.int w),some (.int al),some (.lst (aQ (lN p.a w))),some (.int (8*h8:Nat)),Rf,Rg]) _)
  (pD (q7 (a:=q) (b:=0) (not_lt_zero _))<|pD (uh (V:=L.map Span.d) (i:=q) (d:=p.d) (by rw[getElem?_map,hq];rfl) (by rw[aG];exact L1 [L.length] 0x642fa003b9aca008fa04a hL))<|sD ln<|pD (iW (a:=B.length) (b:=p.c) (L2 [p.c,B.length,aj,i] 0xaa0011a39202fb290104b I bG))<|sD q1<|sD q2<|sD q3<|pD pw<|pL (fi (V:=aQ [0,1,2,4,8,16]) nb)<|sL fc<|pD (n5 (a:=2) (b:=28) nb (by decide))<|sD q4<|pD ph <|
   pD (us (l:=lN p.a w) (bg fl nb))<|sD q5<|pD pa<|pD (n5 (a:=2) (b:=32) nb (by decide))<|pD (iW (a:=2^32) (b:=1) (by decide))<|pD (iW (a:=2^32-1) (b:=p.a) P.a)<|pL (AB (V:=aQ (bE.seg p w (8*h8) al).words) nb)<|sF lo<|sB (iY w6)<|sD (kM (.int (w:Int)) w6 (by rw[jR];exact L1 [(List.filterMap bE.f7 K).length] 0x642fa0010000007fa04a wl))))
  (.mk (K++[.seg p w (8*h8) al]) _ _ _ _ _ _ _ _ _ _ _ _ _ _ _ (((s5.at (di bq)).at (di rH)).le (L0 [n,i] 0x1a195b091a1a1a1a1a15b099999949)) (by rw[Rh len];exact df (m:=.list (aQ (K.filterMap bE.f7)++[.int (w:Int)])) (Ne.symm rI) (dP h5)) (by rw[filterMap_append];exact(dP w6).trans (aw (λl=>some (M.list l)) (eV (l₂:=[w])).symm)) (by rw[aW,len];rfl) (Ri (x:=.seg p w (8*h8) al) ho S hq.symm) (Rj (x:=.seg p w (8*h8) al) ok (show bE.Ok B.length (.seg p w (8*h8) al) from⟨bw,Nat.mul_mod_right ..,bh,ba⟩)))
end
inductive Rk(R:Res D)(k h aj:Nat)(B:List UInt8)(L:List Span)(O:List (Option Nat))(n:Nat):Prop
 |mk (K:List bE) (st:List M) (e:R=.ok (.lst (aQ (K.filterMap bE.f7))) st) (sd:bX st k (n+500)) (hh:st[h]?=some (.list (aJ (cE B (lM aj K))))) (S:K.map bE.span?=rG L O) (ok:∀x∈K,x.Ok B.length):Rk R k h aj B L O n
theorem bX.lt{st}{k n}:bX st k n->k<st.length
 |⟨_,h,_⟩=>(bH.mp h).1
theorem Rl{α:Type}{l:List α}{j:Nat}{x:α×Nat}(h:l.zipIdx[j]?=some x):l[j]?=some x.1/\x.2=j:=by
 rw[List.getElem?_zipIdx] at h
 obtain⟨a,h1,rfl⟩:=map_eq_some_iff.mp h
 exact⟨h1,gk j⟩
theorem ae2{k h aj n:Nat}{B:List UInt8}{L:List Span}{O:List (Option Nat)}{st:List M}(sd:bX st k n)(hh:st[h]?=some (.list (aJ B)))(bq:h≠k)(hn:n<=700000)(hz:B.length<=1000000)(I:aj+32*O.length<=B.length)(hO:O.length<=100)(hL:L.length<=100)
  (hs:∀p∈L,AD p)(ho:∀q,some q∈O->q<L.length):Rk (FT [.ab k,.ab h,.int (aj:Int),.lst (bR O),.lst (L.map Span.d)] st) k h aj B L O n:=by
 have kl:=sd.lt
 have cD:=(bH.mp hh).1
 have ol:(bR O).length<=16777216:=by rw[aG];exact bg hO nb
 obtain⟨_,_,lo,i⟩:=lI (λ(x:Option Nat×Nat)=>.tup [.int (x.2:Int),.int (kQ x.1)]) O.zipIdx (P:=ut k h st.length aj B L O n) (λj x σ ao hx hp=>by
   obtain⟨mr,e⟩:=Rl hx
   obtain⟨o,j'⟩:=x
   cases e
   have hj:=(bH.mp mr).1
   cases o with
   |none=>exact ae0 bq (gj kl) (gj cD) hn hz (by lia) (by lia) mr hp
   |some q=>
    have hq:=ho q (cU mr)
    exact ae1 bq (gj kl) (gj cD) hn hz (L2 [aj,(some q,j').snd,B.length,O.length] 0x31202f723202fb09021a19202fb094b I hj) (L2 [(some q,j').snd,O.length] 0x101642fa10642fa05b hO hj) mr (c8 hq) hL (hs _ (getElem_mem hq)) hp)
  (.mk [] none none none none none none none none none none none none none none (st++[.list []]) (sd.at (dH kl)) ((dH cD).trans hh) jq rfl rfl (λJ h=>nomatch h))
 obtain⟨K,_,_,_,_,_,_,_,_,_,_,_,_,_,_,ao,s1,h1,w1,_,S,ok⟩:=i
 rw[List.length_zipIdx] at s1 S
 rw[take_length] at S
 rw[<- GR λo=>.int (kQ o)] at lo
 exact⟨K,_,bp (pL (AB ol)<|sF lo<|sD (lG w1)),(s1.at (di (gj kl))).le (L1 [n,O.length] 0x642fa1561f43fa0915b094a hO),df (m:=.gone) (ne_of_lt cD) h1,S,ok⟩
noncomputable def f9(p:Nat)(l:List (Nat×Nat×Nat)):List dL:=l.map λx=>⟨p+x.1,x.2.1,x.2.2⟩
noncomputable def lO(x:Nat×Nat×Nat):D:=.tup [.int (x.1:Int),.int (x.2.1:Int),.int (x.2.2:Int)]
theorem GU{p}{l}(h:l.Pairwise λx y=>x.1+x.2.2<=y.1):fy (f9 p l):=.map (h.imp fun{x y} h=>.inr (show p+x.1+x.2.2<=p+y.1 by exact L1 [p,x.fst,x.snd.snd,y.fst] 0x32190309210994a h))
theorem Rm{p n}{l}(h:∀x∈l,x.1+x.2.2<=n):z0 (f9 p l) p (p+n):=λt ht=>by
 obtain⟨x,hx,rfl⟩:=da.mp ht
 exact⟨fN ..,show p+x.1+x.2.2<=_ by have:=h x hx;exact L1 [p,x.fst,x.snd.snd,n] 0x32190309210994a this⟩
theorem AE{p}{l}(x)(h:x∈l):⟨p+x.1,x.2.1,x.2.2⟩∈f9 p l:=da.mpr ⟨x,h,rfl⟩
theorem Rn{α:Type}(f:α->List D):∀l:List α,vI (l.map λx=>.tup (f x))=true
 |[]=>rfl
 |_::l=>Rn f l
theorem p9{α:Type}{f:α->List D}{l:List α}(h:l.length<=16777216)(st:List M):Dz (.lst (l.map λx=>.tup (f x))) st=.ok (l.map λx=>.tup (f x)) st:=ax ⟨by rw[aG];exact h,Rn f l⟩
noncomputable def lP:List UInt8:=[95,115,116,97,114,116,0,98,50,0,0,255,46,120,0]
noncomputable def d7(a:Nat):List UInt8:=(lP.drop a).takeWhile (· != 0)
theorem AF:∀a,a<15->a+(d7 a).length<15/\(∀i,i<(d7 a).length->bk lP (a+i)=bk (d7 a) i/\bk (d7 a) i≠0)/\bk lP (a+(d7 a).length)=0:=by decide +kernel
theorem GW{a:Nat}(h:a<15)(st):iK Ex (.int (a:Int)) st=.ok (.str (bZ (d7 a))) st:=
 adB (V:=(List.range 15).map λa=>.str (bZ (d7 a))) (by rw[getElem?_map,getElem?_range h];rfl) nb st
structure Ent where
 a:Nat
 v:Nat
 k:Nat
noncomputable def Ent.d(e:Ent):D:=.tup [.str (bZ (d7 e.a)),.int e.v,.bool (e.k/16==1)]
structure Ent.Ok(cut:Nat)(e:Ent):Prop where
 low:cut<=e.a
 high:e.a<15
 v:e.v<4294967296
 k:e.k<256
noncomputable def rJ(cut:Nat)(e:Ent):List (Nat×Nat×Nat):=[(0,e.a-cut,4),(4,e.v,4),(12,e.k,1)]
noncomputable def kj(p cut:Nat)(E:List Ent):List dL:=om (λi e=>f9 (p+16*i) (rJ cut e)) 1 E
inductive Ro(x0:Option D)(h aj:Nat)(x3 x4 x5:Option D)(k:Nat)(x7 x8 x9:Option D):List (Option D)->Prop
 |mk (aR bf bm:Option D):Ro x0 h aj x3 x4 x5 k x7 x8 x9 [x0,some (.ab h),some (.int (aj:Int)),x3,x4,x5,some (.int (k:Int)),x7,x8,x9,aR,bf,bm]
theorem ae3{x0:Option D}{h aj:Nat}{x3 x4 x5:Option D}{k:Nat}{x7 x8 x9 aR bf bm:Option D}{l:List (Nat×Nat×Nat)}{st:List M}{B:List UInt8}(hh:st[h]?=some (.list (aJ B)))(I:aj+16*k+16<=B.length)(hx:∀x∈l,x.1+x.2.2<=16)(hz:B.length<=16777216) :
  p8 (de (lp O2 O5) (l.map lO) [x0,some (.ab h),some (.int (aj:Int)),x3,x4,x5,some (.int (k:Int)),x7,x8,x9,aR,bf,bm] st) st h (cE B (f9 (aj+16*k) l)) (Ro x0 h aj x3 x4 x5 k x7 x8 x9):=
 wK lO (λx=>⟨aj+16*k+x.1,x.2.1,x.2.2⟩) l (.mk aR bf bm) hh rfl λx hm σ st B' i hh hN=>by
  obtain⟨Rp,Rq,on⟩:=i
  have:=hx x hm
  exact⟨_,.mk (some (.int (x.1:Int))) (some (.int (x.2.1:Int))) (some (.int (x.2.2:Int))),cR (σ':=[x0,some (.ab h),some (.int (aj:Int)),x3,x4,x5,some (.int (k:Int)),x7,x8,x9,some (.int (x.1:Int)),some (.int (x.2.1:Int)),some (.int (x.2.2:Int))]) (sD (wD (p:=aj+16*k+x.1) (v:=x.2.1) (n:=x.2.2) hh (L3 [aj,k,x.fst,x.snd.snd,B'.length,B.length] 0x102fa32905435102fa1102fb09904321102fb09994c I hN this) (L2 [B'.length,B.length] 0x10210000007fa1010000007fa04b hz hN)))⟩
inductive AG(k h hf aj:Nat)(x3:Option D)(cut:Nat)(B:List UInt8)(n i:Nat):List (Option D)->List M->Prop
 |mk (E:List Ent) (x6 x7 x8 x9 aR bf bm:Option D) (st:List M) (sd:bX st k (n+3*i)) (hh:st[h]?=some (.list (aJ (cE B (kj aj cut E))))) (hw:st[hf]?=some (.list (E.map Ent.d))) (len:E.length=i) (ok:∀x∈E,x.Ok cut) :
   AG k h hf aj x3 cut B n i [some (.ab k),some (.ab h),some (.int (aj:Int)),x3,some (.int (cut:Int)),some (.ab hf),x6,x7,x8,x9,aR,bf,bm] st
theorem ae4{d}(h:d<5)(st):[0,16,18,33,2].getD d 0<256/\vn (.int ([0,16,18,33,2].getD d 0:Nat)) (.tup [.int 16,.int 18]) st=.ok (.bool ([0,16,18,33,2].getD d 0/16==1)) st:=by
 refine js (p:=λx=>x<256/\vn (.int (x:Nat)) (.tup [.int 16,.int 18]) st=.ok (.bool (x/16==1)) st) (l:=[0,16,18,33,2]) (λx hx=>?_) h
 refine⟨(show∀x∈[0,16,18,33,2],x<256 by decide) x hx,?_⟩
 have e:=(show∀x∈([0,16,18,33,2]:List Nat),(([16,18]:List Int).any λn=>n==(x:Int))=(x/16==1) by decide) x hx
 exact aw (λb=>Res.ok (D.bool b) st) e
theorem ae5{k h hf aj cut n i:Nat}{x3:Option D}{B:List UInt8}{σ:List (Option D)}{st:List M}(bq:h≠k)(rH:hf≠k)(rI:hf≠h)(hn:n<=900000)(hz:B.length<=1000000)(I:aj+16*(i+2)<=B.length)(hi:i<100)(hc:cut<=10)(hp:AG k h hf aj x3 cut B n i σ st) :
  fM (lp O6 O7) (.int ((i+1:Nat):Int)) σ st (AG k h hf aj x3 cut B n (i+1)):=by
 obtain⟨E,x6,x7,x8,x9,aR,bf,bm,_,sd,hh,hw,len,ok⟩:=hp
 obtain⟨d1,bW,l1,q1,s1,f1,_⟩:=cJ (15-cut) sd (L2 [n,i] 0x642fa137dbba05fa00f42405fa13b094b hn hi) (L2 [15-cut,cut] 0x109f1fa0aa1000a5b hc (sb 15 cut)) (L1 [15-cut] 0xf1fa001000000000000000011e05a (sub_le 15 cut))
 obtain⟨d2,b8,l2,q2,s2,f2,_⟩:=cJ 4 s1
 obtain⟨d3,cf,l3,q3,s3,f3,_⟩:=cJ 5 s2
 have b2:=js (p:=λx=>x<4294967296) (l:=[0,77,2^32-1,64]) (by decide) l2
 have p2:=dQ [0,77,2^32-1,64] l2
 generalize[0,77,2^32-1,64].getD d2 0=v at b2 p2
 have b3:=ae4 l3
 have p3:=dQ [0,16,18,33,2] l3
 generalize[0,16,18,33,2].getD d3 0=kd at b3 p3
 have g:∀j,j≠k->cf[j]?=st[j]?:=λj hj=>(f3 j hj).trans ((f2 j hj).trans (f1 j hj))
 have h3:=(g h bq).trans hh
 have w3:=(g hf rH).trans hw
 obtain⟨_,⟨Rp,Rq,on⟩,lo⟩:=ae3 (x0:=some (.ab k)) (aj:=aj) (x3:=x3) (x4:=some (.int (cut:Int))) (x5:=some (.ab hf)) (k:=i+1) (x7:=some (.int (cut+d1:Nat))) (x8:=some (.int v)) (x9:=some (.int kd)) (aR:=aR) (bf:=bf) (bm:=bm) (l:=rJ cut ⟨cut+d1,v,kd⟩) h3
  (by rw[fw];exact L1 [aj,i,B.length] 0x22a19102fb0902102fa1a19102fb0994a I) (bU.mpr ⟨nb,bU.mpr ⟨nb,gz.mpr nb⟩⟩) (by rw[fw];exact L1 [B.length] 0xf42405fa0010000007fa04a hz)
 have w4:=df (m:=.list (aJ (cE (cE B (kj aj cut E)) (f9 (aj+16*(i+1)) (rJ cut ⟨cut+d1,v,kd⟩))))) rI w3
 have ep:cE B (kj aj cut (E++[⟨cut+d1,v,kd⟩]))=cE (cE B (kj aj cut E)) (f9 (aj+16*(i+1)) (rJ cut ⟨cut+d1,v,kd⟩)):=by unfold kj;rw[GO,rj,add_comm 1,len]
 exact .next trivial _ _ (cR (σ':=[some (.ab k),some (.ab h),some (.int (aj:Int)),x3,some (.int (cut:Int)),some (.ab hf),some (.int (i+1:Nat)),x7,x8,x9,aR,bf,bm])
  (R:=.ok (.next,[some (.ab k),some (.ab h),some (.int (aj:Int)),x3,some (.int (cut:Int)),some (.ab hf),some (.int (i+1:Nat)),some (.int (cut+d1:Nat)),some (.int v),some (.int kd),Rp,Rq,on]) _)
  (pD (iW (a:=15) (b:=cut) (L1 [cut] 0xaa00f1fa04a hc))<|sD q1<|pD (n5 (a:=2) (b:=32) nb (by decide))<|pD (iW (a:=2^32) (b:=1) (by decide))<|sD q2<|pD p2<|sD q3<|pD p3<|pD (iW (a:=cut+d1) (b:=cut) (fN ..))<|pL (p9 (f:=λx:Nat×Nat×Nat=>[.int (x.1:Int),.int (x.2.1:Int),.int (x.2.2:Int)]) (l:=rJ cut ⟨cut+d1,v,kd⟩) nb)<|sF lo <|
   sB (iY w4)<|pD (GW (a:=cut+d1) (L2 [cut,d1,15-cut] 0xf1fa0292211f1fa1095b l1 (show 15-cut+cut=15 from gm (L1 [cut] 0xaa00f1fa04a hc))))<|pD (λst=>(b3 st).2)<|sD (kM (Ent.d ⟨cut+d1,v,kd⟩) w4 (by rw[aG];exact L3 [E.length,B.length,aj,i] 0x30102f812a39102fb290f42405fa1010000007fa0102fac hz I len))))
  (.mk (E++[⟨cut+d1,v,kd⟩]) _ _ _ _ _ _ _ _ ((s3.at (di bq)).at (di rH)) (by rw[ep];exact df (m:=.list (E.map Ent.d++[Ent.d ⟨cut+d1,v,kd⟩])) (Ne.symm rI) (dP h3)) ((dP w4).trans (aw (λl=>some (M.list l)) (eV (l₂:=[(⟨cut+d1,v,kd⟩:Ent)])).symm))
   (by rw[aW,len];rfl) (λx hx=>(cy.mp hx).elim (ok x) λhx=>by cases dT.mp hx;exact⟨fN ..,show cut+d1<15 by exact L2 [cut,d1,15-cut] 0xf1fa0292211f1fa1095b l1 (show 15-cut+cut=15 from gm (L1 [cut] 0xaa00f1fa04a hc)),b2,(b3 []).1⟩))
inductive Rr(R:Res D)(k h aj cut aq:Nat)(B:List UInt8)(n:Nat):Prop
 |mk (E:List Ent) (st:List M) (e:R=.ok (.lst (E.map Ent.d)) st) (sd:bX st k (n+30)) (hh:st[h]?=some (.list (aJ (cE B (kj aj cut E))))) (len:E.length=aq-1) (ok:∀x∈E,x.Ok cut):Rr R k h aj cut aq B n
theorem ae6{k h aj cut aq n:Nat}{B:List UInt8}{st:List M}(sd:bX st k n)(hh:st[h]?=some (.list (aJ B)))(bq:h≠k)(hn:n<=900000)(hz:B.length<=1000000)(I:aj+16*aq<=B.length)(hm:aq<=10)(hc:cut<=10) :
  Rr (FU [.ab k,.ab h,.int (aj:Int),.int (aq:Int),.int (cut:Int)] st) k h aj cut aq B n:=by
 have kl:=sd.lt
 have cD:=(bH.mp hh).1
 obtain⟨_,_,lo,i⟩:=uj (λ(i:Nat)=>.int ((i+1:Nat):Int)) (aq-1) (P:=AG k h st.length aj (some (.int (aq:Int))) cut B n) (λj σ st hj hp=>ae5 bq (gj kl) (gj cD) hn hz (L3 [aj,j,B.length,aq,aq-1] 0x31a49102f841102f723102fb09022a19102fb094c I hj (show aq-1+1=aq from gm (L2 [aq,j,aq-1] 137993656907 hj (sub_le aq 1)))) (L3 [j,aq,aq-1] 0x120201aa10642fa05c hm hj (sub_le aq 1)) hc hp)
  (.mk [] none none none none none none none (st++[.list []]) (sd.at (dH kl)) ((dH cD).trans hh) jq rfl (λJ h=>nomatch h))
 obtain⟨E,_,_,_,_,_,_,_,ao,s1,h1,w1,len,ok⟩:=i
 exact⟨E,_,bp (pL (Gv (m:=aq) (L1 [aq] 0xaa003e83fa04a hm))<|sF lo<|sD (lG w1)),(s1.at (di (gj kl))).le (L2 [n,aq-1,aq] 0x2136aa2361e2fa0913b094b hm (sub_le aq 1)),df (m:=.gone) (ne_of_lt cD) h1,len,ok⟩
inductive AH(z:CZ)(σ:List (Option D))(x:D)(st:List M)(k n:Nat)(p:Nat->Prop):Prop
 |mk (v:Nat) (ao:List M) (σ':List (Option D)) (b:z.k.aO x (dY z.az z.m σ)=some σ') (t:rn z.tt σ' st=.ok true st) (e:rn z.el.t σ' st=.ok (.int (v:Int)) ao) (sd:bX ao k (n+1)) (fr:∀i,i≠k->ao[i]?=st[i]?) (h:p v):AH z σ x st k n p
inductive Rs(z:CZ)(σ:List (Option D))(V:List D)(st:List M)(k n:Nat)(p:Nat->Prop):Prop
 |mk (ms:List Nat) (ao:List M) (e:z.r σ V st=.ok (aQ ms) ao) (l:ms.length=V.length) (sd:bX ao k (n+V.length)) (fr:∀i,i≠k->ao[i]?=st[i]?) (a:∀m∈ms,p m):Rs z σ V st k n p
theorem Rt{z}{σ}{k}{p}(h:∀x st n,bX st k n->n<=900000->AH z σ x st k n p){V}{st}{n}(sd:bX st k n)(hn:n+V.length<=900000):Rs z σ V st k n p:=by
 induction V generalizing st n with
 |nil=>exact⟨[],st,rfl,rfl,sd,λJ J=>rfl,λJ h=>nomatch h⟩
 |cons x xs ih=>
  rw[length_cons] at hn
  obtain⟨v,bW,σ',b,t,e,s1,f1,hv⟩:=h x st n sd (bg (fN ..) hn)
  obtain⟨ms,b8,e2,l2,s2,f2,a2⟩:=ih s1 (by rw[Nat.add_assoc,add_comm 1];exact hn)
  refine⟨v::ms,b8,?_,aw Nat.succ l2,by rw[length_cons,add_comm xs.length,<- Nat.add_assoc];exact s2,λi hi=>(f2 i hi).trans (f1 i hi),bU.mpr ⟨hv,a2⟩⟩
  unfold CZ.r at e2 ⊢
  rw[rq b,t,Res.gF,ax rfl,e,Res.gF,e2]
  rfl
theorem ae7{k}{x1 x2 x3 x4 x5 x6 x7 x8 x9 aR bf bm x13}(x)(st)(n)(sd:bX st k n)(hn:n<=900000):AH Pb [some (.ab k),x1,x2,x3,x4,x5,x6,x7,x8,x9,aR,bf,bm,x13] x st k n (·<=10):=by
 obtain⟨d,bW,l,q,s1,f1,_⟩:=cJ 3 sd
 exact⟨_,bW,[some (.ab k),some x],by kernel_rfl,by kernel_rfl,sD q<|pD (dQ [0,7,10] l),s1,f1,js (p:=(·<=10)) (l:=[0,7,10]) (by decide) l⟩
noncomputable def oo(p:Nat):List dL:=(List.range 15).map λi=>⟨p+i,bk lP i,1⟩
noncomputable def Ru:Str:=⟨#[0]⟩
noncomputable def GX(a:Nat):Str:=bZ (d7 a)++Ru
theorem ae8:∀a,a<15->(bZ (d7 a)).length+Ru.length<=16777216/\0<(GX a).length/\Txt.item (GX a) 0=⟨#[bk lP a]⟩:=by decide +kernel
theorem ae9{a b}(h:a.length+b.length<=16777216)(st):pH (.str a) (.str b) st=.ok (.str (a++b)) st:=ax h
theorem afa{a b}(h:0<a.length)(e:Txt.item a 0=b)(st):iK (.str a) (.int ((0:Nat):Int)) st=.ok (.str b) st:=
 (aw (λz=>qD z st) (ax (c:=(0:Int)<=0/\(0:Int)<a.length/\(0:Int)<4611686018427387904) ⟨Int.le_refl _,ofNat_lt.mpr h,by decide⟩)).trans (aw (λz=>Res.ok (D.str z) st) e)
theorem Rv(c)(st):CO [.str ⟨#[c]⟩] st=.ok (.int (c:Int)) st:=rfl
inductive Rw(x0:Option D)(h:Nat)(Pl:List Nat)(x3 x4 x6 x7 x8 x9 aR bf bm x13:Option D):List (Option D)->Prop
 |mk (x5:Option D):Rw x0 h Pl x3 x4 x6 x7 x8 x9 aR bf bm x13 [x0,some (.ab h),some (.lst (aQ Pl)),x3,x4,x5,x6,x7,x8,x9,aR,bf,bm,x13]
theorem afb{st:List M}{h p v:Nat}{B:List UInt8}(hh:st[h]?=some (.list (aJ B)))(hv:v<256)(hp:p<B.length)(hz:B.length<=1000000000):tA (.int (v:Int)) (.ab h) (.int (p:Int)) st=.ok () (st.set h (.list (aJ (jp B p v 1)))):=
 (wn (.int (v:Int)) hh (by rw[i6];exact hp) (by rw[i6];exact hz)).trans (aw (λz=>Res.ok () (st.set h (.list z))) ((aw (λw:Nat=>(aJ B).set p (.int (w:Int))) (mod_eq_of_lt hv).symm).trans (Qw ..)))
theorem afc{x0:Option D}{h:Nat}{Pl:List Nat}{x3 x4 x5 x6 x7 x8 x9 aR bf bm x13:Option D}{st:List M}{B:List UInt8}(hh:st[h]?=some (.list (aJ B)))(hP:2<Pl.length)(hP2:Pl.length<=1000000000)(I:Pl.getD 2 0+15<=B.length)(hz:B.length<=1000000000) :
  p8 (de (lp O9 Pa) (aQ (List.range 15)) [x0,some (.ab h),some (.lst (aQ Pl)),x3,x4,x5,x6,x7,x8,x9,aR,bf,bm,x13] st) st h (cE B (oo (Pl.getD 2 0))) (Rw x0 h Pl x3 x4 x6 x7 x8 x9 aR bf bm x13):=
 wK (λ(i:Nat)=>.int (i:Int)) (λi=>⟨Pl.getD 2 0+i,bk lP i,1⟩) (List.range 15) (.mk x5) hh rfl λi hm σ st B' au hh hN=>by
  obtain⟨y5⟩:=au
  have hi:=mem_range.mp hm
  obtain⟨l1,l2,l3⟩:=ae8 i hi
  exact⟨_,.mk (some (.int (i:Int))),cR (σ':=[x0,some (.ab h),some (.lst (aQ Pl)),x3,x4,some (.int (i:Int)),x6,x7,x8,x9,aR,bf,bm,x13])
   (pD (GW hi)<|pD (ae9 l1)<|pD (afa (a:=GX i) l2 l3)<|pD (Rv (bk lP i))<|pD (dQ Pl hP hP2)<|sU (afb (p:=Pl.getD 2 0+i) hh (lJ lP i) (L3 [Pl.getD 2 0,i,B'.length,B.length] 0xf1fa113233f1fa09021095c I hN hi) (L2 [B'.length,B.length] 0x1023b9aca008fa103b9aca008fa04b hz hN)))⟩
theorem GY:∀H,mu (bR H)=some (H.map kQ)
 |[]=>rfl
 |o::H=>by
  show(some (kQ o)).bind (λi=>(mu (bR H)).map (i :: ·))=_
  rw[GY H];rfl
theorem afd:∀{o:Option Nat} {q:Nat},kQ o=(q:Int)->o=some q
 |none,q,h=>by unfold kQ at h;lia
 |some p,q,h=>aw some (Int.ofNat.inj h)
noncomputable def mM(H:List (Option Nat))(q:Nat):Nat:=(H.map kQ).idxOf ((q:Nat):Int)
theorem afe{H}{q}(h:some q∈H):H[mM H q]?=some (some q):=by
 have hm:((q:Nat):Int)∈H.map kQ:=da.mpr ⟨_,h,rfl⟩
 have I:=List.idxOf_lt_length_of_mem hm
 have hg:=List.getElem_idxOf I
 rw[getElem_map] at hg
 rw[aG] at I
 exact(c8 I).trans (aw some (afd hg))
theorem aff{H:List (Option Nat)}{q:Nat}(h:some q∈H)(hz:H.length<=16777216)(st):Dg [.lst (bR H),.int (q:Int)] st=.ok (.int (mM H q:Nat)) st:=
 (iX (f:=λ(ns:List Int) st=>if(q:Int)∈ns/\ns.length<=sz then .ok (D.int ((ns.idxOf (q:Int):Nat):Int)) st else .stuck) (GY H) st).trans (ax ⟨da.mpr ⟨_,h,rfl⟩,by rw[aG];exact hz⟩)
noncomputable def gh(Pl T C:List Nat)(H:List (Option Nat))(i:Nat):Option Nat->List (Nat×Nat×Nat)
 |none=>[(4,[0,1,8,9].getD (i%4) 0,4)]
 |some q=>if q%2=0 then[(4,2,4),(16,Pl.getD (3+q/2) 0,4),(20,16*T.getD (q/2) 0,4),(24,mM H (q+1),4),(36,16,4)]
  else[(4,3,4),(16,Pl.getD 2 0+C.getD (q/2) 0,4),(20,15-C.getD (q/2) 0,4)]
noncomputable def qa(x:Nat×Nat×Nat):D:=.tup [.int (x.1:Int),.int (x.2.1:Int)]
def GZ(x:Nat×Nat×Nat):Prop:=x.1+4<=40/\x.2.2=4
theorem AI(Pl T C)(H)(i)(o):∀x∈gh Pl T C H i o,GZ x:=by
 unfold gh GZ
 split
 .exact gz.mpr ⟨nb,rfl⟩
 .split
  .exact bU.mpr ⟨⟨nb,rfl⟩,bU.mpr ⟨⟨nb,rfl⟩,bU.mpr ⟨⟨nb,rfl⟩,bU.mpr ⟨⟨nb,rfl⟩,gz.mpr ⟨nb,rfl⟩⟩⟩⟩⟩
  .exact bU.mpr ⟨⟨nb,rfl⟩,bU.mpr ⟨⟨nb,rfl⟩,gz.mpr ⟨nb,rfl⟩⟩⟩
inductive Ry(x0:Option D)(h:Nat)(x2 x3 x4 x5 x6 x7 x8:Option D)(p:Nat)(aR bf:Option D):List (Option D)->Prop
 |mk (bm x13:Option D):Ry x0 h x2 x3 x4 x5 x6 x7 x8 p aR bf [x0,some (.ab h),x2,x3,x4,x5,x6,x7,x8,some (.int (p:Int)),aR,bf,bm,x13]
theorem G1{x0:Option D}{h:Nat}{x2 x3 x4 x5 x6 x7 x8:Option D}{p:Nat}{aR bf bm x13:Option D}{l:List (Nat×Nat×Nat)}{st:List M}{B:List UInt8}(hh:st[h]?=some (.list (aJ B)))(I:p+40<=B.length)(hx:∀x∈l,GZ x)(hz:B.length<=16777216) :
  p8 (de (lp Pc Pd) (l.map qa) [x0,some (.ab h),x2,x3,x4,x5,x6,x7,x8,some (.int (p:Int)),aR,bf,bm,x13] st) st h (cE B (f9 p l)) (Ry x0 h x2 x3 x4 x5 x6 x7 x8 p aR bf):=
 wK qa (λx=>⟨p+x.1,x.2.1,x.2.2⟩) l (.mk bm x13) hh rfl λx hm σ st B' i hh hN=>by
  obtain⟨on,uu⟩:=i
  obtain⟨a,v,n⟩:=x
  obtain⟨h1,rfl⟩:=hx _ hm
  exact⟨_,.mk (some (.int (a:Int))) (some (.int (v:Int))),cR (σ':=[x0,some (.ab h),x2,x3,x4,x5,x6,x7,x8,some (.int (p:Int)),aR,bf,some (.int (a:Int)),some (.int (v:Int))]) (sD (wD (p:=p+a) (v:=v) (n:=4) hh (by simp only at h1;exact L3 [p,a,B'.length,B.length] 0x282fa4a1903233282fa09024a10994c I hN h1) (L2 [B'.length,B.length] 0x10210000007fa1010000007fa04b hz hN)))⟩
structure G2(Pl T:List Nat)(H:List (Option Nat))(N:Nat):Prop where
 pl:Pl.length=3+T.length
 heads:Pl.getD 1 0+40*H.length<=N
 text:Pl.getD 2 0+15<=N
 tabs:∀t,t<T.length->Pl.getD (3+t) 0+16*T.getD t 0<=N
 range:∀q,some q∈H->q/2<T.length
 pair:∀q,some q∈H->q%2=0->some (q+1)∈H
 bG:H.length<=100
 AJ:T.length<=10
 afg:∀j,T.getD j 0<=10
 small:N<=1000000
noncomputable def AK(Pl C:List Nat)(E:List Ent):Option Nat->List dL
 |none=>[]
 |some q=>if q%2=0 then kj (Pl.getD (3+q/2) 0) (C.getD (q/2) 0) E else[]
noncomputable def uv(Pl T C:List Nat)(H:List (Option Nat))(i:Nat)(x:Option Nat×List Ent):List dL:=AK Pl C x.2 x.1++f9 (Pl.getD 1 0+40*i) (gh Pl T C H i x.1)
noncomputable def mN(Pl T C:List Nat)(H:List (Option Nat))(X:List (Option Nat×List Ent)):List dL:=om (uv Pl T C H) 0 X
def rK(T C:List Nat)(x:Option Nat×List Ent):Prop:=(∀q,x.1=some q->q%2=0->x.2.length=T.getD (q/2) 0-1/\∀e∈x.2,e.Ok (C.getD (q/2) 0))/\((∀q,x.1=some q->q%2=1)->x.2=[])
inductive mO(k h:Nat)(Pl T C:List Nat)(H:List (Option Nat))(B:List UInt8)(n i:Nat):List (Option D)->List M->Prop
 |mk (X:List (Option Nat×List Ent)) (V:List D) (x5 x8 x9 aR bf bm x13:Option D) (st:List M) (sd:bX st k (n+30*i)) (hh:st[h]?=some (.list (aJ (cE B (mN Pl T C H X))))) (e:V=(X.flatMap (·.2)).map Ent.d) (dl:V.length<=10*i) (len:X.length=i) (S:X.map (·.1)=H.take i) (ok:∀x∈X,rK T C x) :
   mO k h Pl T C H B n i [some (.ab k),some (.ab h),some (.lst (aQ Pl)),some (.lst (bR H)),some (.lst (aQ T)),x5,some (.lst (aQ C)),some (.lst V),x8,x9,aR,bf,bm,x13] st
section
variable{k h n i N:Nat}{Pl T C:List Nat}{H:List (Option Nat)}{B:List UInt8}{σ:List (Option D)}{st:List M}
theorem mO.snoc{X}{o}{E}{V u5}{x5 x8 x9 aR bf bm x13}(len:X.length=i)(S:X.map (·.1)=H.take i)(ok:∀x∈X,rK T C x)(e:V=(X.flatMap (·.2)).map Ent.d)(dl:V.length<=10*i)(ho:H[i]?=some o)(sd:bX st k (n+30*(i+1)))
  (hh:st[h]?=some (.list (aJ (cE (cE B (mN Pl T C H X)) (uv Pl T C H i (o,E))))))(e':u5=V++E.map Ent.d)(el:E.length<=10)(he:rK T C (o,E)) :
  mO k h Pl T C H B n (i+1) [some (.ab k),some (.ab h),some (.lst (aQ Pl)),some (.lst (bR H)),some (.lst (aQ T)),x5,some (.lst (aQ C)),some (.lst u5),x8,x9,aR,bf,bm,x13] st:=by
 subst e e'
 refine .mk (X++[(o,E)]) _ _ _ _ _ _ _ _ _ sd ?_ ?_ ?_ (by rw[aW,len];rfl) ?_ λx hx=>(cy.mp hx).elim (ok x) λhx=>by cases dT.mp hx;exact he
 .rw[hh,mN,mN,GO,rj,gk,len]
 .rw[List.flatMap_append,eV,List.flatMap_singleton]
 .rw[aW,aG (f:=Ent.d) (as:=E)];exact L2 [(List.map Ent.d (List.flatMap (λx↦x.snd) X)).length,E.length,i] 0x2ab00aa101a29ab1094b el dl
 .rw[eV,S,take_add_one,ho];rfl
variable(A:G2 Pl T H N)(hB:B.length=N)(hC:C.length=T.length)(hc:∀j,C.getD j 0<=10)(bq:h≠k)(hn:n<=700000)
include A hB hC bq hn
theorem afh(ho:H[i]?=some none)(hp:mO k h Pl T C H B n i σ st):fM (lp zu zv) (.tup [.int (i:Int),.int (-1)]) σ st (mO k h Pl T C H B n (i+1)):=by
 obtain⟨X,V,x5,x8,x9,aR,bf,bm,x13,_,sd,hh,e,dl,len,S,ok⟩:=hp
 have hi:=(bH.mp ho).1
 have h1:=A.heads;have h2:=A.pl;have h3:=A.small;have h4:=A.AJ
 obtain⟨_,⟨on,uu⟩,lo⟩:=G1 (x0:=some (.ab k)) (x2:=some (.lst (aQ Pl))) (x3:=some (.lst (bR H))) (x4:=some (.lst (aQ T))) (x5:=some (.int (i:Int))) (x6:=some (.lst (aQ C))) (x7:=some (.lst V)) (x8:=some (.int (-1))) (p:=Pl.getD 1 0+40*i) (aR:=some (.int ((-1:Int).fdiv 2))) (bf:=some (.lst ((gh Pl T C H i none).map qa))) (bm:=bm) (x13:=x13) hh (by rw[fw];exact L3 [Pl.getD 1 0,i,B.length,N,H.length] 0x34282fb09041282f73232282fa1282fb0994c hB hi h1) (AI Pl T C H i none) (by rw[fw];exact L2 [B.length,N] 0xf42405fa1010210000007fa04b hB h3)
 exact .next trivial _ _ (cR (σ':=[some (.ab k),some (.ab h),some (.lst (aQ Pl)),some (.lst (bR H)),some (.lst (aQ T)),some (.int (i:Int)),some (.lst (aQ C)),some (.lst V),some (.int (-1)),x9,aR,bf,bm,x13])
  (R:=.ok (.next,[some (.ab k),some (.ab h),some (.lst (aQ Pl)),some (.lst (bR H)),some (.lst (aQ T)),some (.int (i:Int)),some (.lst (aQ C)),some (.lst V),some (.int (-1)),some (.int (Pl.getD 1 0+40*i:Nat)),some (.int ((-1:Int).fdiv 2)),some (.lst ((gh Pl T C H i none).map qa)),on,uu]) _)
  (pD (dQ Pl (d:=1) (L1 [Pl.length,T.length] 1351038802522 h2) (L2 [Pl.length,T.length] 0xaa1013a9023b9aca008fa04b h2 h4))<|pD (zO (y:=2) (by decide) (by decide) (-1))<|pD (kb (b:=4) (by decide) i)<|pD (dQ [0,1,8,9] (d:=i%4) (mod_lt _ (by decide)))<|pD (f:=tu (.int (-1)) (.int ((0:Nat):Int))) (d:=.bool false) (λJ=>rfl)<|pD (f:=tu (.int (-1)) (.int ((0:Nat):Int))) (d:=.bool false) (λJ=>rfl) <|
   pL (p9 (f:=λx:Nat×Nat×Nat=>[.int (x.1:Int),.int (x.2.1:Int)]) (l:=gh Pl T C H i none) nb)<|sF lo))
  (.snoc (E:=[]) len S ok e dl ho ((sd.at (di bq)).le (L0 [n,i] 0x1a191e2fb0911e2fb0949)) (dP hh) (c9 _).symm (zero_le _) ⟨(λJ h=>nomatch h),λJ=>rfl⟩)
include hc
theorem afi{q}(hq:q%2=1)(ho:H[i]?=some (some q))(hp:mO k h Pl T C H B n i σ st):fM (lp zu zv) (.tup [.int (i:Int),.int (q:Int)]) σ st (mO k h Pl T C H B n (i+1)):=by
 obtain⟨X,V,x5,x8,x9,aR,bf,bm,x13,_,sd,hh,e,dl,len,S,ok⟩:=hp
 have hi:=(bH.mp ho).1
 have hr:=A.range q (cU ho)
 have h1:=A.heads;have h2:=A.pl;have h3:=A.small;have h4:=A.AJ;have h5:=hc (q/2)
 have ne:¬q%2=0:=L1 [q%2] 6982508586 hq
 have nl:=AI Pl T C H i (some q)
 have np:uv Pl T C H i (some q,[])=f9 (Pl.getD 1 0+40*i) (gh Pl T C H i (some q)):=aw (·++_) (aY ne)
 have nz:gh Pl T C H i (some q)=[(4,3,4),(16,Pl.getD 2 0+C.getD (q/2) 0,4),(20,15-C.getD (q/2) 0,4)]:=aY ne
 rw[nz] at nl np
 obtain⟨_,⟨on,uu⟩,lo⟩:=G1 (x0:=some (.ab k)) (x2:=some (.lst (aQ Pl))) (x3:=some (.lst (bR H))) (x4:=some (.lst (aQ T))) (x5:=some (.int (i:Int))) (x6:=some (.lst (aQ C))) (x7:=some (.lst V)) (x8:=some (.int (q:Int))) (p:=Pl.getD 1 0+40*i) (aR:=some (.int (q/2:Nat))) (bf:=some (.lst ([(4,3,4),(16,Pl.getD 2 0+C.getD (q/2) 0,4),(20,15-C.getD (q/2) 0,4)].map qa))) (bm:=bm) (x13:=x13) hh (by rw[fw];exact L3 [Pl.getD 1 0,i,B.length,N,H.length] 0x34282fb09041282f73232282fa1282fb0994c hB hi h1) nl (by rw[fw];exact L2 [B.length,N] 0xf42405fa1010210000007fa04b hB h3)
 have pc:=dQ C (d:=q/2) (by rw[hC];exact hr) (L2 [C.length,T.length] 0xaa101023b9aca008fa04b hC h4)
 exact .next trivial _ _ (cR (σ':=[some (.ab k),some (.ab h),some (.lst (aQ Pl)),some (.lst (bR H)),some (.lst (aQ T)),some (.int (i:Int)),some (.lst (aQ C)),some (.lst V),some (.int (q:Int)),x9,aR,bf,bm,x13])
  (R:=.ok (.next,[some (.ab k),some (.ab h),some (.lst (aQ Pl)),some (.lst (bR H)),some (.lst (aQ T)),some (.int (i:Int)),some (.lst (aQ C)),some (.lst V),some (.int (q:Int)),some (.int (Pl.getD 1 0+40*i:Nat)),some (.int (q/2:Nat)),some (.lst ([(4,3,4),(16,Pl.getD 2 0+C.getD (q/2) 0,4),(20,15-C.getD (q/2) 0,4)].map qa)),on,uu]) _)
  (pD (dQ Pl (d:=1) (L2 [Pl.length,q/2,T.length] 0x23a90321101a5b hr h2) (L2 [Pl.length,T.length] 0xaa1013a9023b9aca008fa04b h2 h4))<|pD (wk (b:=2) (by decide) (by decide) q)<|pD (kb (b:=4) (by decide) i)<|pD (dQ [0,1,8,9] (d:=i%4) (mod_lt _ (by decide)))<|pD (wj (a:=q) (b:=0) (zero_le _))<|pD (kb (b:=2) (by decide) q)<|pD (mG (a:=q%2) (b:=0) ne)<|pD (wj (a:=q) (b:=0) (zero_le _)) <|
   pD (dQ Pl (d:=2) (L2 [Pl.length,q/2,T.length] 0x23a90321102a5b hr h2) (L2 [Pl.length,T.length] 0xaa1013a9023b9aca008fa04b h2 h4))<|pD pc<|pD pc<|pD (iW (a:=15) (b:=C.getD (q/2) 0) (L1 [C.getD (q/2) 0] 0xaa00f1fa04a h5)) <|
   pL (p9 (f:=λx:Nat×Nat×Nat=>[.int (x.1:Int),.int (x.2.1:Int)]) (l:=[(4,3,4),(16,Pl.getD 2 0+C.getD (q/2) 0,4),(20,15-C.getD (q/2) 0,4)]) nb)<|sF lo))
  (.snoc (E:=[]) len S ok e dl ho ((sd.at (di bq)).le (L0 [n,i] 0x1a191e2fb0911e2fb0949)) (by rw[np];exact dP hh) (c9 _).symm (zero_le _) ⟨λq' h Y=>by cases h;exact absurd Y ne,λJ=>rfl⟩)
theorem afj{q}(hq:q%2=0)(ho:H[i]?=some (some q))(hp:mO k h Pl T C H B n i σ st):fM (lp zu zv) (.tup [.int (i:Int),.int (q:Int)]) σ st (mO k h Pl T C H B n (i+1)):=by
 obtain⟨X,V,x5,x8,x9,aR,bf,bm,x13,_,sd,hh,e,dl,len,S,ok⟩:=hp
 have hi:=(bH.mp ho).1
 have hm:=cU ho
 have hr:=A.range q hm
 have h1:=A.heads;have h2:=A.pl;have h3:=A.small;have h4:=A.AJ;have h5:=hc (q/2);have h6:=A.tabs (q/2) hr;have h7:=A.afg (q/2);have h8:=A.bG
 obtain⟨E,bW,ee,s1,Rz,el,eo⟩:=ae6 (aj:=Pl.getD (3+q/2) 0) (cut:=C.getD (q/2) 0) (aq:=T.getD (q/2) 0) sd hh bq (L3 [n,i,H.length] 0x642fa21e2f6211e2f7aae605fa00dbba05fa11e2fb094c hn hi h8) (by rw[fw];exact L2 [B.length,N] 0xf42405fa10102f42405fa04b hB h3) (by rw[fw];exact L2 [Pl.getD (3+q/2) 0,T.getD (q/2) 0,B.length,N] 0x31102fb09032321102fb094b hB h6) h7 h5
 have nl:=AI Pl T C H i (some q)
 have np:uv Pl T C H i (some q,E)=kj (Pl.getD (3+q/2) 0) (C.getD (q/2) 0) E++f9 (Pl.getD 1 0+40*i) (gh Pl T C H i (some q)):=aw (·++_) (ax hq)
 have nz:gh Pl T C H i (some q)=[(4,2,4),(16,Pl.getD (3+q/2) 0,4),(20,16*T.getD (q/2) 0,4),(24,mM H (q+1),4),(36,16,4)]:=ax hq
 rw[nz] at nl np
 obtain⟨_,⟨on,uu⟩,lo⟩:=G1 (x0:=some (.ab k)) (x2:=some (.lst (aQ Pl))) (x3:=some (.lst (bR H))) (x4:=some (.lst (aQ T))) (x5:=some (.int (i:Int))) (x6:=some (.lst (aQ C))) (x7:=some (.lst (V++E.map Ent.d))) (x8:=some (.int (q:Int))) (p:=Pl.getD 1 0+40*i) (aR:=some (.int (q/2:Nat))) (bf:=some (.lst ([(4,2,4),(16,Pl.getD (3+q/2) 0,4),(20,16*T.getD (q/2) 0,4),(24,mM H (q+1),4),(36,16,4)].map qa))) (bm:=bm) (x13:=x13) Rz (by rw[fw,fw];exact L3 [Pl.getD 1 0,i,B.length,N,H.length] 0x34282fb09041282f73232282fa1282fb0994c hB hi h1) nl (by rw[fw,fw];exact L2 [B.length,N] 0xf42405fa1010210000007fa04b hB h3)
 have pp:=dQ Pl (d:=3+q/2) (L2 [q/2,Pl.length,T.length] 0x23a913201103a95b hr h2) (L2 [Pl.length,T.length] 0xaa1013a9023b9aca008fa04b h2 h4)
 have pt:=dQ T (d:=q/2) hr (L1 [T.length] 0xaa003b9aca008fa04a h4)
 exact .next trivial _ _ (cR (σ':=[some (.ab k),some (.ab h),some (.lst (aQ Pl)),some (.lst (bR H)),some (.lst (aQ T)),some (.int (i:Int)),some (.lst (aQ C)),some (.lst V),some (.int (q:Int)),x9,aR,bf,bm,x13])
  (R:=.ok (.next,[some (.ab k),some (.ab h),some (.lst (aQ Pl)),some (.lst (bR H)),some (.lst (aQ T)),some (.int (i:Int)),some (.lst (aQ C)),some (.lst (V++E.map Ent.d)),some (.int (q:Int)),some (.int (Pl.getD 1 0+40*i:Nat)),some (.int (q/2:Nat)),some (.lst ([(4,2,4),(16,Pl.getD (3+q/2) 0,4),(20,16*T.getD (q/2) 0,4),(24,mM H (q+1),4),(36,16,4)].map qa)),on,uu]) _)
  (pD (dQ Pl (d:=1) (L2 [Pl.length,q/2,T.length] 0x23a90321101a5b hr h2) (L2 [Pl.length,T.length] 0xaa1013a9023b9aca008fa04b h2 h4))<|pD (wk (b:=2) (by decide) (by decide) q)<|pD (kb (b:=4) (by decide) i)<|pD (dQ [0,1,8,9] (d:=i%4) (mod_lt _ (by decide)))<|pD (wj (a:=q) (b:=0) (zero_le _))<|pD (kb (b:=2) (by decide) q)<|pD (eqT (a:=q%2) (b:=0) hq) <|
   pD pp<|pD pt<|pD (aff (A.pair q hm hq) (L1 [H.length] 0x642fa0010000007fa04a h8))<|pD pp<|pD pt<|pD (dQ C (d:=q/2) (by rw[hC];exact hr) (L2 [C.length,T.length] 0xaa101023b9aca008fa04b hC h4))<|sD ee<|pD (mH (a:=V) (b:=E.map Ent.d) (by rw[aG];lia)) <|
   pL (p9 (f:=λx:Nat×Nat×Nat=>[.int (x.1:Int),.int (x.2.1:Int)]) (l:=[(4,2,4),(16,Pl.getD (3+q/2) 0,4),(20,16*T.getD (q/2) 0,4),(24,mM H (q+1),4),(36,16,4)]) nb)<|sF lo))
  (.snoc (E:=E) len S ok e dl ho ((s1.at (di bq)).le (L0 [n,i] 0x1a191e2fb091e2fa11e2fb09949)) (by rw[np,rj];exact dP Rz) rfl (L3 [E.length,T.getD (q/2) 0,T.getD (q/2) 0-1] 81100160755212364 h7 el (sub_le (T.getD (q/2) 0) 1)) ⟨λq' h J=>by cases h;exact⟨el,eo⟩,λh=>absurd (h q rfl) (L1 [q%2] 2686558266 hq)⟩)
end
theorem AL{l:List Nat}{b:Nat}(h:∀x∈l,x<=b)(j):l.getD j 0<=b:=by
 rw[eJ]
 cases e:l[j]? with
 |none=>exact zero_le _
 |some x=>exact h x (cU e)
inductive RA(R:Res D)(k h:Nat)(Pl T:List Nat)(H:List (Option Nat))(B:List UInt8)(n:Nat):Prop
 |mk (C:List Nat) (X:List (Option Nat×List Ent)) (st:List M) (e:R=.ok (.lst ((X.flatMap (·.2)).map Ent.d)) st) (sd:bX st k (n+4000)) (hh:st[h]?=some (.list (aJ (cE B (oo (Pl.getD 2 0)++mN Pl T C H X))))) (cl:C.length=T.length) (hc:∀j,C.getD j 0<=10) (S:X.map (·.1)=H) (ok:∀x∈X,rK T C x):RA R k h Pl T H B n
theorem afk{k h n N:Nat}{Pl T:List Nat}{H:List (Option Nat)}{B:List UInt8}{st:List M}(A:G2 Pl T H N)(hB:B.length=N)(sd:bX st k n)(hh:st[h]?=some (.list (aJ B)))(bq:h≠k)(hn:n<=600000) :
  RA (FV [.ab k,.ab h,.lst (aQ Pl),.lst (bR H),.lst (aQ T)] st) k h Pl T H B n:=by
 have h1:=A.bG;have h2:=A.pl;have h3:=A.small;have h4:=A.AJ;have h5:=A.text
 obtain⟨_,⟨x5⟩,e1⟩:=afc (x0:=some (.ab k)) (Pl:=Pl) (x3:=some (.lst (bR H))) (x4:=some (.lst (aQ T))) (x5:=none) (x6:=none) (x7:=none) (x8:=none) (x9:=none) (aR:=none) (bf:=none) (bm:=none) (x13:=none) hh (L1 [Pl.length,T.length] 1351038806618 h2) (L2 [Pl.length,T.length] 0xaa1013a9023b9aca008fa04b h2 h4) (L2 [Pl.getD 2 0,B.length,N] 0x2f1fa0902131f1fa094b hB h5) (L2 [B.length,N] 0xf42405fa101023b9aca008fa04b hB h3)
 have AM:(cE B (oo (Pl.getD 2 0))).length=N:=(fw ..).trans hB
 generalize hO:cE B (oo (Pl.getD 2 0))=B1 at e1 AM
 obtain⟨C,b8,ce,cl,s2,f2,ca⟩:=Rt (p:=(·<=10)) (λx st n sd hn=>ae7 (x1:=some (.ab h)) (x2:=some (.lst (aQ Pl))) (x3:=some (.lst (bR H))) (x4:=some (.lst (aQ T))) (x5:=x5) (x6:=none) (x7:=none) (x8:=none) (x9:=none) (aR:=none) (bf:=none) (bm:=none) (x13:=none) x st n sd hn) (V:=aQ T) (st:=st.set h (.list (aJ B1))) (sd.at (di bq)) (by rw[jR];exact L2 [n,T.length] 0xaa10927c05fa00dbba05fa1094b hn h4)
 rw[jR] at cl s2
 have hc:=AL ca
 have hh2:=(f2 h bq).trans (dP hh)
 obtain⟨_,_,lo,i⟩:=lI (λ(x:Option Nat×Nat)=>.tup [.int (x.2:Int),.int (kQ x.1)]) H.zipIdx (P:=mO k h Pl T C H B1 (n+T.length)) (λj x σ st hx hp=>by
   obtain⟨ho,e⟩:=Rl hx
   obtain⟨o,j'⟩:=x
   cases e
   cases o with
   |none=>exact afh A AM cl bq (L2 [n,T.length] 0xaa10927c05fa00aae605fa1094b hn h4) ho hp
   |some q=>exact(Nat.mod_two_eq_zero_or_one q).elim (λhq=>afj A AM cl hc bq (L2 [n,T.length] 0xaa10927c05fa00aae605fa1094b hn h4) hq ho hp) λhq=>afi A AM cl hc bq (L2 [n,T.length] 0xaa10927c05fa00aae605fa1094b hn h4) hq ho hp)
  (.mk [] [] x5 none none none none none none b8 s2 hh2 rfl (zero_le _) rfl rfl λJ h=>nomatch h)
 obtain⟨X,V,_,_,_,_,_,_,_,cf,s3,h3,rfl,_,_,S,ok⟩:=i
 rw[List.length_zipIdx] at s3 S
 rw[take_length] at S
 rw[<- GR λo=>.int (kQ o)] at lo
 exact⟨C,X,_,bp (pL (fY (n:=15) nb)<|sF e1<|pL (fi (V:=aQ T) (by rw[jR];exact L1 [T.length] 0xaa0010000007fa04a h4))<|sL ce<|pL (AB (V:=bR H) (by rw[aG];exact L1 [H.length] 0x642fa0010000007fa04a h1))<|sF lo),s3.le (L2 [n,T.length,H.length] 0xaa10642fa21e2f6fa03fa0921e2fb10994b h1 h4),by rw[rj,hO];exact h3,cl,hc,S,ok⟩
theorem afl{V:List D}{n:Nat}(h:V.length<=16777216)(st):kF (.lst V) none (some (n:Int)) st=.ok (.lst (V.take n)) st:=GF h st
theorem afm{V:List D}{n:Nat}(h:V.length<=16777216)(st):kF (.lst V) (some (n:Int)) none st=.ok (.lst (V.drop n)) st:=by
 show mw V (some (n:Int)) none st=_
 unfold mw
 rw[ax ⟨by simp[j6],h⟩]
 exact aw (λz=>Res.ok (D.lst z) st) (by simp[cut])
section
variable{O O':List (Option Nat)}{n:Nat}
theorem rL(h:O.length<=16777216)(st):pM [.lst (bR O)] st=.ok (.int (O.length:Int)) st:=(kL (by rw[aG];exact h) st).trans (by rw[aG])
theorem G3(h:O.length<=16777216)(st):kF (.lst (bR O)) none (some (n:Int)) st=.ok (.lst (bR (O.take n))) st:=(afl (by rw[aG];exact h) st).trans (aw (λz=>Res.ok (D.lst z) st) (map_take ..).symm)
theorem RB(h:O.length<=16777216)(st):kF (.lst (bR O)) (some (n:Int)) none st=.ok (.lst (bR (O.drop n))) st:=(afm (by rw[aG];exact h) st).trans (aw (λz=>Res.ok (D.lst z) st) (map_drop ..).symm)
theorem AN(h:O.length+O'.length<=16777216)(st):pH (.lst (bR O)) (.lst (bR O')) st=.ok (.lst (bR (O++O'))) st:=(mH (by rw[aG,aG];exact h) st).trans (aw (λz=>Res.ok (D.lst z) st) eV.symm)
end
theorem afn(l):aQ l=bR (l.map some):=by
 induction l with
 |nil=>rfl
 |cons a l ih=>exact aw (D.int (a:Int) :: ·) ih
theorem G4{n:Nat}(h:n<=16777216)(st):ij [.int (n:Int)] st=.ok (bR ((List.range n).map some)) st:=(fY h st).trans (aw (λz=>Res.ok z st) (afn _))
def afo(a b:Option Nat):Prop:=∀q,a=some q->b≠some q
structure lQ(n:Nat)(H:List (Option Nat)):Prop where
 mem:∀q,some q∈H↔q<n
 uniq:H.Pairwise afo
 len:H.length<=n+1
theorem lQ.rot{n}{H}(h:lQ n H)(m):lQ n (H.drop m++H.take m):=by
 have p:(H.drop m++H.take m).Perm H:=List.perm_append_comm.trans (by rw[List.take_append_drop])
 exact⟨λq=>p.mem_iff.trans (h.mem q),(p.pairwise_iff λh q e k=>h q k e).mpr h.uniq,p.length_eq▸h.len⟩
theorem lQ.range(n):lQ n ((List.range n).map some):=
 ⟨λq=>⟨λh=>by obtain⟨x,h,e⟩:=da.mp h;cases e;exact mem_range.mp h,λh=>da.mpr ⟨q,mem_range.mpr h,rfl⟩⟩,pairwise_map.mpr (List.pairwise_lt_range.imp fun{a b} h q e k=>by cases e;cases k;exact lt_irrefl _ h),by rw[aG,eU];exact le_succ _⟩
theorem lQ.jS{n}{H}(h:lQ n H)(I:H.length<=n):lQ n (none::H):=
 ⟨λq=>Iff.trans ⟨λk=>(dI.mp k).resolve_left (λe=>nomatch e),.tail _⟩ (h.mem q),.cons (λJ J J e=>nomatch e) h.uniq,succ_le_succ I⟩
structure AO(n m:Nat)(O:List (Option Nat)):Prop where
 all:O.filterMap id=List.range n
 len:O.length<=n+m
theorem afp(n):((List.range n).map some).filterMap id=List.range n:=by rw[filterMap_map];exact List.filterMap_some
structure AP(n:Nat)(O:List (Option Nat))(T:List Nat)(H:List (Option Nat)):Prop where
 order:AO n 2 O
 tabs:T.length<=2
 small:∀c∈T,c<=3
 heads:lQ (2*T.length) H
inductive AQ(k:Nat)(b:Bool)(sp en:D)(T H:D)(m n i:Nat):List (Option D)->List M->Prop
 |mk (O:List (Option Nat)) (x7 x8:Option D) (st:List M) (sd:bX st k (n+i)) (ok:AO m i O):AQ k b sp en T H m n i [some (.ab k),some (.bool b),some sp,some en,some (.lst (bR O)),some T,some H,x7,x8,none,none,none,none,none,none,none,none,none,none,none,none] st
theorem afq{k m n i}{b}{sp en T H}{σ}{st}(hn:n<=900000)(hm:m<=100)(hi:i<=100)(x)(hp:AQ k b sp en T H m n i σ st):fM (lp Pf Pg) x σ st (AQ k b sp en T H m n (i+1)):=by
 obtain⟨O,x7,x8,_,sd,ok⟩:=hp
 have ol:=ok.len
 obtain⟨d,bW,l,q,s1,_,_⟩:=cJ (O.length+1) sd (L2 [n,i] 0x642fa10dbba05fa00f42405fa1094b hn hi) (Nat.succ_pos _) (L3 [O.length,m,i] 0x21900642fa20642fa101000000000000000011e1a095c hm hi ol)
 have oz:O.length<=16777216:=L3 [O.length,m,i] 0x21900642fa20642fa1010000007fa04c hm hi ol
 have tl:(O.take d).length<=1000:=bg (length_take_le' ..) (L3 [O.length,m,i] 0x21900642fa20642fa103e83fa04c hm hi ol)
 have dl:(O.drop d).length<=1000:=by rw[length_drop];exact L4 [O.length-d,m,i,O.length] 0x30021930642fa20642fa103e83fa04d hm hi ol (sub_le O.length d)
 refine .next trivial _ _ (cR (σ':=[some (.ab k),some (.bool b),some sp,some en,some (.lst (bR O)),some T,some H,some x,x8,none,none,none,none,none,none,none,none,none,none,none,none])
  (R:=.ok (.next,[some (.ab k),some (.bool b),some sp,some en,some (.lst (bR (O.take d++[none]++O.drop d))),some T,some H,some x,some (.int (d:Int)),none,none,none,none,none,none,none,none,none,none,none,none]) bW)
  (pD (rL oz)<|sD q<|pD (G3 (n:=d) oz)<|pD (AN (O:=O.take d) (O':=[none]) (by show _+1<=_;exact L1 [(List.take d O).length] 0x3e83fa0010000007fa1a094a tl))<|pD (RB (n:=d) oz)<|pD (AN (O:=O.take d++[none]) (O':=O.drop d) (by rw[aW];show _+1+_<=_;exact L2 [(List.take d O).length,(List.drop d O).length] 0x3e83fa103e83fa0010000007fa11a0994b tl dl)))) (.mk _ _ _ _ s1 ⟨?_,?_⟩)
 .rw[filterMap_append,filterMap_append,show[(none:Option Nat)].filterMap id=[] from rfl,c9,<- filterMap_append,List.take_append_drop];exact ok.all
 .rw[dG,aW,aW,length_take,length_drop];show _+(1+_)<=_;exact L3 [min d O.length,O.length-d,m,i,O.length,d] 0x45192500329401a392911a9094c ol (min_le_left d O.length) (show O.length-d+d=O.length from gm (L1 [d,O.length] 112088649802 l))
theorem afr{k}{σ}(x)(st)(n)(sd:bX st k n)(hn:n<=900000):AH Ph (some (.ab k)::σ) x st k n (·<=3):=by
 obtain⟨d,bW,l,q,s1,f1,_⟩:=cJ 4 sd
 exact⟨_,bW,[some (.ab k),some x],by kernel_rfl,by kernel_rfl,sD q,s1,f1,le_of_lt_succ l⟩
theorem afs{t}{A B X}{σ}{st}(h:t.t σ st=.ok false st)(Y:B.t σ st=.ok (.next,σ) st):(q (ite t A B) X).t σ st=X.t σ st:=by
 show(tT t.t A.t B.t σ st).bind (yN X.t)=_
 unfold tT;rw[h]
 show(B.t σ st).bind (yN X.t)=_
 rw[Y];rfl
inductive RC(R:Res (Fl×List (Option D)))(k n m:Nat)(b:Bool)(sp en:D)(tail:TE (Fl×List (Option D))):Prop
 |mk (O:List (Option Nat)) (T:List Nat) (H:List (Option Nat)) (x7 x8:Option D) (st:List M) (e:R=(tail [some (.ab k),some (.bool b),some sp,some en,some (.lst (bR O)),some (.lst (aQ T)),some (.lst (bR H)),x7,x8,none,none,none,none,none,none,none,none,none,none,none,none] st).run) (sd:bX st k (n+20)) (P:AP m O T H):RC R k n m b sp en tail
theorem aft{k n m:Nat}{b:Bool}{sp en:D}{st:List M}(sd:bX st k n)(hn:n<=700000)(hm:m<=4) :
  RC (FX.t [some (.ab k),some (.bool b),some sp,some en,some (.lst (bR ((List.range m).map some))),some (.lst (aQ [2])),some (.lst (bR ((List.range 2).map some))),none,none,none,none,none,none,none,none,none,none,none,none,none,none] st).run k n m b sp en zy.t:=by
 have G5:AO m 0 ((List.range m).map some):=⟨afp m,by rw[aG,eU];exact dC _⟩
 cases b with
 |false=>exact⟨(List.range m).map some,[2],(List.range 2).map some,none,none,st,aw T.run (afs (X:=zy) (by kernel_rfl) (by kernel_rfl)),sd.le (L0 [n] 86698397769),⟨⟨G5.all,bg G5.len (L0 [m] 180540279113)⟩,nb,gz.mpr nb,.range 2⟩⟩
 |true=>
  obtain⟨d1,bW,l1,q1,s1,_,_⟩:=cJ 3 sd
  obtain⟨_,_,lo,⟨O,x7,x8,b8,s2,ok⟩⟩:=uj (λ(i:Nat)=>.int (i:Int)) d1 (P:=AQ k true sp en (.lst (aQ [2])) (.lst (bR ((List.range 2).map some))) m (n+1)) (λj σ st hj hp=>afq (L1 [n] 0xaae605fa00dbba05fa1a094a hn) (L1 [m] 81365541298250 hm) (L2 [j,d1] 72402915384336459 l1 hj) _ hp) (.mk _ none none bW s1 G5)
  obtain⟨d3,cf,l3,q3,s3,_,_⟩:=cJ 3 s2
  obtain⟨T,cM,te,tl,s4,_,ta⟩:=Rt (p:=(·<=3)) (λx st n sd hn=>afr (σ:=[some (.bool true),some sp,some en,some (.lst (bR O)),some (.lst (aQ [2])),some (.lst (bR ((List.range 2).map some))),x7,x8,none,none,none,none,none,none,none,none,none,none,none,none]) x st n sd hn) (V:=aQ (List.range d3)) s3 (by rw[jR,eU];exact L3 [n,d1,d3] 0x3a213a11aae605fa00dbba05fa21a11a099994c hn l1 l3)
  rw[jR,eU] at tl s4
  obtain⟨d5,ki,l5,q5,s5,_,_⟩:=cJ 2 s4
  have hd:([(none:Option Nat)].take d5).length<=1:=length_take_le' ..
  refine⟨O,T,[none].take d5++(List.range (2*T.length)).map some,x7,x8,ki,sD q1<|pL (fY (n:=d1) (L1 [d1] 0x3a0110000007fa04a l1))<|sF lo<|sD q3<|pL (fY (n:=d3) (L1 [d3] 0x3a0110000007fa04a l3))<|sL te<|sD q5<|pD (G3 (O:=[none]) (n:=d5) nb)<|pD (us (l:=T) (L2 [T.length,d3] 0x1023a1110000007fa04b l3 tl))<|pL (G4 (n:=2*T.length) (L2 [T.length,d3] 0x10283a12710000007fa02b4b l3 tl))<|pD (AN (O:=[none].take d5) (O':=(List.range (2*T.length)).map some) (by rw[aG,eU];lia)) (sX rfl),s5.le (L2 [n,d1,d3] 0x3a213a11142fa091a21a11a0999994b l1 l3),⟨⟨ok.all,bg ok.len (L1 [m,d1] 0x3a112a091094a l1)⟩,L2 [T.length,d3] 17745212252235 l3 tl,ta,?_⟩⟩
  rcases d5 with _ | _ | d5
  .exact .range _
  .exact(lQ.range _).jS (by rw[aG,eU];exact dC _)
  .lia
theorem wL{α β:Type}{f:Nat->β}{g:α->β}{l:List α}(h:∀j x,l[j]?=some x->f j=g x):(List.range l.length).map f=l.map g:=by
 refine ext_getElem (by rw[aG,aG,eU]) λi h1 h2=>?_
 rw[aG] at h2
 rw[getElem_map,getElem_map,List.getElem_range]
 exact h i _ (c8 h2)
theorem AR{α β:Type}(f:α->Option β)(l:List α):l.filterMap f=(l.map f).filterMap id:=by rw[filterMap_map];rfl
theorem G6{α β:Type}{f:Nat->Option β}{g:α->Option β}{l:List α}(h:∀j x,l[j]?=some x->f j=g x):(List.range l.length).filterMap f=l.filterMap g:=by rw[AR,wL h,<- AR]
noncomputable def ip(entry p0 p1 wide nO sz nH:Nat):List (Nat×Nat×Nat):=
 [(0,1179403647,4),(4,65793,3),(16,2,2),(18,243,2),(20,1,4),(24,entry,4),(28,p0,4),(32,p1,4),(40,wide,2),(42,32,2),(44,nO,2),(46,sz,2),(48,nH,2)]
noncomputable def bE.uw(B:List UInt8):bE->Option ar
 |.jS _=>none
 |.seg p w _ _=>if 0<p.s then some ⟨p.a,part B w p.c,p.s,p.r⟩ else none
noncomputable def iq(B:List UInt8)(x:Span×Nat):ar:=⟨x.1.a,part B x.2 x.1.c,x.1.s,x.1.r⟩
theorem afu{B:List UInt8}{p N:Nat}{x:bE}(hx:x.Ok N)(sp:∀q,x.span?=some q->AD q)(hN:N<=1000000)(h:∀i v,x.words[i]?=some v->aK B p i=v%4294967296):Gq B p/\(aK B p 0=1->aK B p 1+aK B p 4<=N)/\kf B p=x.uw B:=by
 cases x with
 |jS k=>
  have h0:aK B p 0=k%4294967296:=h 0 k rfl
  obtain⟨a,b,c,d⟩:=hx
  rw[mod_eq_of_lt d] at h0
  have n1:aK B p 0≠1:=h0▸a
  exact⟨⟨⟨h0▸b,h0▸c⟩,λq=>absurd q n1,λq=>absurd q n1,λq=>absurd q n1⟩,λq=>absurd q n1,aY λq=>n1 q.1⟩
 |seg q w hi al=>
  obtain⟨h1,h2,h3,h4,h5⟩:=hx
  have s:=sp q rfl
  have m:=fun{i v:Nat} (e:(bE.seg q w hi al).words[i]?=some v) (k:v<4294967296)=>(h i v e).trans (mod_eq_of_lt k)
  have r0:aK B p 0=1:=m rfl (by decide)
  have r1:aK B p 1=w:=m rfl (L2 [w,N,q.c] 0x12090f42405fa101000000009fa05b hN h1)
  have r2:aK B p 2=q.a:=m rfl (lt_succ_of_le s.a)
  have r4:aK B p 4=q.c:=m rfl (Nat.lt_of_le_of_lt s.bG (by decide))
  have r5:aK B p 5=q.s:=m rfl (lt_succ_of_le s.s)
  have r6:aK B p 6=q.r+hi:=m rfl (by have:=s.r;exact L2 [q.r,hi] 0x8a01800000088fa101000000009fa1095b h3 this)
  have r7:aK B p 7=al:=m rfl (L1 [al] 0x102fa001000000009fa05a h4)
  refine⟨⟨by rw[r0];decide,λJ=>by rw[r4,r5];exact s.cs,λJ=>by rw[r2,r5];exact s.mem,λJ=>by rw[r1,r2,r7];exact h5⟩,λJ=>by rw[r1,r4];exact h1,?_⟩
  have e8:(q.r+hi)%8=q.r:=by have:=s.r;lia
  unfold kf
  rw[show bE.uw B (.seg q w hi al)=if 0<q.s then some ⟨q.a,part B w q.c,q.s,q.r⟩ else none from rfl,r0,r1,r2,r4,r5,r6,e8]
  by_cases z:0<q.s
  .rw[ax ⟨rfl,z⟩,ax z]
  .rw[aY λk=>z k.2,aY z]
theorem G7(B):∀K:List bE,K.filterMap (bE.uw B)=(((K.filterMap bE.span?).zip (K.filterMap bE.f7)).map (iq B)).filter λv=>decide (0<v.s)
 |[]=>rfl
 |.jS k::K=>G7 B K
 |.seg p w hi al::K=>by
  have ih:=G7 B K
  show(bE.seg p w hi al::K).filterMap (bE.uw B)=(iq B (p,w)::((K.filterMap bE.span?).zip (K.filterMap bE.f7)).map (iq B)).filter _
  rw[List.filterMap_cons,filter_cons]
  by_cases h:0<p.s
  .rw[show bE.uw B (.seg p w hi al)=some (iq B (p,w)) from ax h,show decide (0<(iq B (p,w)).s)=true from gc h,ax rfl,<- ih]
  .rw[show bE.uw B (.seg p w hi al)=none from aY h,show decide (0<(iq B (p,w)).s)=false from decide_eq_false h,aY em,<- ih]
theorem G8:∀K:List bE,(K.filterMap bE.span?).length=(K.filterMap bE.f7).length
 |[]=>rfl
 |.jS _::K=>G8 K
 |.seg _ _ _ _::K=>aw Nat.succ (G8 K)
theorem afv{K:List bE}{L:List Span}{O:List (Option Nat)}(S:K.map bE.span?=rG L O)(h:O.filterMap id=List.range L.length):K.filterMap bE.span?=L:=by
 have e:=G6 (f:=λj=>L[j]?) (g:=some) (l:=L) λJ J h=>h
 rw[List.filterMap_some] at e
 rw[<- h,List.filterMap_filterMap] at e
 exact(AR _ _).trans ((aw (List.filterMap id) S).trans ((AR _ _).symm.trans e))
theorem p7.pw{L}{e}(A:p7 L e):L.Pairwise λp q=>p.a+p.s<=q.a:=by
 induction A with
 |nil=>exact .nil
 |snoc a h1 h2 ih=>exact List.pairwise_append.mpr ⟨ih,List.pairwise_singleton _ _,λq hq r hr=>by cases dT.mp hr;exact bg (a.le hq) h1⟩
theorem RD{ai}(h:ai.Pairwise λv w=>v.a+v.s<=w.a):kN ai:=by
 induction h with
 |nil=>exact .nil
 |cons h _ ih=>exact .cons h ih
theorem RE{L:List Span}{W:List Nat}(h:L.Pairwise λp q=>p.a+p.s<=q.a)(I:L.length=W.length):(L.zip W).Pairwise λx y=>x.1.a+x.1.s<=y.1.a:=by rw[<- List.map_fst_zip (le_of_eq I)] at h;exact pairwise_map.mp h
theorem RG{α:Type}{R:α->α->Prop}{l:List α}(h:l.Pairwise R){x y:α}(hx:x∈l)(hy:y∈l):x=y\/R x y\/R y x:=by
 induction h with
 |nil=>nomatch hx
 |cons h _ ih=>
  cases hx with
  |head=>exact(dI.mp hy).elim (λe=>.inl e.symm) λhy=>.inr (.inl (h _ hy))
  |tail _ hx=>cases hy with
   |head=>exact .inr (.inr (h _ hx))
   |tail _ hy=>exact ih hx hy
theorem afw{B:List UInt8}{L:List Span}{W:List Nat}{entry:Nat}{p:Span}(h:L.Pairwise λp q=>p.a+p.s<=q.a)(I:L.length=W.length)(hp:p∈L)(h1:p.a<=entry)(h2:entry<p.a+p.s)(hr:p.r%2=1) :
  ∃v,(((L.zip W).map (iq B)).filter λv=>decide (0<v.s)).find? (·.has entry)=some v/\v.f%2=1:=by
 rw[<- List.map_fst_zip (le_of_eq I)] at hp
 obtain⟨x,hx,rfl⟩:=da.mp hp
 have hm:iq B x∈((L.zip W).map (iq B)).filter λv=>decide (0<v.s):=mem_filter.mpr ⟨da.mpr ⟨x,hx,rfl⟩,gc (show 0<x.1.s by exact L2 [x.fst.s,x.fst.a,entry] 27630078265947 h1 h2)⟩
 cases hf:(((L.zip W).map (iq B)).filter λv=>decide (0<v.s)).find? (·.has entry) with
 |none=>exact absurd (gc (show x.1.a<=entry/\entry<x.1.a+x.1.s from⟨h1,h2⟩)) (find?_eq_none.mp hf _ hm)
 |some v=>
  obtain⟨y,hy,rfl⟩:=da.mp (mem_filter.mp (List.mem_of_find?_eq_some hf)).1
  have hv:y.1.a<=entry/\entry<y.1.a+y.1.s:=dJ (show(iq B y).has entry=true from find?_some (p:=λv:ar=>v.has entry) hf)
  refine⟨_,rfl,?_⟩
  rcases RG (RE h I) hx hy with rfl | z | z
  .exact hr
  .exact absurd (bg z hv.1) (Nat.not_le.mpr h2)
  .exact absurd (bg z h1) (Nat.not_le.mpr hv.2)
noncomputable def cX(O:List (Option Nat))(T:List Nat)(H:List (Option Nat)):List Nat:=32*O.length::40*H.length::15::T.map (16 * ·)
section
variable{m az last n:Nat}{O:List (Option Nat)}{T C Pl:List Nat}{H:List (Option Nat)}{K:List bE}{X:List (Option Nat×List Ent)}
theorem iu:(cX O T H).length=3+T.length:=(add_comm _ 3).trans (aw (3 + ·) (aG _))
theorem G9(t):(cX O T H).getD (3+t) 0=16*T.getD t 0:=by
 rw[add_comm]
 show(T.map (16 * ·)).getD t 0=_
 rw[eJ,eJ,getElem?_map]
 cases T[t]? <;> rfl
def Cell(Pl:List Nat)(O:List (Option Nat))(T:List Nat)(H:List (Option Nat))(q:Nat)(t:dL):Prop:=q<3+T.length/\Pl.getD q 0<=t.p/\t.p+t.n<=Pl.getD q 0+(cX O T H).getD q 0
theorem Cell.off(P:kP (cX O T H) Pl last az){q q'}{t t'}(h:Cell Pl O T H q t)(Y:Cell Pl O T H q' t')(bq:q≠q'):t'.off t.p t.n:=by
 obtain⟨a,b,c⟩:=h
 obtain⟨a',b',c'⟩:=Y
 have:=P.apart q q' (iu▸a) (iu▸a') bq
 unfold dL.off;exact this.elim (λbM=>.inr (L3 [t.p,t.n,t'.p,Pl.getD q 0,(cX O T H).getD q 0,Pl.getD q' 0] 0x54390250439109021094c c b' bM)) λbM=>.inl (L3 [t'.p,t'.n,t.p,Pl.getD q 0,Pl.getD q' 0,(cX O T H).getD q' 0] 0x35490549109023021094c b c' bM)
theorem Ha(hK:K.length=O.length){t}(ht:t∈lM (Pl.getD 0 0) K):Cell Pl O T H 0 t:=by
 obtain⟨j,x,h1,h2⟩:=AA ht
 have h3:=GS _ _ t h2
 have h4:x.words.length<=8:=by cases x <;> exact nb
 have:=(bH.mp h1).1
 have e:(cX O T H).getD 0 0=32*O.length:=rfl
 unfold Cell;exact⟨L0 [T.length] 61409881,⟨L1 [Pl.getD 0 0,t.p,j] 0x120a9202fb090104a h3.1,L5 [t.p,t.n,Pl.getD 0 0,(cX O T H).getD 0 0,K.length,O.length,j,x.words.length] 0x5202fb3346202f78a74674b60a9202fb299109054202f83291094e hK h3.2 h4 this e⟩⟩
theorem Hb{t}(ht:t∈oo (Pl.getD 2 0)):Cell Pl O T H 2 t:=by
 obtain⟨i,hi,rfl⟩:=da.mp ht
 have:=mem_range.mp hi
 exact⟨L0 [T.length] 61418073,fN ..,show Pl.getD 2 0+i+1<=Pl.getD 2 0+15 by exact L1 [Pl.getD 2 0,i] 0xf1fa11f1fa091a10994a this⟩
theorem Hc{p cut}{e}:z0 (f9 p (rJ cut e)) p (p+16):=Rm (bU.mpr ⟨nb,bU.mpr ⟨nb,gz.mpr nb⟩⟩)
theorem RH{q}{E}(hq:q<T.length)(hE:E.length=T.getD q 0-1){t}(ht:t∈kj (Pl.getD (3+q) 0) (C.getD q 0) E):Cell Pl O T H (3+q) t:=by
 obtain⟨j,x,h1,h2⟩:=AA ht
 have h3:=Hc t h2
 have:=(bH.mp h1).1
 have e:=G9 (O:=O) (T:=T) (H:=H) q
 unfold Cell;lia
theorem afx(p cut)(E):fy (kj p cut E):=
 GQ (λj e J=>GU (dJ (by kernel_rfl))) λj j' a a' q J J t ht t' ei=>by
  have h1:=Hc t ht;have h2:=Hc t' ei
  unfold dL.off;exact .inr (L3 [t.p,t.n,t'.p,j,j',p] 0x241a9102fb590102fa31a9102fb599109043102f721094c q h1.2 h2.1)
theorem afy(p)(K):fy (lM p K):=
 GQ (λj e J=>aeW ..) λj j' a a' q J J t ht t' ei=>by
  have h1:=GS _ _ t ht;have h2:=GS _ _ t' ei
  have h4:a.words.length<=8:=by cases a <;> exact nb
  unfold dL.off;exact .inr (L4 [t.p,t.n,t'.p,j,j',p,a.words.length] 0x8a646240a9202fb59064b30a9202fb599109043202f721094d q h1.2 h2.1 h4)
theorem afz(p):fy (oo p):=.map (List.pairwise_lt_range.imp fun{a b} h=>.inr (show p+a+1<=p+b by exact L1 [p,a,b] 9308504532752714 h))
theorem afA(p i)(o):fy (f9 p (gh Pl T C H i o)):=by
 refine GU ?_
 unfold gh
 split
 .exact dJ (by kernel_rfl)
 .split <;> exact dJ (by kernel_rfl)
theorem Hd(p i)(o):z0 (f9 p (gh Pl T C H i o)) p (p+40):=Rm λx hx=>by
 obtain⟨a,b⟩:=AI Pl T C H i o x hx
 rw[b];exact a
theorem AS{i}{o}(hi:i<H.length){t}(ht:t∈f9 (Pl.getD 1 0+40*i) (gh Pl T C H i o)):Cell Pl O T H 1 t:=by
 have h:=Hd _ _ _ t ht
 have e:(cX O T H).getD 1 0=40*H.length:=rfl
 unfold Cell;exact⟨L0 [T.length] 61413977,⟨L1 [Pl.getD 1 0,t.p,i] 5110734871597130 h.1,L3 [t.p,t.n,Pl.getD 1 0,(cX O T H).getD 1 0,i,H.length] 0x5282fb33282fa4282fb299109054282f73291094c hi h.2 e⟩⟩
theorem RI{o}{E}{t}(h:t∈AK Pl C E o):∃q,o=some q/\q%2=0/\t∈kj (Pl.getD (3+q/2) 0) (C.getD (q/2) 0) E:=by
 cases o with
 |none=>nomatch h
 |some q=>
  have h:t∈if q%2=0 then kj (Pl.getD (3+q/2) 0) (C.getD (q/2) 0) E else[]:=h
  by_cases z:q%2=0
  .rw[ax z] at h;exact⟨q,rfl,z,h⟩
  .rw[aY z] at h;nomatch h
theorem afB(E)(o):fy (AK Pl C E o):=by
 cases o with
 |none=>exact .nil
 |some q=>
  show fy (if q%2=0 then kj (Pl.getD (3+q/2) 0) (C.getD (q/2) 0) E else[])
  split
  .exact afx ..
  .exact .nil
theorem AT{i}{x}{t}(hx:rK T C x)(hr:∀q,x.1=some q->q/2<T.length)(ht:t∈uv Pl T C H i x) :
  (∃q,x.1=some q/\q%2=0/\Cell Pl O T H (3+q/2) t)\/t∈f9 (Pl.getD 1 0+40*i) (gh Pl T C H i x.1):=
 (cy.mp ht).elim (λh=>by
  obtain⟨q,e,z,h⟩:=RI h
  exact .inl ⟨q,e,z,RH (hr q e) (hx.1 q e z).1 h⟩) .inr
structure jT(n:Nat)(T C:List Nat)(H:List (Option Nat))(X:List (Option Nat×List Ent)):Prop where
 S:X.map (·.1)=H
 ok:∀x∈X,rK T C x
 heads:lQ (2*T.length) H
theorem jT.at(A:jT n T C H X){i:Nat}{x:Option Nat×List Ent}(h:X[i]?=some x):H[i]?=some x.1/\rK T C x/\∀q,x.1=some q->q/2<T.length:=by
 have hH:H[i]?=some x.1:=by rw[<- A.S,getElem?_map,h];rfl
 refine⟨hH,A.ok x (cU h),λq e=>?_⟩
 have:=(A.heads.mem q).mp (e▸cU hH)
 exact L2 [q/2,T.length,q] 0x202c012b21102bb this (jy q 2)
theorem jT.put(A:jT n T C H X){t:dL}(ht:t∈mN Pl T C H X):∃q,q≠0/\q≠2/\Cell Pl O T H q t:=by
 obtain⟨i,x,h1,h2⟩:=AA ht
 rw[gk] at h2
 obtain⟨hH,hx,hr⟩:=A.at h1
 rcases AT (O:=O) hx hr h2 with⟨q,_,_,c⟩ | h
 .exact⟨3+q/2,L0 [q/2] 168012073,L0 [q/2] 704882985,c⟩
 .exact⟨1,by decide,by decide,AS (bH.mp hH).1 h⟩
theorem jT.apart(A:jT n T C H X)(P:kP (cX O T H) Pl last az):fy (mN Pl T C H X):=by
 refine GQ (λi x h=>?_) λi j x y RJ h Y t ht t' ei=>?_
 .rw[gk]
  obtain⟨hH,hx,hr⟩:=A.at h
  refine(afB ..).append (afA ..) λt ht t' ei=>?_
  have c':=AS (O:=O) (bH.mp hH).1 ei
  obtain⟨q,e,z,h⟩:=RI ht
  exact(RH (hr q e) (hx.1 q e z).1 h).off P c' (L0 [q/2] 436447529)
 .rw[gk] at ht ei
  obtain⟨hH,hx,hr⟩:=A.at h
  obtain⟨hH',lu,pq⟩:=A.at Y
  obtain⟨l1,g1⟩:=bH.mp hH
  obtain⟨l2,g2⟩:=bH.mp hH'
  rcases AT (O:=O) hx hr ht with⟨q,e,z,c⟩ | a
  .rcases AT (O:=O) lu pq ei with⟨q',e',z',c'⟩ | a'
   .have u:=(List.pairwise_iff_getElem.mp A.heads.uniq) i j l1 l2 RJ q (g1.trans e)
    rw[g2,e'] at u
    exact c.off P c' λk=>u (aw some (eK (L4 [q',q,q'%2,q/2,q'/2] 0x132c0042b29343a933a9290a22104d z' k (Nat.mod_add_div q' 2) (jy q 2)) (L4 [q,q',q%2,q/2,q'/2] 0x142c0032b29343a933a9280a22104d z k (Nat.mod_add_div q 2) (jy q' 2))))
   .exact c.off P (AS l2 a') (L0 [q/2] 436447529)
  .rcases AT (O:=O) lu pq ei with⟨q',e',z',c'⟩ | a'
   .exact(AS l1 a).off P c' (L0 [q'/2] 61413945)
   .have b:=Hd _ _ _ t a;have b':=Hd _ _ _ t' a'
    unfold dL.off;exact .inr (L3 [t.p,t.n,t'.p,i,j,Pl.getD 1 0] 0x24282fb590282fa3282fb599109043282f721094c RJ b.2 b'.1)
end
noncomputable def oq(entry wide sz:Nat)(Pl:List Nat)(O:List (Option Nat))(T C:List Nat)(H:List (Option Nat))(K:List bE)(X:List (Option Nat×List Ent)):List dL:=
 f9 0 (ip entry (Pl.getD 0 0) (Pl.getD 1 0) wide O.length sz H.length)++(lM (Pl.getD 0 0) K++(oo (Pl.getD 2 0)++mN Pl T C H X))
section
variable{n az last entry wide sz:Nat}{O:List (Option Nat)}{T C Pl:List Nat}{H:List (Option Nat)}{K:List bE}{X:List (Option Nat×List Ent)}{B:List UInt8}
theorem He{t}{p0 p1 nO nH}(ht:t∈f9 0 (ip entry p0 p1 wide nO sz nH)):t.p+t.n<=52:=by
 obtain⟨x,hx,rfl⟩:=da.mp ht
 rw[gk]
 have e:(ip entry p0 p1 wide nO sz nH).all (λx=>decide (x.1+x.2.2<=52))=true:=by kernel_rfl
 exact dJ (all_eq_true.mp e x hx)
theorem Cell.low(P:kP (cX O T H) Pl last az){q}{t}(c:Cell Pl O T H q t):52<=t.p/\t.p+t.n<=last:=by
 obtain⟨a,b,d⟩:=c
 have:=P.each q (iu▸a)
 exact⟨L2 [t.p,Pl.getD q 0] 0x1342fa00100342fa4b b this.1,L2 [t.p,t.n,last,Pl.getD q 0,(cX O T H).getD q 0] 0x24390439109021094b d this.2⟩
theorem RK(A:jT n T C H X)(hK:K.length=O.length){t}(ht:t∈lM (Pl.getD 0 0) K++(oo (Pl.getD 2 0)++mN Pl T C H X)):∃q,Cell Pl O T H q t:=by
 rcases cy.mp ht with h | h
 .exact⟨0,Ha hK h⟩
 .rcases cy.mp h with h | h
  .exact⟨2,Hb h⟩
  .obtain⟨q,_,_,c⟩:=A.put (O:=O) h;exact⟨q,c⟩
theorem afC(A:jT n T C H X)(P:kP (cX O T H) Pl last az)(hK:K.length=O.length):fy (oq entry wide sz Pl O T C H K X):=by
 refine(GU (dJ (by kernel_rfl))).append ((afy ..).append ((afz _).append (A.apart P) λt ht t' ei=>?_) λt ht t' ei=>?_) λt ht t' ei=>?_
 .obtain⟨q,_,h2,c⟩:=A.put (O:=O) ei
  exact(Hb ht).off P c (Ne.symm h2)
 .rcases cy.mp ei with h | h
  .exact(Ha hK ht).off P (Hb h) (by decide)
  .obtain⟨q,h0,_,c⟩:=A.put (O:=O) h
   exact(Ha hK ht).off P c (Ne.symm h0)
 .obtain⟨q,c⟩:=RK A hK ei
  exact .inr (bg (He ht) (c.low P).1)
theorem afD(A:jT n T C H X)(P:kP (cX O T H) Pl last az)(hK:K.length=O.length)(I:52<=last):∀t∈oq entry wide sz Pl O T C H K X,t.p+t.n<=last:=λt ht=>
 (cy.mp ht).elim (λh=>bg (He h) I) λh=>by obtain⟨q,c⟩:=RK A hK h;exact(c.low P).2
variable(hd:Holds B (oq entry wide sz Pl O T C H K X))
include hd
theorem km{i:Nat}{x:Nat×Nat×Nat}(h:(ip entry (Pl.getD 0 0) (Pl.getD 1 0) wide O.length sz H.length)[i]?=some x):le B x.1 x.2.2=x.2.1%256^x.2.2:=by
 have:=hd _ (fP _ (AE (p:=0) x (cU h)))
 rwa [gk] at this
theorem afE{j i v}{x}(h:K[j]?=some x)(Y:x.words[i]?=some v):aK B (Pl.getD 0 0+32*j) i=v%4294967296:=
 hd _ (cA _ (fP _ (GP (i:=0) h (by rw[gk];exact aeV Y))))
theorem afF{i}(h:i<15):bk B (Pl.getD 2 0+i)=bk lP i:=by
 have:=hd _ (cA _ (cA _ (fP _ (da.mpr ⟨i,mem_range.mpr h,rfl⟩))))
 exact this.trans (mod_eq_of_lt (lJ ..))
theorem RL{k}{x}{t}(h:X[k]?=some x)(ht:t∈uv Pl T C H k x):le B t.p t.n=t.v%256^t.n:=
 hd _ (cA _ (cA _ (cA _ (GP (i:=0) h (by rw[gk];exact ht)))))
theorem afG{k}{x}{y}(h:X[k]?=some x)(hy:y∈gh Pl T C H k x.1):le B (Pl.getD 1 0+40*k+y.1) y.2.2=y.2.1%256^y.2.2:=RL hd h (cA _ (AE y hy))
theorem Hf{k j q:Nat}{x:Option Nat×List Ent}{e:Ent}{y:Nat×Nat×Nat}(h:X[k]?=some x)(hq:x.1=some q)(hz:q%2=0)(he:x.2[j]?=some e)(hy:y∈rJ (C.getD (q/2) 0) e):le B (Pl.getD (3+q/2) 0+16*(j+1)+y.1) y.2.2=y.2.1%256^y.2.2:=
 RL hd h (fP _ (by rw[hq,show AK Pl C x.2 (some q)=_ from ax hz];exact GP (i:=1) he (by rw[add_comm 1];exact AE y hy)))
theorem RM(hw:52<=wide)(lc:wide<65536)(I:52<=B.length):n9 B:=by
 have a0:le B 0 4=1179403647:=km hd (i:=0) rfl
 have a4:le B 4 3=65793:=km hd (i:=1) rfl
 have a40:le B 40 2=wide:=(km hd (i:=8) rfl).trans (mod_eq_of_lt lc)
 have b0:=lJ B 0;have b1:=lJ B 1;have b2:=lJ B 2;have b3:=lJ B 3;have b4:=lJ B 4;have b5:=lJ B 5;have b6:=lJ B 6
 replace a0:bk B 0+256*(bk B 1+256*(bk B 2+256*(bk B 3+256*0)))=1179403647:=a0
 replace a4:bk B 4+256*(bk B 5+256*(bk B 6+256*0))=65793:=a4
 refine⟨Ag (lK (L1 [B.length] 0x342fa004a0a94a I)) λi hi=>?_,show bk B 4+256*0=1 by lia,show bk B 5+256*0=1 by lia,show bk B 6+256*0=1 by exact eK (L1 [bk B 6,bk B 4,bk B 5] 0x101015fa0a1003fb091003fb291003fb1921a0a1003fb09100005faa a4) (L3 [bk B 6,bk B 4,bk B 5] 0x101015fa0a1003fb091003fb291003fb1931003fa21003f71003fa110a1003fb091a100005fac b4 b5 a4),km hd (i:=2) rfl,km hd (i:=3) rfl,km hd (i:=4) rfl,a40▸hw,km hd (i:=9) rfl⟩
 rw[lK (L1 [B.length] 0x342fa004a0a94a I)] at hi
 rw[p4 hi,gk]
 match i,hi with
 |0,_=>show bk B 0=127;lia
 |1,_=>show bk B 1=69;lia
 |2,_=>show bk B 2=76;lia
 |3,_=>show bk B 3=70;lia
end
noncomputable def zE:Ent:=⟨0,0,0⟩
noncomputable def rN(X:List (Option Nat×List Ent)):Nat->Nat->List UInt8:=λk i=>d7 (((X.getD k (none,[])).2).getD (i-1) zE).a
theorem RN{X}{k j}{x}{e}(h:X[k]?=some x)(he:x.2[j]?=some e):rN X k (j+1)=d7 e.a:=by
 unfold rN
 rw[show X.getD k (none,[])=x by rw[eJ,h];rfl,Nat.add_sub_cancel,eJ,he];rfl
theorem afH{B}{p cut a}(H:∀i,i<15->bk B (p+i)=bk lP i)(I:p+15<=B.length)(hc:cut<=a)(ha:a<15):jP (part B (p+cut) (15-cut)) (a-cut) (d7 a):=by
 obtain⟨h1,h2,h3⟩:=AF a ha
 have tl:(part B (p+cut) (15-cut)).length=15-cut:=lK (L2 [p,cut,15-cut,B.length] 0xf1fa12923f1fa0903210994b I (show 15-cut+cut=15 from gm (L2 [cut,a] 0xf1fa11100f1fa04b hc ha)))
 have g:∀i,a+i<15->bk (part B (p+cut) (15-cut)) (a-cut+i)=bk lP (a+i):=λi hi=>by
  rw[p4 (L3 [a-cut,i,15-cut,a,cut] 0x34092429f1fa0f1fa139121095c hi (sb 15 cut) (show a-cut+cut=a from gm (L1 [cut,a] 16781386 hc))),show p+cut+(a-cut+i)=p+(a+i) by exact eK (L1 [p,cut,a-cut,i,a] 0x412923490932910994a (show a-cut+cut=a from gm (L1 [cut,a] 16781386 hc))) (L1 [p,a,i,cut,a-cut] 0x349102493099219094a (sb a cut))]
  exact H _ hi
 exact⟨by rw[tl];exact L3 [a-cut,(d7 a).length,15-cut,a,cut] 0x34092429f1fa0f1fa139121095c h1 (sb 15 cut) (show a-cut+cut=a from gm (L1 [cut,a] 16781386 hc)),λi hi=>(g i (L2 [a,i,(d7 a).length] 0x211f1fa2091f1fa1095b h1 hi)).trans (h2 i hi).1,λi hi=>(h2 i hi).2,(g _ h1).trans h3⟩
section
variable{n az last entry wide sz:Nat}{O:List (Option Nat)}{T C Pl:List Nat}{H:List (Option Nat)}{K:List bE}{X:List (Option Nat×List Ent)}{B:List UInt8}
variable(hd:Holds B (oq entry wide sz Pl O T C H K X))(A:jT n T C H X)(P:kP (cX O T H) Pl last az)(I:last<=1000000)(hT:∀j,T.getD j 0<=3)(hC:∀j,C.getD j 0<=10)
theorem RO{S}(P:kP S Pl last az)(q):Pl.getD q 0<=last:=by
 rcases lt_or_ge q S.length with h | h
 .exact bg (fN ..) (P.each q h).2
 .rw[eJ,List.getElem?_eq_none (P.len▸h)];exact zero_le _
theorem AU(A:jT n T C H X):X.length=H.length:=(aG _).symm.trans (aw List.length A.S)
theorem afI(A:jT n T C H X){k:Nat}{o:Option Nat}(h:H[k]?=some o):∃E,X[k]?=some (o,E):=by
 have hk:=(bH.mp h).1
 have hx:=c8 (l:=X) (i:=k) ((AU A).symm▸hk)
 have e:(X[k]'((AU A).symm▸hk)).1=o:=Option.some.inj ((A.at hx).1.symm.trans h)
 exact⟨_,hx.trans (aw some (Prod.ext e rfl))⟩
include hd in
theorem ot{k i:Nat}{x:Option Nat×List Ent}{y:Nat×Nat×Nat}{l:List (Nat×Nat×Nat)}(h:X[k]?=some x)(e:gh Pl T C H k x.1=l)(hy:l[i]?=some y)(h4:y.2.2=4)(hv:y.2.1<4294967296):le B (Pl.getD 1 0+40*k+y.1) 4=y.2.1:=by
 have:=afG hd h (y:=y) (e▸cU hy)
 rw[h4] at this
 exact this.trans (mod_eq_of_lt hv)
include hd P I hC
theorem RP{k q:Nat}{E:List Ent}(h:X[k]?=some (some q,E))(hz:q%2=1):sw B (Pl.getD 1 0) k 1=3/\sw B (Pl.getD 1 0) k 4=Pl.getD 2 0+C.getD (q/2) 0/\sw B (Pl.getD 1 0) k 5=15-C.getD (q/2) 0:=by
 have e:gh Pl T C H k (some q)=_:=aY (show¬q%2=0 by exact L1 [q%2] 6982508586 hz)
 have h2:=RO P 2;have h3:=hC (q/2)
 exact⟨ot hd h e (i:=0) rfl rfl (by show 3<_;decide),ot hd h e (i:=1) rfl rfl (by show Pl.getD 2 0+C.getD (q/2) 0<_;exact L3 [Pl.getD 2 0,C.getD (q/2) 0,last] 0xaa10200f42405fa201000000009fa1095c I h2 h3),ot hd h e (i:=2) rfl rfl (by show 15-C.getD (q/2) 0<_;exact L1 [15-C.getD (q/2) 0] 0xf1fa001000000009fa05a (sub_le 15 (C.getD (q/2) 0)))⟩
include A hT
structure Hg(B:List UInt8)(Pl T C:List Nat)(H:List (Option Nat))(k q:Nat):Prop where
 e1:sw B (Pl.getD 1 0) k 1=2
 e4:sw B (Pl.getD 1 0) k 4=Pl.getD (3+q/2) 0
 e5:sw B (Pl.getD 1 0) k 5=16*T.getD (q/2) 0
 e9:sw B (Pl.getD 1 0) k 9=16
 l6:sw B (Pl.getD 1 0) k 6<H.length
 t1:sw B (Pl.getD 1 0) (sw B (Pl.getD 1 0) k 6) 1=3
 t4:sw B (Pl.getD 1 0) (sw B (Pl.getD 1 0) k 6) 4=Pl.getD 2 0+C.getD (q/2) 0
 t5:sw B (Pl.getD 1 0) (sw B (Pl.getD 1 0) k 6) 5=15-C.getD (q/2) 0
theorem afJ(hH:H.length<=100){k q:Nat}{E:List Ent}(h:X[k]?=some (some q,E))(hz:q%2=0):Hg B Pl T C H k q:=by
 have e:gh Pl T C H k (some q)=_:=ax hz
 have hm:=(A.heads.mem q).mp (cU (A.at h).1)
 have ix:=afe ((A.heads.mem (q+1)).mpr (by lia))
 have il:=(bH.mp ix).1
 have h2:=RO P (3+q/2);have h3:=hT (q/2)
 have e6:sw B (Pl.getD 1 0) k 6=mM H (q+1):=ot hd h e (i:=3) rfl rfl (by show mM H (q+1)<_;exact L2 [mM H (q+1),H.length] 0x101642fa101000000009fa05b hH il)
 obtain⟨E',hx⟩:=afI A ix
 obtain⟨o1,o4,o5⟩:=RP hd P I hC hx (by lia)
 rw[show(q+1)/2=q/2 by exact eK (L3 [(q+1)/2,q/2,q%2,q] 0x312b2931a3902c00a22102ac hz (jy (q+1) 2) (Nat.mod_add_div q 2)) (L2 [q/2,(q+1)/2,q] 0x202c02a12c91a291102ab (dl (q+1) 1) (jy q 2))] at o4 o5
 exact⟨ot hd h e (i:=0) rfl rfl (by show 2<_;decide),ot hd h e (i:=1) rfl rfl (by show Pl.getD (3+q/2) 0<_;exact L2 [Pl.getD (3+q/2) 0,last] 0x100f42405fa101000000009fa05b I h2),ot hd h e (i:=2) rfl rfl (by show 16*T.getD (q/2) 0<_;exact L1 [T.getD (q/2) 0] 0x3a0102f61000000009fa0102fb5a h3),ot hd h e (i:=4) rfl rfl (by show 16<_;decide),e6▸il,by rw[e6];exact o1,by rw[e6];exact o4,by rw[e6];exact o5⟩
theorem RQ(hH:H.length<=100){k:Nat}{x:Option Nat×List Ent}(h:X[k]?=some x):(∃q E,x=(some q,E)/\q%2=0/\Hg B Pl T C H k q)\/(sw B (Pl.getD 1 0) k 1≠2/\x.2=[]):=by
 obtain⟨o,E⟩:=x
 have ok:=(A.at h).2.1.2
 cases o with
 |none=>
  refine .inr ⟨?_,ok λJ e=>nomatch e⟩
  have m:=js (p:=λx=>x≠2/\x<4294967296) (l:=[0,1,8,9]) (by decide) (mod_lt k (show 0<4 by decide))
  rw[show sw B (Pl.getD 1 0) k 1=[0,1,8,9].getD (k%4) 0 from ot hd h (show gh Pl T C H k none=[(4,[0,1,8,9].getD (k%4) 0,4)] from rfl) (i:=0) rfl rfl m.2]
  exact m.1
 |some q=>exact(Nat.mod_two_eq_zero_or_one q).elim (λz=>.inl ⟨q,E,rfl,z,afJ hd A P I hT hC hH h z⟩) λz=>.inr ⟨by rw[(RP hd P I hC h z).1];decide,ok λJ e=>by cases e;exact z⟩
theorem afK(hH:H.length<=100)(hB:B.length=last)(hw:52<=wide)(lc:wide<65536)(hs:0<H.length->sz=40):kh B (Pl.getD 1 0) H.length (rN X):=by
 have tx:=λ(i:Nat)(h:i<15)=>afF hd h
 have p1:=P.each 1 (by rw[iu];exact L0 [T.length] 61413977)
 have p2:=P.each 2 (by rw[iu];exact L0 [T.length] 61418073)
 have s1:(cX O T H).getD 1 0=40*H.length:=rfl
 have s2:(cX O T H).getD 2 0=15:=rfl
 have at_:=λk (hk:k<H.length) (h2:sw B (Pl.getD 1 0) k 1=2)=>show∃q E,X[k]?=some (some q,E)/\q%2=0/\Hg B Pl T C H k q from by
  have hx:=c8 (l:=X) (i:=k) ((AU A).symm▸hk)
  rcases RQ hd A P I hT hC hH hx with⟨q,E,e,z,t⟩ | ⟨z,_⟩
  .exact⟨q,E,hx.trans (aw some e),z,t⟩
  .exact absurd h2 z
 refine⟨⟨RM hd hw lc (L4 [B.length,last,Pl.getD 1 0,(cX O T H).getD 1 0,H.length] 0x4282fb33132902342fa01030342fa4d hB p1.1 p1.2 s1),(km hd (i:=7) rfl).trans (mod_eq_of_lt (show Pl.getD 1 0<4294967296 by exact L3 [Pl.getD 1 0,last,(cX O T H).getD 1 0,H.length] 0x3282fb2312090f42405fa101000000009fa05c I p1.2 s1)),(km hd (i:=12) rfl).trans (mod_eq_of_lt (show H.length<65536 by exact L1 [H.length] 0x642fa00100005fa05a hH)),λh=>(km hd (i:=11) rfl).trans (by rw[hs h];rfl),hH,λk hk h2=>?_,λk hk h2 i wF gx=>?_⟩,λJ=>p1.1,L3 [Pl.getD 1 0,H.length,B.length,last,(cX O T H).getD 1 0] 0x1282fb433409032321282fb094c hB p1.2 s1,λk hk h2=>?_⟩
 .obtain⟨q,E,h,hz,t⟩:=at_ k hk h2
  have:=hT (q/2)
  exact⟨t.l6,t.t1,t.e9,by rw[t.e5];lia,by rw[t.e5];exact L1 [T.getD (q/2) 0] 0x3a0102f66403fa0102fb4a this⟩
 .obtain⟨q,E,h,hz,t⟩:=at_ k hk h2
  obtain⟨el,eo⟩:=(A.at h).2.1.1 q rfl hz
  obtain⟨j,rfl⟩:∃j,i=j+1:=⟨i-1,eK (L1 [i,i-1] 459114851438666 (sb i 1)) (L1 [i-1,i] 310101489092938 (show i-1+1=i from gm (L1 [i] 436214346 wF)))⟩
  rw[t.e5] at gx
  have hj:j<E.length:=by show _<List.length (some q,E).2;rw[el];exact L3 [j,T.getD (q/2) 0-1,16*T.getD (q/2) 0/16,T.getD (q/2) 0] 0x3102fb2102fc01a193102f621a09102f710102fbc gx (sb (T.getD (q/2) 0) 1) (jy (16*T.getD (q/2) 0) 16)
  have he:=c8 hj
  have ok:=eo _ (getElem_mem hj)
  have en:=Hf hd h rfl hz he (y:=(0,E[j].a-C.getD (q/2) 0,4)) (.head _)
  have h15:=ok.high
  rw[RN h he,t.t4,t.t5]
  unfold cS
  rw[t.e4,show le B (Pl.getD (3+q/2) 0+16*(j+1)) 4=_ from en,mod_eq_of_lt (show E[j].a-C.getD (q/2) 0<256^4 by exact L2 [E[j].a-C.getD (q/2) 0,E[j].a] 0x100f1fa111000000009fa05b h15 (sub_le E[j].a (C.getD (q/2) 0)))]
  exact⟨afH tx (L3 [Pl.getD 2 0,B.length,last,(cX O T H).getD 2 0] 0xf1fa33230902131f1fa094c hB p2.2 s2) ok.low ok.high,by have:=(AF _ ok.high).1;exact L1 [(d7 E[j].a).length,E[j].a] 0xf1fa01917a1205fa04a this⟩
 .obtain⟨q,E,h,hz,t⟩:=at_ k hk h2
  have hr:=(A.at h).2.2 q rfl
  have p3:=P.each (3+q/2) (by rw[iu];exact L1 [q/2,T.length] 282658928306522 hr)
  rw[G9] at p3
  have:=hC (q/2)
  rw[t.t4,t.t5,t.e4,t.e5,hB]
  lia
theorem afL(hH:H.length<=100):(cW B (Pl.getD 1 0) (rN X) H.length).map fZ=(X.flatMap (·.2)).map Ent.d:=by
 unfold cW
 rw[List.map_flatMap,List.map_flatMap,<- AU A,flatMap_def,flatMap_def]
 refine aw List.flatten (wL λk x h=>?_)
 unfold kg
 rcases RQ hd A P I hT hC hH h with⟨q,E,rfl,z,t⟩ | ⟨z,e⟩
 .obtain⟨el,eo⟩:=(A.at h).2.1.1 q rfl z
  rw[ax t.e1,map_map,show sw B (Pl.getD 1 0) k 5/16-1=E.length by rw[t.e5];exact(by lia:16*T.getD (q/2) 0/16-1=T.getD (q/2) 0-1).trans el.symm]
  refine wL λj e he=>?_
  have ok:=eo e (cU he)
  have ev:=Hf hd h rfl z he (y:=(4,e.v,4)) (.tail _ (.head _))
  have ek:=Hf hd h rfl z he (y:=(12,e.k,1)) (.tail _ (.tail _ (.head _)))
  rw[mod_eq_of_lt (show e.v<256^4 from ok.v)] at ev
  rw[mod_eq_of_lt (show e.k<256^1 from ok.k)] at ek
  show fZ (mJ B (Pl.getD 1 0) (rN X) k (j+1))=e.d
  unfold mJ
  rw[RN h he]
  unfold cS
  rw[t.e4,ev,ek]
  rfl
 .rw[aY z,e];rfl
end
section
variable{n az last entry wide sz bN base e:Nat}{L:List Span}{O:List (Option Nat)}{T C Pl:List Nat}{H:List (Option Nat)}{K:List bE}{X:List (Option Nat×List Ent)}{B:List UInt8}
structure ou(L:List Span)(entry bN base e:Nat):Prop where
 S:uo L bN base e L.length
 b:base<=4294966996
 bG:L.length<=4
 m:entry%4=0
 bN:∃p,L[bN]?=some p/\p.a<=entry/\entry<p.a+p.s
theorem ou.all(A:ou L entry bN base e):∀p∈L,AD p:=λp hp=>by
 obtain⟨a1,a2,a3,a4⟩:=A.S.each p hp
 have:=A.S.asc.le hp;have:=A.S.end_;have:=A.b;have:=A.bG
 exact⟨by lia,a1,a2,a3,by lia,by lia⟩
theorem ou.lt(A:ou L entry bN base e):entry<4294967296:=by
 obtain⟨p,hp,h1,h2⟩:=A.bN
 have:=(A.all p (cU hp)).mem
 exact L2 [entry,p.a,p.s] 0x1000000009fa2190219011000000009fa05b h2 this
theorem afM(hd:Holds B (oq entry wide sz Pl O T C H K X))(A:jT n T C H X)(P:kP (cX O T H) Pl last az)(I:last<=1000000)(hT:∀j,T.getD j 0<=3)(hC:∀j,C.getD j 0<=10)(hH:H.length<=100)(hB:B.length=last)(hw:52<=wide)(lc:wide<65536)(hs:0<H.length->sz=40)
  (aa:ou L entry bN base e)(S:K.map bE.span?=rG L O)(ok:∀x∈K,x.Ok last)(ho:AO L.length 2 O) :
  Au B (Pl.getD 0 0) O.length entry (Pl.getD 1 0) H.length (rN X)/\cu B (Pl.getD 0 0) O.length=((L.zip (K.filterMap bE.f7)).map (iq B)).filter λv=>decide (0<v.s):=by
 have kl:K.length=O.length:=by have:=aw List.length S;rwa [aG,aG] at this
 have sb:=afv S ho.all
 have wl:L.length=(K.filterMap bE.f7).length:=by rw[<- G8,sb]
 have p0:=P.each 0 (by rw[iu];exact L0 [T.length] 61409881)
 have s0:(cX O T H).getD 0 0=32*O.length:=rfl
 have rf:=λj x (h:K[j]?=some x)=>afu (B:=B) (p:=Pl.getD 0 0+32*j) (ok x (cU h)) (λq hq=>aa.all q (by rw[<- sb];exact mem_filterMap.mpr ⟨x,cU h,hq⟩)) I λi v Y=>afE hd h Y
 have rk:=λk (hk:k<O.length)=>rf k _ (c8 (l:=K) (kl.symm▸hk))
 have sg:cu B (Pl.getD 0 0) O.length=((L.zip (K.filterMap bE.f7)).map (iq B)).filter λv=>decide (0<v.s):=by
  have:=G7 B K
  rw[sb] at this
  rw[<- this,<- kl]
  exact G6 λj x h=>(rf j x h).2.2
 obtain⟨p,hp,h1,h2⟩:=aa.bN
 have pw:=aa.S.asc.pw
 have pos:0<O.length:=by
  have h:=List.length_filterMap_le id O
  rw[ho.all,eU] at h
  have:=(bH.mp hp).1
  exact L2 [O.length,L.length,bN] 1241262328411 h this
 have cD:=aa.lt
 have ol:=ho.len
 have bG:=aa.bG
 have HD:=RM hd hw lc (L3 [B.length,last,Pl.getD 0 0,(cX O T H).getD 0 0] 0x132902342fa01030342fa4c hB p0.1 p0.2)
 exact⟨⟨⟨⟨HD,(km hd (i:=5) rfl).trans (mod_eq_of_lt (show entry<4294967296 from cD)),(km hd (i:=6) rfl).trans (mod_eq_of_lt (show Pl.getD 0 0<4294967296 by exact L2 [Pl.getD 0 0,last,(cX O T H).getD 0 0] 0x12090f42405fa101000000009fa05b I p0.2)),(km hd (i:=10) rfl).trans (mod_eq_of_lt (show O.length<65536 by exact L4 [O.length,last,Pl.getD 0 0,(cX O T H).getD 0 0] 0x202fb33132902342fa0f42405fa10100005fa0202fbd I p0.1 p0.2 s0)),λk hk=>(rk k hk).1,
   by rw[sg];exact RD ((pairwise_map.mpr (RE pw wl)).filter _),by rw[sg];exact afw pw wl (cU hp) h1 h2 (aa.S.bN p hp).2,aa.m⟩,p0.1,pos,L3 [Pl.getD 0 0,O.length,B.length,last,(cX O T H).getD 0 0] 0x1202fb433409032321202fb094c hB p0.2 s0,λk hk q=>by rw[hB];exact(rk k hk).2.1 q⟩,afK hd A P I hT hC hH hB hw lc hs,L2 [B.length,last] 0x102f42405fa10f42405fa04b I hB⟩,sg⟩
end
theorem afN{B:List UInt8}{p n:Nat}(h:B.length<=16777216)(st):kF (.lst (aJ B)) (some (p:Int)) (some ((p:Int)+(n:Int))) st=.ok (.lst (aJ (part B p n))) st:=by
 show mw (aJ B) (some (p:Int)) (some ((p:Int)+(n:Int))) st=_
 unfold mw
 rw[ax ⟨by simp[j6];exact ofNat_le.mpr (show 0<=p+n from L0 [p,n] 17369673),by rw[i6];exact h⟩]
 refine aw (λz=>Res.ok (D.lst z) st) ?_
 have:((p:Int)+(n:Int)).toNat=p+n:=by lia
 simp only[cut,this,toNat_natCast]
 unfold part aJ
 rw[<- map_take,<- map_drop,drop_take,Nat.add_sub_cancel_left]
theorem afO(L:List Span)(W:List Nat):nM (L.map Span.d) (aQ W)=(L.zip W).map λx=>.tup [x.1.d,.int (x.2:Int)]:=by
 induction L generalizing W with
 |nil=>rfl
 |cons p L ih=>cases W with
  |nil=>rfl
  |cons w W=>exact aw (D.tup [p.d,.int (w:Int)] :: ·) (ih W)
theorem afP{B:List UInt8}{L:List Span}{W:List Nat}{σ:List (Option D)}{st:List M}(hB:B.length<=16777216)(h:autoParam (dY [13] 2 σ=[some (.lst (aJ B)),none,none]) rl):zx.r σ (nM (L.map Span.d) (aQ W)) st=.ok (((L.zip W).map (iq B)).map ar.t) st:=by
 rw[afO,map_map]
 exact iZ (z:=zx) _ (ar.t∘iq B) (λx=>[some (.lst (aJ B)),some x.1.d,some (.int (x.2:Int))]) (L.zip W) λx J=>⟨(aw (λs=>zx.k.aO (.tup [x.1.d,.int (x.2:Int)]) s) h).trans (by kernel_rfl),by kernel_rfl,
  pD (afN (p:=x.2) (n:=x.1.c) hB)<|pD (um (B:=part B x.2 x.1.c) (by unfold part;rw[length_take,length_drop];exact L3 [min x.fst.c (B.length-x.snd),B.length,B.length-x.snd] 0x12020010000007fa1010000007fa04c hB (min_le_right x.fst.c (B.length-x.snd)) (sub_le B.length x.snd)))⟩
theorem afQ{ai:List ar}{σ:List (Option D)}{st:List M}:FW.r σ (ai.map ar.t) st=.ok ((ai.filter λv=>decide (0<v.s)).map ar.t) st:=
 og (z:=FW) ar.t ar.t (λv=>decide (0<v.s)) (λv=>[some v.t]) ai λv J=>⟨by kernel_rfl,by
  by_cases z:0<v.s
  .rw[gc z];exact pD (jo (b:=0) z)
  .rw[decide_eq_false z];exact pD (iU (b:=0) z),λJ=>by kernel_rfl⟩
noncomputable def wM(bO last:Nat):List UInt8:=(List.range last).map λk=>UInt8.ofNat ((bO+29*k)%256)
theorem afR{bO last:Nat}{σ:List (Option D)}{st:List M}(h:autoParam (dY [11] 1 σ=[some (.int (bO)),none]) rl):zw.r σ (aQ (List.range last)) st=.ok (aJ (wM bO last)) st:=by
 unfold aJ wM
 rw[map_map]
 exact iZ (z:=zw) (λ(i:Nat)=>.int (i:Int)) (_∘_) (λi=>[some (.int (bO:Int)),some (.int (i:Int))]) (List.range last) λi J=>⟨(aw (λs=>zw.k.aO (.int (i:Int)) s) h).trans (by kernel_rfl),by kernel_rfl,
  (pD (kb (b:=256) (by decide) (bO+29*i)):_=Res.ok (D.int ((bO+29*i)%256:Nat)) st).trans (aw (λv:Nat=>Res.ok (D.int (v:Int)) st) (by show _=(UInt8.ofNat ((bO+29*i)%256)).toNat;rw[toNat_ofNat',mod_mod]))⟩
theorem afS{t t'}(h:t.run=t'.run):(lD t).run=(lD t').run:=by unfold lD;rw[T.run_bind,T.run_bind,h]
noncomputable abbrev rO(m:Nat):D:=.lst (bR ((List.range m).map some))
inductive RS(R:Res D)(k:Nat)(b:Bool):Prop
 |mk (L:List Span) (entry bN base e:Nat) (st:List M) (eq:R=(lD (FX.t [some (.ab k),some (.bool b),some (.lst (L.map Span.d)),some (.int (entry:Int)),some (rO L.length),some (.lst (aQ [2])),some (rO 2),none,none,none,none,none,none,none,none,none,none,none,none,none,none] st)).run) (sd:bX st k 30) (aa:ou L entry bN base e):RS R k b
theorem afT{k}{b}{st}(sd:bX st k 1):RS (zz [.ab k,.bool b] st) k b:=by
 cases b with
 |false=>
  obtain⟨L,entry,bN,base,e,p,bW,q,s1,lt,S,bb,m,hp,h1,h2⟩:=GK (aq:=1) sd nb nb nb
  have len:=S.len
  have ln:=kL (V:=L.map Span.d) (by rw[aG,len];exact nb)
  rw[aG] at ln
  exact⟨L,entry,bN,base,e,bW,bp (sD q<|pD ln<|pL (G4 (n:=L.length) (L1 [L.length] 0x1a0210000007fa04a len))<|sX rfl),s1.le nb,⟨len▸S,bb,L1 [L.length] 6981722186 len,m,p,hp,h1,h2⟩⟩
 |true=>
  obtain⟨d,lA,l,q0,s0,_,_⟩:=cJ 4 sd
  obtain⟨L,entry,bN,base,e,p,bW,q,s1,lt,S,bb,m,hp,h1,h2⟩:=GK (aq:=1+d) s0 nb (L0 [d] 27859529) (L1 [d] 81369397045578 l)
  have len:=S.len
  have ln:=kL (V:=L.map Span.d) (by rw[aG,len];exact L1 [d] 0x4a0110000007fa01a94a l)
  rw[aG] at ln
  exact⟨L,entry,bN,base,e,bW,bp (sD q0<|sD q<|pD ln<|pL (G4 (n:=L.length) (L2 [L.length,d] 0x11a9024a1110000007fa04b l len))<|sX rfl),s1.le nb,⟨len▸S,bb,L2 [L.length,d] 79534430428110923 l len,m,p,hp,h1,h2⟩⟩
inductive RT(k:Nat)(b:Bool)(x2 x3 x4 x5 x6 x7 x8 x9 aR bf bm:Option D)(h:Nat)(x14:Option D):List (Option D)->Prop
 |mk (x15 x16 x17:Option D):RT k b x2 x3 x4 x5 x6 x7 x8 x9 aR bf bm h x14 [some (.ab k),some (.bool b),x2,x3,x4,x5,x6,x7,x8,x9,aR,bf,bm,some (.ab h),x14,x15,x16,x17,none,none,none]
theorem afU{k}{b}{x2 x3 x4 x5 x6 x7 x8 x9 aR bf bm}{h}{x14}{l}{st}{B}(hh:st[h]?=some (.list (aJ B)))(I:∀x∈l,x.1+x.2.2<=B.length)(hz:B.length<=16777216) :
  p8 (de (lp Pk Pm) (l.map lO) [some (.ab k),some (.bool b),x2,x3,x4,x5,x6,x7,x8,x9,aR,bf,bm,some (.ab h),x14,none,none,none,none,none,none] st) st h (cE B (f9 0 l)) (RT k b x2 x3 x4 x5 x6 x7 x8 x9 aR bf bm h x14):=
 wK lO (λx=>⟨0+x.1,x.2.1,x.2.2⟩) l (.mk none none none) hh rfl λx hm σ st B' i hh hN=>by
  obtain⟨y15,y16,y17⟩:=i
  have:=I x hm
  exact⟨_,.mk (some (.int (x.1:Int))) (some (.int (x.2.1:Int))) (some (.int (x.2.2:Int))),cR (σ':=[some (.ab k),some (.bool b),x2,x3,x4,x5,x6,x7,x8,x9,aR,bf,bm,some (.ab h),x14,some (.int (x.1:Int)),some (.int (x.2.1:Int)),some (.int (x.2.2:Int)),none,none,none])
   (sD (wD (p:=x.1) (v:=x.2.1) (n:=x.2.2) hh (L2 [x.fst,x.snd.snd,B'.length,B.length] 0x3109032321094b hN this) (L2 [B'.length,B.length] 0x10210000007fa1010000007fa04b hz hN)) (by rw[gk];kernel_rfl))⟩
section
variable{k h n last entry wide sz bN base e bO:Nat}{b:Bool}{L:List Span}{O:List (Option Nat)}{T Pl:List Nat}{H:List (Option Nat)}{B:List UInt8}{x7 x8:Option D}{st:List M}
theorem afV(G:AP L.length O T H)(P:kP (cX O T H) Pl last 300)(I:last<=2000):G2 Pl T H last:=by
 have p1:=P.each 1 (by rw[iu];exact L0 [T.length] 61413977)
 have p2:=P.each 2 (by rw[iu];exact L0 [T.length] 61418073)
 have hT:=G.tabs
 have hH:=G.heads.len
 refine⟨P.len.trans iu,p1.2,p2.2,λt ht=>?_,λq hq=>?_,λq hq hz=>?_,L2 [H.length,T.length] 0x1a12b9002a126642fa04b hT hH,L1 [T.length] 11274985546 hT,λj=>bg (AL G.small j) nb,L1 [last] 0x7d03fa00f42405fa04a I⟩
 .have:=P.each (3+t) (by rw[iu];exact L1 [t,T.length] 282658928306522 ht)
  rw[G9] at this;exact this.2
 .have:=(G.heads.mem q).mp hq;exact L2 [q/2,T.length,q] 0x202c012b21102bb this (jy q 2)
 .have:=(G.heads.mem q).mp hq
  exact(G.heads.mem (q+1)).mpr (by lia)
noncomputable def AV(l:List (Nat×Nat×Nat)):D:=.lst (l.map lO)
theorem afW(aa:ou L entry bN base e)(G:AP L.length O T H)(P:kP (cX O T H) Pl last 300)(I:last<=2000)(hw:52<=wide)(lc:wide<=60)(hs:0<H.length->sz=40)(sd:bX st k n)(hn:n<=1000)(hh:st[h]?=some (.list (aJ B)))(bq:h≠k)(hB:B.length=last) :
  Aw (lD (Pn.t [some (.ab k),some (.bool b),some (.lst (L.map Span.d)),some (.int (entry:Int)),some (.lst (bR O)),some (.lst (aQ T)),some (.lst (bR H)),x7,x8,some (.lst (aQ Pl)),some (.int (last:Int)),some (.int (bO:Int)),some (.int (wide:Int)),some (.ab h),some (AV ((ip entry (Pl.getD 0 0) (Pl.getD 1 0) wide O.length sz H.length).take 12)),none,none,none,none,none,none] st)).run k:=by
 have hT:=G.tabs;have hH:=G.heads.len;have hO:=G.order.len;have bG:=aa.bG
 have p0:=P.each 0 (by rw[iu];exact L0 [T.length] 61409881)
 have s0:(cX O T H).getD 0 0=32*O.length:=rfl
 have pl:Pl.length=3+T.length:=P.len.trans iu
 have f52:∀x∈ip entry (Pl.getD 0 0) (Pl.getD 1 0) wide O.length sz H.length,x.1+x.2.2<=B.length:=λx hx=>by
  have:=He (AE (p:=0) x hx)
  simp only[gk] at this
  exact L5 [x.fst,x.snd.snd,B.length,last,Pl.getD 0 0,(cX O T H).getD 0 0,O.length] 0x342fa10906202fb53354904342fa032321094e hB p0.1 p0.2 s0 this
 obtain⟨_,⟨x15,x16,x17⟩,lo⟩:=afU (k:=k) (b:=b) (x2:=some (.lst (L.map Span.d))) (x3:=some (.int (entry:Int))) (x4:=some (.lst (bR O))) (x5:=some (.lst (aQ T))) (x6:=some (.lst (bR H))) (x7:=x7) (x8:=x8) (x9:=some (.lst (aQ Pl))) (aR:=some (.int (last:Int))) (bf:=some (.int (bO:Int))) (bm:=some (.int (wide:Int))) (x14:=some (AV ((ip entry (Pl.getD 0 0) (Pl.getD 1 0) wide O.length sz H.length).take 12))) hh f52 (L2 [B.length,last] 0x1027d03fa1010000007fa04b I hB)
 have l1:(cE B (f9 0 (ip entry (Pl.getD 0 0) (Pl.getD 1 0) wide O.length sz H.length))).length=last:=(fw ..).trans hB
 generalize hB1:cE B (f9 0 (ip entry (Pl.getD 0 0) (Pl.getD 1 0) wide O.length sz H.length))=B1 at lo l1
 have s1:bX (st.set h (.list (aJ B1))) k n:=sd.at (di bq)
 obtain⟨K,b8,e2,s2,h2,S,ok⟩:=ae2 (aj:=Pl.getD 0 0) (L:=L) (O:=O) s1 (dP hh) bq (L1 [n] 0x3e83fa00aae605fa04a hn) (L2 [B1.length,last] 0x1027d03fa10f42405fa04b I l1) (L3 [Pl.getD 0 0,O.length,B1.length,(cX O T H).getD 0 0,last] 0x4231202fb334309021202fb094c p0.2 s0 l1) (L2 [O.length,L.length] 0x4a102a1900642fa04b hO bG) (L1 [L.length] 81365541298250 bG) aa.all λq hq=>by
  have:q∈O.filterMap id:=mem_filterMap.mpr ⟨_,hq,rfl⟩
  rw[G.order.all] at this;exact mem_range.mp this
 obtain⟨C,X,cf,e3,s3,h3,cl,hC,S3,ok3⟩:=afk (afV G P I) ((fw ..).trans l1) s2 h2 bq (L1 [n] 0x3e83fa00927c05fa1f43fa094a hn)
 have A:jT 0 T C H X:=⟨S3,ok3,G.heads⟩
 have kl:K.length=O.length:=by have:=aw List.length S;rwa [aG,aG] at this
 have eB:cE (cE B1 (lM (Pl.getD 0 0) K)) (oo (Pl.getD 2 0)++mN Pl T C H X)=cE B (oq entry wide sz Pl O T C H K X):=by simp only[<- hB1,oq,rj]
 rw[eB] at h3
 have hd:=aeT (B:=B) (afC (entry:=entry) (wide:=wide) (sz:=sz) A P kl) λt ht=>hB▸afD A P kl (L3 [last,Pl.getD 0 0,(cX O T H).getD 0 0,O.length] 0x3202fb23021901342fa00342fa4c p0.1 p0.2 s0) t ht
 have l3:(cE B (oq entry wide sz Pl O T C H K X)).length=last:=(fw ..).trans hB
 generalize cE B (oq entry wide sz Pl O T C H K X)=B3 at h3 hd l3
 have RU:=AL G.small
 obtain⟨GV,sg⟩:=afM hd A P (L1 [last] 0x7d03fa00f42405fa04a I) RU hC (L2 [H.length,T.length] 0x1a12b9002a126642fa04b hT hH) l3 hw (L1 [wide] 0x3c2fa00100005fa05a lc) hs aa S (l1▸ok) G.order
 have sy:=afL hd A P (L1 [last] 0x7d03fa00f42405fa04a I) RU hC (L2 [H.length,T.length] 0x1a12b9002a126642fa04b hT hH)
 have wl:(K.filterMap bE.f7).length<=100:=bg (List.length_filterMap_le ..) (L3 [K.length,O.length,L.length] 0x1024a202a2910642fa04c hO bG kl)
 refine⟨B3,Pl.getD 0 0,O.length,entry,Pl.getD 1 0,H.length,rN X,cf.set h .gone,?_,GV,(s3.at (di bq)).le (L1 [n] 0x3e83fa00186a05fafa03fa1f43fa0994a hn)⟩
 unfold Av gV
 rw[sg,sy]
 exact pD (rL (O:=H) (L2 [H.length,T.length] 0x1a12b9002a12610000007fa04b hT hH))<|pD (mH (a:=((ip entry (Pl.getD 0 0) (Pl.getD 1 0) wide O.length sz H.length).take 12).map lO) (b:=[lO (48,H.length,2)]) nb)<|pL (p9 (f:=λx:Nat×Nat×Nat=>[.int (x.1:Int),.int (x.2.1:Int),.int (x.2.2:Int)]) (l:=ip entry (Pl.getD 0 0) (Pl.getD 1 0) wide O.length sz H.length) nb)<|sF lo<|pD (dQ Pl (d:=0) (L1 [Pl.length,T.length] 1351038798426 pl) (L2 [Pl.length,T.length] 0x13a9022a103b9aca008fa04b hT pl))<|sD e2<|sD e3<|sD (lG h3) <|
  pL (f:=tG [.lst (L.map Span.d),.lst (aQ (K.filterMap bE.f7))]) (d:=nM (L.map Span.d) (aQ (K.filterMap bE.f7))) (λst=>ax (show(L.map Span.d).length<=16777216 by rw[aG];exact L1 [L.length] 0x4a0010000007fa04a bG))<|sL (afP (B:=B3) (L:=L) (W:=K.filterMap bE.f7) (σ:=[some (.ab k),some (.bool b),some (.lst (L.map Span.d)),some (.int (entry:Int)),some (.lst (bR O)),some (.lst (aQ T)),some (.lst (bR H)),x7,x8,some (.lst (aQ Pl)),some (.int (last:Int)),some (.int (bO:Int)),some (.int (wide:Int)),some (.lst (aJ B3)),some (AV ((ip entry (Pl.getD 0 0) (Pl.getD 1 0) wide O.length sz H.length).take 12)),x15,x16,x17,some (.lst (aQ (K.filterMap bE.f7))),some (.lst ((X.flatMap (·.2)).map Ent.d)),none]) (st:=cf.set h .gone) (L2 [B3.length,last] 0x1027d03fa1010000007fa04b I l3)) <|
  pL (fi (V:=((L.zip (K.filterMap bE.f7)).map (iq B3)).map ar.t) (by rw[aG,aG,List.length_zip];exact L2 [min L.length (List.filterMap bE.f7 K).length,L.length] 0x1004a1010000007fa04b bG (min_le_left L.length ((List.filterMap bE.f7 K).length))))<|sL (afQ (ai:=(L.zip (K.filterMap bE.f7)).map (iq B3)) (σ:=[]) (st:=cf.set h .gone))
end
theorem neH(H):∃b,(∀st,qC (.lst (bR H)) (.lst []) st=.ok (.bool b) st)/\(0<H.length->b=true):=
 ⟨!decide (H.map kQ=[]),λst=>iX (f:=λ(x:List Int) st=>.ok (D.bool (!decide (x=[]))) st) (GY H) st,λh=>by
  rw[decide_eq_false λe=>lt_irrefl _ ((List.map_eq_nil_iff.mp e)▸h:0<([]:List (Option Nat)).length)];rfl⟩
theorem afX:QY:=λst k b sd=>by
 obtain⟨L,entry,bN,base,e,bW,eq,s1,aa⟩:=afT (b:=b) sd
 rw[eq]
 obtain⟨O,T,H0,x7,x8,b8,e2,s2,G0⟩:=aft (b:=b) (sp:=.lst (L.map Span.d)) (en:=.int (entry:Int)) s1 nb aa.bG
 rw[afS e2]
 have hT:=G0.tabs;have Hh:=G0.heads.len;have hO:=G0.order.len;have bG:=aa.bG
 obtain⟨tn,cf,l3,q3,s3,_,_⟩:=cJ (H0.length+1) s2 (L0 [] 0xf42405fa142fa1e2fa949) (Nat.succ_pos _) (L2 [H0.length,T.length] 0x1a12b9002a1261000000000000000011e1a095b hT Hh)
 have G:AP L.length O T (H0.drop tn++H0.take tn):=⟨G0.order,hT,G0.small,G0.heads.rot tn⟩
 have dt:(H0.drop tn).length+(H0.take tn).length<=16777216:=by rw[length_drop,length_take];exact L4 [H0.length-tn,min tn H0.length,T.length,H0.length] 0x3103001a22b93262a24610000007fa1094d hT Hh (sub_le H0.length tn) (min_le_right tn H0.length)
 have hz:H0.length<=16777216:=L2 [H0.length,T.length] 0x1a12b9002a12610000007fa04b hT Hh
 have aH:=AN (O:=H0.drop tn) (O':=H0.take tn) dt
 obtain⟨H,eH⟩:∃H,H=H0.drop tn++H0.take tn:=⟨_,rfl⟩
 rw[<- eH] at G aH
 have hH:=G.heads.len
 have az:∀q,(cX O T H).getD q 0<=300:=AL λx hx=>by
  rcases dI.mp hx with rfl | hx
  .exact L2 [O.length,L.length] 0x4a1202f62a190202f612c3fa0202fb4b hO bG
  .rcases dI.mp hx with rfl | hx
   .exact L2 [H.length,T.length] 0x1a12b90282f62a1502f612c3fa0282fb4b hT hH
   .rcases dI.mp hx with rfl | hx
    .exact L0 [] 20632938084937
    .obtain⟨c,hc,rfl⟩:=da.mp hx
     have:=G.small c hc;exact L1 [c] 0x3a0102f612c3fa0102fb4a this
 obtain⟨Pl,last,cM,e4,s4,P⟩:=aeS (S:=cX O T H) (az:=300) s3 (L0 [] 0xaae605fa1a142fa1e2fa9949) (by rw[iu];exact⟨L0 [T.length] 61409881,L1 [T.length] 0x2a00642fa03a94a hT⟩) az
 rw[iu] at s4
 have I:=P.high
 rw[iu] at I
 obtain⟨bO,ki,l5,q5,s5,_,_⟩:=cJ 256 s4 (L1 [T.length] 0x2a00f42405fa03a93a1a142fa1e2fa99994a hT)
 obtain⟨d6,lR,l6,q6,s6,_,_⟩:=cJ 9 s5 (L1 [T.length] 0x2a00f42405fa1a03a93a1a142fa1e2fa999994a hT)
 obtain⟨nb',ne,nt⟩:=neH H
 have pl:Pl.length=3+T.length:=P.len.trans iu
 have s7:bX (lR++[.list (aJ (wM bO last))]) k _:=s6.at (dH s6.lt)
 have bc:=λ(sz:Nat)(hs:0<H.length->sz=40)=>afW (h:=lR.length) (x7:=some (.int (tn:Int))) (x8:=x8) (b:=b) (bO:=bO) (wide:=52+d6) (sz:=sz) aa G P (by lia) (L0 [d6] 918068910029385) (L1 [d6] 0x9a013c2fa0342fa94a l6) hs s7 (L1 [T.length] 0x2a003e83fa1a1a03a93a1a142fa1e2fa9999994a hT) jq (gj s6.lt) (by unfold wM;rw[aG,eU])
 have cT:=(iZ (z:=Pj) (σ:=[]) (st:=cf) (λ(n:Nat)=>.int (n:Int)) (λn=>.int ((16*n:Nat):Int)) (λn=>[some (.int (n:Int))]) T λn J=>⟨by kernel_rfl,by kernel_rfl,by kernel_rfl⟩).trans (aw (λz=>Res.ok z cf) (map_map (g:=λ(n:Nat)=>D.int (n:Int)) (f:=(16 * ·)) (l:=T)).symm)
 have RV:∀{R:Res D},(lD (Pp.t [some (.ab k),some (.bool b),some (.lst (L.map Span.d)),some (.int (entry:Int)),some (.lst (bR O)),some (.lst (aQ T)),some (.lst (bR H)),some (.int (tn:Int)),x8,some (.lst (aQ Pl)),some (.int (last:Int)),some (.int (bO:Int)),some (.int ((52+d6:Nat):Int)),some (.ab lR.length),some (AV ((ip entry (Pl.getD 0 0) (Pl.getD 1 0) (52+d6) O.length 0 H.length).take 7)),none,none,none,none,none,none] (lR++[.list (aJ (wM bO last))]))).run=R->
   (lD (zy.t [some (.ab k),some (.bool b),some (.lst (L.map Span.d)),some (.int (entry:Int)),some (.lst (bR O)),some (.lst (aQ T)),some (.lst (bR H0)),x7,x8,none,none,none,none,none,none,none,none,none,none,none,none] b8)).run=R:=λhr=>
  pD (rL hz)<|sD q3<|pD (RB (n:=tn) hz)<|pD (G3 (n:=tn) hz)<|pD aH<|pD (rL (O:=O) (L2 [O.length,L.length] 0x4a102a190010000007fa04b hO bG))<|pD (rL (O:=H) (L2 [H.length,T.length] 0x1a12b9002a12610000007fa04b hT hH))<|pL (fi (V:=aQ T) (by rw[jR];exact L1 [T.length] 0x2a0010000007fa04a hT))<|sL cT<|pD (mH (a:=[.int (32*O.length:Nat),.int (40*H.length:Nat),.int (15:Nat)]) (b:=aQ (T.map (16 * ·))) (by rw[jR,aG];show 3+_<=_;exact L1 [T.length] 0x2a0010000007fa03a94a hT)) <|
   sD (x:=zr [.ab k,.lst (aQ (cX O T H))] cf) e4<|sD q5<|sD q6<|pL (fY (n:=last) (by lia))<|sL (afR (bO:=bO) (last:=last) (σ:=[none,none,none,none,none,none,none,none,none,none,none,some (.int (bO:Int))]) (st:=lR) rfl)<|pD (dQ Pl (d:=0) (L1 [Pl.length,T.length] 1351038798426 pl) (L2 [Pl.length,T.length] 0x13a9022a103b9aca008fa04b hT pl))<|sX hr
 cases nb' with
 |true=>
  obtain⟨B,s,m,en,s',c,nm,qb,e8,GV,s8⟩:=bc 40 λJ=>rfl
  exact⟨B,s,m,en,s',c,nm,qb,RV (pD (dQ Pl (d:=1) (L1 [Pl.length,T.length] 1351038802522 pl) (L2 [Pl.length,T.length] 0x13a9022a103b9aca008fa04b hT pl))<|pD (rL (O:=O) (L2 [O.length,L.length] 0x4a102a190010000007fa04b hO bG))<|pD ne<|pD (mH (a:=((ip entry (Pl.getD 0 0) (Pl.getD 1 0) (52+d6) O.length 0 H.length).take 7).map lO) (b:=(((ip entry (Pl.getD 0 0) (Pl.getD 1 0) (52+d6) O.length 40 H.length).take 12).drop 7).map lO) nb)<|sX e8),GV,s8⟩
 |false=>
  obtain⟨B,s,m,en,s',c,nm,qb,e8,GV,s8⟩:=bc 7 λh=>absurd (nt h) em
  exact⟨B,s,m,en,s',c,nm,qb,RV (pD (dQ Pl (d:=1) (L1 [Pl.length,T.length] 1351038802522 pl) (L2 [Pl.length,T.length] 0x13a9022a103b9aca008fa04b hT pl))<|pD (rL (O:=O) (L2 [O.length,L.length] 0x4a102a190010000007fa04b hO bG))<|pD ne<|pD (mH (a:=((ip entry (Pl.getD 0 0) (Pl.getD 1 0) (52+d6) O.length 0 H.length).take 7).map lO) (b:=(((ip entry (Pl.getD 0 0) (Pl.getD 1 0) (52+d6) O.length 7 H.length).take 12).drop 7).map lO) nb)<|sX e8),GV,s8⟩
theorem RW:∀n v,lf v n=(List.range n).map λi=>UInt8.ofNat (v/2^(8*i)%256)
 |0,_=>rfl
 |n+1,v=>by
  rw[PU,RW n,List.range_succ_eq_map,map_cons,map_map]
  refine congr (aw List.cons (by rw[Nat.mul_zero,Nat.pow_zero,Nat.div_one])) (map_congr_left λi J=>?_)
  show _=UInt8.ofNat (v/2^(8*(i+1))%256)
  rw[Nat.div_div_eq_div_mul,Nat.mul_add,Nat.pow_add,mul_comm 256]
theorem RX{v n:Nat}(hn:n<=8)(hv:v<2^(8*n))(st):EA [.int (v:Int),.int (n:Int)] st=.ok (.bytes (lf v n)) st:=by
 have cp:=iZ (z:=M9) (σ:=[some (.int (v:Int)),some (.int (n:Int))]) (st:=st) (λ(i:Nat)=>.int (i:Int)) (λi=>.int ((v/2^(8*i)%256:Nat):Int)) (λi=>[some (.int (v:Int)),some (.int (i:Int))]) (List.range n)
  λi J=>⟨by kernel_rfl,by kernel_rfl,pD (PM v (8*i))<|pD (Ab (a:=(v/2^(8*i):Nat)) (b:=((255:Nat):Int)) (c:=((v/2^(8*i)%256:Nat):Int)) (bitAnd_m8 _))⟩
 have e:(List.range n).map (λi=>D.int ((v/2^(8*i)%256:Nat):Int))=aJ (lf v n):=by
  rw[RW]
  unfold aJ
  rw[map_map]
  exact map_congr_left λi J=>aw (λx:Nat=>D.int (x:Int)) (by rw[toNat_ofNat',mod_mod])
 rw[e] at cp
 exact bp (pD (ug (zero_le v))<|pD (Ge (a:=1) (b:=8*n) (L1 [n] 0x8a086f42405fa08b4a hn) (by decide))<|pD (uf (a:=v) (b:=1*2^(8*n)) (by rw[Nat.one_mul];exact hv))<|pL (fY (n:=n) (L1 [n] 0x8a0010000007fa04a hn))<|sL cp<|pD (um (B:=lf v n) (by rw[ww];exact L1 [n] 0x8a0010000007fa04a hn)))
noncomputable def aZ(n:Nat)(l:List Nat):List UInt8:=(l.map (lf · n)).flatten
theorem gy{n}:∀l,(aZ n l).length=n*l.length
 |[]=>rfl
 |v::l=>(aW ..).trans (by rw[ww,show(l.map (lf · n)).flatten.length=n*l.length from gy l,length_cons,mul_succ,add_comm])
theorem Hi(n):∀l:List Nat,mA (l.map λv=>.bytes (lf v n))=some (l.map (lf · n))
 |[]=>rfl
 |v::l=>by
  show(some (lf v n)).bind (λb=>(mA (l.map λv=>.bytes (lf v n))).map (b :: ·))=_
  rw[Hi n l];rfl
theorem tK{V}{bs}(h:mA V=some bs)(hz:bs.flatten.length<=16777216)(st:List M):DX [.bytes [],.lst V] st=.ok (.bytes bs.flatten) st:=
 (ax (e:=Res.stuck) (rfl:([]:List UInt8)=[])).trans ((iX (f:=λ(bs:List (List UInt8)) st=>if bs.flatten.length<=sz then .ok (D.bytes bs.flatten) st else .stuck) h st).trans (ax hz))
theorem ox{l:List Nat}(I:∀v∈l,v<4294967296)(hz:l.length<=1000)(st:List M):EC [.lst (aQ l)] st=.ok (.bytes (aZ 4 l)) st:=
 bp (pL (fi (V:=aQ l) (by rw[jR];exact L1 [l.length] 0x3e83fa0010000007fa04a hz))<|sL (iZ (z:=Ng) (σ:=[]) (st:=st) (λ(v:Nat)=>.int (v:Int)) (λv=>.bytes (lf v 4)) (λv=>[some (.int (v:Int))]) l λv hv=>⟨by kernel_rfl,by kernel_rfl,pD (RX (v:=v) (n:=4) nb (I v hv))⟩) <|
  pD (tK (Hi 4 l) (by have:=gy (n:=4) l;unfold aZ at this;exact L2 [(List.map (λx↦lf x 4) l).flatten.length,l.length] 0x14b023e83fa14610000007fa04b hz this)))
theorem Hj{l:List Nat}(I:∀v∈l,v<65536)(hz:l.length<=1000)(st:List M):EB [.lst (aQ l)] st=.ok (.bytes (aZ 2 l)) st:=
 bp (pL (fi (V:=aQ l) (by rw[jR];exact L1 [l.length] 0x3e83fa0010000007fa04a hz))<|sL (iZ (z:=Nc) (σ:=[]) (st:=st) (λ(v:Nat)=>.int (v:Int)) (λv=>.bytes (lf v 2)) (λv=>[some (.int (v:Int))]) l λv hv=>⟨by kernel_rfl,by kernel_rfl,pD (RX (v:=v) (n:=2) nb (I v hv))⟩) <|
  pD (tK (Hi 2 l) (by have:=gy (n:=2) l;unfold aZ at this;exact L2 [(List.map (λx↦lf x 2) l).flatten.length,l.length] 0x12b023e83fa12610000007fa04b hz this)))
theorem ux{n}{l}{j v}(h:l[j]?=some v)(hv:v<256^n):le (aZ n l) (n*j) n=v:=by
 induction l generalizing j with
 |nil=>nomatch h
 |cons w l ih=>cases j with
  |zero=>
   cases h
   show le (lf v n++aZ n l) 0 n=v
   rw[eP (by rw[ww];exact L0 [n] 43337),PY,mod_eq_of_lt hv]
  |succ j=>
   have:=q9 (B:=lf w n) (C:=aZ n l) (p:=n*j) (n:=n)
   rw[ww] at this
   rw[mul_succ,add_comm]
   exact this.trans (ih h)
theorem RY{w w'}(h:bZ w=bZ w'):w=w':=
 (List.map_inj_right λa b q=>toNat_inj.mp q).mp (by
  have:=aw (λs:Str=>s.cps.toList) h
  simpa [bZ] using this)
theorem jP.app{T C w}{p}(h:jP T p w):jP (T++C) p w:=
 ⟨by rw[aW];exact lt_of_lt_of_le h.inside (fN ..),λi hi=>(ws (lt_trans (Nat.add_lt_add_left hi _) h.inside)).trans (h.octets i hi),h.full,(ws h.inside).trans h.nul⟩
theorem jP.end_{T w}(h:∀i,i<w.length->bk w i≠0):jP (T++(w++[0])) T.length w:=by
 refine⟨by rw[aW,aW];exact Nat.add_lt_add_left (lt_succ_self _) _,λi hi=>wv.trans (ws hi),h,wv.trans ?_⟩
 have:=wv (B:=w) (C:=[0]) (i:=0)
 rwa [add_zero] at this
structure Tab(st:List M)(t o p:Nat)(B:List UInt8)(n:Nat):Prop where
 ht:st[t]?=some (.inst 219 [(cn,.ab o),(eW,.ab p)])
 ho:st[o]?=some (.a8 B)
 hp:∃bj:List (Str×Int),st[p]?=some (.dict bj)/\bj.length<=n/\∀(w:List UInt8)(i:Int),bj.lookup (bZ w)=some i->∃m:Nat,i=(m:Int)/\jP B m w
 small:B.length<=21*n
 a:t≠o
 b:t≠p
 c:o≠p
inductive RZ(R:Res D)(st:List M)(t o p:Nat)(B w:List UInt8)(n:Nat):Prop
 |mk (m:Nat) (C:List UInt8) (ao:List M) (e:R=.ok (.int (m:Int)) ao) (T:Tab ao t o p (B++C) (n+1)) (N:jP (B++C) m w) (fr:∀j,j≠o->j≠p->ao[j]?=st[j]?) (len:ao.length=st.length):RZ R st t o p B w n
theorem eG{st}{C}{k}{fs}{x}{d}(h:st[k]?=some (.inst C fs))(I:autoParam (fs.lookup x=some d) rl)(hn:autoParam (pB d=true) rl):li C x (.ab k) st=.ok d st:=by
 have e:lg C st (.ab k)=some fs:=by
  show(match st[k]? with | some (M.inst C' fs)=>if C'=C then some fs else none | _=>none)=some fs
  rw[h];exact ax rfl
 unfold li
 rw[e,bind_some,I]
 exact ax hn
theorem afY(bj:List (Str×Int))(k x:Str)(i:Int):(bj++[(k,i)]).lookup x=(bj.lookup x).or (if x=k then some i else none):=by
 rw[List.lookup_append]
 refine aw (Option.or _) ?_
 rw[lookup_cons]
 by_cases q:x=k
 .rw[ax q,beq_iff_eq.mpr q]
 .rw[aY q,beq_eq_false_iff_ne.mpr q];rfl
theorem afZ{w}(st):EU.r [] (w.map λc=>.str ⟨#[c.toNat]⟩) st=.ok (aJ w) st:=
 iZ (z:=EU) (λc:UInt8=>.str ⟨#[c.toNat]⟩) (λc=>.int (c.toNat:Int)) (λc=>[some (.str ⟨#[c.toNat]⟩)]) w λc J=>⟨by kernel_rfl,by kernel_rfl,pD (Rv c.toNat)⟩
theorem af0{w}(h:w.length<=16777216)(st):tE (.str (bZ w)) st=.ok (w.map λc=>.str ⟨#[c.toNat]⟩) st:=by
 have e:(bZ w).cps.toList.map (λc=>D.str ⟨#[c]⟩)=w.map λc=>.str ⟨#[c.toNat]⟩:=by unfold bZ;rw[map_map];rfl
 rw[<- e]
 exact ax (show(bZ w).cps.size<=16777216 by unfold bZ;rw[size_toArray,aG];exact h)
section
variable{st:List M}{o:Nat}{B C:List UInt8}
theorem AW(h:st[o]?=some (.a8 B))(hz:B.length+C.length<=16777216):xO [.ab o,.bytes C] st=.ok .none (st.set o (.a8 (B++C))):=by
 show iL st o (λJ=>.stuck) (λb=>if b.length+C.length<=sz then Res.ok D.none (st.set o (.a8 (b++C))) else .stuck)=_
 unfold iL;rw[h]
 exact ax hz
theorem wN(h:st[o]?=some (.a8 B))(hz:B.length<=16777216):pM [.ab o] st=.ok (.int (B.length:Int)) st:=by
 have e:xG (.ab o) st=some B.length:=by
  show(match st[o]? with | some (M.list V)=>some V.length | some (M.a8 b)=>some b.length | _=>none)=_
  rw[h]
 exact(iX (f:=λn st=>if n<=sz then .ok (D.int (n:Int)) st else .stuck) e st).trans (ax hz)
theorem rP(h:st[o]?=some (.a8 B)):pV vy (.ab o) st=.ok true st:=by
 have:vy (.ab o) st=true:=by show(match st[o]? with | some (M.a8 _)=>true | _=>false)=true;rw[h]
 unfold pV;rw[ax this]
theorem lT{b c}(h:b.length+c.length<=16777216)(st:List M):pH (.bytes b) (.bytes c) st=.ok (.bytes (b++c)) st:=ax h
end
theorem Hk{st}{t o p n}{B w}(T:Tab st t o p B n)(hw:∀i,i<w.length->bk w i≠0)(hz:w.length<=20)(hn:n<=10000):RZ (yT [.ab t,.str (bZ w)] st) st t o p B w n:=by
 obtain⟨bj,hp,kl,names⟩:=T.hp
 have small:=T.small
 have tb:nQ st (.ab p)=some bj:=by show st[p]?.bind vQ=_;rw[hp];rfl
 have ni:D3 (.str (bZ w)) (.ab p) st=.ok (.bool (!(bj.lookup (bZ w)).isSome)) st:=iX (f:=λ(bj:List (Str×Int)) st=>.ok (D.bool (!(bj.lookup (bZ w)).isSome)) st) tb st
 have a1:=eG (x:=eW) (d:=.ab p) T.ht
 cases I:bj.lookup (bZ w) with
 |some i=>
  obtain⟨m,rfl,N⟩:=names w i I
  rw[I] at ni
  have ti:yq (.ab p) (.str (bZ w)) st=.ok (.int (m:Int)) st:=iX (f:=λ(i:Int) st=>.ok (D.int i) st) (show(nQ st (.ab p)).bind (·.lookup (bZ w))=some (m:Int) by rw[tb];exact I) st
  exact⟨m,[],st,bp (sD a1<|sD ni<|sD a1<|sD ti),⟨T.ht,by rw[c9];exact T.ho,⟨bj,hp,Nat.le_succ_of_le kl,λw i h=>by rw[c9];exact names w i h⟩,by rw[c9];exact L1 [B.length,n] 0x1152fb001a19152fb04a small,T.a,T.b,T.c⟩,by rw[c9];exact N,λJ J J=>rfl,rfl⟩
 |none=>
  rw[I] at ni
  have b1:=eG (x:=cn) (d:=.ab o) T.ht
  have sT:yr (.int (B.length:Int)) (.ab p) (.str (bZ w)) st=.ok () (st.set p (.dict (bj++[(bZ w,(B.length:Int))]))):=
   (iX (f:=λ(bj:List (Str×Int)) st=>Mf (.ab p) λj=>if bj.lookup (bZ w)=none/\bj.length<=sz then .ok () (st.set j (.dict (bj++[(bZ w,(B.length:Int))]))) else .stuck) tb st).trans (ax ⟨I,show bj.length<=16777216 by exact L2 [bj.length,n] 0x10027104fa1010000007fa04b hn kl⟩)
  have p1:=dP (m:=.dict (bj++[(bZ w,(B.length:Int))])) hp
  have t1:=df (m:=.dict (bj++[(bZ w,(B.length:Int))])) T.b T.ht
  have o1:=df (m:=.dict (bj++[(bZ w,(B.length:Int))])) T.c T.ho
  have g1:=λj (hj:j≠p)=>df (m:=.dict (bj++[(bZ w,(B.length:Int))])) hj (rfl:st[j]?=st[j]?)
  have n1:(st.set p (.dict (bj++[(bZ w,(B.length:Int))]))).length=st.length:=et
  generalize st.set p (.dict (bj++[(bZ w,(B.length:Int))]))=bW at sT p1 t1 o1 g1 n1
  have ex:=AW (C:=w++[0]) o1 (by rw[aW,length_singleton];exact L3 [B.length,w.length,n] 0x2152fb0027104fa2152f6142fa1010000007fa1a19094c hz hn small)
  have p2:=df (m:=.a8 (B++(w++[0]))) (Ne.symm T.c) p1
  have t2:=df (m:=.a8 (B++(w++[0]))) T.a t1
  have o2:=dP (m:=.a8 (B++(w++[0]))) o1
  have g2:=λj (hj:j≠o)=>df (m:=.a8 (B++(w++[0]))) hj (rfl:bW[j]?=bW[j]?)
  have n2:(bW.set o (.a8 (B++(w++[0])))).length=st.length:=et.trans n1
  generalize bW.set o (.a8 (B++(w++[0])))=b8 at ex p2 t2 o2 g2 n2
  have lk:=afY bj (bZ w)
  have tb2:nQ b8 (.ab p)=some (bj++[(bZ w,(B.length:Int))]):=by show b8[p]?.bind vQ=_;rw[p2];rfl
  have ti:yq (.ab p) (.str (bZ w)) b8=.ok (.int (B.length:Int)) b8:=iX (f:=λ(i:Int) st=>.ok (D.int i) st) (show(nQ b8 (.ab p)).bind (·.lookup (bZ w))=some (B.length:Int) by
   rw[tb2];exact(lk _ _).trans (by rw[I,ax rfl];rfl)) b8
  refine⟨B.length,w++[0],b8,bp (sD a1<|sD ni<|sD b1<|sD (wN T.ho (L2 [B.length,n] 0x1152fb0027104fa1152f610000007fa04b hn small))<|sD a1<|sU sT<|sD (eG (x:=cn) (d:=.ab o) t1)<|sB (rP o1)<|pL (af0 (w:=w) (L1 [w.length] 0x142fa0010000007fa04a hz))<|sL (afZ (w:=w) bW)<|pD (um (B:=w) (L1 [w.length] 0x142fa0010000007fa04a hz))<|pD (lT (b:=w) (c:=[0]) (by show _+1<=_;exact L1 [w.length] 0x142fa0010000007fa1a094a hz))<|sD ex<|sD (eG (x:=eW) (d:=.ab p) t2)<|sD ti),
   ⟨t2,o2,⟨_,p2,by rw[aW];exact succ_le_succ kl,λw' i hi=>?_⟩,by rw[aW,aW,length_singleton];exact L2 [B.length,w.length,n] 0x2152fb00142fa101a29152fb1a19094b hz small,T.a,T.b,T.c⟩,.end_ hw,λj h1 h2=>(g2 j h1).trans (g1 j h2),n2⟩
  rw[lk] at hi
  cases fW:bj.lookup (bZ w') with
  |some i'=>
   rw[fW] at hi
   obtain⟨m,e,N⟩:=names w' i' fW
   exact⟨m,(Option.some.inj hi).symm.trans e,N.app⟩
  |none=>
   rw[fW,Option.none_or] at hi
   by_cases q:bZ w'=bZ w
   .rw[ax q] at hi
    exact⟨_,(Option.some.inj hi).symm,by rw[RY q];exact .end_ hw⟩
   .rw[aY q] at hi;nomatch hi
abbrev AX(entry:Nat)(ai:List ar)(al:Nat)(pl:D)(bd aA:Nat):List (Str×D):=
 [(gZ,.int entry),(gA,.lst (ai.map ar.d)),(ko,.int al),(eW,pl),(kq,.ab bd),(oV,.int aA)]
structure Wr(st:List M)(w bd entry:Nat)(ai:List ar)(al:Nat)(pl:D)(aA:Nat)(body:List UInt8):Prop where
 inst:st[w]?=some (.inst 302 (AX entry ai al pl bd aA))
 iw:st[bd]?=some (.a8 body)
 ne:w≠bd
 small:body.length<=100000
theorem fj{st}{C}{k}{fs}{x}(h:st[k]?=some (.inst C fs))(I:autoParam ((fs.lookup x).isNone=true) kr):tY C x (.ab k) st=.ok true st:=by
 have e:lg C st (.ab k)=some fs:=by
  show(match st[k]? with | some (M.inst C' fs)=>if C'=C then some fs else none | _=>none)=some fs
  rw[h];exact ax rfl
 unfold tY
 rw[e]
 exact ax I
section
variable{st:List M}{w bd entry:Nat}{ai:List ar}{al:Nat}{pl:D}{aA:Nat}{body C:List UInt8}
theorem AY(H:Wr st w bd entry ai al pl aA body):EV [.ab w] st=.ok (.int ((aA+body.length:Nat):Int)) st:=
 bp (sD (eG (x:=oV) (d:=.int aA) H.inst)<|sD (eG (x:=kq) (d:=.ab bd) H.inst)<|sD (wN H.iw (bg H.small nb)))
theorem Wr.ext(H:Wr st w bd entry ai al pl aA body)(hs:(body++C).length<=100000):xO [.ab bd,.bytes C] st=.ok .none (st.set bd (.a8 (body++C)))/\Wr (st.set bd (.a8 (body++C))) w bd entry ai al pl aA (body++C):=
 ⟨AW H.iw (by rw[aW] at hs;exact L1 [body.length,C.length] 0x186a05fa109010000007fa1094a hs),df H.ne H.inst,dP H.iw,H.ne,hs⟩
theorem Hl{n:Nat}(h:n<=1000)(st):ny [.int (n:Int)] st=.ok (.bytes (List.replicate n 0)) st:=
 (ax (c:=(0:Int)<=(n:Int)/\(n:Int)<=16777216) ⟨iy _,ofNat_le.mpr (show n<=16777216 from L1 [n] 0x3e83fa0010000007fa04a h)⟩)
inductive R0(R:Res D)(st:List M)(w bd entry:Nat)(ai:List ar)(al:Nat)(pl:D)(aA:Nat)(body C:List UInt8):Prop
 |mk (n:Nat) (ao:List M) (hn:n<=3) (e:R=.ok (.int ((aA+body.length+n:Nat):Int)) ao) (W:Wr ao w bd entry ai al pl aA (body++List.replicate n 0++C)) (fr:∀j,j≠bd->ao[j]?=st[j]?) (len:ao.length=st.length):R0 R st w bd entry ai al pl aA body C
theorem af1(x):∃n:Nat,n<=3/\∀st,pG (.int (-(x:Int))) (.int ((4:Nat):Int)) st=.ok (.int (n:Int)) st:=
 ⟨((-(x:Int))%4).toNat,by lia,λst=>(n0 (by decide) _ st).trans (aw (λz=>Res.ok (D.int z) st) ((Int.fmod_eq_emod_of_nonneg _ (by decide)).trans (Int.toNat_of_nonneg (Int.emod_nonneg _ (by decide))).symm))⟩
theorem R1(H:Wr st w bd entry ai al pl aA body)(hs:body.length+3+C.length<=100000):R0 (yV [.ab w,.bytes C] st) st w bd entry ai al pl aA body C:=by
 obtain⟨n,hn,hm⟩:=af1 (aA+body.length)
 obtain⟨e1,H1⟩:=H.ext (C:=List.replicate n 0) (by rw[aW,gY];exact L2 [body.length,n,C.length] 0x3a10186a05fa23a0990186a05fa1094b hs hn)
 obtain⟨e2,H2⟩:=H1.ext (C:=C) (by rw[aW,aW,gY];exact L2 [body.length,n,C.length] 0x3a10186a05fa23a0990186a05fa210994b hs hn)
 have h1:=AY H1
 rw[aW,gY,<- Nat.add_assoc] at h1
 have g1:=λj (hj:j≠bd)=>df (m:=.a8 (body++List.replicate n 0)) hj (rfl:st[j]?=st[j]?)
 have n1:(st.set bd (.a8 (body++List.replicate n 0))).length=st.length:=et
 generalize st.set bd (.a8 (body++List.replicate n 0))=bW at e1 H1 e2 H2 h1 g1 n1
 exact⟨n,_,hn,bp (sD (eG (x:=kq) (d:=.ab bd) H.inst)<|sB (rP H.iw)<|sB (fj (x:=kV) H.inst)<|sD (AY H)<|pD hm<|pD (Hl (n:=n) (L1 [n] 0x3a003e83fa04a hn))<|sD e1<|sB (fj (x:=kV) H1.inst)<|sD h1<|sD (eG (x:=kq) (d:=.ab bd) H1.inst)<|sB (rP H1.iw)<|sD e2),H2,λj hj=>(df hj rfl).trans (g1 j hj),et.trans n1⟩
end
structure af2(body:List UInt8)(aA al:Nat)(v:ar)(p:Nat):Prop where
 low:aA<=p
 fits:p-aA+v.b.length<=body.length
 octets:part body (p-aA) v.b.length=v.b
 align:((v.a:Int)-(p:Int)).fmod (al:Int)=0
def mP(body:List UInt8)(aA al:Nat)(X:List (ar×Nat)):Prop:=∀x∈X,af2 body aA al x.1 x.2
theorem mP.app{body C}{aA al}{X}(H:mP body aA al X):mP (body++C) aA al X:=λx hx=>
 ⟨(H x hx).low,by rw[aW];exact bg (H x hx).fits (fN ..),(un (H x hx).fits).trans (H x hx).octets,(H x hx).align⟩
theorem R2{B C}:part (B++C) B.length C.length=C:=by unfold part;rw[List.drop_left,take_length]
noncomputable abbrev ar.d8(X:List (ar×Nat)):List D:=aQ (X.map (·.2))
theorem af3(X)(v)(n):ar.d8 (X++[(v,n)])=ar.d8 X++[.int (n:Int)]:=by unfold ar.d8 aQ;rw[eV,eV];rfl
inductive R3(R:Res D)(st:List M)(w bd p entry:Nat)(ai:List ar)(al aA:Nat)(body:List UInt8)(X:List (ar×Nat))(v:ar):Prop
 |mk (eT:List UInt8) (n:Nat) (ao:List M) (e:R=.ok .none ao) (W:Wr ao w bd entry ai al (.ab p) aA eT) (hp:ao[p]?=some (.list (ar.d8 (X++[(v,n)])))) (P:mP eT aA al (X++[(v,n)])) (fr:∀j,j≠bd->j≠p->ao[j]?=st[j]?) (len:ao.length=st.length) (l:eT.length<=body.length+30):R3 R st w bd p entry ai al aA body X v
theorem af4{al:Nat}(dK:al=1\/al=4\/al=8\/al=16)(a x:Nat):∃n:Nat,n<=16/\(∀st,pG (.int ((a:Int)-(x:Int))) (.int (al:Int)) st=.ok (.int (n:Int)) st)/\((a:Int)-((x+n:Nat):Int)).fmod (al:Int)=0:=by
 have h0:(0:Int)<al:=ofNat_lt.mpr (show 0<al from dK.elim (λbM=>L1 [al] 6982470234 bM) λbM=>bM.elim (λfA=>L1 [al] 19867372122 fA) λfA=>fA.elim (λfB=>L1 [al] 37047241306 fB) λfB=>L1 [al] 17796737010266 fB)
 have e:(((((a:Int)-(x:Int))%al).toNat:Nat):Int)=((a:Int)-(x:Int))%al:=Int.toNat_of_nonneg (Int.emod_nonneg _ (Int.ne_of_gt h0))
 have l:=Int.emod_lt_of_pos ((a:Int)-(x:Int)) h0
 refine⟨(((a:Int)-(x:Int))%al).toNat,by lia,λst=>(n0 h0 _ st).trans (aw (λz=>Res.ok (D.int z) st) ((Int.fmod_eq_emod_of_nonneg _ (Int.le_of_lt h0)).trans e.symm)),?_⟩
 rw[Int.fmod_eq_emod_of_nonneg _ (Int.le_of_lt h0),Int.natCast_add,e,<- Int.sub_sub]
 exact Int.emod_eq_zero_of_dvd (Int.dvd_self_sub_emod)
theorem af5{w bd p entry:Nat}{ai:List ar}{al aA:Nat}{body:List UInt8}{X:List (ar×Nat)}{st:List M}{v:ar}(H:Wr st w bd entry ai al (.ab p) aA body)(hp:st[p]?=some (.list (ar.d8 X)))(P:mP body aA al X)(h1:w≠p)(h2:bd≠p)(dK:al=1\/al=4\/al=8\/al=16)(hv:v.b.length<=10)(hs:body.length<=90000)(hX:X.length<=100) :
  R3 (EX [.ab w,v.d] st) st w bd p entry ai al aA body X v:=by
 obtain⟨n,hn,hm,ha⟩:=af4 dK v.a (aA+body.length)
 obtain⟨e1,H1⟩:=H.ext (C:=List.replicate n 0) (by rw[aW,gY];exact L2 [body.length,n] 0x102fa1015f905fa00186a05fa1094b hs hn)
 have hr:=AY H1
 rw[aW,gY,<- Nat.add_assoc] at hr
 have g1:=λj (hj:j≠bd)=>df (m:=.a8 (body++List.replicate n 0)) hj (rfl:st[j]?=st[j]?)
 have n1:(st.set bd (.a8 (body++List.replicate n 0))).length=st.length:=et
 have p1:=df (m:=.a8 (body++List.replicate n 0)) (Ne.symm h2) hp
 generalize st.set bd (.a8 (body++List.replicate n 0))=bW at e1 H1 hr g1 n1 p1
 have ap:=kM (.int ((aA+body.length+n:Nat):Int)) p1 (by rw[aG,aG];exact L1 [X.length] 0x642fa0010000007fa04a hX)
 have p2:=dP (m:=.list (ar.d8 X++[.int ((aA+body.length+n:Nat):Int)])) p1
 have g2:=λj (hj:j≠p)=>df (m:=.list (ar.d8 X++[.int ((aA+body.length+n:Nat):Int)])) hj (rfl:bW[j]?=bW[j]?)
 have n2:(bW.set p (.list (ar.d8 X++[.int ((aA+body.length+n:Nat):Int)]))).length=st.length:=et.trans n1
 generalize bW.set p (.list (ar.d8 X++[.int ((aA+body.length+n:Nat):Int)]))=b8 at ap p2 g2 n2
 have H2:Wr b8 w bd entry ai al (.ab p) aA (body++List.replicate n 0):=⟨(g2 w h1).trans H1.inst,(g2 bd h2).trans H1.iw,H1.ne,H1.small⟩
 obtain⟨e3,H3⟩:=H2.ext (C:=v.b) (by rw[aW,aW,gY];exact L3 [body.length,n,v.b.length] 0x102fa1015f905fa00aa20186a05fa210994c hv hs hn)
 have bl:(body++List.replicate n 0).length=body.length+n:=by rw[aW,gY]
 refine⟨body++List.replicate n 0++v.b,aA+body.length+n,_,bp (sD (eG (x:=kq) (d:=.ab bd) H.inst)<|sB (rP H.iw)<|sB (fj (x:=kV) H.inst)<|sD (AY H)<|pD (wm (v.a:Int) ((aA+body.length:Nat):Int))<|sD (eG (x:=ko) (d:=.int al) H.inst)<|pD hm<|pD (Hl (n:=n) (L1 [n] 0x102fa003e83fa04a hn))<|sD e1 <|
   sD (eG (x:=eW) (d:=.ab p) H1.inst)<|sB (iY p1)<|sB (fj (x:=kV) H1.inst)<|sD hr<|sD ap<|sD (eG (x:=kq) (d:=.ab bd) H2.inst)<|sB (rP H2.iw)<|sD e3),H3,?_,?_,λj a b=>(df a rfl).trans ((g2 j b).trans (g1 j a)),et.trans n2,by rw[aW,bl];exact L2 [body.length,n,v.b.length] 0x102fa10aa201e2fa09210994b hv hn⟩
 .rw[af3];exact df (Ne.symm h2) p2
 .intro x hx
  rcases cy.mp hx with hx | hx
  .exact P.app.app x hx
  .cases dT.mp hx
   have e:aA+body.length+n-aA=(body++List.replicate n 0).length:=by rw[bl];lia
   exact⟨by show aA<=aA+body.length+n;exact L0 [aA,body.length,n] 554274889,by show aA+body.length+n-aA+_<=_;rw[e];exact le_of_eq (aW ..).symm,by show part _ (aA+body.length+n-aA) _=_;rw[e];exact R2,ha⟩
inductive AZ(w bd p entry:Nat)(ai:List ar)(al aA:Nat)(x1 x2 x3:Option D)(bV:List M)(i:Nat):List (Option D)->List M->Prop
 |mk (body:List UInt8) (X:List (ar×Nat)) (x4:Option D) (st:List M) (W:Wr st w bd entry ai al (.ab p) aA body) (hp:st[p]?=some (.list (ar.d8 X))) (P:mP body aA al X) (eX:X.map (·.1)=ai.take i) (fr:∀j,j≠bd->j≠p->st[j]?=bV[j]?) (len:st.length=bV.length) (l:body.length<=30*i):AZ w bd p entry ai al aA x1 x2 x3 bV i [some (.ab w),x1,x2,x3,x4] st
theorem af6{w bd p entry}{ai}{al aA}{x1 x2 x3}{bV}(h1:w≠p)(h2:bd≠p)(dK:al=1\/al=4\/al=8\/al=16)(hb:∀v∈ai,v.b.length<=10)(hV:ai.length<=10){i}{v}{σ}{st}(hv:ai[i]?=some v)(hp:AZ w bd p entry ai al aA x1 x2 x3 bV i σ st) :
  fM (lp N7 N8) v.d σ st (AZ w bd p entry ai al aA x1 x2 x3 bV (i+1)):=by
 obtain⟨body,X,x4,_,W,pp,P,eX,fr,len,l⟩:=hp
 have hi:=(bH.mp hv).1
 have xl:X.length<=i:=by rw[<- aG (f:=λx:ar×Nat=>x.1),eX];exact length_take_le ..
 obtain⟨eT,n,ao,e,W',pp',P',fr',af7,l'⟩:=af5 (v:=v) W pp P h1 h2 dK (hb v (cU hv)) (L3 [body.length,ai.length,i] 0x121e2f721e2fb00aa11e2f615f905fa04c hV l hi) (L3 [X.length,ai.length,i] 0x200121aa10642fa04c hV hi xl)
 exact .next trivial _ _ (cR (σ':=[some (.ab w),x1,x2,x3,some v.d]) (R:=.ok (.next,[some (.ab w),x1,x2,x3,some v.d]) ao) (sB (fj (x:=r9) W.inst)<|sD e))
  (.mk eT (X++[(v,n)]) (some v.d) ao W' pp' P' (by rw[eV,eX,take_add_one,hv];rfl) (λj a b=>(fr' j a b).trans (fr j a b)) (af7.trans len) (L2 [eT.length,i,body.length] 0x1e2fa290011e2fb201a191e2fb04b l l'))
theorem wO{C}{st l}{F}(x)(v)(I:F.length<=900:=by exact nb):pO C x v (.ab st.length) (st++.inst C F::l)=.ok () (st++.inst C (iN x v F)::l):=
 (Qe x v (by rw[jz (dC _),sub_self];rfl) I).trans (aw (Res.ok ()) (by rw[List.set_append_right _ _ (dC _),sub_self];rfl))
theorem R4{C}{r}{V}{st ao}(h:r (.ab st.length::V) (st++[.inst C []])=.ok .none ao):fH C r V st=.ok (.ab st.length) ao:=by unfold fH;rw[h];rfl
theorem af8{st}{w p}{C}{F}{V}{x}(hw:st[w]?=some (.inst C F))(I:(F.lookup x).bind tM=some p)(hp:st[p]?=some (.list V)):nR x (.ab w) st=.ok () ((st.set p .gone).set w (.inst C (iN x (.lst V) F))):=by
 refine(iX (a:=w) (x:=tM (.ab w)) rfl st).trans ?_
 refine(iX (a:=(C,F)) (x:=st[w]?.bind Ed) (by rw[hw];rfl) st).trans ?_
 refine(iX (a:=p) (x:=(F.lookup x).bind tM) I st).trans ?_
 exact iX (a:=V) (x:=st[p]?.bind Ec) (by rw[hp];rfl) st
theorem af9{st l:List M}{x:M}:(st++x::l)[st.length]?=some x:=by rw[jz (dC _),sub_self];rfl
theorem wP{st l:List M}{x:M}(k)(h:l[k]?=some x):(st++l)[st.length+k]?=some x:=by rw[jz (fN ..),Nat.add_sub_cancel_left];exact h
inductive R5(R:Res D)(st:List M)(entry:Nat)(ai:List ar)(al:Nat):Prop
 |mk (body:List UInt8) (X:List (ar×Nat)) (ao:List M) (e:R=.ok (.ab st.length) ao) (W:Wr ao st.length (st.length+2) entry ai al (.lst (ar.d8 X)) (52+32*ai.length) body) (P:mP body (52+32*ai.length) al X) (eX:X.map (·.1)=ai) (fr:∀j,j<st.length->ao[j]?=st[j]?) (len:ao.length=st.length+3) (l:body.length<=300):R5 R st entry ai al
theorem aga{entry al:Nat}{ai:List ar}{st:List M}(dK:al=1\/al=4\/al=8\/al=16)(h0:0<ai.length)(hV:ai.length<=10)(hb:∀v∈ai,v.b.length<=10):R5 (fH 302 Fd [.int (entry:Int),.lst (ai.map ar.d),.int (al:Int)] st) st entry ai al:=by
 have vl:(ai.map ar.d).length<=16777216:=by rw[aG];exact L1 [ai.length] 0xaa0010000007fa04a hV
 have ln:=kL vl
 rw[aG] at ln
 let F3:List (Str×D):=[(gZ,.int entry),(gA,.lst (ai.map ar.d)),(ko,.int al)]
 have s3:pO 302 eW (.ab (st++[M.inst 302 F3]).length) (.ab st.length) (st++[M.inst 302 F3]++[M.list []])=.ok () (st++[M.inst 302 (F3++[(eW,.ab (st.length+1))]),M.list []]):=by rw[aW,dG];exact wO ..
 have b4:vw [] (st++[M.inst 302 (F3++[(eW,.ab (st.length+1))]),M.list []])=.ok (.ab (st.length+2)) (st++[M.inst 302 (F3++[(eW,.ab (st.length+1))]),M.list [],M.a8 []]):=by
  show Res.ok (D.ab (st++[M.inst 302 _,M.list []]).length) (st++[M.inst 302 _,M.list []]++[M.a8 []])=_
  rw[aW,dG];rfl
 have W0:Wr (st++[.inst 302 (AX entry ai al (.ab (st.length+1)) (st.length+2) (52+32*ai.length)),.list [],.a8 []]) st.length (st.length+2) entry ai al (.ab (st.length+1)) (52+32*ai.length) []:=⟨af9,wP 2 rfl,ne_of_lt (Nat.lt_add_of_pos_right (by decide)),nb⟩
 obtain⟨_,b8,lo,⟨body,X,x4,_,W,pp,P,eX,fr,len,l⟩⟩:=lI ar.d ai (P:=AZ st.length (st.length+2) (st.length+1) entry ai al (52+32*ai.length) (some (.int (entry:Int))) (some (.lst (ai.map ar.d))) (some (.int (al:Int))) (st++[.inst 302 (AX entry ai al (.ab (st.length+1)) (st.length+2) (52+32*ai.length)),.list [],.a8 []])) (λi v σ st hv hp=>af6 (by lia) (by lia) dK hb hV hv hp)
  (.mk [] [] none _ W0 (wP 1 rfl) (λJ h=>nomatch h) rfl (λJ J J=>rfl) rfl nb)
 have n2:b8.length=st.length+3:=len.trans (aW ..)
 rw[take_length] at eX
 refine⟨body,X,(b8.set (st.length+1) .gone).set st.length (.inst 302 (AX entry ai al (.lst (ar.d8 X)) (st.length+2) (52+32*ai.length))),R4 (bp (pD (Qc (a:=al) (by lia))<|pD ln<|pD (mG (a:=ai.length) (b:=0) (gj h0))<|sU (kc 302 st [] gZ (.int entry))<|pD (f:=tJ [.lst (ai.map ar.d)]) (d:=.lst (ai.map ar.d)) (λst=>ax vl)<|sU (kc 302 st [(gZ,.int entry)] gA (.lst (ai.map ar.d))) <|
   sU (kc 302 st [(gZ,.int entry),(gA,.lst (ai.map ar.d))] ko (.int al))<|sU s3<|sD b4<|sU (wO (C:=302) (st:=st) (l:=[.list [],.a8 []]) (F:=F3++[(eW,.ab (st.length+1))]) kq (.ab (st.length+2)))<|pD ln<|sU (wO (C:=302) (st:=st) (l:=[.list [],.a8 []]) (F:=F3++[(eW,.ab (st.length+1)),(kq,.ab (st.length+2))]) oV (.int (52+32*ai.length:Nat))) <|
   sD (eG (x:=gA) (d:=.lst (ai.map ar.d)) W0.inst)<|pL (fi vl)<|sF lo<|sU (af8 (x:=eW) W.inst rfl pp))),⟨PN (by rw[et,n2];exact L0 [st.length] 60854361),df (L0 [st.length] 2754857) (df (L0 [st.length] 111822899497) W.iw),W.ne,W.small⟩,P,eX,λj hj=>(df (L1 [j,st.length] 16846906 hj) (df (L1 [j,st.length] 69015277626 hj) rfl)).trans ((fr j (L1 [j,st.length] 69032054842 hj) (L1 [j,st.length] 69015277626 hj)).trans (dH hj)),by rw[et,et];exact n2,L2 [body.length,ai.length] 0x11e2fb00aa11e2f612c3fa04b hV l⟩
theorem rQ{α:Type}{f:α->List UInt8}{m:Nat}{l:List α}(h:∀x∈l,(f x).length=m):(l.map f).flatten.length=m*l.length:=by
 induction l with
 |nil=>rfl
 |cons x l ih=>rw[map_cons,flatten_cons,aW,h x (.head _),ih λy hy=>h y (.tail _ hy),length_cons,mul_succ,add_comm]
theorem Hm{α:Type}{f:α->List UInt8}{m k q n:Nat}{l:List α}{x:α}(h:∀x∈l,(f x).length=m)(hk:l[k]?=some x)(hq:q+n<=m):le (l.map f).flatten (m*k+q) n=le (f x) q n:=by
 induction l generalizing k with
 |nil=>nomatch hk
 |cons y l ih=>
  have hy:=h y (.head _)
  rw[map_cons,flatten_cons]
  cases k with
  |zero=>cases hk;rw[Nat.mul_zero,gk];exact eP (hy▸hq)
  |succ k=>
   rw[mul_succ,Nat.add_right_comm,add_comm]
   have:=q9 (B:=f y) (C:=(l.map f).flatten) (p:=m*k+q) (n:=n)
   rw[hy] at this
   exact this.trans (ih (λz hz=>h z (.tail _ hz)) hk)
structure lU(v:ar):Prop where
 a:v.a<4294967296
 b:v.b.length<=10
 s:v.s<4294967296
 f:v.f<8
noncomputable def jt(x:ar×Nat):List Nat:=[1,x.2,x.1.a,x.1.a,x.1.b.length,x.1.s]
noncomputable def kR(al:Nat)(x:ar×Nat):List Nat:=[x.1.f,al]
noncomputable def ju(al:Nat)(x:ar×Nat):List UInt8:=aZ 4 (jt x)++aZ 4 (kR al x)
theorem wQ(al)(x):(ju al x).length=32:=(aW ..).trans (by rw[gy,gy];rfl)
noncomputable def kS(al:Nat)(X:List (ar×Nat)):List D:=X.flatMap λx=>[.bytes (aZ 4 (jt x)),.bytes (aZ 4 (kR al x))]
theorem agb(al)(X):(kS al X).length=2*X.length:=by
 unfold kS
 induction X with
 |nil=>rfl
 |cons x X ih=>
  rw[List.flatMap_cons,aW,ih]
  show 2+2*X.length=2*(X.length+1)
  exact eK (L0 [X.length] 7328429727983945) (L0 [X.length] 759389309446985)
theorem agc{al i:Nat}{X:List (ar×Nat)}{x:ar×Nat}(h:X[i]?=some x):kS al (X.take (i+1))=kS al (X.take i)++[.bytes (aZ 4 (jt x))]++[.bytes (aZ 4 (kR al x))]:=by unfold kS;rw[take_add_one,h,List.flatMap_append,dG];rfl
theorem agd(al)(X):mA (kS al X)=some (X.flatMap λx=>[aZ 4 (jt x),aZ 4 (kR al x)]):=by
 unfold kS
 induction X with
 |nil=>rfl
 |cons x X ih=>
  show(some (aZ 4 (jt x))).bind (λb=>((some (aZ 4 (kR al x))).bind λc=>(mA (X.flatMap _)).map (c :: ·)).map (b :: ·))=_
  rw[ih];rfl
theorem R6(al:Nat)(X:List (ar×Nat)):(X.flatMap λx=>[aZ 4 (jt x),aZ 4 (kR al x)]).flatten=(X.map (ju al)).flatten:=by
 induction X with
 |nil=>rfl
 |cons x X ih=>
  show aZ 4 (jt x)++(aZ 4 (kR al x)++(X.flatMap _).flatten)=(aZ 4 (jt x)++aZ 4 (kR al x))++_
  rw[ih,dG]
inductive A0(w h al:Nat)(X:List (ar×Nat))(bV:List M)(i:Nat):List (Option D)->List M->Prop
 |mk (x2 x3 x4:Option D) (st:List M) (hh:st[h]?=some (.list (kS al (X.take i)))) (fr:∀j,j≠h->st[j]?=bV[j]?) (len:st.length=bV.length):A0 w h al X bV i [some (.ab w),some (.ab h),x2,x3,x4] st
section
variable{w bd entry:Nat}{ai:List ar}{al aA:Nat}{pl:D}{body:List UInt8}{X:List (ar×Nat)}
theorem age{h i:Nat}{bV:List M}(W:Wr bV w bd entry ai al pl aA body)(bq:w≠h)(dK:al<=16)(hX:X.length<=100)(hS:∀x∈X,lU x.1/\x.2<4294967296){x:ar×Nat}{σ:List (Option D)}{st:List M}(hx:X[i]?=some x)(hp:A0 w h al X bV i σ st) :
  fM (lp NH NI) (.tup [x.1.d,.int (x.2:Int)]) σ st (A0 w h al X bV (i+1)):=by
 obtain⟨x2,x3,x4,_,hh,fr,len⟩:=hp
 obtain⟨S,s2⟩:=hS x (cU hx)
 have rl:(kS al (X.take i)).length<=1000:=by rw[agb,length_take];exact L2 [min i X.length,X.length] 0x1026642fa1263e83fa02b4b hX (min_le_right i X.length)
 have w1:=ox (l:=jt x) (bU.mpr ⟨by decide,bU.mpr ⟨s2,bU.mpr ⟨S.a,bU.mpr ⟨S.a,bU.mpr ⟨Nat.lt_of_le_of_lt S.b (by decide),gz.mpr S.s⟩⟩⟩⟩⟩) nb
 have w2:=ox (l:=kR al x) (bU.mpr ⟨lt_trans S.f (by decide),gz.mpr (Nat.lt_of_le_of_lt dK (by decide))⟩) nb
 have h1:=dP (m:=.list (kS al (X.take i)++[.bytes (aZ 4 (jt x))])) hh
 have i1:=df (m:=.list (kS al (X.take i)++[.bytes (aZ 4 (jt x))])) bq ((fr w bq).trans W.inst)
 exact .next trivial _ _ (cR (σ':=[some (.ab w),some (.ab h),some x.1.d,some (.int (x.2:Int)),x4]) (R:=.ok (.next,[some (.ab w),some (.ab h),some x.1.d,some (.int (x.2:Int)),some (.int (x.1.b.length:Int))]) _)
  (pD (pW (b:=x.1.b) (bg S.b nb))<|sB (iY hh)<|pD w1<|sD (kM (.bytes (aZ 4 (jt x))) hh (bg rl nb))<|sB (iY h1)<|sD (eG (x:=ko) (d:=.int al) i1)<|pD w2<|sD (kM (.bytes (aZ 4 (kR al x))) h1 (by rw[aW];show _+1<=_;exact L1 [(kS al (List.take i X)).length] 0x3e83fa0010000007fa1a094a rl))))
  (.mk _ _ _ _ (by rw[agc hx];exact dP h1) (λj hj=>(df hj (df hj rfl)).trans (fr j hj)) (et.trans (et.trans len)))
theorem R7(X:List (ar×Nat)):nM ((X.map (·.1)).map ar.d) (ar.d8 X)=X.map λx=>.tup [x.1.d,.int (x.2:Int)]:=by
 induction X with
 |nil=>rfl
 |cons x X ih=>exact aw (D.tup [x.1.d,.int (x.2:Int)] :: ·) ih
inductive R8(R:Res D)(d:D)(st:List M):Prop
 |mk (ao:List M) (e:R=.ok d ao) (fr:∀j,j<st.length->ao[j]?=st[j]?) (len:ao.length=st.length+1):R8 R d st
theorem R9{st:List M}(W:Wr st w bd entry ai al (.lst (ar.d8 X)) aA body)(hV:X.map (·.1)=ai)(hX:X.length<=10)(dK:al<=16)(hS:∀x∈X,lU x.1/\x.2<4294967296):R8 (EZ [.ab w] st) (.bytes (X.map (ju al)).flatten) st:=by
 have wl:=(bH.mp W.inst).1
 have bl:=(bH.mp W.iw).1
 have W1:Wr (st++[.list []]) w bd entry ai al (.lst (ar.d8 X)) aA body:=⟨(dH wl).trans W.inst,(dH bl).trans W.iw,W.ne,W.small⟩
 obtain⟨_,b8,lo,⟨x2,x3,x4,_,hh,fr,len⟩⟩:=lI (λx:ar×Nat=>.tup [x.1.d,.int (x.2:Int)]) X (P:=A0 w st.length al X (st++[.list []])) (λi x σ st hx hp=>age W1 (ne_of_lt wl) dK (bg hX nb) hS hx hp) (.mk none none none _ jq (λJ J=>rfl) rfl)
 rw[take_length] at hh
 have zp:=λst=>show tG [.lst (ai.map ar.d),.lst (ar.d8 X)] st=.ok (X.map λx=>.tup [x.1.d,.int (x.2:Int)]) st from(ax (show(ai.map ar.d).length<=16777216 by rw[<- hV,aG,aG];exact L1 [X.length] 0xaa0010000007fa04a hX)).trans (aw (λz=>Res.ok z st) (by rw[<- hV];exact R7 X))
 have jn:=tK (agd al X) (by rw[R6,rQ λx J=>wQ al x];exact L1 [X.length] 0xaa0202f610000007fa0202fb4a hX)
 rw[R6] at jn
 exact⟨b8.set st.length .gone,bp (sD (eG (x:=gA) (d:=.lst (ai.map ar.d)) W1.inst)<|sD (eG (x:=eW) (d:=.lst (ar.d8 X)) W1.inst)<|pL zp<|sF lo<|sD (lG hh)<|pD jn),λj hj=>(df (ne_of_lt hj) rfl).trans ((fr j (ne_of_lt hj)).trans (dH hj)),et.trans (len.trans (aW ..))⟩
end
noncomputable def qc:List UInt8:=[127,69,76,70,1,1,1,0,0,0,0,0,0,0,0,0]
noncomputable def jv(entry n kT ag names sz:Nat):List UInt8:=qc++aZ 2 [2,243]++aZ 4 [1,entry,52,kT,0]++aZ 2 [52,32,n,sz,ag,names]
section
variable{st:List M}{w bd entry:Nat}{ai:List ar}{al aA:Nat}{pl:D}{body:List UInt8}
theorem Sa{kT ag names:Nat}(W:Wr st w bd entry ai al pl aA body)(hV:ai.length<=10)(h1:entry<4294967296)(h2:kT<4294967296)(h3:ag<65536)(h4:names<65536) :
  ∃sz,(0<ag->sz=40)/\sz<65536/\E4 [.ab w,.int (kT:Int),.int (ag:Int),.int (names:Int)] st=.ok (.bytes (jv entry ai.length kT ag names sz)) st:=by
 have ln:=kL (V:=ai.map ar.d) (by rw[aG];exact L1 [ai.length] 0xaa0010000007fa04a hV)
 rw[aG] at ln
 have w5:=ox (l:=[1,entry,52,kT,0]) (bU.mpr ⟨by decide,bU.mpr ⟨h1,bU.mpr ⟨by decide,bU.mpr ⟨h2,gz.mpr (by decide)⟩⟩⟩⟩) nb
 have w2:=Hj (l:=[2,243]) (by decide) nb
 have hv:=λz (hz:z<65536)=>Hj (l:=[52,32,ai.length,z,ag,names]) (bU.mpr ⟨by decide,bU.mpr ⟨by decide,bU.mpr ⟨L1 [ai.length] 0xaa00100005fa05a hV,bU.mpr ⟨hz,bU.mpr ⟨h3,gz.mpr h4⟩⟩⟩⟩⟩) nb
 have go:=λ(z:Nat) h=>bp (k:=4) (eE:=[]) (n:=2) (X:=E3) (V:=[.ab w,.int (kT:Int),.int (ag:Int),.int (names:Int)]) (st:=st) (R:=.ok (.bytes (jv entry ai.length kT ag names z)) st)
  (pD (f:=ny [.lst [.int 1,.int 1,.int 1]]) (d:=.bytes [1,1,1]) (λJ=>rfl)<|pD (lT (b:=[127,69,76,70]) (c:=[1,1,1]) nb)<|pD (Hl (n:=9) nb)<|pD (lT (b:=[127,69,76,70,1,1,1]) (c:=List.replicate 9 0) nb)<|pD w2<|pD (lT (b:=qc) (c:=aZ 2 [2,243]) nb)<|sD (eG (x:=gZ) (d:=.int entry) W.inst)<|pD w5<|pD (lT (b:=qc++aZ 2 [2,243]) (c:=aZ 4 [1,entry,52,kT,0]) nb)<|sD (eG (x:=gA) (d:=.lst (ai.map ar.d)) W.inst)<|pD ln h)
 have ad:=λz=>lT (b:=qc++aZ 2 [2,243]++aZ 4 [1,entry,52,kT,0]) (c:=aZ 2 [52,32,ai.length,z,ag,names]) nb
 by_cases z:0<ag
 .exact⟨40,λJ=>rfl,by decide,go 40 (pD (jo (b:=0) z)<|pD (hv 40 (by decide))<|pD (ad 40))⟩
 .exact⟨0,λh=>absurd h z,by decide,go 0 (pD (iU (b:=0) z)<|pD (hv 0 (by decide))<|pD (ad 0))⟩
inductive A1(R:Res (Fl×List (Option D)))(st:List M)(w:Nat)(x:Nat):Prop
 |ret (n:Nat) (σ:List (Option D)) (e:R=.ok (.ret (.int (n:Int)),σ) st) (h:n<65536):A1 R st w x
 |next (x2 x3:Option D) (e:R=.ok (.next,[some (.ab w),some (.int (x:Int)),x2,x3]) st):A1 R st w x
theorem agf{x:Nat}(ai:List ar)(i:Nat)(x2 x3:Option D)(h:i+ai.length<=1000):A1 (de (lp y3 za) (nK i (ai.map ar.d)) [some (.ab w),some (.int (x:Int)),x2,x3] st) st w x:=by
 induction ai generalizing i x2 x3 with
 |nil=>exact .next x2 x3 rfl
 |cons v ai ih=>
  rw[length_cons] at h
  have go:=fun{f:Fl} hx=>cR (k:=y3) (X:=za) (x:=.tup [.int (i:Int),v.d]) (σ:=[some (.ab w),some (.int (x:Int)),x2,x3]) (σ':=[some (.ab w),some (.int (x:Int)),some (.int (i:Int)),some v.d]) (st:=st) (R:=.ok (f,[some (.ab w),some (.int (x:Int)),some (.int (i:Int)),some v.d]) st) hx
  have nx:=λe=>show A1 (de (lp y3 za) (.tup [.int (i:Int),v.d]::nK (i+1) (ai.map ar.d)) [some (.ab w),some (.int (x:Int)),x2,x3] st) st w x from by
   rw[ui e];exact ih (i+1) (some (.int (i:Int))) (some v.d) (L1 [i,ai.length] 0x3e83fa1a190903e83fa11a0994a h)
  by_cases h1:v.a<=x
  .by_cases h2:x<=v.a+v.s
   .exact .ret (i+1) _ (PO (go (f:=.ret (.int ((i+1:Nat):Int))) (pD (ug h1)<|pD (wx v)<|pD (ug (b:=v.a+v.s) h2)))) (L1 [i,ai.length] 0x3e83fa1a19090100005fa1a095a h)
   .exact nx (go (pD (ug h1)<|pD (wx v)<|pD (Ga (b:=v.a+v.s) h2)))
  .exact nx (go (pD (Ga h1)))
theorem agg{x:Nat}(W:Wr st w bd entry ai al pl aA body)(hV:ai.length<=10):∃n:Nat,n<65536/\E8 [.ab w,.int (x:Int)] st=.ok (.int (n:Int)) st:=by
 have en:=AB (V:=ai.map ar.d) (by rw[aG];exact L1 [ai.length] 0xaa0010000007fa04a hV)
 have at_:=eG (x:=gA) (d:=.lst (ai.map ar.d)) W.inst
 cases agf (st:=st) (w:=w) (x:=x) ai 0 none none (L1 [ai.length] 0xaa003e83fa00a94a hV) with
 |ret n σ e h=>exact⟨n,h,bp (sD at_<|pL en<|sF e)⟩
 |next x2 x3 e=>exact⟨65521,by decide,bp (sD at_<|pL en<|sF e)⟩
end
inductive Sb(R:Res D)(st:List M)(t o p:Nat)(B:List UInt8)(n:Nat):Prop
 |mk (l:List Nat) (C:List UInt8) (ao:List M) (e:R=.ok (.bytes (aZ 4 l)) ao) (len:l.length=10) (kd:∀v,l[1]?=some v->v≠2) (small:∀v∈l,v<4294967296) (T:Tab ao t o p (B++C) (n+1)) (fr:∀j,j≠o->j≠p->ao[j]?=st[j]?) (sl:ao.length=st.length):Sb R st t o p B n
theorem agh:∀f:Nat,f<8->Builtin.bitAnd (f:Int) 1=((f%2:Nat):Int)/\Builtin.bitAnd (f:Int) 2=((f/2%2*2:Nat):Int):=by decide
theorem agi:∀b c:Bool,Builtin.bitOr 2 ((b.toNat:Nat):Int)=((2+b.toNat:Nat):Int)/\Builtin.bitOr ((2+b.toNat:Nat):Int) ((4*c.toNat:Nat):Int)=((2+b.toNat+4*c.toNat:Nat):Int):=by decide
theorem Sc(b:Bool)(st:List M):tz [.bool b] st=.ok (.int ((b.toNat:Nat):Int)) st:=by cases b <;> rfl
noncomputable def Se:List UInt8:=[46,116,101,120,116]
noncomputable def Sf:List UInt8:=[46,100,97,116,97]
theorem agj{st:List M}{w t o p pl n:Nat}{B:List UInt8}{v:ar}(T:Tab st t o p B n)(hn:n<=10000)(S:lU v)(fe:pl<4294967296):Sb (E7 [.ab w,.ab t,v.d,.int (pl:Int)] st) st t o p B n:=by
 obtain⟨m1,m2⟩:=agh v.f S.f
 have a1:=Gr m1
 have a2:=Gr m2
 generalize decide (v.f%2≠0)=b1 at a1
 generalize decide (v.f/2%2*2≠0)=b2 at a2
 obtain⟨f1,f2⟩:=agi b2 b1
 have bl:b2.toNat<=1/\b1.toNat<=1:=⟨toNat_le _,toNat_le _⟩
 have lb:=pW (b:=v.b) (bg S.b nb)
 have hb:=S.b
 obtain⟨z,ez⟩:∃z:Bool,(if z then 0<v.b.length else¬0<v.b.length):=by
  by_cases z:0<v.b.length
  .exact⟨true,z⟩
  .exact⟨false,z⟩
 obtain⟨x,hx,x20,ex⟩:∃x:List UInt8,(∀i,i<x.length->bk x i≠0)/\x.length<=20/\bZ x=cond b1 (bZ Se) (bZ Sf):=by
  cases b1
  .exact⟨Sf,by decide,nb,rfl⟩
  .exact⟨Se,by decide,nb,rfl⟩
 obtain⟨m,C,ao,e,T',N,fr,sl⟩:=Hk T hx x20 hn
 rw[ex] at e
 have hm:m<4294967296:=by have:=N.inside;have:=T'.small;lia
 have w1:=λkd sz (hk:kd<4294967296) (hs:sz<4294967296)=>ox (l:=[m,kd,2+b2.toNat+4*b1.toNat,v.a,pl,sz,0,0,4,0]) (bU.mpr ⟨hm,bU.mpr ⟨hk,bU.mpr ⟨L2 [b2.toNat,b1.toNat] 0x1a1461a001000000009fa14b02a995b bl.1 bl.2,bU.mpr ⟨S.a,bU.mpr ⟨fe,bU.mpr ⟨hs,by decide⟩⟩⟩⟩⟩⟩) nb
 have sm:=λkd sz (hk:kd<4294967296) (hs:sz<4294967296)=>show∀y∈[m,kd,2+b2.toNat+4*b1.toNat,v.a,pl,sz,0,0,4,0],y<4294967296 from bU.mpr ⟨hm,bU.mpr ⟨hk,bU.mpr ⟨by exact L2 [b2.toNat,b1.toNat] 0x1a1461a001000000009fa14b02a995b bl.1 bl.2,bU.mpr ⟨S.a,bU.mpr ⟨fe,bU.mpr ⟨hs,by decide⟩⟩⟩⟩⟩⟩
 have go:=fun{R:Res D} h=>bp (k:=4) (eE:=[]) (n:=4) (X:=E6) (V:=[.ab w,.ab t,v.d,.int (pl:Int)]) (st:=st) (R:=R) (pD a2<|pD (Sc b2)<|pD (Aa f1)<|pD a1<|pD (Sc b1)<|pD (Aa f2)<|pD lb h)
 cases z with
 |true=>
  refine⟨_,C,ao,go (pD (jo (b:=0) ez)<|pD (eqT (a:=1) (b:=1) rfl)<|pD lb<|sB (fj (x:=dj) T.ht)<|pD a1 ?_),rfl,(λy h=>by cases h;decide),sm 1 v.b.length (by decide) (L1 [v.b.length] 0xaa001000000009fa05a hb),T',fr,sl⟩
  cases b1
  .exact sD e<|pD (w1 1 v.b.length (by decide) (L1 [v.b.length] 0xaa001000000009fa05a hb))
  .exact sD e<|pD (w1 1 v.b.length (by decide) (L1 [v.b.length] 0xaa001000000009fa05a hb))
 |false=>
  refine⟨_,C,ao,go (pD (iU (b:=0) ez)<|pD (mG (a:=8) (b:=1) (by decide))<|sB (fj (x:=dj) T.ht)<|pD a1 ?_),rfl,(λy h=>by cases h;decide),sm 8 v.s (by decide) S.s,T',fr,sl⟩
  cases b1
  .exact sD e<|pD (w1 8 v.s (by decide) S.s)
  .exact sD e<|pD (w1 8 v.s (by decide) S.s)
structure bS where
 a:Nat
 v:Nat
 g:Bool
def bS.d(x:bS):D:=sym (bZ (d7 x.a)) x.v x.g
structure bS.Ok(x:bS):Prop where
 a:x.a<15
 v:x.v<4294967296
structure dR where
 x:bS
 n:Nat
 w:Nat
noncomputable def lV(g:Bool):List UInt8:=[cond g 16 0,0]
noncomputable def dR.b(e:dR):List UInt8:=aZ 4 [e.n,e.x.v,0]++(lV e.x.g++aZ 2 [e.w])
structure dR.Ok(B:List UInt8)(e:dR):Prop where
 x:e.x.Ok
 name:jP B e.n (d7 e.x.a)
 n:e.n<4294967296
 w:e.w<65536
noncomputable def dr(Z:List dR):List UInt8:=List.replicate 16 0++(Z.map dR.b).flatten
theorem dR.Sg(e:dR):e.b.length=16:=by unfold dR.b;rw[aW,aW,gy,gy];rfl
theorem Hn(Z:List dR):(dr Z).length=16*(Z.length+1):=by unfold dr;rw[aW,rQ λe J=>e.Sg,gY];exact eK (L0 [Z.length] 0x1a09102fb0102fb102fa949) (L0 [Z.length] 0x102fb102fa91a09102fb49)
theorem agk(Z)(e):dr (Z++[e])=dr Z++aZ 4 [e.n,e.x.v,0]++(lV e.x.g++aZ 2 [e.w]):=by
 unfold dr
 rw[eV,List.flatten_append,<- dG,dG (_++_) (aZ 4 _)]
 exact aw (_++·) (c9 _)
theorem Wr.fr{st ao}{w bd entry}{ai}{al}{pl}{aA}{body}(W:Wr st w bd entry ai al pl aA body)(h1:ao[w]?=st[w]?)(h2:ao[bd]?=st[bd]?):Wr ao w bd entry ai al pl aA body:=⟨h1.trans W.inst,h2.trans W.iw,W.ne,W.small⟩
theorem Tab.fr{st ao}{t o p n}{B}(T:Tab st t o p B n)(h1:ao[t]?=st[t]?)(h2:ao[o]?=st[o]?)(h3:ao[p]?=st[p]?):Tab ao t o p B n:=
 let ⟨k,hk,r⟩:=T.hp
 ⟨h1.trans T.ht,h2.trans T.ho,⟨k,h3.trans hk,r⟩,T.small,T.a,T.b,T.c⟩
def Off(j:Nat)(l:List Nat):Prop:=∀x∈l,j≠x
inductive A2(w bd entry:Nat)(ai:List ar)(al:Nat)(pl:D)(aA:Nat)(body:List UInt8)(t o p tb:Nat)(S:List bS)(x1 x3 x5 x6 x8 x9 aR bf bm:Option D)(bV:List M)(i:Nat):List (Option D)->List M->Prop
 |mk (Z:List dR) (B:List UInt8) (x4:Option D) (st:List M) (W:Wr st w bd entry ai al pl aA body) (T:Tab st t o p B (i+1)) (ht:st[tb]?=some (.a8 (dr Z))) (eS:Z.map dR.x=S.take i) (ok:∀e∈Z,e.Ok B) (fr:∀j,Off j [o,p,tb]->st[j]?=bV[j]?) (len:st.length=bV.length) :
   A2 w bd entry ai al pl aA body t o p tb S x1 x3 x5 x6 x8 x9 aR bf bm bV i [some (.ab w),x1,some (.ab t),x3,x4,x5,x6,some (.ab tb),x8,x9,aR,bf,bm] st
section
variable{w bd entry:Nat}{ai:List ar}{al aA:Nat}{pl:D}{body:List UInt8}{t o p tb:Nat}{S:List bS}{x1 x3 x5 x6 x8 x9 aR bf bm:Option D}{bV:List M}
theorem agl{i}{x}{σ}{st}(hw:Off w [o,p,tb])(hb:Off bd [o,p,tb])(ht:Off tb [o,p])(Si:t≠tb)(hV:ai.length<=10)(hS:S.length<=20)(lW:∀x∈S,x.Ok)(hx:S[i]?=some x)(hp:A2 w bd entry ai al pl aA body t o p tb S x1 x3 x5 x6 x8 x9 aR bf bm bV i σ st) :
  fM (lp Fb Fc) x.d σ st (A2 w bd entry ai al pl aA body t o p tb S x1 x3 x5 x6 x8 x9 aR bf bm bV (i+1)):=by
 obtain⟨Z,B,x4,_,W,T,Sj,eS,ok,fr,len⟩:=hp
 have xo:=lW x (cU hx)
 have hi:=(bH.mp hx).1
 have tf:=AF x.a xo.a
 have el:Z.length<=i:=by rw[<- aG (f:=dR.x),eS];exact length_take_le ..
 have tl:=Hn Z
 obtain⟨n,C,bW,e1,T1,N,g1,n1⟩:=Hk T (λi hi=>(tf.2.1 i hi).2) (by have:=tf.1;exact L1 [(d7 x.a).length,x.a] 0xf1fa0191142fa04a tf.1) (L2 [i,S.length] 0x101142fa1027104fa1a094b hS hi)
 have hn:n<4294967296:=by have:=N.inside;have:=T1.small;lia
 have b1:=(g1 tb (ht o (.head _)) (ht p (.tail _ (.head _)))).trans Sj
 have W1:=W.fr (g1 w (hw o (.head _)) (hw p (.tail _ (.head _)))) (g1 bd (hb o (.head _)) (hb p (.tail _ (.head _))))
 have Sk:=AW (C:=aZ 4 [n,x.v,0]) b1 (by rw[gy,tl];show _+12<=_;exact L3 [Z.length,S.length,i] 0x20102f612102f7142fa1102f610000007faca1a09102fb94c hS hi el)
 have b2:=dP (m:=.a8 (dr Z++aZ 4 [n,x.v,0])) b1
 have g2:=λj (hj:j≠tb)=>df (m:=.a8 (dr Z++aZ 4 [n,x.v,0])) hj (rfl:bW[j]?=bW[j]?)
 have n2:(bW.set tb (.a8 (dr Z++aZ 4 [n,x.v,0]))).length=st.length:=et.trans n1
 generalize bW.set tb (.a8 (dr Z++aZ 4 [n,x.v,0]))=b8 at Sk b2 g2 n2
 have wt:=hw tb (.tail _ (.tail _ (.head _)))
 have bt:=hb tb (.tail _ (.tail _ (.head _)))
 have W2:=W1.fr (g2 w wt) (g2 bd bt)
 obtain⟨ow,Sn,eo⟩:=agg (x:=x.v) W2 hV
 have Ho:=AW (C:=lV x.g++aZ 2 [ow]) b2 (by rw[aW,aW,gy,gy,tl];show _+12+(2+2)<=_;exact L3 [Z.length,S.length,i] 0x20102f612102f7142fa1102f610000007fa2a2a9ca1a09102fb994c hS hi el)
 have b3:=dP (m:=.a8 (dr Z++aZ 4 [n,x.v,0]++(lV x.g++aZ 2 [ow]))) b2
 have g3:=λj (hj:j≠tb)=>df (m:=.a8 (dr Z++aZ 4 [n,x.v,0]++(lV x.g++aZ 2 [ow]))) hj (rfl:b8[j]?=b8[j]?)
 have n3:(b8.set tb (.a8 (dr Z++aZ 4 [n,x.v,0]++(lV x.g++aZ 2 [ow])))).length=st.length:=et.trans n2
 generalize b8.set tb (.a8 (dr Z++aZ 4 [n,x.v,0]++(lV x.g++aZ 2 [ow])))=cf at Ho b3 g3 n3
 have wd:=ox (l:=[n,x.v,0]) (bU.mpr ⟨hn,bU.mpr ⟨xo.v,by decide⟩⟩) nb
 have hv:=Hj (l:=[ow]) (gz.mpr Sn) nb
 have tt:=T1.fr (ao:=cf) ((g3 t Si).trans (g2 t Si)) ((g3 o (Ne.symm (ht o (.head _)))).trans (g2 o (Ne.symm (ht o (.head _))))) ((g3 p (Ne.symm (ht p (.tail _ (.head _))))).trans (g2 p (Ne.symm (ht p (.tail _ (.head _))))))
 have ad:=lT (b:=lV x.g) (c:=aZ 2 [ow]) nb
 have go:lp Fb Fc x.d [some (.ab w),x1,some (.ab t),x3,x4,x5,x6,some (.ab tb),x8,x9,aR,bf,bm] st=.ok (.next,[some (.ab w),x1,some (.ab t),x3,some x.d,x5,x6,some (.ab tb),x8,x9,aR,bf,bm]) cf:=by
  refine cR (σ':=[some (.ab w),x1,some (.ab t),x3,some x.d,x5,x6,some (.ab tb),x8,x9,aR,bf,bm]) (sB (rP Sj)<|sB (fj (x:=dj) T.ht)<|sD e1<|pD wd<|sD Sk<|sB (rP b2) ?_)
  obtain⟨a,v,g⟩:=x
  cases g with
  |true=>exact pD (Ge (a:=1) (b:=4) nb (by decide))<|pD (f:=ny [.lst [.int 16,.int 0]]) (d:=.bytes (lV true)) (λJ=>rfl)<|sB (fj (x:=qf) W2.inst)<|sD eo<|pD hv<|pD ad<|sD Ho
  |false=>exact pD (f:=ny [.lst [.int 0,.int 0]]) (d:=.bytes (lV false)) (λJ=>rfl)<|sB (fj (x:=qf) W2.inst)<|sD eo<|pD hv<|pD ad<|sD Ho
 exact .next trivial _ _ go (.mk (Z++[⟨x,n,ow⟩]) (B++C) (some x.d) cf (W2.fr (g3 w wt) (g3 bd bt)) tt (by rw[agk];exact b3) (by rw[eV,eS,take_add_one,hx];rfl)
  (λe he=>(cy.mp he).elim (λh=>⟨(ok e h).x,(ok e h).name.app,(ok e h).n,(ok e h).w⟩) λh=>by cases dT.mp h;exact⟨xo,N,hn,Sn⟩)
  (λj hj=>(g3 j (hj tb (.tail _ (.tail _ (.head _))))).trans ((g2 j (hj tb (.tail _ (.tail _ (.head _))))).trans ((g1 j (hj o (.head _)) (hj p (.tail _ (.head _)))).trans (fr j hj)))) (n3.trans len))
end
structure wR(l:List Nat):Prop where
 len:l.length=10
 kd:∀v,l[1]?=some v->v≠2
 small:∀v∈l,v<4294967296
noncomputable abbrev jU(ls:List (List Nat)):List D:=ls.map λl=>.bytes (aZ 4 l)
theorem agm(ls):mA (jU ls)=some (ls.map (aZ 4)):=by
 induction ls with
 |nil=>rfl
 |cons l ls ih=>
  show(some (aZ 4 l)).bind (λb=>(mA (jU ls)).map (b :: ·))=_
  rw[ih];rfl
inductive A3(w bd entry:Nat)(ai:List ar)(al:Nat)(pl:D)(aA:Nat)(body:List UInt8)(t o p h:Nat)(x1 x2 x4 x5 x6 x7 bf bm:Option D)(bV:List M)(i:Nat):List (Option D)->List M->Prop
 |mk (ls:List (List Nat)) (B:List UInt8) (x9 aR:Option D) (st:List M) (W:Wr st w bd entry ai al pl aA body) (T:Tab st t o p B (i+1)) (hh:st[h]?=some (.list (jU ls))) (len:ls.length=i+1) (ok:∀l∈ls,wR l) (fr:∀j,Off j [o,p,h]->st[j]?=bV[j]?) (sl:st.length=bV.length) :
   A3 w bd entry ai al pl aA body t o p h x1 x2 x4 x5 x6 x7 bf bm bV i [some (.ab w),x1,x2,some (.ab t),x4,x5,x6,x7,some (.ab h),x9,aR,bf,bm] st
theorem agn{w bd entry:Nat}{ai:List ar}{al aA:Nat}{pl:D}{body:List UInt8}{t o p h:Nat}{x1 x2 x4 x5 x6 x7 bf bm:Option D}{bV:List M}{i:Nat}{x:ar×Nat}{σ:List (Option D)}{st:List M}(hw:Off w [o,p,h])(hb:Off bd [o,p,h])(hh:Off h [o,p])(ht:t≠h)(hi:i<=100)(S:lU x.1)(Hp:x.2<4294967296)(hp:A3 w bd entry ai al pl aA body t o p h x1 x2 x4 x5 x6 x7 bf bm bV i σ st) :
  fM (lp NZ N0) (.tup [x.1.d,.int (x.2:Int)]) σ st (A3 w bd entry ai al pl aA body t o p h x1 x2 x4 x5 x6 x7 bf bm bV (i+1)):=by
 obtain⟨ls,B,x9,aR,_,W,T,h0,len,ok,fr,sl⟩:=hp
 obtain⟨l,C,bW,e1,ll,kd,sm,T1,g1,n1⟩:=agj (w:=w) (pl:=x.2) T (L1 [i] 0x642fa0027104fa1a094a hi) S Hp
 have h1:=(g1 h (hh o (.head _)) (hh p (.tail _ (.head _)))).trans h0
 have W1:=W.fr (g1 w (hw o (.head _)) (hw p (.tail _ (.head _)))) (g1 bd (hb o (.head _)) (hb p (.tail _ (.head _))))
 have g2:=λj (hj:j≠h)=>df (m:=.list (jU ls++[.bytes (aZ 4 l)])) hj (rfl:bW[j]?=bW[j]?)
 have ho:=hh o (.head _)
 have Ef:=hh p (.tail _ (.head _))
 have lh:=fun{j:Nat} (q:Off j [o,p,h])=>q h (.tail _ (.tail _ (.head _)))
 exact .next trivial _ _ (cR (σ':=[some (.ab w),x1,x2,some (.ab t),x4,x5,x6,x7,some (.ab h),some x.1.d,some (.int (x.2:Int)),bf,bm]) (R:=.ok (.next,[some (.ab w),x1,x2,some (.ab t),x4,x5,x6,x7,some (.ab h),some x.1.d,some (.int (x.2:Int)),bf,bm]) _)
  (sB (iY h0)<|sB (fj (x:=sn) W.inst)<|sD e1<|sD (kM (.bytes (aZ 4 l)) h1 (by rw[aG,len];exact L1 [i] 0x642fa0010000007fa1a094a hi))))
  (.mk (ls++[l]) (B++C) _ _ _ (W1.fr (g2 w (lh hw)) (g2 bd (lh hb))) (T1.fr (g2 t ht) (g2 o (Ne.symm ho)) (g2 p (Ne.symm Ef))) ((dP h1).trans (aw (λz=>some (M.list z)) (eV (l₂:=[l])).symm)) (by rw[aW,len];rfl)
   (λy hy=>(cy.mp hy).elim (ok y) λhy=>by cases dT.mp hy;exact⟨ll,kd,sm⟩) (λj hj=>(g2 j (lh hj)).trans ((g1 j (hj o (.head _)) (hj p (.tail _ (.head _)))).trans (fr j hj))) (et.trans (n1.trans sl)))
def eI(n:Nat):List M:=[.inst 219 [(cn,.ab (n+1)),(eW,.ab (n+2))],.a8 [0],.dict [(⟨#[]⟩,0)]]
theorem So{st}:fH 219 ER [] st=.ok (.ab st.length) (st++eI st.length):=by
 have b1:vw [.bytes [0]] (st++[M.inst 219 []])=.ok (.ab (st.length+1)) (st++[M.inst 219 [],M.a8 [0]]):=by
  show(if([0]:List UInt8).length<=sz then Res.ok (D.ab (st++[M.inst 219 []]).length) (st++[M.inst 219 []]++[M.a8 [0]]) else .stuck)=_
  rw[ax nb,aW,dG];rfl
 have s3:pO 219 eW (.ab (st++[M.inst 219 [(cn,.ab (st.length+1))],M.a8 [0]]).length) (.ab st.length) (st++[M.inst 219 [(cn,.ab (st.length+1))],M.a8 [0]]++[M.dict [(⟨#[]⟩,0)]])=.ok () (st++eI st.length):=by rw[aW,dG];exact wO ..
 exact R4 (bp (sD b1<|sU (wO (C:=219) (st:=st) (l:=[.a8 [0]]) (F:=[]) cn (.ab (st.length+1)))<|sU s3))
theorem Sp{st l}(n)(hn:st.length=n):Tab (st++(eI n++l)) n (n+1) (n+2) [0] 1:=by
 subst hn
 refine⟨wP 0 rfl,wP 1 rfl,⟨_,wP 2 rfl,nb,λw i h=>?_⟩,nb,L0 [st.length] 27299897,L0 [st.length] 44077113,L0 [st.length] 180541327673⟩
 rw[lookup_cons] at h
 by_cases q:bZ w=⟨#[]⟩
 .rw[beq_iff_eq.mpr q] at h
  have:=RY (w':=[]) q
  subst this
  exact⟨0,(Option.some.inj h).symm,⟨by decide,(λJ h=>nomatch h),(λJ h=>nomatch h),rfl⟩⟩
 .rw[beq_eq_false_iff_ne.mpr q] at h;nomatch h
structure gW(body:List UInt8)(aA p:Nat)(C:List UInt8):Prop where
 low:aA<=p
 fits:p-aA+C.length<=body.length
 octets:part body (p-aA) C.length=C
theorem gW.app{body X}{aA p}{C}(H:gW body aA p C):gW (body++X) aA p C:=
 ⟨H.low,by rw[aW];exact bg H.fits (fN ..),(un H.fits).trans H.octets⟩
theorem gW.new{body}{aA n}{C}:gW (body++List.replicate n 0++C) aA (aA+body.length+n) C:=by
 have e:aA+body.length+n-aA=(body++List.replicate n 0).length:=by rw[aW,gY];lia
 exact⟨L0 [aA,body.length,n] 554274889,by rw[e];exact le_of_eq (aW ..).symm,by rw[e];exact R2⟩
structure NS(N:Nat)(st:List M)(w bd entry:Nat)(ai:List ar)(al:Nat)(pl:D)(aA:Nat)(body TB YB:List UInt8)(n1 n2 h:Nat)(Z:List dR)(ls:List (List Nat)):Prop where
 W:Wr st w bd entry ai al pl aA body
 A:Tab st N (N+1) (N+2) TB n1
 B:Tab st (N+3) (N+4) (N+5) YB n2
 t:st[N+6]?=some (.a8 (dr Z))
 H:st[h]?=some (.list (jU ls))
 hw:w<N
 hb:bd<N
 hh:N+6<h
section
variable{N:Nat}{st ao:List M}{w bd entry:Nat}{ai:List ar}{al aA:Nat}{pl:D}{body TB YB:List UInt8}{n1 n2 h:Nat}{Z:List dR}{ls:List (List Nat)}
variable(X:NS N st w bd entry ai al pl aA body TB YB n1 n2 h Z ls)
include X
inductive Sq(R:Res D)(N:Nat)(st:List M)(w bd entry:Nat)(ai:List ar)(al:Nat)(pl:D)(aA:Nat)(body TB YB:List UInt8)(n1 n2 h:Nat)(Z:List dR)(ls:List (List Nat))(C:List UInt8):Prop
 |mk (n p:Nat) (ao:List M) (hn:n<=3) (ep:p=aA+body.length+n) (e:R=.ok (.int (p:Int)) ao) (X:NS N ao w bd entry ai al pl aA (body++List.replicate n 0++C) TB YB n1 n2 h Z ls) (fr:∀j,j<N->j≠bd->ao[j]?=st[j]?):Sq R N st w bd entry ai al pl aA body TB YB n1 n2 h Z ls C
theorem NS.add{C}(hs:body.length+3+C.length<=100000):Sq (yV [.ab w,.bytes C] st) N st w bd entry ai al pl aA body TB YB n1 n2 h Z ls C:=by
 obtain⟨n,ao,hn,e,W,fr,len⟩:=R1 X.W hs
 have hb:=X.hb
 have hh:=X.hh
 exact⟨n,_,ao,hn,rfl,e,⟨W,X.A.fr (fr _ (L1 [N,bd] 1118250 hb)) (fr _ (L1 [N,bd] 4581886250 hb)) (fr _ (L1 [N,bd] 4582934826 hb)),X.B.fr (fr _ (L1 [N,bd] 4583983402 hb)) (fr _ (L1 [N,bd] 4585031978 hb)) (fr _ (L1 [N,bd] 4586080554 hb)),(fr _ (L1 [N,bd] 4587129130 hb)).trans X.t,(fr _ (L2 [h,bd,N] 0x6a291211102b hb hh)).trans X.H,X.hw,hb,hh⟩,λj J h=>fr j h⟩
inductive Sr(R:Res D)(N:Nat)(st:List M)(w bd entry:Nat)(ai:List ar)(al:Nat)(pl:D)(aA:Nat)(body TB YB:List UInt8)(n1 n2 h:Nat)(Z:List dR)(ls:List (List Nat)):Prop
 |mk (m:Nat) (C:List UInt8) (ao:List M) (hm:m<4294967296) (e:R=.ok (.int (m:Int)) ao) (X:NS N ao w bd entry ai al pl aA body TB (YB++C) n1 (n2+1) h Z ls) (fr:∀j,j<N->ao[j]?=st[j]?):Sr R N st w bd entry ai al pl aA body TB YB n1 n2 h Z ls
theorem NS.place{x}(hx:∀i,i<x.length->bk x i≠0)(hz:x.length<=20)(hn:n2<=1000):Sr (yT [.ab (N+3),.str (bZ x)] st) N st w bd entry ai al pl aA body TB YB n1 n2 h Z ls:=by
 obtain⟨m,C,ao,e,T,Nm,fr,len⟩:=Hk X.B hx hz (L1 [n2] 0x3e83fa0027104fa04a hn)
 have hb:=X.hb;have hw:=X.hw;have hh:=X.hh
 have s1:=T.small;have s2:=Nm.inside
 exact⟨m,C,ao,L3 [m,n2,(YB++C).length,x.length] 0x230911a19152fb203e83fa1152f61000000009fa05c hn s1 s2,e,⟨X.W.fr (fr _ (L1 [w,N] 69065609274 hw) (L1 [w,N] 69082386490 hw)) (fr _ (L1 [bd,N] 69065609274 hb) (L1 [bd,N] 69082386490 hb)),X.A.fr (fr _ (L0 [N] 77631545) (L0 [N] 94408761)) (fr _ (L0 [N] 317980281145) (L0 [N] 386699757881)) (fr _ (L0 [N] 317981329721) (L0 [N] 386700806457)),T,(fr _ (L0 [N] 317985524009) (L0 [N] 386705000745)).trans X.t,(fr _ (L1 [h,N] 0x6a1914a1902a hh) (L1 [h,N] 0x6a1915a1902a hh)).trans X.H,hw,hb,hh⟩,λj hj=>fr j (L1 [j,N] 69065609274 hj) (L1 [j,N] 69082386490 hj)⟩
theorem NS.app(l)(hz:ls.length<=1000):xP [.ab h,.bytes (aZ 4 l)] st=.ok .none (st.set h (.list (jU ls++[.bytes (aZ 4 l)])))/\NS N (st.set h (.list (jU ls++[.bytes (aZ 4 l)]))) w bd entry ai al pl aA body TB YB n1 n2 h Z (ls++[l])/\∀j,j<N->(st.set h (.list (jU ls++[.bytes (aZ 4 l)])))[j]?=st[j]?:=by
 have hb:=X.hb;have hw:=X.hw;have hh:=X.hh
 have g:=λj (hj:j≠h)=>df (m:=.list (jU ls++[.bytes (aZ 4 l)])) hj (rfl:st[j]?=st[j]?)
 exact⟨kM _ X.H (by rw[aG];exact L1 [ls.length] 0x3e83fa0010000007fa04a hz),⟨X.W.fr (g _ (L2 [w,h,N] 398199604973627 hw hh)) (g _ (L2 [bd,h,N] 398199604973627 hb hh)),X.A.fr (g _ (L1 [N,h] 97183141946 hh)) (g _ (L1 [N,h] 398062150879546 hh)) (g _ (L1 [N,h] 398062151928122 hh)),X.B.fr (g _ (L1 [N,h] 398062152976698 hh)) (g _ (L1 [N,h] 398062154025274 hh)) (g _ (L1 [N,h] 398062155073850 hh)),(g _ (L1 [N,h] 398062156122426 hh)).trans X.t,(dP X.H).trans (aw (λz=>some (M.list z)) (eV (l₂:=[l])).symm),hw,hb,hh⟩,λj hj=>g j (L2 [j,h,N] 564146681745467 hh hj)⟩
end
theorem wS{st}{k}{b}(h:st[k]?=some (.a8 b))(hz:b.length<=16777216):ny [.ab k] st=.ok (.bytes b) st:=by
 show iL st k (λV=>xJ V st) (λb=>if b.length<=sz then .ok (D.bytes b) st else .stuck)=_
 unfold iL;rw[h];exact ax hz
noncomputable def kn(S:List bS):List bS:=S.filter (λx=>!x.g)++S.filter (λx=>x.g)
theorem Hq(S):(kn S).length=S.length:=by
 unfold kn
 induction S with
 |nil=>rfl
 |cons x S ih=>
  rw[aW] at ih ⊢
  rw[filter_cons,filter_cons]
  cases x.g
  .show(_+1)+_=_+1;lia
  .show _+(_+1)=_+1;lia
noncomputable abbrev uy:List Nat:=[0,0,0,0,0,0,0,0,0,0]
abbrev lX(S:List bS):D:=.lst (S.map bS.d)
inductive Ss(R:Res D)(st:List M)(w bd entry:Nat)(ai:List ar)(al:Nat)(pl:D)(aA:Nat)(body:List UInt8)(S:List bS):Prop
 |mk (TB YB:List UInt8) (h:Nat) (Z:List dR) (ls:List (List Nat)) (first:Nat) (x4 x9 aR:Option D) (ao:List M) (eq:R=(lD (N1.t [some (.ab w),some (lX S),some (.ab st.length),some (.ab (st.length+3)),x4,some (lX (kn S)),some (.int (first:Int)),some (.ab (st.length+6)),some (.ab h),x9,aR,none,none] ao)).run)
  (X:NS st.length ao w bd entry ai al pl aA body TB YB (S.length+1) (ai.length+1) h Z ls)(eS:Z.map dR.x=kn S)(ok:∀e∈Z,e.Ok TB)(len:ls.length=ai.length+1)(i7:∀l∈ls,wR l)(hf:first<4294967296)(fr:∀j,j<st.length->ao[j]?=st[j]?):Ss R st w bd entry ai al pl aA body S
theorem uz{j a b c}(h1:j≠a)(h2:j≠b)(h3:j≠c):Off j [a,b,c]:=bU.mpr ⟨h1,bU.mpr ⟨h2,gz.mpr h3⟩⟩
theorem ago{st}{w bd entry}{ai}{al aA}{body}{ae}{S}(W:Wr st w bd entry ai al (.lst (ar.d8 ae)) aA body)(hV:ae.map (·.1)=ai)(hZ:ae.length<=10)(hS:S.length<=10)(lW:∀x∈S,x.Ok)(oy:∀x∈ae,lU x.1/\x.2<4294967296) :
  Ss (ze [.ab w,lX S] st) st w bd entry ai al (.lst (ar.d8 ae)) aA body S:=by
 have wl:=(bH.mp W.inst).1
 have bl:=(bH.mp W.iw).1
 have vz:ai.length=ae.length:=by rw[<- hV,aG]
 have sz:(S.map bS.d).length<=16777216:=by rw[aG];exact L1 [S.length] 0xaa0010000007fa04a hS
 have l1:(st++eI st.length).length=st.length+3:=aW ..
 have e2:=So (st:=st++eI st.length)
 rw[l1] at e2
 have l2:(st++eI st.length++eI (st.length+3)).length=st.length+6:=(aW ..).trans (by rw[l1];rfl)
 have Su:vw [.int ((16:Nat):Int)] (st++eI st.length++eI (st.length+3))=.ok (.ab (st.length+6)) (st++eI st.length++eI (st.length+3)++[.a8 (dr [])]):=
  (ax (e:=Res.stuck) (c:=(0:Int)<16/\(16:Int)<=16777216) (by decide)).trans (by rw[l2];rfl)
 have g3:∀j,j<st.length->(st++eI st.length++eI (st.length+3)++[.a8 (dr [])])[j]?=st[j]?:=λj hj=>by
  rw[dG,dG];exact dH hj
 have T1:Tab (st++eI st.length++eI (st.length+3)++[.a8 (dr [])]) st.length (st.length+1) (st.length+2) [0] 1:=by rw[dG,dG];exact Sp _ rfl
 have T2:Tab (st++eI st.length++eI (st.length+3)++[.a8 (dr [])]) (st.length+3) (st.length+3+1) (st.length+3+2) [0] 1:=by rw[dG];exact Sp _ l1
 have tb:(st++eI st.length++eI (st.length+3)++[.a8 (dr [])])[st.length+6]?=some (.a8 (dr [])):=by rw[<- l2];exact jq
 have l3:(st++eI st.length++eI (st.length+3)++[M.a8 (dr [])]).length=st.length+7:=(aW ..).trans (by rw[l2];rfl)
 generalize st++eI st.length++eI (st.length+3)++[.a8 (dr [])]=cf at Su g3 T1 T2 tb l3
 have ol:=Hq S
 obtain⟨_,cM,lo1,⟨Z,TB,x4,_,W4,T4,tb4,eS,ok,Hr,lY⟩⟩:=lI bS.d (kn S) (P:=A2 w bd entry ai al (.lst (ar.d8 ae)) aA body st.length (st.length+1) (st.length+2) (st.length+6) (kn S) (some (lX S)) (some (.ab (st.length+3))) (some (lX (kn S))) (some (.int (1+(S.filter λx=>!x.g).length:Nat))) none none none none none cf)
  (λi x σ st hx hp=>agl (uz (by lia) (by lia) (by lia)) (uz (by lia) (by lia) (by lia)) (bU.mpr ⟨by lia,gz.mpr (by lia)⟩) (by lia) (L2 [ai.length,ae.length] 17775276499019 hZ vz) (L2 [(kn S).length,S.length] 72807530026213451 hS ol) (λx hx=>lW x ((cy.mp hx).elim (λh=>(mem_filter.mp h).1) λh=>(mem_filter.mp h).1)) hx hp)
  (.mk [] [0] none cf (W.fr (g3 w wl) (g3 bd bl)) T1 tb rfl (λJ h=>nomatch h) (λJ J=>rfl) rfl)
 rw[take_length] at eS
 rw[ol] at T4
 have f4:=λj a b c=>Hr j (uz (j:=j) a b c)
 have T2':=T2.fr (f4 _ (L0 [st.length] 111823948073) (L0 [st.length] 180543424809) (L0 [st.length] 455421331769)) (f4 _ (L0 [st.length] 458022352623913) (L0 [st.length] 739497329334569) (L0 [st.length] 0x6a091a3a09939)) (f4 _ (L0 [st.length] 458026647591209) (L0 [st.length] 739501624301865) (L0 [st.length] 0x6a092a3a09939))
 have g5:=fun{j:Nat} (hj:j<cM.length)=>dH (l₂:=[M.list (jU [uy])]) hj
 have n4:cM.length=st.length+7:=lY.trans l3
 obtain⟨_,lR,kO,⟨ls,YB,x9,aR,_,W6,T6,h6,ll,i7,uA,agX⟩⟩:=lI (λx:ar×Nat=>.tup [x.1.d,.int (x.2:Int)]) ae (P:=A3 w bd entry ai al (.lst (ar.d8 ae)) aA body (st.length+3) (st.length+3+1) (st.length+3+2) cM.length (some (lX S)) (some (.ab st.length)) x4 (some (lX (kn S))) (some (.int (1+(S.filter λx=>!x.g).length:Nat))) (some (.ab (st.length+6))) none none (cM++[.list (jU [uy])]))
  (λi x σ st hx hp=>agn (uz (by lia) (by lia) (by lia)) (uz (by lia) (by lia) (by lia)) (bU.mpr ⟨by lia,gz.mpr (by lia)⟩) (by lia) (by have:=(bH.mp hx).1;exact L2 [i,ae.length] 72526056391680075 hZ this) (oy x (cU hx)).1 (oy x (cU hx)).2 hp)
  (.mk [uy] [0] none none _ (W4.fr (g5 (L3 [w,cM.length,st.length,cf.length] 0x3137a2933201105c wl l3 lY)) (g5 (L3 [bd,cM.length,st.length,cf.length] 0x3137a2933201105c bl l3 lY))) (T2'.fr (g5 (L2 [st.length,cM.length,cf.length] 0x2137a092313a095b l3 lY)) (g5 (L2 [st.length,cM.length,cf.length] 0x2137a092311a3a0995b l3 lY)) (g5 (L2 [st.length,cM.length,cf.length] 0x2137a092312a3a0995b l3 lY))) jq rfl (gz.mpr ⟨rfl,(λv h=>by cases h;decide),by decide⟩) (λJ J=>rfl) rfl)
 have f6:=λj a b c=>uA j (uz (j:=j) a b c)
 have go:=λj (h1:j<st.length+7) (h2:j≠st.length+3+1) (h3:j≠st.length+3+2)=>(f6 j h2 h3 (L3 [j,cM.length,cf.length,st.length] 0x7a39012137a3923103c l3 lY h1)).trans (g5 (L3 [j,cM.length,cf.length,st.length] 0x7a39012137a3923105c l3 lY h1))
 have w10:=ox (l:=uy) (by decide) nb
 have zp:=λst=>show tG [.lst (ai.map ar.d),.lst (ar.d8 ae)] st=.ok (ae.map λx=>.tup [x.1.d,.int (x.2:Int)]) st from(ax (show(ai.map ar.d).length<=16777216 by rw[aG];exact L2 [ai.length,ae.length] 0x102aa1010000007fa04b hZ vz)).trans (aw (λz=>Res.ok z st) (by rw[<- hV];exact R7 ae))
 have c0:=og (z:=NX) (σ:=[]) (st:=st++eI st.length++eI (st.length+3)) bS.d bS.d (λx=>!x.g) (λx=>[some x.d]) S λx J=>⟨by kernel_rfl,by kernel_rfl,λJ=>by kernel_rfl⟩
 have c1:=og (z:=NY) (σ:=[]) (st:=st++eI st.length++eI (st.length+3)) bS.d bS.d (λx=>x.g) (λx=>[some x.d]) S λx J=>⟨by kernel_rfl,by kernel_rfl,λJ=>by kernel_rfl⟩
 have fl:=length_filter_le (λx:bS=>!x.g) S
 have fg:=length_filter_le (λx:bS=>x.g) S
 have Sv:=kL (V:=(S.filter λx=>!x.g).map bS.d) (by rw[aG];exact L2 [(List.filter (λx↦!x.g) S).length,S.length] 0x100aa1010000007fa04b hS fl)
 rw[aG] at Sv
 have ad:=λst=>(mH (a:=(S.filter λx=>!x.g).map bS.d) (b:=(S.filter λx=>x.g).map bS.d) (by rw[aG,aG];exact L3 [(List.filter (λx↦!x.g) S).length,(List.filter (λx↦x.g) S).length,S.length] 0x210200aa22610000007fa1094c hS fl fg) st).trans (aw (λz=>Res.ok (D.lst z) st) eV.symm)
 have Ws:Wr (cM++[.list (jU [uy])]) w bd entry ai al (.lst (ar.d8 ae)) aA body:=W4.fr (g5 (L3 [w,cM.length,st.length,cf.length] 0x3137a2933201105c wl l3 lY)) (g5 (L3 [bd,cM.length,st.length,cf.length] 0x3137a2933201105c bl l3 lY))
 exact⟨TB,YB,cM.length,Z,ls,1+(S.filter λx=>!x.g).length,x4,x9,aR,lR,bp (sD (So (st:=st))<|sD e2<|pL (fi sz)<|sL c0<|pD Sv<|pL (fi sz)<|sL c1<|pD ad<|sD Su<|pL (fi (V:=(kn S).map bS.d) (by rw[aG,ol];exact L1 [S.length] 0xaa0010000007fa04a hS))<|sF lo1<|pD (f:=DZ (.lst [.int 0]) (.int ((10:Nat):Int))) (d:=.lst (aQ uy)) (λJ=>rfl)<|pD w10 <|
   sD (eG (x:=gA) (d:=.lst (ai.map ar.d)) Ws.inst)<|sD (eG (x:=eW) (d:=.lst (ar.d8 ae)) Ws.inst)<|pL zp<|sF kO<|sX rfl),
  ⟨W6,T4.fr (go _ (L0 [st.length] 127963225) (L0 [st.length] 112642854969) (L0 [st.length] 181362331705)) (go _ (L0 [st.length] 524138711385) (L0 [st.length] 461385135425849) (L0 [st.length] 742860112136505)) (go _ (L0 [st.length] 524139759961) (L0 [st.length] 461385136474425) (L0 [st.length] 742860113185081)),vz▸T6,(go _ (L0 [st.length] 524143954265) (L0 [st.length] 461385140668713) (L0 [st.length] 742860117379369)).trans tb4,h6,wl,bl,L2 [st.length,cM.length,cf.length] 0x2137a092316a095b l3 lY⟩,eS,ok,by rw[vz];exact ll,i7,L2 [(List.filter (λx↦!x.g) S).length,S.length] 0x100aa101000000009fa01a95b hS fl,λj hj=>(go j (L1 [j,st.length] 69115940954 hj) (L1 [j,st.length] 282687132241978 hj) (L1 [j,st.length] 282755851718714 hj)).trans ((f4 j (L1 [j,st.length] 69015277626 hj) (L1 [j,st.length] 69032054842 hj) (L1 [j,st.length] 69099163706 hj)).trans (g3 j hj))⟩
noncomputable def agp:List UInt8:=[46,115,121,109,116,97,98]
noncomputable def agq:List UInt8:=[46,115,116,114,116,97,98]
noncomputable def agr:List UInt8:=[46,115,104,115,116,114,116,97,98]
noncomputable def i8(n m1 m2 m3 pt px py first lt lx ly:Nat):List (List Nat):=[[m1,2,0,0,pt,lt,n+1,first,4,16],[m2,3,0,0,px,lx,0,0,1,0],[m3,3,0,0,py,ly,0,0,1,0]]
inductive Sw(R:Res D)(st:List M)(w bd entry:Nat)(ai:List ar)(al:Nat)(pl:D)(aA:Nat)(body:List UInt8)(S:List bS):Prop
 |mk (TB aa eT:List UInt8) (Z:List dR) (ls:List (List Nat)) (m1 m2 m3 pt px py first ly:Nat) (ao:List M) (e:R=.ok (.tup [.lst (jU (ls++i8 ls.length m1 m2 m3 pt px py first (16*(Z.length+1)) TB.length ly)),.int ((ls.length+2:Nat):Int)]) ao)
  (W:Wr ao w bd entry ai al pl aA eT)(eS:Z.map dR.x=kn S)(ok:∀e∈Z,e.Ok TB)(len:ls.length=ai.length+1)(i7:∀l∈ls,wR l)(hW:∀l∈i8 ls.length m1 m2 m3 pt px py first (16*(Z.length+1)) TB.length ly,l.length=10/\∀v∈l,v<4294967296)(eb:eT=body++aa)(i1:gW eT aA pt (dr Z))(i2:gW eT aA px TB)(fr:∀j,j<st.length->j≠bd->ao[j]?=st[j]?)(bl:eT.length<=body.length+2000):Sw R st w bd entry ai al pl aA body S
theorem ags{st}{w bd entry}{ai}{al aA}{body}{ae}{S}(W:Wr st w bd entry ai al (.lst (ar.d8 ae)) aA body)(hV:ae.map (·.1)=ai)(hZ:ae.length<=10)(hS:S.length<=10)(lW:∀x∈S,x.Ok)(oy:∀x∈ae,lU x.1/\x.2<4294967296)(hb:aA<=1000)(mQ:body.length<=1000) :
  Sw (ze [.ab w,lX S] st) st w bd entry ai al (.lst (ar.d8 ae)) aA body S:=by
 obtain⟨TB,YB,h,Z,ls,first,x4,x9,aR,lA,eq,X,eS,ok,len,i7,hf,fr0⟩:=ago W hV hZ hS lW oy
 rw[eq]
 have vz:ai.length<=10:=by rw[<- hV,aG];exact hZ
 have el:Z.length=S.length:=by rw[<- aG (f:=dR.x),eS,Hq]
 have tl:=Hn Z
 have A4:=X.A.small
 obtain⟨r1,pt,bW,h1,Sy,e1,X1,A5⟩:=X.add (C:=dr Z) (L4 [body.length,(dr Z).length,S.length,Z.length] 0x1a39102fb1223102f83e83fa00aa2102f6186a05fa13a0994d hS mQ el tl)
 obtain⟨m1,C1,b8,hm1,e2,X2,A6⟩:=X1.place (x:=agp) (by decide) nb (L1 [ai.length] 0xaa003e83fa1a094a vz)
 obtain⟨a1,X3,wT⟩:=X2.app [m1,2,0,0,pt,16*(Z.length+1),ls.length+1,first,4,16] (L2 [ls.length,ai.length] 0xaa101a19023e83fa04b len vz)
 generalize b8.set h _=cf at a1 X3 wT
 obtain⟨r2,px,cM,h4,Sz,e4,X4,Hr⟩:=X3.add (C:=TB) (by rw[aW,aW,gY];exact L6 [body.length,r1,(dr Z).length,TB.length,S.length,Z.length] 0x3a101a49152fb301a59102fb2245102f83e83fa00aa4252f6186a05fa33a21099994f hS mQ el tl A4 h1)
 obtain⟨m2,C2,ki,Gj,e5,X5,fr5⟩:=X4.place (x:=agq) (by decide) nb (L1 [ai.length] 0xaa003e83fa1a1a0994a vz)
 obtain⟨a2,X6,uA⟩:=X5.app [m2,3,0,0,px,TB.length,0,0,1,0] (by rw[aW,length_singleton];exact L2 [ls.length,ai.length] 0xaa101a19023e83fa1a094b len vz)
 generalize ki.set h _=lR at a2 X6 uA
 obtain⟨m3,C3,wU,hm3,e7,X7,fr7⟩:=X6.place (x:=agr) (by decide) nb (L1 [ai.length] 0xaa003e83fa1a1a1a09994a vz)
 have A7:=X7.B.small
 generalize hY:YB++C1++C2++C3=Y3 at X7 A7
 obtain⟨r3,py,qb,h8,ep8,e8,X8,fr8⟩:=X7.add (C:=Y3) (by simp only[aW,gY];lia)
 obtain⟨a3,X9,SA⟩:=X8.app [m3,3,0,0,py,Y3.length,0,0,1,0] (by rw[aW,aW,length_singleton,length_singleton];exact L2 [ls.length,ai.length] 0xaa101a19023e83fa1a1a0994b len vz)
 generalize qb.set h _=A8 at a3 X9 SA
 simp only[aW,gY] at Sz ep8
 have row:=λ(a b c d e f g:Nat)(ha:a<4294967296)(hb:b<4294967296)(hc:c<4294967296)(hd:d<4294967296)(he:e<4294967296)(hf:f<4294967296)(hg:g<4294967296)(i:Nat)(hi:i<4294967296)=>show∀y∈[a,b,0,0,c,d,e,f,g,i],y<4294967296 from bU.mpr ⟨ha,bU.mpr ⟨hb,bU.mpr ⟨by decide,bU.mpr ⟨by decide,bU.mpr ⟨hc,bU.mpr ⟨hd,bU.mpr ⟨he,bU.mpr ⟨hf,bU.mpr ⟨hg,gz.mpr hi⟩⟩⟩⟩⟩⟩⟩⟩⟩
 have s1:=row m1 2 pt (16*(Z.length+1)) (ls.length+1) first 4 hm1 (by decide) (L4 [pt,aA,body.length,r1] 0x32199023a303e83fa203e83fa101000000009fa05d hb mQ h1 Sy) (L2 [Z.length,S.length] 0x10102f8aa1102f61000000009fa1a09102fb5b hS el) (L2 [ls.length,ai.length] 0xaa101a19021000000009fa1a095b len vz) hf (by decide) 16 (by decide)
 have s2:=row m2 3 px TB.length 0 0 1 Gj (by decide) (by lia) (L2 [TB.length,S.length] 0x1a19152fb00aa1152f61000000009fa05b hS A4) (by decide) (by decide) (by decide) 0 (by decide)
 have s3:=row m3 3 py Y3.length 0 0 1 hm3 (by decide) (by lia) (L2 [Y3.length,ai.length] 0x1a1a1a1a19999152fb00aa1152f61000000009fa05b vz A7) (by decide) (by decide) (by decide) 0 (by decide)
 have ln:=zW X.H (by rw[aG];exact L2 [ls.length,ai.length] 0xaa101a190210000007fa04b len vz)
 rw[aG] at ln
 have lt:=wN X2.t (L3 [(dr Z).length,S.length,Z.length] 0x1a29102fb0212102f8aa1102f610000007fa04c hS el tl)
 rw[tl] at lt
 have I:=X9.hh
 have el3:ls++[[m1,2,0,0,pt,16*(Z.length+1),ls.length+1,first,4,16]]++[[m2,3,0,0,px,TB.length,0,0,1,0]]++[[m3,3,0,0,py,Y3.length,0,0,1,0]]=ls++i8 ls.length m1 m2 m3 pt px py first (16*(Z.length+1)) TB.length Y3.length:=by rw[dG,dG];rfl
 have fz:=lG X9.H
 rw[el3] at fz
 have W9:=X9.W.fr (ao:=A8.set h .gone) (di (by have:=X9.hw;exact L2 [h,w,st.length] 581670148313131 I this)) (di (by have:=X9.hb;exact L2 [h,bd,st.length] 581670148313131 I this))
 refine⟨TB,List.replicate r1 0++(dr Z++(List.replicate r2 0++(TB++(List.replicate r3 0++Y3)))),_,Z,ls,m1,m2,m3,pt,px,py,first,Y3.length,A8.set h .gone,
  sD ln<|sB (fj (x:=mR) X.W.inst)<|sD (wS X.t (L3 [(dr Z).length,S.length,Z.length] 0x1a29102fb0212102f8aa1102f610000007fa04c hS el tl))<|sD e1<|sB (fj (x:=dj) X1.B.ht)<|sD e2<|sB (iY X2.H)<|sD lt<|pD (ox s1 nb)<|sD a1 <|
  sB (fj (x:=mR) X3.W.inst)<|sD (eG (x:=cn) (d:=.ab (st.length+1)) X3.A.ht)<|sD (wS X3.A.ho (L2 [TB.length,S.length] 0x1a19152fb00aa1152f610000007fa04b hS A4))<|sD e4<|sB (iY X4.H)<|sB (fj (x:=dj) X4.B.ht)<|sD e5<|sD (eG (x:=cn) (d:=.ab (st.length+1)) X5.A.ht)<|sD (wN X5.A.ho (L2 [TB.length,S.length] 0x1a19152fb00aa1152f610000007fa04b hS A4))<|pD (ox s2 nb)<|sD a2 <|
  sB (fj (x:=dj) X6.B.ht)<|sD e7<|sB (fj (x:=mR) X7.W.inst)<|sD (eG (x:=cn) (d:=.ab (st.length+4)) X7.B.ht)<|sD (wS X7.B.ho (L2 [Y3.length,ai.length] 0x1a1a1a1a19999152fb00aa1152f610000007fa04b vz A7))<|sD e8<|sB (iY X8.H)<|sD (eG (x:=cn) (d:=.ab (st.length+4)) X8.B.ht)<|sD (wN X8.B.ho (L2 [Y3.length,ai.length] 0x1a1a1a1a19999152fb00aa1152f610000007fa04b vz A7))<|pD (ox s3 nb)<|sD a3<|sD fz,
  W9,eS,ok,len,i7,bU.mpr ⟨⟨rfl,s1⟩,bU.mpr ⟨⟨rfl,s2⟩,gz.mpr ⟨rfl,s3⟩⟩⟩,by simp only[dG],Sy▸gW.new.app.app.app.app,?_,λj hj bq=>?_,by simp only[aW,gY];lia⟩
 .have:=(gW.new (body:=body++List.replicate r1 0++dr Z) (aA:=aA) (n:=r2) (C:=TB)).app (X:=List.replicate r3 0) |>.app (X:=Y3)
  rw[Sz];simp only[aW,gY] at this;exact this
 .exact(di (L2 [h,j,st.length] 581670148313131 I hj)).trans ((SA j hj).trans ((fr8 j hj bq).trans ((fr7 j hj).trans ((uA j hj).trans ((fr5 j hj).trans ((Hr j hj bq).trans ((wT j hj).trans ((A6 j hj).trans ((A5 j hj bq).trans (fr0 j hj))))))))))
noncomputable def cY(entry s ag names sz al:Nat)(ae:List (ar×Nat))(body:List UInt8):List UInt8:=jv entry ae.length s ag names sz++(ae.map (ju al)).flatten++body
theorem uB{entry n s ag names sz}:(jv entry n s ag names sz).length=52:=by unfold jv;rw[aW,aW,aW,gy,gy,gy];rfl
section
variable{st:List M}{w bd entry:Nat}{ai:List ar}{al aA:Nat}{body:List UInt8}{ae:List (ar×Nat)}{S:List bS}
inductive Hs(R:Res D)(st:List M)(bd entry s ag names al:Nat)(ae:List (ar×Nat))(body:List UInt8):Prop
 |mk (sz:Nat) (ao:List M) (hs:0<ag->sz=40) (hz:sz<65536) (e:R=.ok (.bytes (cY entry s ag names sz al ae body)) ao) (fr:∀j,j<st.length->j≠bd->ao[j]?=st[j]?):Hs R st bd entry s ag names al ae body
theorem Wr.keep{ao}{pl}(W:Wr st w bd entry ai al pl aA body)(fr:∀j,j<st.length->ao[j]?=st[j]?):Wr ao w bd entry ai al pl aA body:=W.fr (fr _ (bH.mp W.inst).1) (fr _ (bH.mp W.iw).1)
theorem agt(W:Wr st w bd entry ai al (.lst (ar.d8 ae)) aA body)(hV:ae.map (·.1)=ai)(hZ:ae.length<=10)(dK:al<=16)(oy:∀x∈ae,lU x.1/\x.2<4294967296)(he:entry<4294967296):Hs (uc [.ab w,.none] st) st bd entry 0 0 0 al ae body:=by
 have vz:ai.length=ae.length:=by rw[<- hV,aG]
 obtain⟨sz,hs,hz,e1⟩:=Sa (kT:=0) (ag:=0) (names:=0) W (L2 [ai.length,ae.length] 17775276499019 hZ vz) he (by decide) (by decide) (by decide)
 obtain⟨bW,e2,fr,len⟩:=R9 W hV hZ dK oy
 have W1:=W.keep fr
 have rl:=rQ (l:=ae) λx J=>wQ al x
 have sm:=W.small
 rw[vz] at e1
 exact⟨sz,bW,hs,hz,bp (pD Gp<|sB (fj (x:=fk) W.inst)<|sD e1<|sB (fj (x:=kW) W.inst)<|sD e2<|pD (lT (b:=jv entry ae.length 0 0 0 sz) (c:=(ae.map (ju al)).flatten) (by rw[uB,rl];exact L1 [ae.length] 0xaa0202f610000007fa0202fb342fa94a hZ))<|sD (eG (x:=kq) (d:=.ab bd) W1.inst)<|sD (wS W1.iw (L1 [body.length] 0x186a05fa0010000007fa04a sm))<|pD (lT (b:=jv entry ae.length 0 0 0 sz++(ae.map (ju al)).flatten) (c:=body) (by rw[aW,uB,rl];exact L2 [ae.length,body.length] 0x186a05fa10aa0202f610000007fa10202fb342fa994b hZ sm))),λj hj J=>fr j hj⟩
inductive SD(R:Res D)(st:List M)(bd entry:Nat)(ai:List ar)(al aA:Nat)(body:List UInt8)(ae:List (ar×Nat))(S:List bS):Prop
 |mk (TB aa eT:List UInt8) (Z:List dR) (ls:List (List Nat)) (m1 m2 m3 pt px py ps first ly:Nat) (eS:Z.map dR.x=kn S) (ok:∀e∈Z,e.Ok TB) (len:ls.length=ai.length+1) (i7:∀l∈ls,wR l) (hW:∀l∈i8 ls.length m1 m2 m3 pt px py first (16*(Z.length+1)) TB.length ly,l.length=10/\∀v∈l,v<4294967296) (eb:eT=body++aa)
   (i1:gW eT aA pt (dr Z))(i2:gW eT aA px TB)(i3:gW eT aA ps ((ls++i8 ls.length m1 m2 m3 pt px py first (16*(Z.length+1)) TB.length ly).map (aZ 4)).flatten)(hp:ps<4294967296)(bl:eT.length<=body.length+4000)(F:Hs R st bd entry ps (ls.length+3) (ls.length+2) al ae eT):SD R st bd entry ai al aA body ae S
theorem agu(W:Wr st w bd entry ai al (.lst (ar.d8 ae)) aA body)(hV:ae.map (·.1)=ai)(hZ:ae.length<=10)(dK:al<=16)(oy:∀x∈ae,lU x.1/\x.2<4294967296)(he:entry<4294967296)(hS:S.length<=10)(lW:∀x∈S,x.Ok)(hb:aA<=1000)(mQ:body.length<=1000):SD (uc [.ab w,lX S] st) st bd entry ai al aA body ae S:=by
 have vz:ai.length=ae.length:=by rw[<- hV,aG]
 obtain⟨TB,aa,gX,Z,ls,m1,m2,m3,pt,px,py,first,ly,bW,e1,W1,eS,ok,len,i7,hW,eb,i1,i2,A5,uC⟩:=ags W hV hZ hS lW oy hb mQ
 have wV:∀l∈ls++i8 ls.length m1 m2 m3 pt px py first (16*(Z.length+1)) TB.length ly,(aZ 4 l).length=40:=λl I=>by
  rw[gy,show l.length=10 from(cy.mp I).elim (λh=>(i7 l h).len) λh=>(hW l h).1]
 have ll:(ls++i8 ls.length m1 m2 m3 pt px py first (16*(Z.length+1)) TB.length ly).length=ls.length+3:=aW ..
 generalize hL:ls++i8 ls.length m1 m2 m3 pt px py first (16*(Z.length+1)) TB.length ly=Ls at e1 wV ll
 have jl:=rQ (l:=Ls) wV
 have jn:=tK (agm Ls) (by rw[jl,ll];exact L3 [ls.length,ae.length,ai.length] 0x1a290282f812282f8aa1282f610000007fa3a09282fb4c hZ vz len)
 obtain⟨r,b8,hr,e2,W2,A6,n2⟩:=R1 (C:=(Ls.map (aZ 4)).flatten) W1 (by rw[jl,ll];exact L5 [gX.length,ls.length,ae.length,body.length,ai.length] 0x7d03fa39001a491282f824282f83e83fa30aa2282f6186a05fa3a19282fb3a0994e hZ mQ vz len uC)
 obtain⟨sz,hs,hz,e3⟩:=Sa (kT:=aA+gX.length+r) (ag:=ls.length+3) (names:=ls.length+2) W2 (L2 [ai.length,ae.length] 17775276499019 hZ vz) he (L4 [aA,gX.length,r,body.length] 0x3a207d03fa39103e83fa303e83fa001000000009fa210995d hb mQ uC hr) (L3 [ls.length,ae.length,ai.length] 0x1a2902122aa10100005fa3a095c hZ vz len) (L3 [ls.length,ae.length,ai.length] 0x1a2902122aa10100005fa2a095c hZ vz len)
 obtain⟨cf,e4,wT,n3⟩:=R9 W2 hV hZ dK oy
 have W3:=W2.keep wT
 have rl:=rQ (l:=ae) λx J=>wQ al x
 have b2:(gX++List.replicate r 0++(Ls.map (aZ 4)).flatten).length<=gX.length+1000:=by rw[aW,aW,gY,jl,ll];exact L4 [gX.length,r,ls.length,ae.length,ai.length] 0x3a101a492282f834282f8aa3282f63e83fa093a29282fb10994d hZ vz len hr
 rw[vz] at e3
 have SF:=kL (V:=jU Ls) (by rw[aG,ll];exact L3 [ls.length,ae.length,ai.length] 0x1a2902122aa1010000007fa3a094c hZ vz len)
 rw[aG,ll] at SF
 have lst:st.length<=b8.length:=by
  refine Nat.le_of_not_lt λq=>?_
  have SG:=(bH.mp W2.iw).1
  have h1:=(A6 b8.length (L1 [b8.length,bd] 1118250 SG)).trans (A5 b8.length q (L1 [b8.length,bd] 1118250 SG))
  rw[List.getElem?_eq_none (dC _),c8 q] at h1
  nomatch h1
 refine⟨TB,aa++(List.replicate r 0++(Ls.map (aZ 4)).flatten),gX++List.replicate r 0++(Ls.map (aZ 4)).flatten,Z,ls,m1,m2,m3,pt,px,py,aA+gX.length+r,first,ly,eS,ok,len,i7,hW,by simp only[eb,dG],i1.app.app,i2.app.app,by rw[hL];exact gW.new,L4 [aA,gX.length,r,body.length] 0x3a207d03fa39103e83fa303e83fa001000000009fa210995d hb mQ uC hr,L2 [(gX++List.replicate r 0++(List.map (aZ 4) Ls).flatten).length,body.length,gX.length] 0x3e83fa29007d03fa1920fa03fa1904b uC b2,sz,cf,λh=>hs h,hz,?_,λj hj bq=>?_⟩
 .exact bp (pD (f:=qB (lX S) .none) (d:=.bool false) (λJ=>rfl)<|sB (fj (x:=sh) W.inst)<|sD e1<|sB (fj (x:=mR) W1.inst)<|pD jn<|sD e2<|sB (fj (x:=fk) W2.inst)<|pD SF<|sD e3<|sB (fj (x:=kW) W2.inst)<|sD e4<|pD (lT (b:=jv entry ae.length (aA+gX.length+r) (ls.length+3) (ls.length+2) sz) (c:=(ae.map (ju al)).flatten) (by rw[uB,rl];exact L1 [ae.length] 0xaa0202f610000007fa0202fb342fa94a hZ)) <|
   sD (eG (x:=kq) (d:=.ab bd) W3.inst)<|sD (wS W3.iw (L3 [(gX++List.replicate r 0++(List.map (aZ 4) Ls).flatten).length,body.length,gX.length] 0x3e83fa29007d03fa19203e83fa1010000007fa04c mQ uC b2))<|pD (lT (b:=jv entry ae.length (aA+gX.length+r) (ls.length+3) (ls.length+2) sz++(ae.map (ju al)).flatten) (c:=gX++List.replicate r 0++(Ls.map (aZ 4)).flatten) (by rw[aW,uB,rl];exact L4 [ae.length,(gX++List.replicate r 0++(List.map (aZ 4) Ls).flatten).length,body.length,gX.length] 0x3e83fa39107d03fa29303e83fa20aa0202f610000007fa10202fb342fa994d hZ mQ uC b2)))
 .exact(wT j (L2 [j,b8.length,st.length] 137726267483 lst hj)).trans ((A6 j bq).trans (A5 j hj bq))
end
theorem Ht{A C}{l}{p j n v}(hp:p=A.length+n*j)(h:l[j]?=some v)(hv:v<256^n):le (A++aZ n l++C) p n=v:=by
 subst hp
 have h1:=mul_le_mul_left n (Nat.succ_le_of_lt (bH.mp h).1)
 rw[mul_succ] at h1
 rw[eP (by rw[aW,gy];exact L1 [A.length,n*j,n,n*l.length] 0x32190309210994a h1),q9]
 exact ux h hv
structure agv(B:List UInt8)(entry n s ag sz:Nat):Prop where
 head:n9 B
 h24:le B 24 4=entry
 h28:le B 28 4=52
 SH:le B 32 4=s
 Af:le B 44 2=n
 Gu:le B 46 2=sz
 Ah:le B 48 2=ag
section
variable{entry s ag names sz al:Nat}{ae:List (ar×Nat)}{body:List UInt8}
theorem Hu(h1:entry<4294967296)(h2:s<4294967296)(h3:ae.length<65536)(h4:ag<65536)(h6:sz<65536):agv (cY entry s ag names sz al ae body) entry ae.length s ag sz:=by
 have e1:cY entry s ag names sz al ae body=qc++aZ 2 [2,243]++(aZ 4 [1,entry,52,s,0]++(aZ 2 [52,32,ae.length,sz,ag,names]++((ae.map (ju al)).flatten++body))):=by unfold cY jv;simp only[dG]
 have e2:cY entry s ag names sz al ae body=(qc++aZ 2 [2,243])++aZ 4 [1,entry,52,s,0]++(aZ 2 [52,32,ae.length,sz,ag,names]++((ae.map (ju al)).flatten++body)):=by unfold cY jv;simp only[dG]
 have e3:cY entry s ag names sz al ae body=(qc++aZ 2 [2,243]++aZ 4 [1,entry,52,s,0])++aZ 2 [52,32,ae.length,sz,ag,names]++((ae.map (ju al)).flatten++body):=by unfold cY jv;simp only[dG]
 have a1:∀{p j v},p=16+2*j->[2,243][j]?=some v->v<65536->le (cY entry s ag names sz al ae body) p 2=v:=λhp h hv=>by rw[e1];exact Ht hp h hv
 have a2:∀{p j v},p=20+4*j->[1,entry,52,s,0][j]?=some v->v<4294967296->le (cY entry s ag names sz al ae body) p 4=v:=λhp h hv=>by rw[e2];exact Ht hp h hv
 have a3:∀{p j v},p=40+2*j->[52,32,ae.length,sz,ag,names][j]?=some v->v<65536->le (cY entry s ag names sz al ae body) p 2=v:=λhp h hv=>by rw[e3];exact Ht hp h hv
 have m:∀p k,p+k<=16->le (cY entry s ag names sz al ae body) p k=le qc p k:=λp k h=>by rw[e1,dG];exact eP h
 have pm:part (cY entry s ag names sz al ae body) 0 4=[127,69,76,70]:=by rw[e1,dG,un nb];rfl
 exact⟨⟨pm,(m 4 1 nb).trans rfl,(m 5 1 nb).trans rfl,(m 6 1 nb).trans rfl,a1 (j:=0) rfl rfl (by decide),a1 (j:=1) rfl rfl (by decide),a2 (j:=0) rfl rfl (by decide),le_of_eq (a3 (j:=0) rfl rfl (by decide)).symm,a3 (j:=1) rfl rfl (by decide)⟩,a2 (j:=1) rfl rfl h1,a2 (j:=2) rfl rfl (by decide),a2 (j:=3) rfl rfl h2,a3 (j:=2) rfl rfl h3,a3 (j:=3) rfl rfl h6,a3 (j:=4) rfl rfl h4⟩
theorem wW:(jv entry ae.length s ag names sz++(ae.map (ju al)).flatten).length=52+32*ae.length:=by rw[aW,uB,rQ λx J=>wQ al x]
theorem SI{k q m}{x}(h:ae[k]?=some x)(hq:q+m<=32):le (cY entry s ag names sz al ae body) (52+32*k+q) m=le (ju al x) q m:=by
 have hk:=(bH.mp h).1
 unfold cY
 rw[eP (by rw[wW];exact L2 [k,q,m,ae.length] 0x30202f7202fa21903202fb342fa9210202fb342fa9994b hq hk),Nat.add_assoc]
 have:=q9 (B:=jv entry ae.length s ag names sz) (C:=(ae.map (ju al)).flatten) (p:=32*k+q) (n:=m)
 rw[uB] at this
 exact this.trans (Hm (λx J=>wQ al x) h hq)
theorem A9{p}{C}(h:gW body (52+32*ae.length) p C):part (cY entry s ag names sz al ae body) p C.length=C/\p+C.length<=(cY entry s ag names sz al ae body).length:=by
 have I:=wW (entry:=entry) (s:=s) (ag:=ag) (names:=names) (sz:=sz) (al:=al) (ae:=ae)
 have h1:=h.low;have h2:=h.fits
 have lt:(cY entry s ag names sz al ae body).length=52+32*ae.length+body.length:=(aW ..).trans (by rw[I])
 refine⟨Ag (lK (L3 [p,C.length,(cY entry s ag names sz al ae body).length,p-(52+32*ae.length),body.length,ae.length] 0x5202fb342fa9390045202fb342fa99234139021094c h2 lt (sb p (52+32*ae.length)))) λi hi=>?_,L3 [p,C.length,(cY entry s ag names sz al ae body).length,p-(52+32*ae.length),body.length,ae.length] 0x5202fb342fa9390045202fb342fa99234139021094c h2 lt (sb p (52+32*ae.length))⟩
 rw[lK (L3 [p,C.length,(cY entry s ag names sz al ae body).length,p-(52+32*ae.length),body.length,ae.length] 0x5202fb342fa9390045202fb342fa99234139021094c h2 lt (sb p (52+32*ae.length)))] at hi
 have:bk (part body (p-(52+32*ae.length)) C.length) i=bk C i:=by rw[h.octets]
 rw[<- this]
 rw[p4 hi,p4 hi]
 unfold cY
 have r:=wv (B:=jv entry ae.length s ag names sz++(ae.map (ju al)).flatten) (C:=body) (i:=p-(52+32*ae.length)+i)
 rw[I] at r
 rw[<- r]
 exact aw _ (by lia)
structure agw(B:List UInt8)(p al:Nat)(x:ar×Nat):Prop where
 r0:aK B p 0=1
 r1:aK B p 1=x.2
 r2:aK B p 2=x.1.a
 r4:aK B p 4=x.1.b.length
 r5:aK B p 5=x.1.s
 r6:aK B p 6=x.1.f
 r7:aK B p 7=al
theorem agx{k}{x}(h:ae[k]?=some x)(S:lU x.1)(h2:x.2<4294967296)(ha:al<=16):agw (cY entry s ag names sz al ae body) (52+32*k) al x:=by
 have f1:=fun{j v:Nat} (e:(jt x)[j]?=some v) (hv:v<4294967296)=>show aK (cY entry s ag names sz al ae body) (52+32*k) j=v from by
  have hj:j<6:=(bH.mp e).1
  exact(SI (q:=4*j) (m:=4) h (L1 [j] 0x6a047202fa4a04b94a hj)).trans ((eP (by rw[gy];show 4*j+4<=24;exact L1 [j] 0x6a047182fa4a04b94a hj)).trans (ux e hv))
 have f2:=fun{j v:Nat} (e:(kR al x)[j]?=some v) (hv:v<4294967296)=>show aK (cY entry s ag names sz al ae body) (52+32*k) (6+j)=v from by
  have hj:j<2:=(bH.mp e).1
  refine(SI (q:=4*(6+j)) (m:=4) h (L1 [j] 0x2a047202fa4a06a94b94a hj)).trans ?_
  have:=q9 (B:=aZ 4 (jt x)) (C:=aZ 4 (kR al x)) (p:=4*j) (n:=4)
  rw[gy,show 4*(jt x).length+4*j=4*(6+j) by show 4*6+4*j=_;exact eK (L0 [j] 0x6a94b04b6a4b949) (L0 [j] 0x4b6a4b906a94b49)] at this
  exact this.trans (ux e hv)
 exact⟨f1 (j:=0) rfl (by decide),f1 (j:=1) rfl h2,f1 (j:=2) rfl S.a,f1 (j:=4) rfl (Nat.lt_of_le_of_lt S.b (by decide)),f1 (j:=5) rfl S.s,f2 (j:=0) rfl (lt_trans S.f (by decide)),f2 (j:=1) rfl (L1 [al] 0x102fa001000000009fa05a ha)⟩
theorem agy(ai:List ar):ai.filterMap (λv=>if 0<v.s then some v else none)=ai.filter λv=>decide (0<v.s):=by
 induction ai with
 |nil=>rfl
 |cons v ai ih=>
  rw[List.filterMap_cons,filter_cons]
  by_cases h:0<v.s
  .rw[ax h,gc h,ax rfl,<- ih]
  .rw[aY h,decide_eq_false h,aY em,<- ih]
structure Ba(ai:List ar)(entry:Nat):Prop where
 each:∀v∈ai,lU v/\v.a+v.s<=4294967296/\v.b.length<=v.s
 pw:ai.Pairwise λv w=>v.a+v.s<=w.a
 bN:∃v,(ai.filter λv=>decide (0<v.s)).find? (·.has entry)=some v/\v.f%2=1
 four:entry%4=0
 bG:ai.length<=4
 pos:0<ai.length
 lt:entry<4294967296
theorem SJ{ai}(hV:ae.map (·.1)=ai)(P:mP body (52+32*ae.length) al ae)(dK:al=1\/al=4\/al=8\/al=16)(A:Ba ai entry)(hs:s<4294967296)(h4:ag<65536)(h6:sz<65536)(hz:∀x∈ae,x.2<4294967296) :
  jQ (cY entry s ag names sz al ae body) 52 ae.length entry/\cu (cY entry s ag names sz al ae body) 52 ae.length=ai.filter λv=>decide (0<v.s):=by
 have vz:ai.length=ae.length:=by rw[<- hV,aG]
 have bG:=A.bG;have pos:=A.pos
 have F:=Hu (names:=names) (al:=al) (body:=body) A.lt hs (by exact L2 [ae.length,ai.length] 0x4a10013100005fa05b vz bG:ae.length<65536) h4 h6
 have mv:=λx (hx:x∈ae)=>A.each x.1 (hV▸da.mpr ⟨x,hx,rfl⟩)
 have ri:=fun{k x} (h:ae[k]?=some x)=>agx (entry:=entry) (s:=s) (ag:=ag) (names:=names) (sz:=sz) (al:=al) (body:=body) h (mv x (cU h)).1 (hz x (cU h)) (dK.elim (λbM=>L1 [al] 28596163813450 bM) λbM=>bM.elim (λfA=>L1 [al] 81372721946698 fA) λfA=>fA.elim (λfB=>L1 [al] 0x8a02102fa04a fB) λfB=>L1 [al] 72895430759784522 fB)
 have fb:=fun{k x} (h:ae[k]?=some x)=>by
  have p:=P x (cU h)
  exact A9 (entry:=entry) (s:=s) (ag:=ag) (names:=names) (sz:=sz) (al:=al) (⟨p.low,p.fits,p.octets⟩:gW body (52+32*ae.length) x.2 x.1.b)
 have sg:cu (cY entry s ag names sz al ae body) 52 ae.length=ai.filter λv=>decide (0<v.s):=by
  rw[<- agy,<- hV]
  refine(G6 (l:=ae) (g:=λx=>if 0<x.1.s then some x.1 else none) λk x h=>?_).trans (by rw[filterMap_map];rfl)
  have r:=ri h
  have f8:x.1.f%8=x.1.f:=mod_eq_of_lt (mv x (cU h)).1.f
  unfold kf
  rw[r.r0,r.r1,r.r2,r.r4,r.r5,r.r6,(fb h).1,f8]
  by_cases z:0<x.1.s
  .rw[ax ⟨rfl,z⟩,ax z]
  .rw[aY λk=>z k.2,aY z]
 have get:=λk (hk:k<ae.length)=>c8 (l:=ae) hk
 refine⟨⟨⟨F.head,F.h24,F.h28,F.Af,λk hk=>?_,by rw[sg];exact RD (A.pw.filter _),by rw[sg];exact A.bN,A.four⟩,dC _,vz▸pos,by rw[cY,aW,wW];exact fN ..,λk hk J=>?_⟩,sg⟩
 .have r:=ri (get k hk)
  obtain⟨S,m1,m2⟩:=mv _ (getElem_mem hk)
  have p:=(P _ (getElem_mem hk)).align
  exact⟨by rw[r.r0];decide,λJ=>by rw[r.r4,r.r5];exact m2,λJ=>by rw[r.r2,r.r5];exact m1,λJ=>by
   rw[r.r1,r.r2,r.r7]
   rcases dK with rfl | rfl | rfl | rfl
   .exact .inl nb
   .exact .inr ⟨by decide,p⟩
   .exact .inr ⟨by decide,p⟩
   .exact .inr ⟨by decide,p⟩⟩
 .have r:=ri (get k hk)
  rw[r.r1,r.r4];exact(fb (get k hk)).2
end
theorem SK{B C}{p q m}(h:part B p C.length=C)(hq:q+m<=C.length):le B (p+q) m=le C q m:=pX λi hi=>by
 have:=p4 (F:=B) (p:=p) (n:=C.length) (i:=q+i) (L2 [q,i,C.length,m] 0x3112309021095b hq hi)
 rw[h] at this
 rw[this,Nat.add_assoc]
theorem agz{Z}{i d m}{e}(h:Z[i]?=some e)(hd:d+m<=16):le (dr Z) (16*(i+1)+d) m=le e.b d m:=by
 have:=q9 (B:=List.replicate 16 0) (C:=(Z.map dR.b).flatten) (p:=16*i+d) (n:=m)
 rw[gY] at this
 rw[show 16*(i+1)+d=16+(16*i+d) by exact eK (L0 [i,d] 0x10102fb9102fa911a09102fb949) (L0 [i,d] 0x11a09102fb910102fb9102fa949)]
 exact this.trans (Hm (λe J=>e.Sg) h hd)
theorem SM{B:List UInt8}{e:dR}(h:e.Ok B):le e.b 0 4=e.n/\le e.b 4 4=e.x.v/\(le e.b 12 1/16==1)=e.x.g:=by
 have Hv:(aZ 4 [e.n,e.x.v,0]).length=12:=gy _
 refine⟨(eP (by rw[Hv];decide)).trans (ux (j:=0) rfl h.n),(eP (by rw[Hv];decide)).trans (ux (j:=1) rfl h.x.v),?_⟩
 have:=q9 (B:=aZ 4 [e.n,e.x.v,0]) (C:=lV e.x.g++aZ 2 [e.w]) (p:=0) (n:=1)
 rw[Hv] at this
 rw[show le e.b 12 1=_ from this]
 cases e.x.g <;> kernel_rfl
noncomputable def bS.t(x:bS):D:=.tup [.str (bZ (d7 x.a)),.int x.v,.bool x.g]
noncomputable def zX:dR:=⟨⟨0,0,false⟩,0,0⟩
noncomputable def qd(Z:List dR):Nat->Nat->List UInt8:=λJ i=>d7 (Z.getD (i-1) zX).x.a
theorem agA{α:Type}{g:α->List D}{l:List α}(h:∀x∈l,g x=[]):(l.map g).flatten=[]:=by
 induction l with
 |nil=>rfl
 |cons x l ih=>rw[map_cons,flatten_cons,h x (.head _),ih λy hy=>h y (.tail _ hy)];rfl
theorem agB{entry ps names al n1 n2 n3 pt px py first ly:Nat}{ae:List (ar×Nat)}{body TB:List UInt8}{Z:List dR}{ls:List (List Nat)}(hZ:ae.length<=10)(h1:entry<4294967296)(h6:ps<4294967296)(len:ls.length<=20)(i7:∀l∈ls,wR l)(hW:∀l∈i8 ls.length n1 n2 n3 pt px py first (16*(Z.length+1)) TB.length ly,l.length=10/\∀v∈l,v<4294967296)(SN:∀e∈Z,e.Ok TB)(hes:Z.length<=10)
  (i1:gW body (52+32*ae.length) pt (dr Z))(i2:gW body (52+32*ae.length) px TB)(i3:gW body (52+32*ae.length) ps ((ls++i8 ls.length n1 n2 n3 pt px py first (16*(Z.length+1)) TB.length ly).map (aZ 4)).flatten) :
  kh (cY entry ps (ls.length+3) names 40 al ae body) ps (ls.length+3) (qd Z)/\(cW (cY entry ps (ls.length+3) names 40 al ae body) ps (qd Z) (ls.length+3)).map fZ=(Z.map dR.x).map bS.t:=by
 have F:=Hu (ag:=ls.length+3) (sz:=40) (names:=names) (al:=al) (body:=body) h1 h6 (by exact L1 [ae.length] 0xaa00100005fa05a hZ:ae.length<65536) (L1 [ls.length] 0x142fa00100005fa3a095a len) (by decide)
 obtain⟨b1,SP⟩:=A9 (entry:=entry) (s:=ps) (ag:=ls.length+3) (names:=names) (sz:=40) (al:=al) i1
 obtain⟨b2,SQ⟩:=A9 (entry:=entry) (s:=ps) (ag:=ls.length+3) (names:=names) (sz:=40) (al:=al) i2
 obtain⟨b3,Bb⟩:=A9 (entry:=entry) (s:=ps) (ag:=ls.length+3) (names:=names) (sz:=40) (al:=al) i3
 have low:=i3.low
 have small:∀l∈ls++i8 ls.length n1 n2 n3 pt px py first (16*(Z.length+1)) TB.length ly,l.length=10/\∀v∈l,v<4294967296:=λl I=>(cy.mp I).elim (λh=>⟨(i7 l h).len,(i7 l h).small⟩) (hW l)
 have r1:(ls++i8 ls.length n1 n2 n3 pt px py first (16*(Z.length+1)) TB.length ly)[ls.length]?=some [n1,2,0,0,pt,16*(Z.length+1),ls.length+1,first,4,16]:=by rw[jz (dC _),sub_self];rfl
 have r2:(ls++i8 ls.length n1 n2 n3 pt px py first (16*(Z.length+1)) TB.length ly)[ls.length+1]?=some [n2,3,0,0,px,TB.length,0,0,1,0]:=by rw[jz (fN ..),Nat.add_sub_cancel_left];rfl
 have ll:(ls++i8 ls.length n1 n2 n3 pt px py first (16*(Z.length+1)) TB.length ly).length=ls.length+3:=aW ..
 have kind:∀k l,(ls++i8 ls.length n1 n2 n3 pt px py first (16*(Z.length+1)) TB.length ly)[k]?=some l->k≠ls.length->∃v,l[1]?=some v/\v≠2:=λk l h bq=>by
  rcases lt_or_ge k ls.length with q | q
  .rw[dH q] at h
   have o:=i7 l (cU h)
   have:=c8 (l:=l) (i:=1) (by rw[o.len];decide)
   exact⟨_,this,o.kd _ this⟩
  .obtain⟨d,rfl⟩:∃d,k=ls.length+d:=⟨k-ls.length,eK (L1 [k,ls.length,k-ls.length] 1275607486538 (sb k ls.length)) (L1 [ls.length,k-ls.length,k] 2205769861450 (show k-ls.length+ls.length=k from gm (L1 [ls.length,k] 16781386 q)))⟩
   rw[jz q,Nat.add_sub_cancel_left] at h
   match d,h with
   |0,_=>exact absurd rfl bq
   |1,h=>cases h;exact⟨3,rfl,by decide⟩
   |2,h=>cases h;exact⟨3,rfl,by decide⟩
 generalize hLs:ls++i8 ls.length n1 n2 n3 pt px py first (16*(Z.length+1)) TB.length ly=Ls at b3 Bb small r1 r2 ll kind
 have wV:=λl (I:l∈Ls)=>(gy (n:=4) l).trans (by rw[(small l I).1])
 have jl:=rQ (f:=aZ 4) (m:=40) wV
 have tl:=Hn Z
 generalize cY entry ps (ls.length+3) names 40 al ae body=B at F b1 SP b2 SQ b3 Bb
 have SW:∀{k j l v},Ls[k]?=some l->l[j]?=some v->sw B ps k j=v:=fun{k j l v} h Y=>by
  have I:=cU h
  have hk:=(bH.mp h).1
  have hj:=(bH.mp Y).1
  rw[(small l I).1] at hj
  rw[show sw B ps k j=le B (ps+(40*k+4*j)) 4 by rw[<- Nat.add_assoc],SK b3 (by rw[jl];exact L2 [k,j,Ls.length] 0xaa14720282f72282fb4a14b0282fb994b hk hj),Hm wV h (by exact L1 [j] 0xaa047aa4b4a04b94a hj)]
  exact ux Y ((small l I).2 v (cU Y))
 have Hw:∀k,k<ls.length+3->sw B ps k 1=2->k=ls.length:=λk hk h2=>Classical.byContradiction λbq=>by
  have hg:=c8 (l:=Ls) (i:=k) (by rw[ll];exact hk)
  obtain⟨v,hv,h⟩:=kind k _ hg bq
  exact h ((SW hg hv).symm.trans h2)
 have a1:sw B ps ls.length 1=2:=SW r1 rfl
 have a4:sw B ps ls.length 4=pt:=SW r1 rfl
 have a5:sw B ps ls.length 5=16*(Z.length+1):=SW r1 rfl
 have a6:sw B ps ls.length 6=ls.length+1:=SW r1 rfl
 have a9:sw B ps ls.length 9=16:=SW r1 rfl
 have c1:sw B ps (ls.length+1) 1=3:=SW r2 rfl
 have c4:sw B ps (ls.length+1) 4=px:=SW r2 rfl
 have c5:sw B ps (ls.length+1) 5=TB.length:=SW r2 rfl
 have rd:∀{i d m e},Z[i]?=some e->d+m<=16->le B (cS B ps ls.length (i+1)+d) m=le e.b d m:=fun{i d m e} h hd=>by
  have hi:=(bH.mp h).1
  unfold cS
  rw[a4,Nat.add_assoc,SK b1 (by rw[tl];exact L2 [i,d,m,Z.length] 0x30102f7102fa21901a39102fb211a09102fb994b hd hi)]
  exact agz h hd
 have nm:∀{k i e},Z[i]?=some e->qd Z k (i+1)=d7 e.x.a:=fun{k i e} h=>by
  unfold qd;rw[Nat.add_sub_cancel,eJ,h];rfl
 refine⟨⟨⟨F.head,F.SH,F.Ah,λJ=>F.Gu,L1 [ls.length] 0x142fa00642fa3a094a len,λk hk h2=>?_,λk hk h2 i wF gx=>?_⟩,λJ=>L1 [ps,ae.length] 0x1202fb342fa900342fa4a low,by rw[jl,ll] at Bb;exact Bb,λk hk h2=>?_⟩,?_⟩
 .cases Hw k hk h2
  rw[a6,c1,a9,a5];exact⟨L0 [ls.length] 249260804441,rfl,rfl,by lia,L1 [Z.length] 0xaa0102f66403fa1a09102fb4a hes⟩
 .cases Hw k hk h2
  obtain⟨j,rfl⟩:∃j,i=j+1:=⟨i-1,eK (L1 [i,i-1] 459114851438666 (sb i 1)) (L1 [i-1,i] 310101489092938 (show i-1+1=i from gm (L1 [i] 436214346 wF)))⟩
  rw[a5] at gx
  have he:=c8 (l:=Z) (i:=j) (L2 [j,Z.length,16*(Z.length+1)/16] 0x1a19102fb2102fc021a09102f710102fbb gx (jy (16*(Z.length+1)) 16))
  have ok:=SN _ (getElem_mem (l:=Z) (n:=j) (L2 [j,Z.length,16*(Z.length+1)/16] 0x1a19102fb2102fc021a09102f710102fbb gx (jy (16*(Z.length+1)) 16)))
  have rn:=(rd (d:=0) (m:=4) he (by decide)).trans (SM ok).1
  rw[a6,c4,c5,b2,nm he,show le B (cS B ps ls.length (j+1)) 4=_ from rn]
  exact⟨ok.name,by have:=(AF _ ok.x.a).1;exact L1 [(d7 Z[j].x.a).length,Z[j].x.a] 0xf1fa01917a1205fa04a this⟩
 .cases Hw k hk h2
  rw[a6,c4,c5,a4,a5];exact⟨SQ,tl▸SP⟩
 .have key:(List.range Ls.length).map (kg B ps (qd Z))=Ls.map λl=>if l[1]?=some 2 then Z.map λe=>sym (bZ (d7 e.x.a)) e.x.v e.x.g else[]:=wL λk l h=>by
   unfold kg
   by_cases q:k=ls.length
   .subst q
    cases r1.symm.trans h
    rw[ax a1,ax (show[n1,2,0,0,pt,16*(Z.length+1),ls.length+1,first,4,16][1]?=some 2 from rfl),a5,show 16*(Z.length+1)/16-1=Z.length by lia]
    refine wL λi e he=>?_
    obtain⟨_,e4,Hx⟩:=SM (SN e (cU he))
    unfold mJ
    rw[nm he,(rd (d:=4) (m:=4) he (by decide)).trans e4,rd (d:=12) (m:=1) he (by decide),Hx]
   .obtain⟨v,hv,bq⟩:=kind k l h q
    rw[aY (by rw[SW h hv];exact bq),aY (by rw[hv];exact λe=>bq (Option.some.inj e))]
  unfold cW
  rw[flatMap_def,<- ll,key,<- hLs,eV,List.flatten_append,agA λl I=>aY λh=>(i7 l I).kd 2 h rfl]
  show List.map fZ ((Z.map λe=>sym (bZ (d7 e.x.a)) e.x.v e.x.g)++([]++([]++[])))=_
  rw[c9,c9,c9,map_map,map_map]
  rfl
theorem agC{entry names sz al}{ae}{body}(hZ:ae.length<=10)(h1:entry<4294967296)(h6:sz<65536):kh (cY entry 0 0 names sz al ae body) 0 0 (qd []):=
 have F:=Hu (s:=0) (ag:=0) (names:=names) (al:=al) (body:=body) h1 (by decide) (by exact L1 [ae.length] 0xaa00100005fa05a hZ:ae.length<65536) (by decide) h6
 ⟨⟨F.head,F.SH,F.Ah,λh=>absurd h (lt_irrefl 0),zero_le _,(λJ h=>absurd h (not_lt_zero _)),λJ h=>absurd h (not_lt_zero _)⟩,λh=>absurd h (lt_irrefl 0),zero_le _,λJ h=>absurd h (not_lt_zero _)⟩
noncomputable def uD(bO a c:Nat):List UInt8:=(List.range c).map λk=>UInt8.ofNat ((bO+a+29*k)%256)
theorem SR(bO a c):(uD bO a c).length=c:=by unfold uD;rw[aG,eU]
noncomputable def oA(bO:Nat)(p:Span):ar:=⟨p.a,uD bO p.a p.c,p.s,p.r⟩
theorem agD{bO a c:Nat}{σ:List (Option D)}{st:List M}(h:autoParam (dY [7,3] 1 σ=[some (.int (a)),some (.int (bO)),none]) rl):zq.r σ (aQ (List.range c)) st=.ok (aJ (uD bO a c)) st:=by
 unfold aJ uD
 rw[map_map]
 exact iZ (z:=zq) (λ(i:Nat)=>.int (i:Int)) (_∘_) (λi=>[some (.int (a:Int)),some (.int (bO:Int)),some (.int (i:Int))]) (List.range c) λi J=>⟨(aw (λs=>zq.k.aO (.int (i:Int)) s) h).trans (by kernel_rfl),by kernel_rfl,
  (pD (kb (b:=256) (by decide) (bO+a+29*i)):_=Res.ok (D.int ((bO+a+29*i)%256:Nat)) st).trans (aw (λv:Nat=>Res.ok (D.int (v:Int)) st) (by show _=(UInt8.ofNat ((bO+a+29*i)%256)).toNat;rw[toNat_ofNat',mod_mod]))⟩
inductive Bc(k:Nat)(x1 x2:Option D)(bO:Nat)(x4 x5:Option D)(h:Nat)(L:List Span)(bV:List M)(i:Nat):List (Option D)->List M->Prop
 |mk (x7 x8 x9 aR:Option D) (st:List M) (hh:st[h]?=some (.list ((L.take i).map λp=>(oA bO p).t))) (fr:∀j,j≠h->st[j]?=bV[j]?):Bc k x1 x2 bO x4 x5 h L bV i [some (.ab k),x1,x2,some (.int (bO:Int)),x4,x5,some (.ab h),x7,x8,x9,aR,none,none,none,none,none,none] st
theorem agE{k}{x1 x2}{bO}{x4 x5}{h}{L}{bV}{i}{p}{σ}{st}(hp:L[i]?=some p)(hc:p.c<=10)(hL:L.length<=100)(q:Bc k x1 x2 bO x4 x5 h L bV i σ st) :
  fM (lp OS OT) p.d σ st (Bc k x1 x2 bO x4 x5 h L bV (i+1)):=by
 obtain⟨x7,x8,x9,aR,_,hh,fr⟩:=q
 have tl:((L.take i).map λp=>(oA bO p).t).length<=1000:=by rw[aG];exact bg (length_take_le' ..) (L1 [L.length] 0x642fa003e83fa04a hL)
 have oc:=agD (bO:=bO) (a:=p.a) (c:=p.c) (σ:=[some (.ab k),x1,x2,some (.int (bO:Int)),x4,x5,some (.ab h),some (.int p.a),some (.int p.c),some (.int p.s),some (.int p.r),none,none,none,none,none,none]) (st:=st) rfl
 exact .next trivial _ _ (cR (σ':=[some (.ab k),x1,x2,some (.int (bO:Int)),x4,x5,some (.ab h),some (.int p.a),some (.int p.c),some (.int p.s),some (.int p.r),none,none,none,none,none,none]) (R:=.ok (.next,[some (.ab k),x1,x2,some (.int (bO:Int)),x4,x5,some (.ab h),some (.int p.a),some (.int p.c),some (.int p.s),some (.int p.r),none,none,none,none,none,none]) _)
  (sB (iY hh)<|pL (fY (n:=p.c) (L1 [p.c] 0xaa0010000007fa04a hc))<|sL oc<|pD (um (B:=uD bO p.a p.c) (by rw[SR];exact L1 [p.c] 0xaa0010000007fa04a hc))<|sD (kM (oA bO p).t hh (bg tl nb))))
  (.mk _ _ _ _ _ ((dP hh).trans (by rw[take_add_one,hp,eV])) λj hj=>(df hj rfl).trans (fr j hj))
inductive Bd(k:Nat)(x1 x2 x3 x4 x5 x6 x7 x8 x9 aR:Option D)(h n:Nat)(bV:List M)(i:Nat):List (Option D)->List M->Prop
 |mk (S:List bS) (bf x13 x14:Option D) (st:List M) (sd:bX st k (n+3*i)) (hh:st[h]?=some (.list (S.map bS.t))) (len:S.length=i) (ok:∀x∈S,x.Ok) (sl:st.length=bV.length):Bd k x1 x2 x3 x4 x5 x6 x7 x8 x9 aR h n bV i [some (.ab k),x1,x2,x3,x4,x5,x6,x7,x8,x9,aR,bf,some (.ab h),x13,x14,none,none] st
theorem agF{k}{x1 x2 x3 x4 x5 x6 x7 x8 x9 aR}{h n}{bV}{i}{y}{σ}{st}(bq:h≠k)(hn:n<=900000)(hi:i<=100)(q:Bd k x1 x2 x3 x4 x5 x6 x7 x8 x9 aR h n bV i σ st):fM (lp OU OV) y σ st (Bd k x1 x2 x3 x4 x5 x6 x7 x8 x9 aR h n bV (i+1)):=by
 obtain⟨S,bf,x13,x14,_,sd,hh,len,ok,sl⟩:=q
 obtain⟨d1,bW,l1,q1,s1,f1,n1⟩:=cJ 15 sd
 obtain⟨d2,b8,l2,q2,s2,f2,n2⟩:=cJ 4 s1
 obtain⟨d3,cf,l3,q3,s3,f3,n3⟩:=cJ 2 s2
 have b2:=js (p:=λx=>x<4294967296) (l:=[0,77,2^32-1,64]) (by decide) l2
 have p2:=dQ [0,77,2^32-1,64] l2
 generalize[0,77,2^32-1,64].getD d2 0=v at b2 p2
 have h2:=(f2 h bq).trans ((f1 h bq).trans hh)
 have h3:=(f3 h bq).trans h2
 have sN:(S.map bS.t).length<=16777216:=by rw[aG];exact L2 [S.length,i] 0x102642fa1010000007fa04b hi len
 exact .next trivial _ _ (cR (σ':=[some (.ab k),x1,x2,x3,x4,x5,x6,x7,x8,x9,aR,some y,some (.ab h),x13,x14,none,none]) (R:=.ok (.next,[some (.ab k),x1,x2,x3,x4,x5,x6,x7,x8,x9,aR,some y,some (.ab h),some (.str (bZ (d7 d1))),some (.int (v:Int)),none,none]) _)
  (sD q1<|pD (GW l1)<|pD (n5 (a:=2) (b:=32) nb (by decide))<|pD (iW (a:=2^32) (b:=1) (by decide))<|sD q2<|pD p2<|sB (iY h2)<|sD q3<|pD (Ak d3 0)<|sD (kM (bS.t ⟨d1,v,d3==0⟩) h3 sN)))
  (.mk (S++[⟨d1,v,d3==0⟩]) _ _ _ _ (s3.at (di bq)) ((dP h3).trans (aw (λz=>some (M.list z)) (eV (l₂:=[(⟨d1,v,d3==0⟩:bS)])).symm)) (by rw[aW,len];rfl) (λx hx=>(cy.mp hx).elim (ok x) λhx=>by cases dT.mp hx;exact⟨l1,b2⟩) (et.trans (n3.trans (n2.trans (n1.trans sl)))))
inductive Be(z:CZ)(σ:List (Option D))(V Z:List D)(st:List M):Prop
 |mk (ao:List M) (e:z.r σ V st=.ok Z ao) (fr:∀j,j<st.length->ao[j]?=st[j]?) (len:st.length<=ao.length):Be z σ V Z st
theorem SU{α:Type}{z}{σ}(i:α->D)(f:α->D)(g:α->List (Option D))(l:List α){st}(h:∀x∈l,∀st,z.k.aO (i x) (dY z.az z.m σ)=some (g x)/\rn z.tt (g x) st=.ok true st/\rn z.el.t (g x) st=.ok (f x) (st++[.gone])):Be z σ (l.map i) (l.map f) st:=by
 induction l generalizing st with
 |nil=>exact⟨st,rfl,λJ J=>rfl,dC _⟩
 |cons x l ih=>
  obtain⟨h1,h2,h3⟩:=h x (.head _) st
  obtain⟨ao,e,fr,len⟩:=ih (st:=st++[.gone]) λy hy=>h y (.tail _ hy)
  have sl:(st++[M.gone]).length=st.length+1:=aW ..
  refine⟨ao,?_,λj hj=>(fr j (L2 [j,(st++[M.gone]).length,st.length] 564161823314011 sl hj)).trans (dH hj),L2 [st.length,ao.length,(st++[M.gone]).length] 458024726564939 len sl⟩
  unfold CZ.r at e ⊢
  rw[map_cons,rq h1,h2,Res.gF,ax rfl,h3,Res.gF,e]
  rfl
theorem agG{ai:List ar}{entry:Nat}{v:ar}(h:ai.Pairwise λv w=>v.a+v.s<=w.a)(hm:v∈ai)(h1:v.a<=entry)(h2:entry<v.a+v.s)(hr:v.f%2=1):∃u,(ai.filter λv=>decide (0<v.s)).find? (·.has entry)=some u/\u.f%2=1:=by
 cases hf:(ai.filter λv=>decide (0<v.s)).find? (·.has entry) with
 |none=>exact absurd (gc (show v.a<=entry/\entry<v.a+v.s from⟨h1,h2⟩)) (find?_eq_none.mp hf _ (mem_filter.mpr ⟨hm,gc (show 0<v.s by exact L2 [v.s,v.a,entry] 27630078265947 h1 h2)⟩))
 |some u=>
  have hv:u.a<=entry/\entry<u.a+u.s:=dJ (show u.has entry=true from find?_some (p:=λv:ar=>v.has entry) hf)
  refine⟨u,rfl,?_⟩
  rcases RG h hm (mem_filter.mp (List.mem_of_find?_eq_some hf)).1 with rfl | z | z
  .exact hr
  .exact absurd (bg z hv.1) (Nat.not_le.mpr h2)
  .exact absurd (bg z h1) (Nat.not_le.mpr hv.2)
theorem agH{L:List Span}{entry bN base e bO:Nat}(aa:ou L entry bN base e):Ba (L.map (oA bO)) entry:=by
 obtain⟨p,hp,h1,h2⟩:=aa.bN
 have pw:(L.map (oA bO)).Pairwise λv w=>v.a+v.s<=w.a:=pairwise_map.mpr aa.S.asc.pw
 refine⟨λv hv=>?_,pw,agG pw (da.mpr ⟨p,cU hp,rfl⟩) h1 h2 (aa.S.bN p hp).2,aa.m,by rw[aG];exact aa.bG,by rw[aG];have:=(bH.mp hp).1;exact L1 [L.length,bN] 17828442 this,aa.lt⟩
 obtain⟨q,hq,rfl⟩:=da.mp hv
 have A:=aa.all q hq
 have bl:(oA bO q).b.length=q.c:=SR ..
 exact⟨⟨lt_succ_of_le A.a,bl▸A.bG,lt_succ_of_le A.s,A.r⟩,A.mem,bl▸A.cs⟩
theorem agI:∀m:Nat,m<5->∀st,ij [.int ((m:Int)-((1:Nat):Int))] st=.ok ((List.range (m-1)).map λ(i:Nat)=>.int (i:Int)) st
 |0,_,_=>rfl
 |1,_,_=>rfl
 |2,_,_=>rfl
 |3,_,_=>rfl
 |4,_,_=>rfl
theorem agJ{ai}{entry}(A:Ba ai entry)(st):Be FK [] (ai.map ar.t) (ai.map ar.d) st:=
 SU (z:=FK) ar.t ar.d (λv=>[some (.int v.a),some (.bytes v.b),some (.int v.s),some (.int v.f)]) ai λv hv st=>by
  obtain⟨S,h1,h2⟩:=A.each v hv
  exact⟨by kernel_rfl,by kernel_rfl,sD (Qi (a:=v.a) (s:=v.s) (f:=v.f) h2 h1 (bg S.b nb) st)⟩
theorem agK(S:List bS)(st:List M):Be FL [] (S.map bS.t) (S.map bS.d) st:=
 SU (z:=FL) bS.t bS.d (λx=>[some (.str (bZ (d7 x.a))),some (.int x.v),some (.bool x.g)]) S λx J st=>⟨by kernel_rfl,by kernel_rfl,sD (Qu (bZ (d7 x.a)) x.v x.g st)⟩
inductive Hy(R:Res D)(st:List M)(bd entry:Nat)(ai:List ar)(S:List bS):Prop
 |mk (B:List UInt8) (s ag:Nat) (nm:Nat->Nat->List UInt8) (ao:List M) (e:R=.ok (.bytes B) ao) (G:Au B 52 ai.length entry s ag nm) (sg:cu B 52 ai.length=ai.filter λv=>decide (0<v.s)) (sy:(cW B s nm ag).map fZ=(kn S).map bS.t) (fr:∀j,j<st.length->j≠bd->ao[j]?=st[j]?):Hy R st bd entry ai S
section
variable{st:List M}{w bd entry:Nat}{ai:List ar}{al:Nat}{body:List UInt8}{ae:List (ar×Nat)}{S:List bS}(W:Wr st w bd entry ai al (.lst (ar.d8 ae)) (52+32*ai.length) body)(P:mP body (52+32*ai.length) al ae)(hV:ae.map (·.1)=ai)(dK:al=1\/al=4\/al=8\/al=16)(A:Ba ai entry)(bl:body.length<=300)
include W P hV dK A bl
theorem SV:∀x∈ae,lU x.1/\x.2<4294967296:=λx hx=>by
 have p:=P x hx
 have:=A.bG
 exact⟨(A.each x.1 (hV▸da.mpr ⟨x,hx,rfl⟩)).1,by have:=p.low;have:=p.fits;lia⟩
theorem agL:Hy (uc [.ab w,.none] st) st bd entry ai []:=by
 have vz:ai.length=ae.length:=by rw[<- hV,aG]
 have bG:=A.bG
 have zs:=SV W P hV dK A bl
 obtain⟨sz,ao,hs,hz,e,fr⟩:=agt W hV (L2 [ae.length,ai.length] 81432600551499 vz bG) (dK.elim (λbM=>L1 [al] 28596163813450 bM) λbM=>bM.elim (λfA=>L1 [al] 81372721946698 fA) λfA=>fA.elim (λfB=>L1 [al] 0x8a02102fa04a fB) λfB=>L1 [al] 72895430759784522 fB) zs A.lt
 rw[vz] at P
 obtain⟨E,sg⟩:=SJ (s:=0) (ag:=0) (names:=0) (sz:=sz) hV P dK A (by decide) (by decide) hz λx hx=>(zs x hx).2
 have fl:(cY entry 0 0 0 sz al ae body).length=52+32*ae.length+body.length:=(aW ..).trans (by rw[wW])
 exact⟨_,0,0,qd [],ao,e,vz▸⟨E,agC (L2 [ae.length,ai.length] 81432600551499 vz bG) A.lt hz,L4 [(cY entry 0 0 0 sz al ae body).length,body.length,ai.length,ae.length] 0x13202fb342fa99024a2202f632202f912c3fa10f42405fa04d bl vz bG fl⟩,vz▸sg,rfl,fr⟩
theorem agM(hS:S.length<=10)(lW:∀x∈S,x.Ok):Hy (uc [.ab w,lX S] st) st bd entry ai S:=by
 have vz:ai.length=ae.length:=by rw[<- hV,aG]
 have bG:=A.bG
 have zs:=SV W P hV dK A bl
 obtain⟨TB,aa,eT,Z,ls,m1,m2,m3,pt,px,py,ps,first,ly,eS,ok,len,i7,hW,eb,i1,i2,i3,hp,bl',⟨sz,ao,hs,hz,e,fr⟩⟩:=agu W hV (L2 [ae.length,ai.length] 81432600551499 vz bG) (dK.elim (λbM=>L1 [al] 28596163813450 bM) λbM=>bM.elim (λfA=>L1 [al] 81372721946698 fA) λfA=>fA.elim (λfB=>L1 [al] 0x8a02102fa04a fB) λfB=>L1 [al] 72895430759784522 fB) zs A.lt hS lW (L1 [ai.length] 0x4a0202f63e83fa0202fb342fa94a bG) (L1 [body.length] 0x12c3fa003e83fa04a bl)
 cases hs (L0 [ls.length] 973671001)
 have el:Z.length=S.length:=by rw[<- aG (f:=dR.x),eS,Hq]
 have P':mP eT (52+32*ai.length) al ae:=eb▸P.app
 rw[vz] at P' i1 i2 i3
 obtain⟨E,sg⟩:=SJ (s:=ps) (ag:=ls.length+3) (names:=ls.length+2) (sz:=40) hV P' dK A hp (L2 [ls.length,ai.length] 0x1a19024a10100005fa3a095b bG len) (by decide) λx hx=>(zs x hx).2
 obtain⟨SB,sy⟩:=agB (names:=ls.length+2) (al:=al) (L2 [ae.length,ai.length] 81432600551499 vz bG) A.lt hp (L2 [ls.length,ai.length] 0x1a19024a10142fa04b bG len) i7 hW ok (L2 [Z.length,S.length] 17775276499019 hS el) i1 i2 i3
 have fl:(cY entry ps (ls.length+3) (ls.length+2) 40 al ae eT).length=52+32*ae.length+eT.length:=(aW ..).trans (by rw[wW])
 exact⟨_,ps,ls.length+3,qd Z,ao,e,vz▸⟨E,SB,L5 [(cY entry ps (ls.length+3) (ls.length+2) 40 al ae eT).length,body.length,ai.length,ae.length,eT.length] 0x43202fb342fa9902fa03fa19404a2202f632202f912c3fa10f42405fa04e bl vz bG bl' fl⟩,vz▸sg,by rw[sy,eS],fr⟩
end
theorem SX(S:List bS)(st:List M):FM.r [] (S.map bS.t) st=.ok ((S.filter λx=>!x.g).map bS.t) st:=
 og (z:=FM) bS.t bS.t (λx=>!x.g) (λx=>[some x.t]) S λx J=>⟨by kernel_rfl,by kernel_rfl,λJ=>by kernel_rfl⟩
theorem SY(S:List bS)(st:List M):FN.r [] (S.map bS.t) st=.ok ((S.filter λx=>x.g).map bS.t) st:=
 og (z:=FN) bS.t bS.t (λx=>x.g) (λx=>[some x.t]) S λx J=>⟨by kernel_rfl,by kernel_rfl,λJ=>by kernel_rfl⟩
theorem SZ(ai:List ar)(st:List M):FO.r [] (ai.map ar.t) st=.ok ((ai.filter λv=>decide (0<v.s)).map ar.t) st:=
 og (z:=FO) ar.t ar.t (λv=>decide (0<v.s)) (λv=>[some v.t]) ai λv J=>⟨by kernel_rfl,by
  by_cases z:0<v.s
  .rw[gc z];exact pD (jo (b:=0) z)
  .rw[decide_eq_false z];exact pD (iU (b:=0) z),λJ=>by kernel_rfl⟩
theorem agN:QX:=λst k sd=>by
 obtain⟨d1,bW,l1,q1,s1,_,_⟩:=cJ 4 sd
 obtain⟨L,entry,bN,base,e,p,b8,q2,s2,lt,SO,b,m4,hp,hp1,Hp⟩:=GK (aq:=1+d1) s1 nb (L0 [d1] 27859529) (L1 [d1] 81369397045578 l1)
 have len:=SO.len
 have aa:ou L entry bN base e:=⟨len▸SO,b,L2 [L.length,d1] 79534430428110923 l1 len,m4,p,hp,hp1,Hp⟩
 obtain⟨bO,cf,l3,q3,s3,_,_⟩:=cJ 256 s2
 obtain⟨d4,cM,l4,q4,s4,_,_⟩:=cJ 4 s3
 obtain⟨aq,ki,l5,q5,s5,_,_⟩:=cJ 5 s4
 have ba:=js (p:=λal=>al=1\/al=4\/al=8\/al=16) (l:=[4,1,16,8]) (by decide) l4
 have pa:=dQ [4,1,16,8] l4
 generalize[4,1,16,8].getD d4 0=al at ba pa
 have bG:=aa.bG
 have A:=agH (bO:=bO) aa
 obtain⟨_,lR,lo1,⟨x7,x8,x9,aR,_,h6,uA⟩⟩:=lI Span.d L (P:=Bc k (some (.lst (L.map Span.d))) (some (.int (entry:Int))) bO (some (.int (al:Int))) (some (.int (aq:Int))) ki.length L (ki++[.list []])) (λi p σ st hp q=>agE hp (aa.all p (cU hp)).bG (L2 [L.length,d1] 0x11a9024a11642fa04b l1 len) q)
  (.mk none none none none _ jq λJ J=>rfl)
 rw[take_length] at h6
 have hk:=s5.lt
 have s7:bX (lR.set ki.length .gone) k _:=s5.at ((di (gj hk)).trans ((uA k (ne_of_lt hk)).trans (dH hk)))
 have Bf:=lG h6
 rw[show(L.map λp=>(oA bO p).t)=(L.map (oA bO)).map ar.t by rw[map_map];rfl] at Bf
 generalize lR.set ki.length .gone=wU at s7 Bf
 have Hz:=s7.lt
 generalize L.map (oA bO)=ai at A Bf
 have HA:=A.bG
 obtain⟨_,qb,kO,⟨S,bf,x13,x14,_,s8,h8,lS,lW,n8⟩⟩:=uj (λ(i:Nat)=>.int (i:Int)) (aq-1) (P:=Bd k (some (.lst (L.map Span.d))) (some (.int (entry:Int))) (some (.int (bO:Int))) (some (.int (al:Int))) (some (.int (aq:Int))) (some (.lst (ai.map ar.t))) x7 x8 x9 aR wU.length (1+1+20+1+1+1) (wU++[.list []])) (λi σ st hi q=>agF (gj Hz) nb (L3 [i,aq,aq-1] 0x1202015a11642fa04c l5 hi (sub_le aq 1)) q)
  (.mk [] none none none _ ((s7.le (L0 [] 0xa3b1a1a1a142fa1a1a9999991a1a1a142fa1a1a9999949)).at (dH Hz)) jq rfl (λJ h=>nomatch h) rfl)
 have s9:bX (qb.set wU.length .gone) k _:=s8.at (di (gj Hz))
 have S4:=lG h8
 generalize qb.set wU.length .gone=A8 at s9 S4
 obtain⟨rR,e10,agO,n10⟩:=agJ A A8
 have HB:bX rR k _:=s9.at (agO k s9.lt)
 obtain⟨body,ae,wX,e11,W,P,hV,agP,HC,bl⟩:=aga (entry:=entry) (st:=rR) ba A.pos (L1 [ai.length] 19864920138 HA) λv hv=>(A.each v hv).1.b
 have S5:bX wX k _:=HB.at (agP k HB.lt)
 have wZ:=HB.lt
 have Vl:(ai.map ar.t).length<=16777216:=by rw[aG];exact L1 [ai.length] 0x4a0010000007fa04a HA
 have Sl:(S.map bS.t).length<=16777216:=by rw[aG];exact L3 [S.length,aq,aq-1] 0x1202025a1110000007fa04c l5 lS (sub_le aq 1)
 have fl:=length_filter_le (λx:bS=>!x.g) S
 have fg:=length_filter_le (λx:bS=>x.g) S
 have ad:=λst=>(mH (a:=(S.filter λx=>!x.g).map bS.t) (b:=(S.filter λx=>x.g).map bS.t) (by rw[aG,aG];exact L5 [(List.filter (λx↦!x.g) S).length,(List.filter (λx↦x.g) S).length,aq,S.length,aq-1] 0x242631030043285a22710000007fa1094e l5 lS fl fg (sub_le aq 1)) st).trans (aw (λz=>Res.ok (D.lst z) st) eV.symm)
 have go:=fun{R:Res D} h=>bp (k:=1) (eE:=[]) (n:=16) (X:=FP) (V:=[.ab k]) (st:=st) (R:=R) (sD q1<|sD q2<|sD q3<|sD q4<|pD pa<|sD q5<|pL (p9 (f:=λp:Span=>[.int p.a,.int p.c,.int p.s,.int p.r]) (l:=L) (L2 [L.length,d1] 0x11a9024a1110000007fa04b l1 len))<|sF lo1<|sD Bf<|pD (wm (aq:Int) ((1:Nat):Int))<|pL (agI aq l5)<|sF kO<|sD S4 <|
  pL (p9 (f:=λv:ar=>[.int v.a,.bytes v.b,.int v.s,.int v.f]) (l:=ai) (L1 [ai.length] 0x4a0010000007fa04a HA))<|sL e10<|sD e11<|sB (fj (x:=rY) W.inst) h)
 by_cases z:0<aq
 .obtain⟨agQ,Hx,S6,ul⟩:=agK S wX
  have W12:=W.keep S6
  obtain⟨B,s,ag,nm,oB,HE,G,sg,sy,HF⟩:=agM W12 P hV ba A bl (L3 [S.length,aq,aq-1] 81100139281424460 l5 lS (sub_le aq 1)) lW
  have HG:=(S5.at (S6 k (L2 [k,wX.length,rR.length] 564299262267483 HC wZ))).at (HF k (L3 [k,agQ.length,wX.length,rR.length] 0x1203013a3923105c HC wZ ul) (L1 [k,rR.length] 69032054842 wZ))
  have Bs:=G.small
  refine⟨B,52,ai.length,entry,s,ag,nm,oB,?_,G,HG.le (L2 [aq-1,aq] 0x10365a137186a05fa03b1a1a1a142fa1a1a9999994b l5 (sub_le aq 1))⟩
  unfold Av gV
  rw[sg,sy]
  exact go (pD (jo (b:=0) z)<|pL (p9 (f:=λx:bS=>[.str (bZ (d7 x.a)),.int x.v,.bool x.g]) (l:=S) (L3 [S.length,aq,aq-1] 0x1202025a1110000007fa04c l5 lS (sub_le aq 1)))<|sL Hx<|sD HE<|pL (fi Sl)<|sL (SX S oB)<|pL (fi Sl)<|sL (SY S oB)<|pD ad<|pD (f:=tJ [.bytes B]) (d:=.lst (aJ B)) (λst=>ax (show B.length<=16777216 by exact L1 [B.length] 0xf42405fa0010000007fa04a Bs))<|pL (fi Vl)<|sL (SZ ai oB))
 .obtain rfl:S=[]:=length_eq_zero_iff.mp (eK (L3 [S.length,aq-1,aq] 0x21020a51020a04c lS z (sub_le aq 1)) (L0 [S.length] 2633))
  obtain⟨B,s,ag,nm,oB,HE,G,sg,sy,HF⟩:=agL W P hV ba A bl
  have HG:=S5.at (HF k (L2 [k,wX.length,rR.length] 564299262267483 HC wZ) (L1 [k,rR.length] 69032054842 wZ))
  have Bs:=G.small
  refine⟨B,52,ai.length,entry,s,ag,nm,oB,?_,G,HG.le (L2 [aq-1,aq] 0x103610a3b186a05fa03b1a1a1a142fa1a1a9999994b z (sub_le aq 1))⟩
  unfold Av gV
  rw[sg,sy]
  exact go (pD (iU (b:=0) z)<|sD HE<|pL (fi Sl)<|sL (SX [] oB)<|pL (fi Sl)<|sL (SY [] oB)<|pD ad<|pD (f:=tJ [.bytes B]) (d:=.lst (aJ B)) (λst=>ax (show B.length<=16777216 by exact L1 [B.length] 0xf42405fa0010000007fa04a Bs))<|pL (fi Vl)<|sL (SZ ai oB))
theorem agY:PySem.Challenge.rw_tk0068_01.Holds:=ady (aeE agN afX)
end
end Internal

theorem PySem.Challenge.cw_tk0068_01_holds : PySem.Challenge.rw_tk0068_01.Holds := by
  exact Internal.agY
