import PyProof.Rows.All
import Wide.All
import OpenK.AllK
import Wide.FinOn
import KE.BitLaws
import KE.KIntText
import PySem.Challenge.RW_sf0051_01
open PySem PySem.W
set_option Elab.async false
set_option maxRecDepth 100000
set_option maxHeartbeats 8000000
set_option tactic.hygienic false
set_option genInjectivity false
set_option genSizeOf false
set_option backward.match.sparseCases false
set_option linter.all false
noncomputable section
namespace Mine
def B0:=@PySem.wpAny_bind
def B9:=@Option.some.inj
noncomputable def BA:=@List.casesOn
def BB:=@List.length_map
def BC:=@PySem.wpAny_pure
def BD:=@Bool.and_eq_true_iff
def BE:=@if_neg
def BF:=@Nat.le_trans
def BG:=@List.mem_singleton
def BH:=@PySem.Heap.get?_push_of_some
def BJ:=@if_pos
def BK:=@PySem.W.Fast.te14364793385576792824
def BM:=@Int.le_trans
def BN:=@Nat.le_refl
def BO:=@List.mem_cons
def BP:=@PySem.W.Fast.te10110043849684766642
def BQ:=@Array.length_toList
def BR:=@PySem.Heap.get?_push_size
def BS:=@List.getElem?_eq_getElem
noncomputable def BU:=@Option.casesOn
def BV:=@List.length_append
def BW:=@Nat.le_succ
def BX:=@decide_eq_false
def BY:=@Nat.lt_of_lt_of_le
def BZ:=@List.map_cons
def Ba:=@Nat.ne_of_lt
def Bb:=@Int.natCast_nonneg
def Bc:=@List.lookup_cons
noncomputable def Bd:=@PySem.Expr.casesOn
def Be:=@PySem.Heap.lt_size
def Bf:=@decide_eq_true
def Bg:=@Int.not_lt
def Bh:=@beq_eq_false_iff_ne
def Bi:=@Nat.le_add_right
def Bj:=@Int.lt_trans
def Bk:=@Int.le_of_lt
def Bl:=@Array.getElem?_toList
def Bm:=@Int.lt_of_le_of_lt
def Bn:=@Bool.and_eq_true
def Bo:=@congrArg
def Bp:=@Int.add_nonneg
def Bq:=@List.getElem?_map
def Bs:=@Int.emod_nonneg
def Bt:=@Int.emod_lt_of_pos
def Bu:=@PySem.wpAny_holding
def Bv:=@Int.ofNat_le
def Bw:=@List.length_cons
def Bx:=@Nat.lt_succ_of_lt
def By:=@PySem.Heap.get?_update_other
def Bz:=@Int.lt_of_lt_of_le
def C0:=@List.forall_mem_nil
def CA:=@Nat.lt_of_succ_lt_succ
def CB:=@Int.le_sub_one_of_lt
def CC:=@Nat.lt_of_le_of_lt
noncomputable def CD:=@Nat.casesOn
def CE:=@PySem.sizeLine_eq
def CF:=@Int.mul_ediv_add_emod
def CG:=@PySem.wpAny_standAt
def CH:=@PySem.wpAny_mono
def CI:=@List.toList_toArray
def CJ:=@List.mem_append
def CK:=@Nat.lt_succ_self
def CL:=@Int.eq_ofNat_of_zero_le
noncomputable def CM:=@Bool.casesOn
def CN:=@Nat.zero_le
def CP:=@Int.sub_nonneg_of_le
def CQ:=@Int.mul_le_mul_of_nonneg_left
def CR:=@List.map_map
def CS:=@Int.add_comm
def CT:=@PySem.wpAny_newObj_type
def CU:=@PySem.Heap.get?_none_of_le
def CW:=@List.all_eq_true
def CX:=@PySem.Heap.get?_update_self
def CY:=@congrFun
def CZ:=@Int.ediv_nonneg
def Ca:=@List.length_drop
def Cb:=@List.getElem?_eq_some_iff
def Cc:=@Int.ediv_lt_of_lt_mul
def Cd:=@Int.ne_of_gt
def Ce:=@PySem.F.slot_dict_keyiterator_next
def Cf:=@Nat.add_right_comm
def Cg:=@beq_self_eq_true
def Ch:=@List.not_mem_nil
def Ci:=@List.mem_cons_of_mem
def Cj:=@PySem.W.segRun_of
def Ck:=@PySem.W.piece_app
def Cl:=@Nat.lt_irrefl
def Cm:=@PySem.wpAny_of_eq
def Cn:=@Nat.le_of_succ_le_succ
def Co:=@Nat.blt_eq
noncomputable def Cp:=@PySem.NameKind.casesOn
def Cq:=@Int.ofNat_lt
def Cr:=@Int.add_mul_emod_self_left
def Cs:=@Nat.add_le_add_left
def Ct:=@List.mem_filter
def Cu:=@List.append_nil
def Cv:=@PySem.wpAny_truthy_bool
def Cw:=@List.mem_filterMap
def Cx:=@List.mem_cons_self
def Cy:=@List.getElem_mem
def Cz:=@List.any_cons
def D0:=@Int.zero_add
def D1:=@Int.mul_nonneg
def D2:=@List.append_assoc
def D3:=@List.nodup_cons
def D4:=@List.map_append
def D5:=@List.length_pos_iff
def D6:=@Nat.zero_add
def D7:=@Nat.le_of_eq
def D8:=@Int.le_of_eq
def D9:=@Int.le_ediv_iff_mul_le
def DA:=@Array.getElem?_eq_none
def DB:=@Nat.succ_le_succ
def DC:=@List.length_take
def DD:=@List.zip_cons_cons
def DE:=@List.length_range'
def DF:=@Ne.symm
def DG:=@List.length_replicate
def DH:=@List.drop_eq_getElem_cons
def DI:=@Nat.not_lt_zero
def DJ:=@Nat.min_eq_left
def DK:=@List.nil_append
def DL:=@Int.sub_le_self
def DM:=@List.size_toArray
def DN:=@List.reverse_cons
def DO:=@List.mem_map
def DP:=@Int.add_sub_assoc
def DQ:=@Int.add_le_add_right
def DS:=@Option.isSome_iff_exists
def DT:=@Nat.not_lt
def DU:=@List.all_cons
def DV:=@Int.add_assoc
def DW:=@Nat.add_sub_cancel'
def DY:=@List.map_congr_left
def DZ:=@List.length_reverse
def Da:=@Int.toNat_of_nonneg
def Db:=@PySem.wpAny_loadPart_at
def Dc:=@Int.mul_add
def Dd:=@List.contains_cons
def De:=@Int.sub_add_cancel
def Df:=@Int.ediv_eq_zero_of_lt
def Dg:=@PySem.Heap.SameBut.update
def Dh:=@PySem.wpAny_call_entry
def Di:=@Nat.eq_of_beq_eq_true
def Dj:=@List.take_append_drop
def Dk:=@PySem.wpAny_typeNameOfWhole_keyiter
def Dl:=@PySem.bm_if_false
def Dm:=@Int.emod_eq_of_lt
open PyProof.Rows
noncomputable abbrev sm (a:Array Nat):Str:=⟨a⟩
def n0:=sm #[107]
def n1:=sm #[95,119,97,108,108]
def n2:=sm #[95,95,110,97,109,101,95,95]
def n3:=sm #[116,104,105,110,115,116,97,99,107,46,101,114,114,111,114,115]
def n4:=sm #[115,101,108,102]
def n5:=sm #[109,101,115,115,97,103,101]
def n6:=sm #[95,95,105,110,105,116,95,95]
def n7:=sm #[83,116,97,99,107,69,114,114,111,114]
def n8:=sm #[69,120,99,101,112,116,105,111,110]
def n9:=sm #[70,111,114,109,69,114,114,111,114]
def n10:=sm #[83,105,122,101,69,114,114,111,114]
def n11:=sm #[82,111,117,116,101,69,114,114,111,114]
def n12:=sm #[116,104,105,110,115,116,97,99,107,46,111,99,116,101,116,115]
def n13:=sm #[110]
def n14:=sm #[98,121,116,101,115]
def n15:=sm #[112,117,116,49,54]
def n16:=sm #[112,117,116,51,50]
def n17:=sm #[111,99,116,101,116,115]
def n18:=sm #[97,116]
def n19:=sm #[115,105,122,101]
def n20:=sm #[108,101,110]
def n21:=sm #[116,111,111,32,102,101,119,32,111,99,116,101,116,115]
def n22:=sm #[110,101,101,100]
def n23:=sm #[103,101,116,49,54]
def n24:=sm #[103,101,116,51,50]
def n25:=sm #[116,104,105,110,115,116,97,99,107,46,115,117,109,115]
def n26:=sm #[65,76,76,95,79,78,69,83]
def n27:=sm #[116,111,116,97,108]
def n28:=sm #[102,111,108,100]
def n29:=sm #[98,101,103,105,110]
def n30:=sm #[101,118,101,110]
def n31:=sm #[114,97,110,103,101]
def n32:=sm #[111,110,101,115,95,115,117,109]
def n33:=sm #[99,104,101,99,107,115,117,109]
def n34:=sm #[116,104,105,110,115,116,97,99,107,46,105,112,95,104,101,97,100,101,114]
def n35:=sm #[86,69,82,83,73,79,78]
def n36:=sm #[76,69,65,83,84,95,72,69,65,68]
def n37:=sm #[77,79,83,84,95,72,69,65,68]
def n38:=sm #[77,79,83,84,95,84,79,84,65,76]
def n39:=sm #[68,79,78,84,95,66,73,84]
def n40:=sm #[77,79,82,69,95,66,73,84]
def n41:=sm #[80,76,65,67,69,95,66,73,84,83]
def n42:=sm #[84,84,76,95,80,76,65,67,69]
def n43:=sm #[115,111,117,114,99,101]
def n44:=sm #[116,97,114,103,101,116]
def n45:=sm #[112,114,111,116,111,99,111,108]
def n46:=sm #[105,100,101,110,116]
def n47:=sm #[116,116,108]
def n48:=sm #[116,111,115]
def n49:=sm #[100,111,110,116]
def n50:=sm #[109,111,114,101]
def n51:=sm #[111,102,102,115,101,116]
def n52:=sm #[111,112,116,105,111,110,115]
def n53:=sm #[105,115,95,102,114,97,103,109,101,110,116]
def n54:=sm #[105,115,95,102,105,114,115,116]
def n55:=sm #[73,112,72,101,97,100,101,114]
def n56:=sm #[112,97,114,116]
def n57:=sm #[114,111,119]
def n58:=sm #[110,117,109,98,101,114]
def n59:=sm #[98,105,116,115]
def n60:=sm #[105,115,95,119,105,116,104,105,110]
def n61:=sm #[104,101,97,100,101,114]
def n62:=sm #[97,110,32,97,100,100,114,101,115,115,32,111,102,32,109,111,114,101,32,116,104,97,110,32,51,50,32,98,105,116,115]
def n63:=sm #[97,32,110,117,109,98,101,114,32,111,102,32,109,111,114,101,32,116,104,97,110,32,101,105,103,104,116,32,98,105,116,115,32,105,110,32,97,32,104,101,97,100]
def n64:=sm #[97,110,32,105,100,101,110,116,32,111,102,32,109,111,114,101,32,116,104,97,110,32,49,54,32,98,105,116,115]
def n65:=sm #[97,110,32,111,102,102,115,101,116,32,116,104,97,116,32,110,111,32,104,101,97,100,32,99,97,110,32,116,101,108,108]
def n66:=sm #[99,104,101,99,107,95,102,105,101,108,100,115]
def n67:=sm #[112,97,121,108,111,97,100]
def n68:=sm #[111,112,116,105,111,110,115,32,116,104,97,116,32,110,111,32,104,101,97,100,32,99,97,110,32,104,111,108,100]
def n69:=sm #[97,32,100,97,116,97,103,114,97,109,32,111,102,32,109,111,114,101,32,116,104,97,110,32,54,53,53,51,53,32,111,99,116,101,116,115]
def n70:=sm #[99,104,101,99,107,95,115,105,122,101]
def n71:=sm #[102,111,117,110,100]
def n72:=sm #[102,108,97,103,115,95,111,102]
def n73:=sm #[102,105,114,115,116]
def n74:=sm #[115,101,99,111,110,100]
def n75:=sm #[116,104,105,114,100]
def n76:=sm #[98,101,104,105,110,100]
def n77:=sm #[99,104,101,99,107]
def n78:=sm #[112,97,99,107,95,105,112]
def n79:=sm #[97,32,100,97,116,97,103,114,97,109,32,116,104,97,116,32,105,115,32,116,111,111,32,115,104,111,114,116]
def n80:=sm #[97,32,100,97,116,97,103,114,97,109,32,111,102,32,97,110,111,116,104,101,114,32,118,101,114,115,105,111,110]
def n81:=sm #[97,32,104,101,97,100,32,111,102,32,97,32,119,114,111,110,103,32,115,105,122,101]
def n82:=sm #[104,101,97,100,95,115,105,122,101]
def n83:=sm #[97,32,100,97,116,97,103,114,97,109,32,111,102,32,97,32,119,114,111,110,103,32,115,105,122,101]
def n84:=sm #[97,32,104,101,97,100,32,119,105,116,104,32,97,32,119,114,111,110,103,32,115,117,109]
def n85:=sm #[102,108,97,103,115]
def n86:=sm #[117,110,112,97,99,107,95,105,112]
def n87:=sm #[116,104,105,110,115,116,97,99,107,46,105,112,95,111,112,116,105,111,110,115]
def n88:=sm #[69,78,68]
def n89:=sm #[78,79,84,72,73,78,71]
def n90:=sm #[77,79,83,84,95,79,80,84,73,79,78,83]
def n91:=sm #[67,79,80,89,95,66,73,84]
def n92:=sm #[107,105,110,100]
def n93:=sm #[105,115,95,115,105,110,103,108,101]
def n94:=sm #[97,112,112,101,110,100]
def n95:=sm #[115,105,122,101,95,97,116]
def n96:=sm #[114,101,97,100,95,111,112,116,105,111,110,115]
def n97:=sm #[97,110,32,111,112,116,105,111,110,32,119,105,116,104,111,117,116,32,105,116,115,32,115,105,122,101]
def n98:=sm #[97,110,32,111,112,116,105,111,110,32,111,102,32,97,32,119,114,111,110,103,32,115,105,122,101]
def n99:=sm #[111,112,116,105,111,110,95,111,99,116,101,116,115]
def Jv:=sm #[119,114,105,116,101,95,111,112,116,105,111,110,115]
def n101:=sm #[97,110,32,111,112,116,105,111,110,32,111,102,32,110,111,32,107,105,110,100]
def n102:=sm #[97,110,32,111,112,116,105,111,110,32,111,102,32,111,110,101,32,111,99,116,101,116,32,119,105,116,104,32,109,111,114,101]
def n103:=sm #[97,110,32,111,112,116,105,111,110,32,116,104,97,116,32,110,111,32,104,101,97,100,32,99,97,110,32,104,111,108,100]
def Ju:=sm #[105,115,95,99,111,112,105,101,100]
def n105:=sm #[46,48]
def n106:=sm #[102,97,115,116]
def Jt:=sm #[99,111,112,105,101,100]
def n108:=sm #[116,104,105,110,115,116,97,99,107,46,102,114,97,103,109,101,110,116,115]
def n109:=sm #[83,84,69,80,95,102,114,97,103,109,101,110,116,115]
def Js:=sm #[108,97,116,101,114,95,111,112,116,105,111,110,115]
def Jr:=sm #[112,97,114,116,95,104,101,97,100,101,114]
def zG:=sm #[109,116,117]
def n113:=sm #[104,101,97,100,101,114,95,115,105,122,101]
def Jq:=sm #[114,111,111,109]
def n115:=sm #[110,111,32,114,111,111,109,32,102,111,114,32,97,32,102,114,97,103,109,101,110,116]
def Jp:=sm #[114,111,111,109,95,111,102]
def n117:=sm #[97,32,100,97,116,97,103,114,97,109,32,116,104,97,116,32,109,117,115,116,32,110,111,116,32,98,101,32,99,117,116,32,105,115,32,116,111,111,32,108,111,110,103]
def wl:=sm #[108,97,116,101,114]
def ZI:=sm #[104,101,97,100]
def Jo:=sm #[108,101,102,116]
def Jn:=sm #[99,117,116]
def qM:=sm #[116,104,105,110,115,116,97,99,107,46,114,111,117,116,101,115]
def n123:=sm #[66,73,84,83]
def n124:=sm #[65,76,76]
def w7:=sm #[112,114,101,102,105,120]
def n126:=sm #[97,32,112,114,101,102,105,120,32,102,114,111,109,32,48,32,116,111,32,51,50]
def Jm:=sm #[109,97,115,107,95,111,102]
def qd:=sm #[97,100,100,114,101,115,115]
def Jl:=sm #[110,101,116,95,111,102]
def vO:=sm #[110,101,116]
def Jk:=sm #[105,115,95,98,114,111,97,100,99,97,115,116]
def Jj:=sm #[105,115,95,103,114,111,117,112]
def Ji:=sm #[105,115,95,108,111,111,112]
def Wy:=sm #[103,97,116,101,119,97,121]
def yZ:=sm #[102,97,99,101]
def n136:=sm #[109,101,116,114,105,99]
def Wx:=sm #[110,101,120,116,95,97,100,100,114,101,115,115]
def Ww:=sm #[82,111,117,116,101]
def YH:=sm #[122,101,114,111]
def yv:=sm #[111,110,101]
def ue:=sm #[114,111,117,116,101,115]
def Jh:=sm #[98,105,116]
def ZH:=sm #[99,104,105,108,100]
def Wv:=sm #[98,114,97,110,99,104]
def YG:=sm #[115,101,116,95,99,104,105,108,100]
def Wu:=sm #[105,115,95,98,97,114,101]
def w6:=sm #[114,111,117,116,101]
def Wt:=sm #[98,101,115,116]
def Ws:=sm #[66,114,97,110,99,104]
def ZG:=sm #[112,108,97,99,101]
def Jg:=sm #[98,105,116,95,97,116]
def n152:=sm #[114,111,111,116]
def wk:=sm #[109,97,110,121]
def n154:=sm #[109,97,107,101,115]
def ZF:=sm #[112,97,116,104]
def n156:=sm #[97,32,110,101,116,119,111,114,107,32,119,105,116,104,32,98,105,116,115,32,98,101,104,105,110,100,32,105,116,115,32,112,114,101,102,105,120]
def n157:=sm #[111,116,104,101,114]
def YF:=sm #[97,100,100]
def Wr:=sm #[114,101,109,111,118,101]
def Wq:=sm #[114,101,109,111,118,101,95,102,97,99,101]
def Wp:=sm #[112,114,117,110,101]
def Wo:=sm #[102,105,110,100]
def n163:=sm #[112,111,112]
def v0:=sm #[114,111,119,115]
def Wn:=sm #[82,111,117,116,101,115]
def zU:=sm #[116,104,105,110,115,116,97,99,107,46,105,112,95,108,97,121,101,114]
def n167:=sm #[65,76,76,95,72,79,83,84,83]
def n168:=sm #[76,69,65,83,84,95,84,65,82,71,69,84]
def n169:=sm #[85,78,82,69,65,67,72,65,66,76,69]
def n170:=sm #[69,88,67,69,69,68,69,68]
def n171:=sm #[78,79,95,78,69,84]
def n172:=sm #[84,79,79,95,71,82,69,65,84]
def n173:=sm #[73,78,95,84,82,65,78,83,73,84]
def n174:=sm #[80,85,84,84,73,78,71,95,84,79,71,69,84,72,69,82]
def Wm:=sm #[70,97,99,101,82,111,119]
def Jf:=sm #[104,101,97,100,101,114,95,108,105,107,101]
def xL:=sm #[102,97,99,101,115]
def n178:=sm #[114,101,97,115,115,101,109,98,108,121]
def YE:=sm #[102,111,114,119,97,114,100,115]
def n180:=sm #[108,97,115,116,95,105,100,101,110,116]
def Wl:=sm #[110,101,120,116,95,105,100,101,110,116]
def Wk:=sm #[105,115,95,111,119,110]
def Wj:=sm #[105,115,95,116,111,108,100,95,116,111,95,97,108,108]
def n184:=sm #[97,110,121]
def Wi:=sm #[105,115,95,102,111,114,95,97,108,108]
def Wh:=sm #[109,97,121,95,115,101,110,100]
def X3:=sm #[110,111,119]
def n188:=sm #[116,111,95,97,108,108]
def Wg:=sm #[100,101,108,105,118,101,114]
def Wf:=sm #[102,111,114,119,97,114,100]
def YD:=sm #[105,110,112,117,116]
def We:=sm #[108,111,99,97,108]
def n193:=sm #[119,104,111,108,101]
def vz:=sm #[112,117,116]
def n195:=sm #[116,101,108,108]
def Wd:=sm #[112,97,99,107,101,116,115]
def n197:=sm #[105,115,95,110,101,97,114]
def Wc:=sm #[111,117,116]
def n199:=sm #[110,111,32,114,111,117,116,101,32,116,111,32]
def n200:=sm #[115,116,114]
def Wb:=sm #[114,111,117,116,101,95,116,111]
def Wa:=sm #[115,111,117,114,99,101,95,102,111,114]
def n203:=sm #[110,111,32,111,110,101,32,104,111,115,116]
def WZ:=sm #[119,97,110,116,95,111,110,101,95,104,111,115,116]
def WY:=sm #[111,117,116,112,117,116]
def WX:=sm #[103,105,118,101,110,95,117,112]
def vt:=sm #[101,120,112,105,114,101]
def YC:=sm #[73,112,76,97,121,101,114]
def qX:=sm #[116,104,105,110,115,116,97,99,107,46,114,101,97,115,115,101,109,98,108,121]
def n210:=sm #[83,84,69,80,95,114,101,97,115,115,101,109,98,108,121]
def n211:=sm #[84,79,76,68]
def vN:=sm #[109,111,115,116]
def YB:=sm #[101,110,100]
def n214:=sm #[108,111,119]
def n215:=sm #[104,105,103,104]
def n216:=sm #[109,97,120]
def n217:=sm #[108,97,115,116]
def n218:=sm #[109,105,110]
def WW:=sm #[102,105,108,108]
def WV:=sm #[101,110,100,95,97,116]
def WU:=sm #[114,101,97,99,104]
def vr:=sm #[105,115,95,119,104,111,108,101]
def WT:=sm #[72,111,108,101,115]
def n224:=sm #[98,101,103,97,110]
def n225:=sm #[104,111,108,101,115]
def n226:=sm #[112,97,114,116,115]
def n227:=sm #[97,104,101,97,100]
def WS:=sm #[105,115,95,97,103,97,105,110,115,116]
def n229:=sm #[106,111,105,110]
def n230:=sm #[115,111,114,116,101,100]
def WR:=sm #[116,111,108,100,95,111,99,116,101,116,115]
def WQ:=sm #[68,97,116,97,103,114,97,109]
def Je:=sm #[119,104,111,108,101,95,104,101,97,100,101,114]
def Jd:=sm #[107,101,121,95,111,102]
def Jc:=sm #[105,115,95,98,97,100,95,112,105,101,99,101]
def X2:=sm #[116,105,109,101,95,108,105,109,105,116]
def X0:=sm #[109,111,115,116,95,111,99,116,101,116,115]
def n238:=sm #[119,97,105,116,105,110,103]
def n239:=sm #[107,101,121]
def n240:=sm #[105,115,95,116,111,111,95,103,114,101,97,116]
def WP:=sm #[109,97,107,101,95,114,111,111,109]
def n242:=sm #[115,117,109]
def WO:=sm #[115,116,111,114,101,100]
def WN:=sm #[99,111,117,110,116]
def n245:=sm #[108,105,115,116]
def n246:=sm #[111,108,100]
def WM:=sm #[110,101,120,116,95,116,105,109,101]
def WL:=sm #[82,101,97,115,115,101,109,98,108,121]
def qm:=sm #[108,97,119,95,115,102,48,48,53,49,95,48,49]
def n250:=sm #[115,99,114,105,112,116]
def n251:=sm #[103,114,105,115,116]
def n252:=sm #[98,117,108,107]
def Jb:=sm #[95,108,97,119,95,115,97,99,107]
def ud:=sm #[115,97,99,107]
def n255:=sm #[103,114,97,105,110]
def Ja:=sm #[95,108,97,119,95,115,99,111,111,112]
def n257:=sm #[116,104,105,110,103,115]
def JZ:=sm #[95,108,97,119,95,111,110,101]
def WK:=sm #[116,117,114,110]
def JY:=sm #[95,108,97,119,95,119,105,100,101]
def JX:=sm #[95,108,97,119,95,98,105,116,115]
def JW:=sm #[95,108,97,119,95,110,117,109,98,101,114]
def n263:=sm #[111,119,110]
def JV:=sm #[95,108,97,119,95,105,115,95,102,111,114,95,97,108,108]
def JU:=sm #[95,108,97,119,95,105,115,95,109,97,110,121]
def JT:=sm #[95,108,97,119,95,105,115,95,108,111,111,112]
def JS:=sm #[95,108,97,119,95,105,115,95,119,114,111,110,103,95,115,111,117,114,99,101]
def Xz:=sm #[119,97,121]
def JR:=sm #[95,108,97,119,95,102,97,99,101,115]
def JQ:=sm #[95,108,97,119,95,97,115,107,101,100]
def n271:=sm #[101,110,117,109,101,114,97,116,101]
def JP:=sm #[95,108,97,119,95,114,111,97,100,115]
def Xy:=sm #[114,111,97,100,115]
def JO:=sm #[95,108,97,119,95,114,111,97,100]
def JN:=sm #[95,108,97,119,95,108,97,121,101,114]
def Xx:=sm #[119,111,114,100,115]
def JM:=sm #[95,108,97,119,95,112,97,114,116,115]
def n278:=sm #[114,111,97,100]
def JL:=sm #[95,108,97,119,95,115,101,110,116]
def n280:=sm #[115,101,110,116]
def JK:=sm #[95,108,97,119,95,99,111,109,101]
def JJ:=sm #[95,108,97,119,95,103,111,110,101]
def n283:=sm #[118,101,114,100,105,99,116,115]
def JI:=sm #[95,108,97,119,95,115,101,101,110]
def n285:=sm #[100,101,101,100]
def JH:=sm #[95,108,97,119,95,104,101,97,114,100]
def JG:=sm #[95,108,97,119,95,112,97,99,107,101,100]
def n288:=sm #[108,111,116]
def JF:=sm #[95,108,97,119,95,119,111,114,100,115]
def n290:=sm #[108,97,121,101,114]
def n291:=sm #[116,111,108,100]
def JE:=sm #[95,108,97,119,95,105,110,112,117,116,95,114,105,103,104,116]
def n293:=sm #[100,117,101]
def n294:=sm #[105,115,95,114,101,102,117,115,101,100]
def JD:=sm #[95,108,97,119,95,111,117,116,112,117,116,95,114,105,103,104,116]
def n296:=sm #[105,115,95,107,101,112,116]
def JC:=sm #[95,108,97,119,95,101,120,112,105,114,101,95,114,105,103,104,116]
def n298:=sm #[110,101,97,114]
def uc:=sm #[108,97,119]
def ql:=sm #[47,99,108,97,105,109,47,99,117,116,46,112,121]
def n301:=sm #[60,109,111,100,117,108,101,62]
def n302:=sm #[95,95,109,97,105,110,95,95]
def zT:=sm #[95,95,109,111,100,117,108,101,95,95]
def vM:=sm #[95,95,113,117,97,108,110,97,109,101,95,95]
def zS:=sm #[95,95,102,105,114,115,116,108,105,110,101,110,111,95,95]
def zR:=sm #[95,95,115,116,97,116,105,99,95,97,116,116,114,105,98,117,116,101,115,95,95]
def n307:=sm #[83,116,97,99,107,69,114,114,111,114,46,95,95,105,110,105,116,95,95]
def yL:=sm #[95,95,119,101,97,107,114,101,102,95,95]
def w5:=sm #[95,95,100,111,99,95,95]
def n310:=sm #[73,112,72,101,97,100,101,114,46,95,95,105,110,105,116,95,95]
def n311:=sm #[73,112,72,101,97,100,101,114,46,115,105,122,101]
def n312:=sm #[73,112,72,101,97,100,101,114,46,105,115,95,102,114,97,103,109,101,110,116]
def n313:=sm #[73,112,72,101,97,100,101,114,46,105,115,95,102,105,114,115,116]
def n314:=sm #[73,112,72,101,97,100,101,114,46,112,97,114,116]
def n315:=sm #[73,112,72,101,97,100,101,114,46,114,111,119]
def yi:=sm #[95,95,100,105,99,116,95,95]
def n317:=sm #[82,111,117,116,101,46,95,95,105,110,105,116,95,95]
def n318:=sm #[82,111,117,116,101,46,110,101,120,116,95,97,100,100,114,101,115,115]
def n319:=sm #[82,111,117,116,101,46,114,111,119]
def n320:=sm #[66,114,97,110,99,104,46,95,95,105,110,105,116,95,95]
def n321:=sm #[66,114,97,110,99,104,46,99,104,105,108,100]
def n322:=sm #[66,114,97,110,99,104,46,115,101,116,95,99,104,105,108,100]
def n323:=sm #[66,114,97,110,99,104,46,105,115,95,98,97,114,101]
def n324:=sm #[66,114,97,110,99,104,46,98,101,115,116]
def n325:=sm #[82,111,117,116,101,115,46,95,95,105,110,105,116,95,95]
def n326:=sm #[82,111,117,116,101,115,46,115,105,122,101]
def n327:=sm #[82,111,117,116,101,115,46,112,97,116,104]
def n328:=sm #[82,111,117,116,101,115,46,97,100,100]
def n329:=sm #[82,111,117,116,101,115,46,114,101,109,111,118,101]
def n330:=sm #[82,111,117,116,101,115,46,114,101,109,111,118,101,95,102,97,99,101]
def n331:=sm #[82,111,117,116,101,115,46,112,114,117,110,101]
def n332:=sm #[82,111,117,116,101,115,46,102,105,110,100]
def n333:=sm #[82,111,117,116,101,115,46,114,111,119,115]
def n334:=sm #[70,97,99,101,82,111,119,46,95,95,105,110,105,116,95,95]
def n335:=sm #[73,112,76,97,121,101,114,46,95,95,105,110,105,116,95,95]
def n336:=sm #[73,112,76,97,121,101,114,46,110,101,120,116,95,105,100,101,110,116]
def n337:=sm #[73,112,76,97,121,101,114,46,105,115,95,111,119,110]
def n338:=sm #[73,112,76,97,121,101,114,46,105,115,95,116,111,108,100,95,116,111,95,97,108,108]
def n339:=sm #[73,112,76,97,121,101,114,46,105,115,95,102,111,114,95,97,108,108]
def n340:=sm #[73,112,76,97,121,101,114,46,109,97,121,95,115,101,110,100]
def n341:=sm #[73,112,76,97,121,101,114,46,105,110,112,117,116]
def n342:=sm #[73,112,76,97,121,101,114,46,100,101,108,105,118,101,114]
def n343:=sm #[73,112,76,97,121,101,114,46,102,111,114,119,97,114,100]
def n344:=sm #[73,112,76,97,121,101,114,46,112,97,99,107,101,116,115]
def n345:=sm #[73,112,76,97,121,101,114,46,114,111,117,116,101,95,116,111]
def n346:=sm #[73,112,76,97,121,101,114,46,115,111,117,114,99,101,95,102,111,114]
def n347:=sm #[73,112,76,97,121,101,114,46,119,97,110,116,95,111,110,101,95,104,111,115,116]
def n348:=sm #[73,112,76,97,121,101,114,46,111,117,116,112,117,116]
def n349:=sm #[73,112,76,97,121,101,114,46,103,105,118,101,110,95,117,112]
def n350:=sm #[73,112,76,97,121,101,114,46,101,120,112,105,114,101]
def n351:=sm #[72,111,108,101,115,46,95,95,105,110,105,116,95,95]
def n352:=sm #[72,111,108,101,115,46,102,105,108,108]
def n353:=sm #[72,111,108,101,115,46,101,110,100,95,97,116]
def n354:=sm #[72,111,108,101,115,46,114,101,97,99,104]
def n355:=sm #[72,111,108,101,115,46,105,115,95,119,104,111,108,101]
def n356:=sm #[68,97,116,97,103,114,97,109,46,95,95,105,110,105,116,95,95]
def n357:=sm #[68,97,116,97,103,114,97,109,46,105,115,95,97,103,97,105,110,115,116]
def n358:=sm #[68,97,116,97,103,114,97,109,46,112,117,116]
def n359:=sm #[68,97,116,97,103,114,97,109,46,105,115,95,119,104,111,108,101]
def n360:=sm #[68,97,116,97,103,114,97,109,46,111,99,116,101,116,115]
def n361:=sm #[68,97,116,97,103,114,97,109,46,116,111,108,100,95,111,99,116,101,116,115]
def n362:=sm #[82,101,97,115,115,101,109,98,108,121,46,95,95,105,110,105,116,95,95]
def n363:=sm #[82,101,97,115,115,101,109,98,108,121,46,112,117,116]
def n364:=sm #[82,101,97,115,115,101,109,98,108,121,46,115,116,111,114,101,100]
def n365:=sm #[82,101,97,115,115,101,109,98,108,121,46,99,111,117,110,116]
def n366:=sm #[82,101,97,115,115,101,109,98,108,121,46,109,97,107,101,95,114,111,111,109]
def n367:=sm #[82,101,97,115,115,101,109,98,108,121,46,101,120,112,105,114,101]
def n368:=sm #[82,101,97,115,115,101,109,98,108,121,46,110,101,120,116,95,116,105,109,101]
def n369:=sm #[95,95,112,97,99,107,97,103,101,95,95]
def n370:=sm #[95,95,108,111,97,100,101,114,95,95]
def n371:=sm #[95,95,115,112,101,99,95,95]
def n372:=sm #[95,95,97,110,110,111,116,97,116,105,111,110,115,95,95]
def n373:=sm #[95,95,98,117,105,108,116,105,110,115,95,95]
def n374:=sm #[95,95,102,105,108,101,95,95]
def n375:=sm #[95,95,99,97,99,104,101,100,95,95]
def n376:=sm #[116,121,112,101,46,95,95,115,117,98,99,108,97,115,115,101,115,95,95,46,69,120,99,101,112,116,105,111,110,46,48]
def n377:=sm #[116,121,112,101,46,95,95,115,117,98,99,108,97,115,115,101,115,95,95,46,69,120,99,101,112,116,105,111,110,46,110]
section
open PySem.Str
theorem e0:ofString "k"=n0:=rfl
theorem e1:ofString "_wall"=n1:=rfl
theorem e2:ofString "__name__"=n2:=rfl
theorem e3:ofString "thinstack.errors"=n3:=rfl
theorem e4:ofString "self"=n4:=rfl
theorem e5:ofString "message"=n5:=rfl
theorem e6:ofString "__init__"=n6:=rfl
theorem e7:ofString "StackError"=n7:=rfl
theorem e8:ofString "Exception"=n8:=rfl
theorem e9:ofString "FormError"=n9:=rfl
theorem e10:ofString "SizeError"=n10:=rfl
theorem e11:ofString "RouteError"=n11:=rfl
theorem e12:ofString "thinstack.octets"=n12:=rfl
theorem e13:ofString "n"=n13:=rfl
theorem e14:ofString "bytes"=n14:=rfl
theorem e15:ofString "put16"=n15:=rfl
theorem e16:ofString "put32"=n16:=rfl
theorem e17:ofString "octets"=n17:=rfl
theorem e18:ofString "at"=n18:=rfl
theorem e19:ofString "size"=n19:=rfl
theorem e20:ofString "len"=n20:=rfl
theorem e21:ofString "too few octets"=n21:=rfl
theorem e22:ofString "need"=n22:=rfl
theorem e23:ofString "get16"=n23:=rfl
theorem e24:ofString "get32"=n24:=rfl
theorem e25:ofString "thinstack.sums"=n25:=rfl
theorem e26:ofString "ALL_ONES"=n26:=rfl
theorem e27:ofString "total"=n27:=rfl
theorem e28:ofString "fold"=n28:=rfl
theorem e29:ofString "begin"=n29:=rfl
theorem e30:ofString "even"=n30:=rfl
theorem e31:ofString "range"=n31:=rfl
theorem e32:ofString "ones_sum"=n32:=rfl
theorem e33:ofString "checksum"=n33:=rfl
theorem e34:ofString "thinstack.ip_header"=n34:=rfl
theorem e35:ofString "VERSION"=n35:=rfl
theorem e36:ofString "LEAST_HEAD"=n36:=rfl
theorem e37:ofString "MOST_HEAD"=n37:=rfl
theorem e38:ofString "MOST_TOTAL"=n38:=rfl
theorem e39:ofString "DONT_BIT"=n39:=rfl
theorem e40:ofString "MORE_BIT"=n40:=rfl
theorem e41:ofString "PLACE_BITS"=n41:=rfl
theorem e42:ofString "TTL_PLACE"=n42:=rfl
theorem e43:ofString "source"=n43:=rfl
theorem e44:ofString "target"=n44:=rfl
theorem e45:ofString "protocol"=n45:=rfl
theorem e46:ofString "ident"=n46:=rfl
theorem e47:ofString "ttl"=n47:=rfl
theorem e48:ofString "tos"=n48:=rfl
theorem e49:ofString "dont"=n49:=rfl
theorem e50:ofString "more"=n50:=rfl
theorem e51:ofString "offset"=n51:=rfl
theorem e52:ofString "options"=n52:=rfl
theorem e53:ofString "is_fragment"=n53:=rfl
theorem e54:ofString "is_first"=n54:=rfl
theorem e55:ofString "IpHeader"=n55:=rfl
theorem e56:ofString "part"=n56:=rfl
theorem e57:ofString "row"=n57:=rfl
theorem e58:ofString "number"=n58:=rfl
theorem e59:ofString "bits"=n59:=rfl
theorem e60:ofString "is_within"=n60:=rfl
theorem e61:ofString "header"=n61:=rfl
theorem e62:ofString "an address of more than 32 bits"=n62:=rfl
theorem e63:ofString "a number of more than eight bits in a head"=n63:=rfl
theorem e64:ofString "an ident of more than 16 bits"=n64:=rfl
theorem e65:ofString "an offset that no head can tell"=n65:=rfl
theorem e66:ofString "check_fields"=n66:=rfl
theorem e67:ofString "payload"=n67:=rfl
theorem e68:ofString "options that no head can hold"=n68:=rfl
theorem e69:ofString "a datagram of more than 65535 octets"=n69:=rfl
theorem e70:ofString "check_size"=n70:=rfl
theorem e71:ofString "found"=n71:=rfl
theorem e72:ofString "flags_of"=n72:=rfl
theorem e73:ofString "first"=n73:=rfl
theorem e74:ofString "second"=n74:=rfl
theorem e75:ofString "third"=n75:=rfl
theorem e76:ofString "behind"=n76:=rfl
theorem e77:ofString "check"=n77:=rfl
theorem e78:ofString "pack_ip"=n78:=rfl
theorem e79:ofString "a datagram that is too short"=n79:=rfl
theorem e80:ofString "a datagram of another version"=n80:=rfl
theorem e81:ofString "a head of a wrong size"=n81:=rfl
theorem e82:ofString "head_size"=n82:=rfl
theorem e83:ofString "a datagram of a wrong size"=n83:=rfl
theorem e84:ofString "a head with a wrong sum"=n84:=rfl
theorem e85:ofString "flags"=n85:=rfl
theorem e86:ofString "unpack_ip"=n86:=rfl
theorem e87:ofString "thinstack.ip_options"=n87:=rfl
theorem e88:ofString "END"=n88:=rfl
theorem e89:ofString "NOTHING"=n89:=rfl
theorem e90:ofString "MOST_OPTIONS"=n90:=rfl
theorem e91:ofString "COPY_BIT"=n91:=rfl
theorem e92:ofString "kind"=n92:=rfl
theorem e93:ofString "is_single"=n93:=rfl
theorem e94:ofString "append"=n94:=rfl
theorem e95:ofString "size_at"=n95:=rfl
theorem e96:ofString "read_options"=n96:=rfl
theorem e97:ofString "an option without its size"=n97:=rfl
theorem e98:ofString "an option of a wrong size"=n98:=rfl
theorem e99:ofString "option_octets"=n99:=rfl
theorem e100:ofString "write_options"=Jv:=rfl
theorem e101:ofString "an option of no kind"=n101:=rfl
theorem e102:ofString "an option of one octet with more"=n102:=rfl
theorem e103:ofString "an option that no head can hold"=n103:=rfl
theorem e104:ofString "is_copied"=Ju:=rfl
theorem e105:ofString ".0"=n105:=rfl
theorem e106:ofString "fast"=n106:=rfl
theorem e107:ofString "copied"=Jt:=rfl
theorem e108:ofString "thinstack.fragments"=n108:=rfl
theorem e109:ofString "STEP_fragments"=n109:=rfl
theorem e110:ofString "later_options"=Js:=rfl
theorem e111:ofString "part_header"=Jr:=rfl
theorem e112:ofString "mtu"=zG:=rfl
theorem e113:ofString "header_size"=n113:=rfl
theorem e114:ofString "room"=Jq:=rfl
theorem e115:ofString "no room for a fragment"=n115:=rfl
theorem e116:ofString "room_of"=Jp:=rfl
theorem e117:ofString "a datagram that must not be cut is too long"=n117:=rfl
theorem e118:ofString "later"=wl:=rfl
theorem e119:ofString "head"=ZI:=rfl
theorem e120:ofString "left"=Jo:=rfl
theorem e121:ofString "cut"=Jn:=rfl
theorem e122:ofString "thinstack.routes"=qM:=rfl
theorem e123:ofString "BITS"=n123:=rfl
theorem e124:ofString "ALL"=n124:=rfl
theorem e125:ofString "prefix"=w7:=rfl
theorem e126:ofString "a prefix from 0 to 32"=n126:=rfl
theorem e127:ofString "mask_of"=Jm:=rfl
theorem e128:ofString "address"=qd:=rfl
theorem e129:ofString "net_of"=Jl:=rfl
theorem e130:ofString "net"=vO:=rfl
theorem e131:ofString "is_broadcast"=Jk:=rfl
theorem e132:ofString "is_group"=Jj:=rfl
theorem e133:ofString "is_loop"=Ji:=rfl
theorem e134:ofString "gateway"=Wy:=rfl
theorem e135:ofString "face"=yZ:=rfl
theorem e136:ofString "metric"=n136:=rfl
theorem e137:ofString "next_address"=Wx:=rfl
theorem e138:ofString "Route"=Ww:=rfl
theorem e139:ofString "zero"=YH:=rfl
theorem e140:ofString "one"=yv:=rfl
theorem e141:ofString "routes"=ue:=rfl
theorem e142:ofString "bit"=Jh:=rfl
theorem e143:ofString "child"=ZH:=rfl
theorem e144:ofString "branch"=Wv:=rfl
theorem e145:ofString "set_child"=YG:=rfl
theorem e146:ofString "is_bare"=Wu:=rfl
theorem e147:ofString "route"=w6:=rfl
theorem e148:ofString "best"=Wt:=rfl
theorem e149:ofString "Branch"=Ws:=rfl
theorem e150:ofString "place"=ZG:=rfl
theorem e151:ofString "bit_at"=Jg:=rfl
theorem e152:ofString "root"=n152:=rfl
theorem e153:ofString "many"=wk:=rfl
theorem e154:ofString "makes"=n154:=rfl
theorem e155:ofString "path"=ZF:=rfl
theorem e156:ofString "a network with bits behind its prefix"=n156:=rfl
theorem e157:ofString "other"=n157:=rfl
theorem e158:ofString "add"=YF:=rfl
theorem e159:ofString "remove"=Wr:=rfl
theorem e160:ofString "remove_face"=Wq:=rfl
theorem e161:ofString "prune"=Wp:=rfl
theorem e162:ofString "find"=Wo:=rfl
theorem e163:ofString "pop"=n163:=rfl
theorem e164:ofString "rows"=v0:=rfl
theorem e165:ofString "Routes"=Wn:=rfl
theorem e166:ofString "thinstack.ip_layer"=zU:=rfl
theorem e167:ofString "ALL_HOSTS"=n167:=rfl
theorem e168:ofString "LEAST_TARGET"=n168:=rfl
theorem e169:ofString "UNREACHABLE"=n169:=rfl
theorem e170:ofString "EXCEEDED"=n170:=rfl
theorem e171:ofString "NO_NET"=n171:=rfl
theorem e172:ofString "TOO_GREAT"=n172:=rfl
theorem e173:ofString "IN_TRANSIT"=n173:=rfl
theorem e174:ofString "PUTTING_TOGETHER"=n174:=rfl
theorem e175:ofString "FaceRow"=Wm:=rfl
theorem e176:ofString "header_like"=Jf:=rfl
theorem e177:ofString "faces"=xL:=rfl
theorem e178:ofString "reassembly"=n178:=rfl
theorem e179:ofString "forwards"=YE:=rfl
theorem e180:ofString "last_ident"=n180:=rfl
theorem e181:ofString "next_ident"=Wl:=rfl
theorem e182:ofString "is_own"=Wk:=rfl
theorem e183:ofString "is_told_to_all"=Wj:=rfl
theorem e184:ofString "any"=n184:=rfl
theorem e185:ofString "is_for_all"=Wi:=rfl
theorem e186:ofString "may_send"=Wh:=rfl
theorem e187:ofString "now"=X3:=rfl
theorem e188:ofString "to_all"=n188:=rfl
theorem e189:ofString "deliver"=Wg:=rfl
theorem e190:ofString "forward"=Wf:=rfl
theorem e191:ofString "input"=YD:=rfl
theorem e192:ofString "local"=We:=rfl
theorem e193:ofString "whole"=n193:=rfl
theorem e194:ofString "put"=vz:=rfl
theorem e195:ofString "tell"=n195:=rfl
theorem e196:ofString "packets"=Wd:=rfl
theorem e197:ofString "is_near"=n197:=rfl
theorem e198:ofString "out"=Wc:=rfl
theorem e199:ofString "no route to "=n199:=rfl
theorem e200:ofString "str"=n200:=rfl
theorem e201:ofString "route_to"=Wb:=rfl
theorem e202:ofString "source_for"=Wa:=rfl
theorem e203:ofString "no one host"=n203:=rfl
theorem e204:ofString "want_one_host"=WZ:=rfl
theorem e205:ofString "output"=WY:=rfl
theorem e206:ofString "given_up"=WX:=rfl
theorem e207:ofString "expire"=vt:=rfl
theorem e208:ofString "IpLayer"=YC:=rfl
theorem e209:ofString "thinstack.reassembly"=qX:=rfl
theorem e210:ofString "STEP_reassembly"=n210:=rfl
theorem e211:ofString "TOLD"=n211:=rfl
theorem e212:ofString "most"=vN:=rfl
theorem e213:ofString "end"=YB:=rfl
theorem e214:ofString "low"=n214:=rfl
theorem e215:ofString "high"=n215:=rfl
theorem e216:ofString "max"=n216:=rfl
theorem e217:ofString "last"=n217:=rfl
theorem e218:ofString "min"=n218:=rfl
theorem e219:ofString "fill"=WW:=rfl
theorem e220:ofString "end_at"=WV:=rfl
theorem e221:ofString "reach"=WU:=rfl
theorem e222:ofString "is_whole"=vr:=rfl
theorem e223:ofString "Holes"=WT:=rfl
theorem e224:ofString "began"=n224:=rfl
theorem e225:ofString "holes"=n225:=rfl
theorem e226:ofString "parts"=n226:=rfl
theorem e227:ofString "ahead"=n227:=rfl
theorem e228:ofString "is_against"=WS:=rfl
theorem e229:ofString "join"=n229:=rfl
theorem e230:ofString "sorted"=n230:=rfl
theorem e231:ofString "told_octets"=WR:=rfl
theorem e232:ofString "Datagram"=WQ:=rfl
theorem e233:ofString "whole_header"=Je:=rfl
theorem e234:ofString "key_of"=Jd:=rfl
theorem e235:ofString "is_bad_piece"=Jc:=rfl
theorem e236:ofString "time_limit"=X2:=rfl
theorem e237:ofString "most_octets"=X0:=rfl
theorem e238:ofString "waiting"=n238:=rfl
theorem e239:ofString "key"=n239:=rfl
theorem e240:ofString "is_too_great"=n240:=rfl
theorem e241:ofString "make_room"=WP:=rfl
theorem e242:ofString "sum"=n242:=rfl
theorem e243:ofString "stored"=WO:=rfl
theorem e244:ofString "count"=WN:=rfl
theorem e245:ofString "list"=n245:=rfl
theorem e246:ofString "old"=n246:=rfl
theorem e247:ofString "next_time"=WM:=rfl
theorem e248:ofString "Reassembly"=WL:=rfl
theorem e249:ofString "law_sf0051_01"=qm:=rfl
theorem e250:ofString "script"=n250:=rfl
theorem e251:ofString "grist"=n251:=rfl
theorem e252:ofString "bulk"=n252:=rfl
theorem e253:ofString "_law_sack"=Jb:=rfl
theorem e254:ofString "sack"=ud:=rfl
theorem e255:ofString "grain"=n255:=rfl
theorem e256:ofString "_law_scoop"=Ja:=rfl
theorem e257:ofString "things"=n257:=rfl
theorem e258:ofString "_law_one"=JZ:=rfl
theorem e259:ofString "turn"=WK:=rfl
theorem e260:ofString "_law_wide"=JY:=rfl
theorem e261:ofString "_law_bits"=JX:=rfl
theorem e262:ofString "_law_number"=JW:=rfl
theorem e263:ofString "own"=n263:=rfl
theorem e264:ofString "_law_is_for_all"=JV:=rfl
theorem e265:ofString "_law_is_many"=JU:=rfl
theorem e266:ofString "_law_is_loop"=JT:=rfl
theorem e267:ofString "_law_is_wrong_source"=JS:=rfl
theorem e268:ofString "way"=Xz:=rfl
theorem e269:ofString "_law_faces"=JR:=rfl
theorem e270:ofString "_law_asked"=JQ:=rfl
theorem e271:ofString "enumerate"=n271:=rfl
theorem e272:ofString "_law_roads"=JP:=rfl
theorem e273:ofString "roads"=Xy:=rfl
theorem e274:ofString "_law_road"=JO:=rfl
theorem e275:ofString "_law_layer"=JN:=rfl
theorem e276:ofString "words"=Xx:=rfl
theorem e277:ofString "_law_parts"=JM:=rfl
theorem e278:ofString "road"=n278:=rfl
theorem e279:ofString "_law_sent"=JL:=rfl
theorem e280:ofString "sent"=n280:=rfl
theorem e281:ofString "_law_come"=JK:=rfl
theorem e282:ofString "_law_gone"=JJ:=rfl
theorem e283:ofString "verdicts"=n283:=rfl
theorem e284:ofString "_law_seen"=JI:=rfl
theorem e285:ofString "deed"=n285:=rfl
theorem e286:ofString "_law_heard"=JH:=rfl
theorem e287:ofString "_law_packed"=JG:=rfl
theorem e288:ofString "lot"=n288:=rfl
theorem e289:ofString "_law_words"=JF:=rfl
theorem e290:ofString "layer"=n290:=rfl
theorem e291:ofString "told"=n291:=rfl
theorem e292:ofString "_law_input_right"=JE:=rfl
theorem e293:ofString "due"=n293:=rfl
theorem e294:ofString "is_refused"=n294:=rfl
theorem e295:ofString "_law_output_right"=JD:=rfl
theorem e296:ofString "is_kept"=n296:=rfl
theorem e297:ofString "_law_expire_right"=JC:=rfl
theorem e298:ofString "near"=n298:=rfl
theorem e299:ofString "law"=uc:=rfl
theorem e300:ofString "/claim/cut.py"=ql:=rfl
theorem e301:ofString "<module>"=n301:=rfl
theorem e302:ofString "__main__"=n302:=rfl
theorem e303:ofString "__module__"=zT:=rfl
theorem e304:ofString "__qualname__"=vM:=rfl
theorem e305:ofString "__firstlineno__"=zS:=rfl
theorem e306:ofString "__static_attributes__"=zR:=rfl
theorem e307:ofString "StackError.__init__"=n307:=rfl
theorem e308:ofString "__weakref__"=yL:=rfl
theorem e309:ofString "__doc__"=w5:=rfl
theorem e310:ofString "IpHeader.__init__"=n310:=rfl
theorem e311:ofString "IpHeader.size"=n311:=rfl
theorem e312:ofString "IpHeader.is_fragment"=n312:=rfl
theorem e313:ofString "IpHeader.is_first"=n313:=rfl
theorem e314:ofString "IpHeader.part"=n314:=rfl
theorem e315:ofString "IpHeader.row"=n315:=rfl
theorem e316:ofString "__dict__"=yi:=rfl
theorem e317:ofString "Route.__init__"=n317:=rfl
theorem e318:ofString "Route.next_address"=n318:=rfl
theorem e319:ofString "Route.row"=n319:=rfl
theorem e320:ofString "Branch.__init__"=n320:=rfl
theorem e321:ofString "Branch.child"=n321:=rfl
theorem e322:ofString "Branch.set_child"=n322:=rfl
theorem e323:ofString "Branch.is_bare"=n323:=rfl
theorem e324:ofString "Branch.best"=n324:=rfl
theorem e325:ofString "Routes.__init__"=n325:=rfl
theorem e326:ofString "Routes.size"=n326:=rfl
theorem e327:ofString "Routes.path"=n327:=rfl
theorem e328:ofString "Routes.add"=n328:=rfl
theorem e329:ofString "Routes.remove"=n329:=rfl
theorem e330:ofString "Routes.remove_face"=n330:=rfl
theorem e331:ofString "Routes.prune"=n331:=rfl
theorem e332:ofString "Routes.find"=n332:=rfl
theorem e333:ofString "Routes.rows"=n333:=rfl
theorem e334:ofString "FaceRow.__init__"=n334:=rfl
theorem e335:ofString "IpLayer.__init__"=n335:=rfl
theorem e336:ofString "IpLayer.next_ident"=n336:=rfl
theorem e337:ofString "IpLayer.is_own"=n337:=rfl
theorem e338:ofString "IpLayer.is_told_to_all"=n338:=rfl
theorem e339:ofString "IpLayer.is_for_all"=n339:=rfl
theorem e340:ofString "IpLayer.may_send"=n340:=rfl
theorem e341:ofString "IpLayer.input"=n341:=rfl
theorem e342:ofString "IpLayer.deliver"=n342:=rfl
theorem e343:ofString "IpLayer.forward"=n343:=rfl
theorem e344:ofString "IpLayer.packets"=n344:=rfl
theorem e345:ofString "IpLayer.route_to"=n345:=rfl
theorem e346:ofString "IpLayer.source_for"=n346:=rfl
theorem e347:ofString "IpLayer.want_one_host"=n347:=rfl
theorem e348:ofString "IpLayer.output"=n348:=rfl
theorem e349:ofString "IpLayer.given_up"=n349:=rfl
theorem e350:ofString "IpLayer.expire"=n350:=rfl
theorem e351:ofString "Holes.__init__"=n351:=rfl
theorem e352:ofString "Holes.fill"=n352:=rfl
theorem e353:ofString "Holes.end_at"=n353:=rfl
theorem e354:ofString "Holes.reach"=n354:=rfl
theorem e355:ofString "Holes.is_whole"=n355:=rfl
theorem e356:ofString "Datagram.__init__"=n356:=rfl
theorem e357:ofString "Datagram.is_against"=n357:=rfl
theorem e358:ofString "Datagram.put"=n358:=rfl
theorem e359:ofString "Datagram.is_whole"=n359:=rfl
theorem e360:ofString "Datagram.octets"=n360:=rfl
theorem e361:ofString "Datagram.told_octets"=n361:=rfl
theorem e362:ofString "Reassembly.__init__"=n362:=rfl
theorem e363:ofString "Reassembly.put"=n363:=rfl
theorem e364:ofString "Reassembly.stored"=n364:=rfl
theorem e365:ofString "Reassembly.count"=n365:=rfl
theorem e366:ofString "Reassembly.make_room"=n366:=rfl
theorem e367:ofString "Reassembly.expire"=n367:=rfl
theorem e368:ofString "Reassembly.next_time"=n368:=rfl
theorem e369:ofString "__package__"=n369:=rfl
theorem e370:ofString "__loader__"=n370:=rfl
theorem e371:ofString "__spec__"=n371:=rfl
theorem e372:ofString "__annotations__"=n372:=rfl
theorem e373:ofString "__builtins__"=n373:=rfl
theorem e374:ofString "__file__"=n374:=rfl
theorem e375:ofString "__cached__"=n375:=rfl
theorem e376:ofString "type.__subclasses__.Exception.0"=n376:=rfl
theorem e377:ofString "type.__subclasses__.Exception.n"=n377:=rfl
end
def kst(q:Program)(_:True):Program:=q
noncomputable def pwn:Program:=by
 refine kst ?q ?t
 rotate_left
 ·as_aux_lemma=>
   have e:PySem.Challenge.pw_sf0051_01=?q:=by
    dsimp only[PySem.Challenge.pw_sf0051_01,e0,e1,e2,e3,e4,e5,e6,e7,e8,e9,e10,e11,e12,e13,e14,e15,e16,e17,e18,e19,e20,e21,e22,e23,e24,e25,e26,e27,e28,e29,e30,e31,e32,e33,e34,e35,e36,e37,e38,e39,e40,e41,e42,e43,e44,e45,e46,e47,e48,e49,e50,e51,e52,e53,e54,e55,e56,e57,e58,e59,e60,e61,e62,e63,e64,e65,e66,e67,e68,e69,e70,e71,e72,e73,e74,e75,e76,e77,e78,e79,e80,e81,e82,e83,e84,e85,e86,e87,e88,e89,e90,e91,e92,e93,e94,e95,e96,e97,e98,e99,e100,e101,e102,e103,e104,e105,e106,e107,e108,e109,e110,e111,e112,e113,e114,e115,e116,e117,e118,e119,e120,e121,e122,e123,e124,e125,e126,e127,e128,e129,e130,e131,e132,e133,e134,e135,e136,e137,e138,e139,e140,e141,e142,e143,e144,e145,e146,e147,e148,e149,e150,e151,e152,e153,e154,e155,e156,e157,e158,e159,e160,e161,e162,e163,e164,e165,e166,e167,e168,e169,e170,e171,e172,e173,e174,e175,e176,e177,e178,e179,e180,e181,e182,e183,e184,e185,e186,e187,e188,e189,e190,e191,e192,e193,e194,e195,e196,e197,e198,e199,e200,e201,e202,e203,e204,e205,e206,e207,e208,e209,e210,e211,e212,e213,e214,e215,e216,e217,e218,e219,e220,e221,e222,e223,e224,e225,e226,e227,e228,e229,e230,e231,e232,e233,e234,e235,e236,e237,e238,e239,e240,e241,e242,e243,e244,e245,e246,e247,e248,e249,e250,e251,e252,e253,e254,e255,e256,e257,e258,e259,e260,e261,e262,e263,e264,e265,e266,e267,e268,e269,e270,e271,e272,e273,e274,e275,e276,e277,e278,e279,e280,e281,e282,e283,e284,e285,e286,e287,e288,e289,e290,e291,e292,e293,e294,e295,e296,e297,e298,e299,e300,e301,e302,e303,e304,e305,e306,e307,e308,e309,e310,e311,e312,e313,e314,e315,e316,e317,e318,e319,e320,e321,e322,e323,e324,e325,e326,e327,e328,e329,e330,e331,e332,e333,e334,e335,e336,e337,e338,e339,e340,e341,e342,e343,e344,e345,e346,e347,e348,e349,e350,e351,e352,e353,e354,e355,e356,e357,e358,e359,e360,e361,e362,e363,e364,e365,e366,e367,e368,e369,e370,e371,e372,e373,e374,e375,e376,e377];exact rfl
   exact trivial
theorem pw_eq:PySem.Challenge.pw_sf0051_01=pwn:=by kernel_rfl
noncomputable abbrev q0:String:=SL.s10062305145149207511x16
noncomputable abbrev q1:String:=SL.s10220274742760427390x26
noncomputable abbrev q2:String:=SL.s11030030927630378310x26
noncomputable abbrev q3:String:=SL.s11443829558043349243x14
noncomputable abbrev q4:String:=SL.s12411053484034534018x21
noncomputable abbrev q5:String:=SL.s14018661285674007319x4
noncomputable abbrev q6:String:=SL.s14755015743595814543x17
noncomputable abbrev q7:String:=SL.s17162191345867700912x4
noncomputable abbrev q8:String:=SL.s2742458400755230247x6
noncomputable abbrev q9:String:=SL.s2766695959194262286x5
noncomputable abbrev q10:String:=SL.s4278001404047624695x13
noncomputable abbrev q11:String:=SL.s4290257624100764138x5
noncomputable abbrev q12:String:=SL.s4860613602091757760x24
noncomputable abbrev q13:String:=SL.s5160863994218179198x17
noncomputable abbrev q14:String:=SL.s5856160107412720595x4
noncomputable abbrev q15:String:=SL.s5946037652744460706x9
noncomputable abbrev q16:String:=SL.s6511155373996960695x17
noncomputable abbrev q17:String:=SL.s658472552662922059x5
noncomputable abbrev q18:String:=SL.s7097527257260152453x26
noncomputable abbrev q19:String:=SL.s7174869446012820540x8
noncomputable def de (P:Params) (s:Str) (t:Nat) (v:Value):DictEntry:=⟨PyData.keyHash P s,.str s t,v⟩
noncomputable def nth:List Stmt->Nat->Stmt
 | [],_=>.Pass ⟨0,0,0,0⟩
 | x::_,0=>x
 | _::r,n+1=>nth r n
noncomputable def qY:Stmt->Arguments
 | .FunctionDef _ a _ _ _ _ _ _ _ _=>a
 | _=>⟨[],[],none,[],[],none,[]⟩
noncomputable def wP:Stmt->List Stmt
 | .FunctionDef _ _ b _ _ _ _ _ _ _=>b
 | .ClassDef _ _ _ b _ _ _ _ _ _ _=>b
 | _=>[]
noncomputable def je:Stmt->Scope
 | .FunctionDef _ _ _ _ _ _ c _ _ _=>c
 | .ClassDef _ _ _ _ _ _ c _ _ _ _=>c
 | _=>⟨.function,[],false,false,[]⟩
noncomputable def st (i:Nat):Stmt:=nth pwn.main.body i
noncomputable def mt (i j:Nat):Stmt:=nth (wP (st i)) j
noncomputable def fo (cls:Value) (n q:Str) (s:Stmt) (gl:Nat) (dV kV doc pm cd ct:Value) (bl:Nat):Obj:={ cls:=cls,data:=.func { name:=n,qualname:=q,params:=qY s,body:=.stmts (wP s),scope:=je s,globals:=gl,closure:=[],defaults:=dV,kwdefaults:=kV,doc:=doc,pyModule:=pm,annotations:=.none,code:=cd,closureTuple:=ct,builtins:=bl } }
noncomputable abbrev ko (n:Str) (t:Nat) (q:Str) (t1 t2:Nat) (l a b c:Int) (r:Nat) (w:Bool) (f:Int) (r2 r3 r4 r5:Nat) (x m:Int) (t3:Nat):Obj:=⟨.type q14,.none,.fields #[.str n t,.str q t1,.str ql t2,.int l 0,.int a 0,.int 0 0,.int b 0,.int c 0,.ref r,.bool w,.int f 0,.ref r2,.none,.ref r3,.ref r4,.ref r5,.int x 0,.int m 0,.str ql t3],#[]⟩
noncomputable abbrev jq (q:String) (a:Array Value) (n:Nat):Obj:=⟨.type q,.none,.seq a n,#[]⟩
noncomputable abbrev kq (q:String) (a:Array Value):Obj:=⟨.type q,.none,.fields a,#[]⟩
noncomputable abbrev zq:Obj:=⟨.none,.none,.fields #[],#[]⟩
noncomputable abbrev fz (n q:Str) (s:Stmt):Obj:=fo (.none) n q s 0 (.none) (.none) (.none) (.none) (.none) (.none) 0
noncomputable abbrev fy (n q:Str) (s:Stmt) (d c:Value):Obj:=fo (.type q19) n q s 3 (.none) (.none) (.none) d c (.none) 0
noncomputable abbrev cz (n:Str) (a b c d:Nat):Obj:=⟨.type q7,.none,.cls { name:=n,bases:=[.type q8],mro:=[.ref a,.type q8],ns:=b,qualname:=n,hasDict:=true,slotNames:=[],subclasses:=[],abstract:=false,collection:=.none,hasDel:=false },#[.none,.none,.some (.str n c),.some (.str n d),.some (.builtin q3),.some (.bool true)]⟩
noncomputable abbrev dz (a:Array DictEntry) (n:Nat):Obj:=⟨.type q5,.none,.dict a n,#[]⟩
noncomputable abbrev kz (n:Str) (a b c:Nat) (l:Int) (r s:Nat) (d:Int) (e:Nat):Obj:=kq q14 #[.str n a,.str n b,.str ql c,.int l 0,.int 0 0,.int 0 0,.int 0 0,.int 0 0,.ref r,.bool false,.int 181 0,.ref s,.none,.none,.none,.none,.int d 0,.int l 0,.str ql e]
noncomputable abbrev dr (P:Params) (x:Str) (t a:Nat):DictEntry:=de P x t (.ref a)
noncomputable abbrev gv (l:List Value):Obj:=⟨.type q7,.none,.cls { name:=n7,bases:=[.type q15],mro:=[.ref 38,.type q15,.type q10,.type q8],ns:=37,qualname:=n7,hasDict:=true,slotNames:=[],subclasses:=l,abstract:=false,collection:=.none,hasDel:=false },#[.some (.ref 22),.none,.some (.str n7 196),.some (.str n7 204),.some (.builtin q13),.some (.bool true)]⟩
noncomputable abbrev dv (l:List DictEntry) (n:Nat):Obj:=⟨.type q5,.none,.dict (l.take n).toArray n,#[]⟩
noncomputable abbrev fv (l:List Value):Obj:=⟨.none,.none,.fields l.toArray,#[]⟩
noncomputable abbrev dn (a:Array DictEntry) (n:Nat):Obj:=⟨.none,.none,.dict a n,#[]⟩
noncomputable abbrev pz (a b:Nat) (n:Str) (t:Nat):Obj:=⟨.type q17,.none,.plain,#[.some (.ref a),.some (.ref 3),.some (.ref b),.none,.some (.str n t),.none,.some (.ref 0)]⟩
noncomputable abbrev fY (n q:Str) (s:Stmt) (m:Str) (t c:Nat):Obj:=fy n q s (.str m t) (.ref c)
noncomputable abbrev kk (n:Str) (t:Nat) (q:Str) (t1 t2:Nat) (l a b c:Int) (r:Nat) (x m:Int) (t3:Nat):Obj:=ko n t q t1 t2 l a b c r true 181 (r+1) (r+2) (r+3) (r+4) x m t3
noncomputable def tri:List (Int×Nat)->List Value
  | []=>[]
  | (a,r)::t=>.int a 0::.int 4 0::.ref r::tri t
noncomputable abbrev ftr (l:List (Int×Nat)):Obj:=⟨.none,.none,.fields (tri l).toArray,#[]⟩
def o11:=jq q9 #[] 0
def o13:=kz n301 182 183 184 1 11 12 185 186
def o14:=pz 13 3 n302 164
def o16:=zq
def o17:=jq q9 #[.str n0 190] 0
def o19:=fz n1 n1 (st 0)
def o20:=ko n1 187 n1 188 189 1 1 0 3 15 true 181 16 17 18 19 191 1 192
def o21:=fY n1 n1 (st 0) n302 164 20
def o22:=jq q9 #[.type q15] 0
def o23:=kq q2 #[.builtin q0,.type q7]
def o24(P:Params):=dz #[de P zT 203 (.str n3 194),de P vM 205 (.str n7 204),de P zS 207 (.int 5 206),dr P n6 215 35,dr P zR 217 36] 5
def o26:=ftr [(7,34)]
def o27:=kz n7 198 199 200 5 25 26 201 202
def o28:=pz 27 24 n3 194
def o31:=jq q9 #[.str n4 211,.str n5 212] 0
def o33:=fz n6 n307 (mt 2 0)
def o34:=ko n6 208 n307 209 210 7 2 0 3 29 true 181 30 31 32 33 213 7 214
def o35:=fY n6 n307 (mt 2 0) n3 194 34
def o36:=jq q9 #[.str n5 216] 0
def o37(P:Params):=dz #[de P zT 203 (.str n3 194),de P zS 207 (.int 5 206),dr P n6 215 35,dr P zR 217 36,dr P yL 219 39,de P w5 220 (.none)] 3
def o39:=kq q6 #[.str yL 218,.ref 38,.builtin q1,.none]
def o40:=kq q11 #[.ref 38,.ref 38,.ref 38]
def o41:=kq q2 #[.builtin q12,.ref 38]
def o42:=jq q9 #[.ref 38] 0
def o44(P:Params):=dz #[de P zT 232 (.str n3 194),de P vM 234 (.str n9 233),de P zS 236 (.int 9 235),dr P zR 237 49] 4
def o47:=kz n9 227 228 229 9 45 46 230 231
def o48:=pz 47 44 n3 194
def o50(P:Params):=dz #[de P zT 232 (.str n3 194),de P zS 236 (.int 9 235),dr P zR 237 49,de P w5 238 (.none)] 2
noncomputable def o51:Obj:=⟨.type q7,.none,.cls { name:=n9,bases:=[.ref 38],mro:=[.ref 51,.ref 38,.type q15,.type q10,.type q8],ns:=50,qualname:=n9,hasDict:=true,slotNames:=[],subclasses:=[],abstract:=false,collection:=.none,hasDel:=false },#[.some (.ref 42),.none,.some (.str n9 225),.some (.str n9 233),.some (.builtin q13),.some (.bool true)]⟩
def o52:=kq q11 #[.ref 51,.ref 51,.ref 51]
def o53:=kq q2 #[.builtin q12,.ref 51]
def o56(P:Params):=dz #[de P zT 248 (.str n3 194),de P vM 250 (.str n10 249),de P zS 252 (.int 11 251),dr P zR 253 61] 4
def o59:=kz n10 243 244 245 11 57 58 246 247
def o60:=pz 59 56 n3 194
def o62(P:Params):=dz #[de P zT 248 (.str n3 194),de P zS 252 (.int 11 251),dr P zR 253 61,de P w5 254 (.none)] 2
noncomputable def o63:Obj:=⟨.type q7,.none,.cls { name:=n10,bases:=[.ref 38],mro:=[.ref 63,.ref 38,.type q15,.type q10,.type q8],ns:=62,qualname:=n10,hasDict:=true,slotNames:=[],subclasses:=[],abstract:=false,collection:=.none,hasDel:=false },#[.some (.ref 54),.none,.some (.str n10 241),.some (.str n10 249),.some (.builtin q13),.some (.bool true)]⟩
def o64:=kq q11 #[.ref 63,.ref 63,.ref 63]
def o65:=kq q2 #[.builtin q12,.ref 63]
def o68(P:Params):=dz #[de P zT 264 (.str n3 194),de P vM 266 (.str n11 265),de P zS 268 (.int 13 267),dr P zR 269 73] 4
def o71:=kz n11 259 260 261 13 69 70 262 263
def o72:=pz 71 68 n3 194
def o74(P:Params):=dz #[de P zT 264 (.str n3 194),de P zS 268 (.int 13 267),dr P zR 269 73,de P w5 270 (.none)] 2
noncomputable def o75:Obj:=⟨.type q7,.none,.cls { name:=n11,bases:=[.ref 38],mro:=[.ref 75,.ref 38,.type q15,.type q10,.type q8],ns:=74,qualname:=n11,hasDict:=true,slotNames:=[],subclasses:=[],abstract:=false,collection:=.none,hasDel:=false },#[.some (.ref 66),.none,.some (.str n11 257),.some (.str n11 265),.some (.builtin q13),.some (.bool true)]⟩
def o76:=kq q11 #[.ref 75,.ref 75,.ref 75]
def o77:=kq q2 #[.builtin q12,.ref 75]
def o80:=jq q9 #[.str n13 278] 0
def o82:=fz n15 n15 (st 7)
def o83:=ko n15 275 n15 276 277 16 1 0 3 78 true 181 79 80 81 82 279 16 280
def o84:=fY n15 n15 (st 7) n12 273 83
def o87:=jq q9 #[.str n13 285] 0
def o89:=fz n16 n16 (st 8)
def o90:=ko n16 282 n16 283 284 18 1 0 3 85 true 181 86 87 88 89 286 18 287
def o91:=fY n16 n16 (st 8) n12 273 90
def o94:=jq q9 #[.str n17 292,.str n18 293,.str n19 294] 0
def o96:=fz n22 n22 (st 9)
def o97:=ko n22 289 n22 290 291 20 3 0 3 92 true 181 93 94 95 96 295 20 296
def o98:=fY n22 n22 (st 9) n12 273 97
def o101:=jq q9 #[.str n17 301,.str n18 302] 0
def o103:=fz n23 n23 (st 10)
def o104:=ko n23 298 n23 299 300 23 2 0 3 99 true 181 100 101 102 103 303 23 304
def o105:=fY n23 n23 (st 10) n12 273 104
def o108:=jq q9 #[.str n17 309,.str n18 310] 0
def o110:=fz n24 n24 (st 11)
def o111:=ko n24 306 n24 307 308 26 2 0 3 106 true 181 107 108 109 110 311 26 312
def o112:=fY n24 n24 (st 11) n12 273 111
def o115:=jq q9 #[.str n27 321] 0
def o117:=fz n28 n28 (st 14)
def o118:=ko n28 318 n28 319 320 31 1 0 3 113 true 181 114 115 116 117 322 31 323
def o119:=fY n28 n28 (st 14) n25 314 118
def o120:=jq q9 #[.int 0 325] 0
def o123:=jq q9 #[.str n17 329,.str n29 330,.str n27 331,.str n30 332,.str n18 333] 0
def o125:=fz n32 n32 (st 15)
def o126:=ko n32 326 n32 327 328 35 2 0 3 121 true 181 122 123 124 125 334 35 335
noncomputable def o127:Obj:=fo (.type q19) n32 n32 (st 15) 3 (.ref 120) (.none) (.none) (.str n25 314) (.ref 126) (.none) 0
def o128:=jq q9 #[.int 0 337] 0
def o131:=jq q9 #[.str n17 341,.str n29 342] 0
def o133:=fz n33 n33 (st 16)
def o134:=ko n33 338 n33 339 340 43 2 0 3 129 true 181 130 131 132 133 343 43 344
noncomputable def o135:Obj:=fo (.type q19) n33 n33 (st 16) 3 (.ref 128) (.none) (.none) (.str n25 314) (.ref 134) (.none) 0
def o138(P:Params):=dz #[de P zT 371 (.str n34 346),de P vM 373 (.str n55 372),de P zS 375 (.int 54 374),dr P n6 397 150,dr P n19 404 157,dr P n53 411 164,dr P n54 418 171,dr P n56 428 178,dr P n57 435 185,dr P zR 446 186] 10
def o140:=ftr [(56,149),(68,156),(71,163),(74,170),(77,177),(80,184)]
def o141:=kz n55 366 367 368 54 139 140 369 370
def o142:=pz 141 138 n34 346
def o143:=jq q9 #[.int 0 376,.int 64 377,.int 0 378,.bool false,.bool false,.int 0 379,.bytes #[] 380] 0
def o146:=jq q9 #[.str n4 384,.str n43 385,.str n44 386,.str n45 387,.str n46 388,.str n47 389,.str n48 390,.str n49 391,.str n50 392,.str n51 393,.str n52 394] 0
def o148:=fz n6 n310 (mt 26 0)
def o149:=ko n6 381 n310 382 383 56 11 0 3 144 true 181 145 146 147 148 395 56 396
noncomputable def o150:Obj:=fo (.type q19) n6 n310 (mt 26 0) 3 (.ref 143) (.none) (.none) (.str n34 346) (.ref 149) (.none) 0
def o153:=jq q9 #[.str n4 401] 0
def o155:=fz n19 n311 (mt 26 1)
def o156:=ko n19 398 n311 399 400 68 1 0 3 151 true 181 152 153 154 155 402 68 403
def o157:=fY n19 n311 (mt 26 1) n34 346 156
def o160:=jq q9 #[.str n4 408] 0
def o162:=fz n53 n312 (mt 26 2)
def o163:=ko n53 405 n312 406 407 71 1 0 3 158 true 181 159 160 161 162 409 71 410
def o164:=fY n53 n312 (mt 26 2) n34 346 163
def o167:=jq q9 #[.str n4 415] 0
def o169:=fz n54 n313 (mt 26 3)
def o170:=ko n54 412 n313 413 414 74 1 0 3 165 true 181 166 167 168 169 416 74 417
def o171:=fY n54 n313 (mt 26 3) n34 346 170
def o174:=jq q9 #[.str n4 422,.str n50 423,.str n51 424,.str n52 425] 0
def o176:=fz n56 n314 (mt 26 4)
def o177:=ko n56 419 n314 420 421 77 4 0 3 172 true 181 173 174 175 176 426 77 427
def o178:=fY n56 n314 (mt 26 4) n34 346 177
def o181:=jq q9 #[.str n4 432] 0
def o183:=fz n57 n315 (mt 26 5)
def o184:=ko n57 429 n315 430 431 80 1 0 3 179 true 181 180 181 182 183 433 80 434
def o185:=fY n57 n315 (mt 26 5) n34 346 184
def o186:=jq q9 #[.str n49 436,.str n46 437,.str n50 438,.str n51 439,.str n52 440,.str n45 441,.str n43 442,.str n44 443,.str n48 444,.str n47 445] 0
def o187(P:Params):=dz #[de P zT 371 (.str n34 346),de P zS 375 (.int 54 374),dr P n6 397 150,dr P n19 404 157,dr P n53 411 164,dr P n54 418 171,dr P n56 428 178,dr P n57 435 185,dr P zR 446 186,dr P yi 448 189,dr P yL 450 190,de P w5 451 (.none)] 4
def o188:=cz n55 188 187 364 372
def o189:=kq q6 #[.str yi 447,.ref 188,.builtin q16,.builtin q4]
def o190:=kq q6 #[.str yL 449,.ref 188,.builtin q1,.none]
def o191:=kq q11 #[.ref 188,.ref 188,.ref 188]
def o192:=kq q2 #[.builtin q12,.ref 188]
def o195:=jq q9 #[.str n58 457,.str n59 458] 0
def o197:=fz n60 n60 (st 27)
def o198:=ko n60 454 n60 455 456 82 2 0 3 193 true 181 194 195 196 197 459 82 460
def o199:=fY n60 n60 (st 27) n34 346 198
def o202:=jq q9 #[.str n61 465,.str n58 466] 0
def o204:=fz n66 n66 (st 28)
def o205:=ko n66 462 n66 463 464 84 1 0 3 200 true 181 201 202 203 204 467 84 468
def o206:=fY n66 n66 (st 28) n34 346 205
def o209:=jq q9 #[.str n61 473,.str n67 474] 0
def o211:=fz n70 n70 (st 29)
def o212:=ko n70 470 n70 471 472 95 2 0 3 207 true 181 208 209 210 211 475 95 476
def o213:=fY n70 n70 (st 29) n34 346 212
def o216:=jq q9 #[.str n61 481,.str n71 482] 0
def o218:=fz n72 n72 (st 30)
def o219:=ko n72 478 n72 479 480 100 1 0 3 214 true 181 215 216 217 218 483 100 484
def o220:=fY n72 n72 (st 30) n34 346 219
def o223:=jq q9 #[.str n61 489,.str n67 490,.str n73 491,.str n74 492,.str n75 493,.str n76 494,.str n77 495] 0
def o225:=fz n78 n78 (st 31)
def o226:=ko n78 486 n78 487 488 107 2 0 3 221 true 181 222 223 224 225 496 107 497
def o227:=fY n78 n78 (st 31) n34 346 226
def o230:=jq q9 #[.str n17 502,.str n19 503] 0
def o232:=fz n82 n82 (st 32)
def o233:=ko n82 499 n82 500 501 116 1 0 3 228 true 181 229 230 231 232 504 116 505
def o234:=fY n82 n82 (st 32) n34 346 233
def o237:=jq q9 #[.str n17 510,.str n19 511,.str n27 512,.str n85 513,.str n52 514,.str n61 515] 0
def o239:=fz n86 n86 (st 33)
def o240:=ko n86 507 n86 508 509 125 1 0 3 235 true 181 236 237 238 239 516 125 517
def o241:=fY n86 n86 (st 33) n34 346 240
def o244:=jq q9 #[.str n92 532] 0
def o246:=fz n93 n93 (st 39)
def o247:=ko n93 529 n93 530 531 141 1 0 3 242 true 181 243 244 245 246 533 141 534
def o248:=fY n93 n93 (st 39) n87 519 247
def o251:=jq q9 #[.str n17 539,.str n71 540,.str n18 541,.str n92 542,.str n19 543] 0
def o253:=fz n96 n96 (st 40)
def o254:=ko n96 536 n96 537 538 143 1 0 3 249 true 181 250 251 252 253 544 143 545
def o255:=fY n96 n96 (st 40) n87 519 254
def o258:=jq q9 #[.str n17 550,.str n18 551,.str n19 552] 0
def o260:=fz n95 n95 (st 41)
def o261:=ko n95 547 n95 548 549 156 2 0 3 256 true 181 257 258 259 260 553 156 554
def o262:=fY n95 n95 (st 41) n87 519 261
def o265:=jq q9 #[.str n52 559,.str n71 560,.str n92 561,.str n17 562] 0
def o267:=fz Jv Jv (st 42)
def o268:=ko Jv 556 Jv 557 558 163 1 0 3 263 true 181 264 265 266 267 563 163 564
def o269:=fY Jv Jv (st 42) n87 519 268
def o272:=jq q9 #[.str n92 569,.str n17 570] 0
def o274:=fz n99 n99 (st 43)
def o275:=ko n99 566 n99 567 568 171 2 0 3 270 true 181 271 272 273 274 571 171 572
def o276:=fY n99 n99 (st 43) n87 519 275
def o279:=jq q9 #[.str n92 577] 0
def o281:=fz Ju Ju (st 44)
def o282:=ko Ju 574 Ju 575 576 181 1 0 3 277 true 181 278 279 280 281 578 181 579
def o283:=fY Ju Ju (st 44) n87 519 282
def o286:=fz Jt Jt (st 45)
def o287:=kq q14 #[.str Jt 581,.str Jt 582,.str ql 583,.int 183 0,.int 1 0,.int 0 0,.int 0 0,.int 3 0,.ref 284,.bool true,.int 181 0,.ref 285,.none,.none,.none,.ref 286,.int 584 0,.int 183 0,.str ql 585]
def o288:=fY Jt Jt (st 45) n87 519 287
def o291:=jq q9 #[.str n52 594] 0
def o293:=fz Js Js (st 48)
def o294:=ko Js 591 Js 592 593 187 1 0 3 289 true 181 290 291 292 293 595 187 596
def o295:=fY Js Js (st 48) n108 587 294
def o298:=jq q9 #[.str n61 601,.str n51 602,.str n50 603,.str n52 604] 0
def o300:=fz Jr Jr (st 49)
def o301:=ko Jr 598 Jr 599 600 192 4 0 3 296 true 181 297 298 299 300 605 192 606
def o302:=fY Jr Jr (st 49) n108 587 301
def o305:=jq q9 #[.str zG 611,.str n113 612,.str Jq 613] 0
def o307:=fz Jp Jp (st 50)
def o308:=ko Jp 608 Jp 609 610 194 2 0 3 303 true 181 304 305 306 307 614 194 615
def o309:=fY Jp Jp (st 50) n108 587 308
def o312:=jq q9 #[.str n61 620,.str n67 621,.str zG 622,.str n71 623,.str n18 624,.str n52 625,.str wl 626,.str ZI 627,.str Jo 628,.str Jq 629] 0
def o314:=fz Jn Jn (st 51)
def o315:=ko Jn 617 Jn 618 619 199 3 0 3 310 true 181 311 312 313 314 630 199 631
def o316:=fY Jn Jn (st 51) n108 587 315
def o319:=jq q9 #[.str w7 646] 0
def o321:=fz Jm Jm (st 55)
def o322:=ko Jm 643 Jm 644 645 221 1 0 3 317 true 181 318 319 320 321 647 221 648
def o323:=fY Jm Jm (st 55) qM 633 322
def o326:=jq q9 #[.str qd 653,.str w7 654] 0
def o328:=fz Jl Jl (st 56)
def o329:=ko Jl 650 Jl 651 652 225 2 0 3 324 true 181 325 326 327 328 655 225 656
def o330:=fY Jl Jl (st 56) qM 633 329
def o333:=jq q9 #[.str qd 661,.str vO 662,.str w7 663] 0
def o335:=fz Jk Jk (st 57)
def o336:=ko Jk 658 Jk 659 660 227 3 0 3 331 true 181 332 333 334 335 664 227 665
def o337:=fY Jk Jk (st 57) qM 633 336
def o340:=jq q9 #[.str qd 670] 0
def o342:=fz Jj Jj (st 58)
def o343:=ko Jj 667 Jj 668 669 233 1 0 3 338 true 181 339 340 341 342 671 233 672
def o344:=fY Jj Jj (st 58) qM 633 343
def o347:=jq q9 #[.str qd 677] 0
def o349:=fz Ji Ji (st 59)
def o350:=ko Ji 674 Ji 675 676 235 1 0 3 345 true 181 346 347 348 349 678 235 679
def o351:=fY Ji Ji (st 59) qM 633 350
def o354(P:Params):=dz #[de P zT 688 (.str qM 633),de P vM 690 (.str Ww 689),de P zS 692 (.int 237 691),dr P n6 705 366,dr P Wx 713 373,dr P n57 720 380,dr P zR 726 381] 7
def o356:=ftr [(239,365),(246,372),(249,379)]
def o357:=kz Ww 683 684 685 237 355 356 686 687
def o358:=pz 357 354 qM 633
def o359:=jq q9 #[.int 0 693] 0
def o362:=jq q9 #[.str n4 697,.str vO 698,.str w7 699,.str Wy 700,.str yZ 701,.str n136 702] 0
def o364:=fz n6 n317 (mt 60 0)
def o365:=ko n6 694 n317 695 696 239 6 0 3 360 true 181 361 362 363 364 703 239 704
noncomputable def o366:Obj:=fo (.type q19) n6 n317 (mt 60 0) 3 (.ref 359) (.none) (.none) (.str qM 633) (.ref 365) (.none) 0
def o369:=jq q9 #[.str n4 709,.str n44 710] 0
def o371:=fz Wx n318 (mt 60 1)
def o372:=ko Wx 706 n318 707 708 246 2 0 3 367 true 181 368 369 370 371 711 246 712
def o373:=fY Wx n318 (mt 60 1) qM 633 372
def o376:=jq q9 #[.str n4 717] 0
def o378:=fz n57 n319 (mt 60 2)
def o379:=ko n57 714 n319 715 716 249 1 0 3 374 true 181 375 376 377 378 718 249 719
def o380:=fY n57 n319 (mt 60 2) qM 633 379
def o381:=jq q9 #[.str yZ 721,.str Wy 722,.str n136 723,.str vO 724,.str w7 725] 0
def o382(P:Params):=dz #[de P zT 688 (.str qM 633),de P zS 692 (.int 237 691),dr P n6 705 366,dr P Wx 713 373,dr P n57 720 380,dr P zR 726 381,dr P yi 728 384,dr P yL 730 385,de P w5 731 (.none)] 4
def o383:=cz Ww 383 382 681 689
def o384:=kq q6 #[.str yi 727,.ref 383,.builtin q16,.builtin q4]
def o385:=kq q6 #[.str yL 729,.ref 383,.builtin q1,.none]
def o386:=kq q11 #[.ref 383,.ref 383,.ref 383]
def o387:=kq q2 #[.builtin q12,.ref 383]
def o390(P:Params):=dz #[de P zT 741 (.str qM 633),de P vM 743 (.str Ws 742),de P zS 745 (.int 251 744),dr P n6 752 401,dr P ZH 760 408,dr P YG 769 415,dr P Wu 776 422,dr P Wt 785 429,dr P zR 789 430] 9
def o392:=ftr [(253,400),(258,407),(263,414),(269,421),(272,428)]
def o393:=kz Ws 736 737 738 251 391 392 739 740
def o394:=pz 393 390 qM 633
def o397:=jq q9 #[.str n4 749] 0
def o399:=fz n6 n320 (mt 61 0)
def o400:=ko n6 746 n320 747 748 253 1 0 3 395 true 181 396 397 398 399 750 253 751
def o401:=fY n6 n320 (mt 61 0) qM 633 400
def o404:=jq q9 #[.str n4 756,.str Jh 757] 0
def o406:=fz ZH n321 (mt 61 1)
def o407:=ko ZH 753 n321 754 755 258 2 0 3 402 true 181 403 404 405 406 758 258 759
def o408:=fY ZH n321 (mt 61 1) qM 633 407
def o411:=jq q9 #[.str n4 764,.str Jh 765,.str Wv 766] 0
def o413:=fz YG n322 (mt 61 2)
def o414:=ko YG 761 n322 762 763 263 3 0 3 409 true 181 410 411 412 413 767 263 768
def o415:=fY YG n322 (mt 61 2) qM 633 414
def o418:=jq q9 #[.str n4 773] 0
def o420:=fz Wu n323 (mt 61 3)
def o421:=ko Wu 770 n323 771 772 269 1 0 3 416 true 181 417 418 419 420 774 269 775
def o422:=fY Wu n323 (mt 61 3) qM 633 421
def o425:=jq q9 #[.str n4 780,.str n71 781,.str w6 782] 0
def o427:=fz Wt n324 (mt 61 4)
def o428:=ko Wt 777 n324 778 779 272 1 0 3 423 true 181 424 425 426 427 783 272 784
def o429:=fY Wt n324 (mt 61 4) qM 633 428
def o430:=jq q9 #[.str yv 786,.str ue 787,.str YH 788] 0
def o431(P:Params):=dz #[de P zT 741 (.str qM 633),de P zS 745 (.int 251 744),dr P n6 752 401,dr P ZH 760 408,dr P YG 769 415,dr P Wu 776 422,dr P Wt 785 429,dr P zR 789 430,dr P yi 791 433,dr P yL 793 434,de P w5 794 (.none)] 4
def o432:=cz Ws 432 431 734 742
def o433:=kq q6 #[.str yi 790,.ref 432,.builtin q16,.builtin q4]
def o434:=kq q6 #[.str yL 792,.ref 432,.builtin q1,.none]
def o435:=kq q11 #[.ref 432,.ref 432,.ref 432]
def o436:=kq q2 #[.builtin q12,.ref 432]
def o439:=jq q9 #[.str qd 800,.str ZG 801] 0
def o441:=fz Jg Jg (st 62)
def o442:=ko Jg 797 Jg 798 799 278 2 0 3 437 true 181 438 439 440 441 802 278 803
def o443:=fY Jg Jg (st 62) qM 633 442
def o446(P:Params):=dz #[de P zT 812 (.str qM 633),de P vM 814 (.str Wn 813),de P zS 816 (.int 280 815),dr P n6 823 457,dr P n19 830 464,dr P ZF 844 471,dr P YF 856 478,dr P Wr 865 485,dr P Wq 873 492,dr P Wp 882 499,dr P Wo 893 506,dr P v0 903 513,dr P zR 906 514] 13
def o448:=ftr [(282,456),(286,463),(289,470),(302,477),(317,484),(320,491),(323,498),(326,505),(337,512)]
def o449:=kz Wn 807 808 809 280 447 448 810 811
def o450:=pz 449 446 qM 633
def o453:=jq q9 #[.str n4 820] 0
def o455:=fz n6 n325 (mt 63 0)
def o456:=ko n6 817 n325 818 819 282 1 0 3 451 true 181 452 453 454 455 821 282 822
def o457:=fY n6 n325 (mt 63 0) qM 633 456
def o460:=jq q9 #[.str n4 827] 0
def o462:=fz n19 n326 (mt 63 1)
def o463:=ko n19 824 n326 825 826 286 1 0 3 458 true 181 459 460 461 462 828 286 829
def o464:=fY n19 n326 (mt 63 1) qM 633 463
def o467:=jq q9 #[.str n4 834,.str vO 835,.str w7 836,.str n154 837,.str n71 838,.str ZG 839,.str Jh 840,.str wl 841] 0
def o469:=fz ZF n327 (mt 63 2)
def o470:=ko ZF 831 n327 832 833 289 4 0 3 465 true 181 466 467 468 469 842 289 843
def o471:=fY ZF n327 (mt 63 2) qM 633 470
def o474:=jq q9 #[.str n4 848,.str w6 849,.str vO 850,.str Wv 851,.str n18 852,.str n157 853] 0
def o476:=fz YF n328 (mt 63 3)
def o477:=ko YF 845 n328 846 847 302 2 0 3 472 true 181 473 474 475 476 854 302 855
def o478:=fY YF n328 (mt 63 3) qM 633 477
def o481:=jq q9 #[.str n4 860,.str vO 861,.str w7 862] 0
def o483:=fz Wr n329 (mt 63 4)
def o484:=ko Wr 857 n329 858 859 317 3 0 3 479 true 181 480 481 482 483 863 317 864
def o485:=fY Wr n329 (mt 63 4) qM 633 484
def o488:=jq q9 #[.str n4 869,.str yZ 870] 0
def o490:=fz Wq n330 (mt 63 5)
def o491:=ko Wq 866 n330 867 868 320 2 0 3 486 true 181 487 488 489 490 871 320 872
def o492:=fY Wq n330 (mt 63 5) qM 633 491
def o495:=jq q9 #[.str n4 877,.str vO 878,.str ZF 879] 0
def o497:=fz Wp n331 (mt 63 6)
def o498:=ko Wp 874 n331 875 876 323 3 0 3 493 true 181 494 495 496 497 880 323 881
def o499:=fY Wp n331 (mt 63 6) qM 633 498
def o502:=jq q9 #[.str n4 886,.str qd 887,.str Wv 888,.str n71 889,.str ZG 890] 0
def o504:=fz Wo n332 (mt 63 7)
def o505:=ko Wo 883 n332 884 885 326 2 0 3 500 true 181 501 502 503 504 891 326 892
def o506:=fY Wo n332 (mt 63 7) qM 633 505
def o509:=jq q9 #[.str n4 897,.str n71 898,.str Jo 899,.str Wv 900] 0
def o511:=fz v0 n333 (mt 63 8)
def o512:=ko v0 894 n333 895 896 337 1 0 3 507 true 181 508 509 510 511 901 337 902
def o513:=fY v0 n333 (mt 63 8) qM 633 512
def o514:=jq q9 #[.str wk 904,.str n152 905] 0
def o515(P:Params):=dz #[de P zT 812 (.str qM 633),de P zS 816 (.int 280 815),dr P n6 823 457,dr P n19 830 464,dr P ZF 844 471,dr P YF 856 478,dr P Wr 865 485,dr P Wq 873 492,dr P Wp 882 499,dr P Wo 893 506,dr P v0 903 513,dr P zR 906 514,dr P yi 908 517,dr P yL 910 518,de P w5 911 (.none)] 4
def o516:=cz Wn 516 515 805 813
def o517:=kq q6 #[.str yi 907,.ref 516,.builtin q16,.builtin q4]
def o518:=kq q6 #[.str yL 909,.ref 516,.builtin q1,.none]
def o519:=kq q11 #[.ref 516,.ref 516,.ref 516]
def o520:=kq q2 #[.builtin q12,.ref 516]
def o523(P:Params):=dz #[de P zT 945 (.str zU 914),de P vM 947 (.str Wm 946),de P zS 949 (.int 357 948),dr P n6 959 534,dr P zR 963 535] 5
def o525:=ftr [(359,533)]
def o526:=kz Wm 940 941 942 357 524 525 943 944
def o527:=pz 526 523 zU 914
def o530:=jq q9 #[.str n4 953,.str qd 954,.str w7 955,.str zG 956] 0
def o532:=fz n6 n334 (mt 73 0)
def o533:=ko n6 950 n334 951 952 359 4 0 3 528 true 181 529 530 531 532 957 359 958
def o534:=fY n6 n334 (mt 73 0) zU 914 533
def o535:=jq q9 #[.str qd 960,.str zG 961,.str w7 962] 0
def o536(P:Params):=dz #[de P zT 945 (.str zU 914),de P zS 949 (.int 357 948),dr P n6 959 534,dr P zR 963 535,dr P yi 965 538,dr P yL 967 539,de P w5 968 (.none)] 4
def o537:=cz Wm 537 536 938 946
def o538:=kq q6 #[.str yi 964,.ref 537,.builtin q16,.builtin q4]
def o539:=kq q6 #[.str yL 966,.ref 537,.builtin q1,.none]
def o540:=kq q11 #[.ref 537,.ref 537,.ref 537]
def o541:=kq q2 #[.builtin q12,.ref 537]
def o544:=jq q9 #[.str n61 974,.str n43 975,.str n47 976] 0
def o546:=fz Jf Jf (st 74)
def o547:=ko Jf 971 Jf 972 973 363 3 0 3 542 true 181 543 544 545 546 977 363 978
def o548:=fY Jf Jf (st 74) zU 914 547
def o551(P:Params):=dz #[de P zT 987 (.str zU 914),de P vM 989 (.str YC 988),de P zS 991 (.int 365 990),dr P n6 1002 563,dr P Wl 1009 570,dr P Wk 1018 577,dr P Wj 1028 584,dr P Wi 1034 589,dr P Wh 1042 596,dr P YD 1055 603,dr P Wg 1067 610,dr P Wf 1078 617,dr P Wd 1093 624,dr P Wb 1102 631,dr P Wa 1110 638,dr P WZ 1118 645,dr P WY 1133 653,dr P WX 1141 660,dr P vt 1153 667,dr P zR 1159 668] 20
def o553:=ftr [(367,562),(374,569),(378,576),(384,583),(388,588),(391,595),(394,602),(408,609),(416,616),(432,623),(440,630),(446,637),(449,644),(453,652),(461,659),(464,666)]
def o554:=kz YC 982 983 984 365 552 553 985 986
def o555:=pz 554 551 zU 914
def o556:=jq q9 #[.bool false] 0
def o559:=jq q9 #[.str n4 995,.str xL 996,.str ue 997,.str n178 998,.str YE 999] 0
def o561:=fz n6 n335 (mt 75 0)
def o562:=ko n6 992 n335 993 994 367 5 0 3 557 true 181 558 559 560 561 1000 367 1001
noncomputable def o563:Obj:=fo (.type q19) n6 n335 (mt 75 0) 3 (.ref 556) (.none) (.none) (.str zU 914) (.ref 562) (.none) 0
def o566:=jq q9 #[.str n4 1006] 0
def o568:=fz Wl n336 (mt 75 1)
def o569:=ko Wl 1003 n336 1004 1005 374 1 0 3 564 true 181 565 566 567 568 1007 374 1008
def o570:=fY Wl n336 (mt 75 1) zU 914 569
def o573:=jq q9 #[.str n4 1013,.str qd 1014,.str yZ 1015] 0
def o575:=fz Wk n337 (mt 75 2)
def o576:=ko Wk 1010 n337 1011 1012 378 2 0 3 571 true 181 572 573 574 575 1016 378 1017
def o577:=fY Wk n337 (mt 75 2) zU 914 576
def o580:=jq q9 #[.str n4 1022,.str qd 1023,.str yZ 1024,.str n57 1025] 0
def o582:=fz Wj n338 (mt 75 3)
def o583:=ko Wj 1019 n338 1020 1021 384 3 0 3 578 true 181 579 580 581 582 1026 384 1027
def o584:=fY Wj n338 (mt 75 3) zU 914 583
def o587:=fz Wi n339 (mt 75 4)
def o588:=kq q14 #[.str Wi 1029,.str n339 1030,.str ql 1031,.int 388 0,.int 2 0,.int 0 0,.int 0 0,.int 3 0,.ref 585,.bool true,.int 181 0,.ref 586,.none,.none,.none,.ref 587,.int 1032 0,.int 388 0,.str ql 1033]
def o589:=fY Wi n339 (mt 75 4) zU 914 588
def o592:=jq q9 #[.str n4 1038,.str qd 1039] 0
def o594:=fz Wh n340 (mt 75 5)
def o595:=ko Wh 1035 n340 1036 1037 391 2 0 3 590 true 181 591 592 593 594 1040 391 1041
def o596:=fY Wh n340 (mt 75 5) zU 914 595
def o599:=jq q9 #[.str n4 1046,.str n17 1047,.str yZ 1048,.str X3 1049,.str n61 1050,.str n67 1051,.str n188 1052] 0
def o601:=fz YD n341 (mt 75 6)
def o602:=ko YD 1043 n341 1044 1045 394 4 0 3 597 true 181 598 599 600 601 1053 394 1054
def o603:=fY YD n341 (mt 75 6) zU 914 602
def o606:=jq q9 #[.str n4 1059,.str n61 1060,.str n67 1061,.str n188 1062,.str X3 1063,.str n193 1064] 0
def o608:=fz Wg n342 (mt 75 7)
def o609:=ko Wg 1056 n342 1057 1058 408 5 0 3 604 true 181 605 606 607 608 1065 408 1066
def o610:=fY Wg n342 (mt 75 7) zU 914 609
def o613:=jq q9 #[.str n4 1071,.str n61 1072,.str n67 1073,.str w6 1074,.str wl 1075] 0
def o615:=fz Wf n343 (mt 75 8)
def o616:=ko Wf 1068 n343 1069 1070 416 3 0 3 611 true 181 612 613 614 615 1076 416 1077
def o617:=fY Wf n343 (mt 75 8) zU 914 616
def o620:=jq q9 #[.str n4 1082,.str n61 1083,.str n67 1084,.str w6 1085,.str n197 1086,.str qd 1087,.str n71 1088,.str n56 1089,.str n17 1090] 0
def o622:=fz Wd n344 (mt 75 9)
def o623:=ko Wd 1079 n344 1080 1081 432 4 0 3 618 true 181 619 620 621 622 1091 432 1092
def o624:=fY Wd n344 (mt 75 9) zU 914 623
def o627:=jq q9 #[.str n4 1097,.str n44 1098,.str w6 1099] 0
def o629:=fz Wb n345 (mt 75 10)
def o630:=ko Wb 1094 n345 1095 1096 440 2 0 3 625 true 181 626 627 628 629 1100 440 1101
def o631:=fY Wb n345 (mt 75 10) zU 914 630
def o634:=jq q9 #[.str n4 1106,.str n44 1107] 0
def o636:=fz Wa n346 (mt 75 11)
def o637:=ko Wa 1103 n346 1104 1105 446 2 0 3 632 true 181 633 634 635 636 1108 446 1109
def o638:=fY Wa n346 (mt 75 11) zU 914 637
def o641:=jq q9 #[.str n4 1114,.str n44 1115] 0
def o643:=fz WZ n347 (mt 75 12)
def o644:=ko WZ 1111 n347 1112 1113 449 2 0 3 639 true 181 640 641 642 643 1116 449 1117
def o645:=fY WZ n347 (mt 75 12) zU 914 644
def o646:=jq q9 #[.int 64 1119,.bool false] 0
def o649:=jq q9 #[.str n4 1123,.str n45 1124,.str n43 1125,.str n44 1126,.str n67 1127,.str n47 1128,.str n49 1129,.str n61 1130] 0
def o651:=fz WY n348 (mt 75 13)
def o652:=ko WY 1120 n348 1121 1122 453 7 0 3 647 true 181 648 649 650 651 1131 453 1132
noncomputable def o653:Obj:=fo (.type q19) WY n348 (mt 75 13) 3 (.ref 646) (.none) (.none) (.str zU 914) (.ref 652) (.none) 0
def o656:=jq q9 #[.str n4 1137,.str n17 1138] 0
def o658:=fz WX n349 (mt 75 14)
def o659:=ko WX 1134 n349 1135 1136 461 2 0 3 654 true 181 655 656 657 658 1139 461 1140
def o660:=fY WX n349 (mt 75 14) zU 914 659
def o663:=jq q9 #[.str n4 1145,.str X3 1146,.str n71 1147,.str n61 1148,.str n17 1149,.str n188 1150] 0
def o665:=fz vt n350 (mt 75 15)
def o666:=ko vt 1142 n350 1143 1144 464 2 0 3 661 true 181 662 663 664 665 1151 464 1152
def o667:=fY vt n350 (mt 75 15) zU 914 666
def o668:=jq q9 #[.str xL 1154,.str YE 1155,.str n180 1156,.str n178 1157,.str ue 1158] 0
def o669(P:Params):=dz #[de P zT 987 (.str zU 914),de P zS 991 (.int 365 990),dr P n6 1002 563,dr P Wl 1009 570,dr P Wk 1018 577,dr P Wj 1028 584,dr P Wi 1034 589,dr P Wh 1042 596,dr P YD 1055 603,dr P Wg 1067 610,dr P Wf 1078 617,dr P Wd 1093 624,dr P Wb 1102 631,dr P Wa 1110 638,dr P WZ 1118 645,dr P WY 1133 653,dr P WX 1141 660,dr P vt 1153 667,dr P zR 1159 668,dr P yi 1161 671,dr P yL 1163 672,de P w5 1164 (.none)] 4
def o670:=cz YC 670 669 980 988
def o671:=kq q6 #[.str yi 1160,.ref 670,.builtin q16,.builtin q4]
def o672:=kq q6 #[.str yL 1162,.ref 670,.builtin q1,.none]
def o673:=kq q11 #[.ref 670,.ref 670,.ref 670]
def o674:=kq q2 #[.builtin q12,.ref 670]
def o677(P:Params):=dz #[de P zT 1180 (.str qX 1167),de P vM 1182 (.str WT 1181),de P zS 1184 (.int 474 1183),dr P n6 1192 688,dr P WW 1207 695,dr P WV 1215 702,dr P WU 1222 709,dr P vr 1229 716,dr P zR 1232 717] 9
def o679:=ftr [(476,687),(480,694),(497,701),(500,708),(505,715)]
def o680:=kz WT 1175 1176 1177 474 678 679 1178 1179
def o681:=pz 680 677 qX 1167
def o684:=jq q9 #[.str n4 1188,.str vN 1189] 0
def o686:=fz n6 n351 (mt 79 0)
def o687:=ko n6 1185 n351 1186 1187 476 2 0 3 682 true 181 683 684 685 686 1190 476 1191
def o688:=fY n6 n351 (mt 79 0) qX 1167 687
def o691:=jq q9 #[.str n4 1196,.str n29 1197,.str YB 1198,.str n71 1199,.str v0 1200,.str n214 1201,.str n215 1202,.str n73 1203,.str n217 1204] 0
def o693:=fz WW n352 (mt 79 1)
def o694:=ko WW 1193 n352 1194 1195 480 3 0 3 689 true 181 690 691 692 693 1205 480 1206
def o695:=fY WW n352 (mt 79 1) qX 1167 694
def o698:=jq q9 #[.str n4 1211,.str YB 1212] 0
def o700:=fz WV n353 (mt 79 2)
def o701:=ko WV 1208 n353 1209 1210 497 2 0 3 696 true 181 697 698 699 700 1213 497 1214
def o702:=fY WV n353 (mt 79 2) qX 1167 701
def o705:=jq q9 #[.str n4 1219] 0
def o707:=fz WU n354 (mt 79 3)
def o708:=ko WU 1216 n354 1217 1218 500 1 0 3 703 true 181 704 705 706 707 1220 500 1221
def o709:=fY WU n354 (mt 79 3) qX 1167 708
def o712:=jq q9 #[.str n4 1226] 0
def o714:=fz vr n355 (mt 79 4)
def o715:=ko vr 1223 n355 1224 1225 505 1 0 3 710 true 181 711 712 713 714 1227 505 1228
def o716:=fY vr n355 (mt 79 4) qX 1167 715
def o717:=jq q9 #[.str vN 1230,.str v0 1231] 0
def o718(P:Params):=dz #[de P zT 1180 (.str qX 1167),de P zS 1184 (.int 474 1183),dr P n6 1192 688,dr P WW 1207 695,dr P WV 1215 702,dr P WU 1222 709,dr P vr 1229 716,dr P zR 1232 717,dr P yi 1234 720,dr P yL 1236 721,de P w5 1237 (.none)] 4
def o719:=cz WT 719 718 1173 1181
def o720:=kq q6 #[.str yi 1233,.ref 719,.builtin q16,.builtin q4]
def o721:=kq q6 #[.str yL 1235,.ref 719,.builtin q1,.none]
def o722:=kq q11 #[.ref 719,.ref 719,.ref 719]
def o723:=kq q2 #[.builtin q12,.ref 719]
def o726(P:Params):=dz #[de P zT 1247 (.str qX 1167),de P vM 1249 (.str WQ 1248),de P zS 1251 (.int 507 1250),dr P n6 1260 737,dr P WS 1270 744,dr P vz 1283 751,dr P vr 1290 758,dr P n17 1296 763,dr P WR 1306 770,dr P zR 1315 771] 10
def o728:=ftr [(509,736),(519,743),(528,750),(545,757),(548,762),(551,769)]
def o729:=kz WQ 1242 1243 1244 507 727 728 1245 1246
def o730:=pz 729 726 qX 1167
def o733:=jq q9 #[.str n4 1255,.str n224 1256,.str vN 1257] 0
def o735:=fz n6 n356 (mt 80 0)
def o736:=ko n6 1252 n356 1253 1254 509 3 0 3 731 true 181 732 733 734 735 1258 509 1259
def o737:=fY n6 n356 (mt 80 0) qX 1167 736
def o740:=jq q9 #[.str n4 1264,.str n29 1265,.str YB 1266,.str n50 1267] 0
def o742:=fz WS n357 (mt 80 1)
def o743:=ko WS 1261 n357 1262 1263 519 4 0 3 738 true 181 739 740 741 742 1268 519 1269
def o744:=fY WS n357 (mt 80 1) qX 1167 743
def o747:=jq q9 #[.str n4 1274,.str n61 1275,.str n67 1276,.str n29 1277,.str YB 1278,.str n214 1279,.str n215 1280] 0
def o749:=fz vz n358 (mt 80 2)
def o750:=ko vz 1271 n358 1272 1273 528 3 0 3 745 true 181 746 747 748 749 1281 528 1282
def o751:=fY vz n358 (mt 80 2) qX 1167 750
def o754:=jq q9 #[.str n4 1287] 0
def o756:=fz vr n359 (mt 80 3)
def o757:=ko vr 1284 n359 1285 1286 545 1 0 3 752 true 181 753 754 755 756 1288 545 1289
def o758:=fY vr n359 (mt 80 3) qX 1167 757
def o761:=fz n17 n360 (mt 80 4)
def o762:=kq q14 #[.str n17 1291,.str n360 1292,.str ql 1293,.int 548 0,.int 1 0,.int 0 0,.int 0 0,.int 3 0,.ref 759,.bool true,.int 181 0,.ref 760,.none,.none,.none,.ref 761,.int 1294 0,.int 548 0,.str ql 1295]
def o763:=fY n17 n360 (mt 80 4) qX 1167 762
def o766:=jq q9 #[.str n4 1300,.str n71 1301,.str n29 1302,.str n56 1303] 0
def o768:=fz WR n361 (mt 80 5)
def o769:=ko WR 1297 n361 1298 1299 551 1 0 3 764 true 181 765 766 767 768 1304 551 1305
def o770:=fY WR n361 (mt 80 5) qX 1167 769
def o771:=jq q9 #[.str n227 1307,.str n224 1308,.str YB 1309,.str n73 1310,.str n225 1311,.str vN 1312,.str n226 1313,.str n19 1314] 0
def o772(P:Params):=dz #[de P zT 1247 (.str qX 1167),de P zS 1251 (.int 507 1250),dr P n6 1260 737,dr P WS 1270 744,dr P vz 1283 751,dr P vr 1290 758,dr P n17 1296 763,dr P WR 1306 770,dr P zR 1315 771,dr P yi 1317 774,dr P yL 1319 775,de P w5 1320 (.none)] 4
def o773:=cz WQ 773 772 1240 1248
def o774:=kq q6 #[.str yi 1316,.ref 773,.builtin q16,.builtin q4]
def o775:=kq q6 #[.str yL 1318,.ref 773,.builtin q1,.none]
def o776:=kq q11 #[.ref 773,.ref 773,.ref 773]
def o777:=kq q2 #[.builtin q12,.ref 773]
def o780:=jq q9 #[.str n61 1326] 0
def o782:=fz Je Je (st 81)
def o783:=ko Je 1323 Je 1324 1325 558 1 0 3 778 true 181 779 780 781 782 1327 558 1328
def o784:=fY Je Je (st 81) qX 1167 783
def o787:=jq q9 #[.str n61 1333] 0
def o789:=fz Jd Jd (st 82)
def o790:=ko Jd 1330 Jd 1331 1332 560 1 0 3 785 true 181 786 787 788 789 1334 560 1335
def o791:=fY Jd Jd (st 82) qX 1167 790
def o794:=jq q9 #[.str n61 1340,.str n67 1341] 0
def o796:=fz Jc Jc (st 83)
def o797:=ko Jc 1337 Jc 1338 1339 562 2 0 3 792 true 181 793 794 795 796 1342 562 1343
def o798:=fY Jc Jc (st 83) qX 1167 797
def o801(P:Params):=dz #[de P zT 1352 (.str qX 1167),de P vM 1354 (.str WL 1353),de P zS 1356 (.int 564 1355),dr P n6 1367 813,dr P vz 1380 820,dr P WO 1386 825,dr P WN 1393 832,dr P WP 1400 839,dr P vt 1411 846,dr P WM 1418 853,dr P zR 1423 854] 11
def o803:=ftr [(566,812),(572,819),(591,824),(594,831),(597,838),(601,845),(610,852)]
def o804:=kz WL 1347 1348 1349 564 802 803 1350 1351
def o805:=pz 804 801 qX 1167
def o806:=jq q9 #[.int 65535 1357] 0
def o809:=jq q9 #[.str n4 1361,.str X2 1362,.str X0 1363,.str vN 1364] 0
def o811:=fz n6 n362 (mt 84 0)
def o812:=ko n6 1358 n362 1359 1360 566 4 0 3 807 true 181 808 809 810 811 1365 566 1366
noncomputable def o813:Obj:=fo (.type q19) n6 n362 (mt 84 0) 3 (.ref 806) (.none) (.none) (.str qX 1167) (.ref 812) (.none) 0
def o816:=jq q9 #[.str n4 1371,.str n61 1372,.str n67 1373,.str X3 1374,.str n239 1375,.str n71 1376,.str n240 1377] 0
def o818:=fz vz n363 (mt 84 1)
def o819:=ko vz 1368 n363 1369 1370 572 4 0 3 814 true 181 815 816 817 818 1378 572 1379
def o820:=fY vz n363 (mt 84 1) qX 1167 819
def o823:=fz WO n364 (mt 84 2)
def o824:=kq q14 #[.str WO 1381,.str n364 1382,.str ql 1383,.int 591 0,.int 1 0,.int 0 0,.int 0 0,.int 3 0,.ref 821,.bool true,.int 181 0,.ref 822,.none,.none,.none,.ref 823,.int 1384 0,.int 591 0,.str ql 1385]
def o825:=fY WO n364 (mt 84 2) qX 1167 824
def o828:=jq q9 #[.str n4 1390] 0
def o830:=fz WN n365 (mt 84 3)
def o831:=ko WN 1387 n365 1388 1389 594 1 0 3 826 true 181 827 828 829 830 1391 594 1392
def o832:=fY WN n365 (mt 84 3) qX 1167 831
def o835:=jq q9 #[.str n4 1397] 0
def o837:=fz WP n366 (mt 84 4)
def o838:=ko WP 1394 n366 1395 1396 597 1 0 3 833 true 181 834 835 836 837 1398 597 1399
def o839:=fY WP n366 (mt 84 4) qX 1167 838
def o842:=jq q9 #[.str n4 1404,.str X3 1405,.str n71 1406,.str n239 1407,.str n246 1408] 0
def o844:=fz vt n367 (mt 84 5)
def o845:=ko vt 1401 n367 1402 1403 601 2 0 3 840 true 181 841 842 843 844 1409 601 1410
def o846:=fY vt n367 (mt 84 5) qX 1167 845
def o849:=jq q9 #[.str n4 1415] 0
def o851:=fz WM n368 (mt 84 6)
def o852:=ko WM 1412 n368 1413 1414 610 1 0 3 847 true 181 848 849 850 851 1416 610 1417
def o853:=fY WM n368 (mt 84 6) qX 1167 852
def o854:=jq q9 #[.str vN 1419,.str X0 1420,.str X2 1421,.str n238 1422] 0
def o855(P:Params):=dz #[de P zT 1352 (.str qX 1167),de P zS 1356 (.int 564 1355),dr P n6 1367 813,dr P vz 1380 820,dr P WO 1386 825,dr P WN 1393 832,dr P WP 1400 839,dr P vt 1411 846,dr P WM 1418 853,dr P zR 1423 854,dr P yi 1425 857,dr P yL 1427 858,de P w5 1428 (.none)] 4
def o856:=cz WL 856 855 1345 1353
def o857:=kq q6 #[.str yi 1424,.ref 856,.builtin q16,.builtin q4]
def o858:=kq q6 #[.str yL 1426,.ref 856,.builtin q1,.none]
def o859:=kq q11 #[.ref 856,.ref 856,.ref 856]
def o860:=kq q2 #[.builtin q12,.ref 856]
def o863:=jq q9 #[.str n250 1436,.str n251 1437,.str n252 1438] 0
def o865:=fz Jb Jb (st 86)
def o866:=ko Jb 1433 Jb 1434 1435 613 1 0 3 861 true 181 862 863 864 865 1439 613 1440
def o867:=fY Jb Jb (st 86) qm 1431 866
def o870:=jq q9 #[.str ud 1445,.str wk 1446,.str n255 1447] 0
def o872:=fz Ja Ja (st 87)
def o873:=ko Ja 1442 Ja 1443 1444 617 2 0 3 868 true 181 869 870 871 872 1448 617 1449
def o874:=fY Ja Ja (st 87) qm 1431 873
def o877:=jq q9 #[.str ud 1454,.str n257 1455] 0
def o879:=fz JZ JZ (st 88)
def o880:=ko JZ 1451 JZ 1452 1453 624 2 0 3 875 true 181 876 877 878 879 1456 624 1457
def o881:=fY JZ JZ (st 88) qm 1431 880
def o884:=jq q9 #[.str ud 1462,.str n71 1463,.str WK 1464] 0
def o886:=fz JY JY (st 89)
def o887:=ko JY 1459 JY 1460 1461 626 1 0 3 882 true 181 883 884 885 886 1465 626 1466
def o888:=fY JY JY (st 89) qm 1431 887
def o891:=fz JX JX (st 90)
def o892:=kq q14 #[.str JX 1468,.str JX 1469,.str ql 1470,.int 631 0,.int 1 0,.int 0 0,.int 0 0,.int 3 0,.ref 889,.bool true,.int 181 0,.ref 890,.none,.none,.none,.ref 891,.int 1471 0,.int 631 0,.str ql 1472]
def o893:=fY JX JX (st 90) qm 1431 892
def o896:=jq q9 #[.str n59 1477,.str n71 1478,.str Jh 1479] 0
def o898:=fz JW JW (st 91)
def o899:=ko JW 1474 JW 1475 1476 633 1 0 3 894 true 181 895 896 897 898 1480 633 1481
def o900:=fY JW JW (st 91) qm 1431 899
def o903:=fz JV JV (st 92)
def o904:=kq q14 #[.str JV 1483,.str JV 1484,.str ql 1485,.int 638 0,.int 2 0,.int 0 0,.int 0 0,.int 3 0,.ref 901,.bool true,.int 181 0,.ref 902,.none,.none,.none,.ref 903,.int 1486 0,.int 638 0,.str ql 1487]
def o905:=fY JV JV (st 92) qm 1431 904
def o908:=jq q9 #[.str qd 1492] 0
def o910:=fz JU JU (st 93)
def o911:=ko JU 1489 JU 1490 1491 644 1 0 3 906 true 181 907 908 909 910 1493 644 1494
def o912:=fY JU JU (st 93) qm 1431 911
def o915:=jq q9 #[.str qd 1499] 0
def o917:=fz JT JT (st 94)
def o918:=ko JT 1496 JT 1497 1498 646 1 0 3 913 true 181 914 915 916 917 1500 646 1501
def o919:=fY JT JT (st 94) qm 1431 918
def o922:=fz JS JS (st 95)
def o923:=kq q14 #[.str JS 1503,.str JS 1504,.str ql 1505,.int 648 0,.int 2 0,.int 0 0,.int 0 0,.int 3 0,.ref 920,.bool true,.int 181 0,.ref 921,.none,.none,.none,.ref 922,.int 1506 0,.int 648 0,.str ql 1507]
def o924:=fY JS JS (st 95) qm 1431 923
def o927:=jq q9 #[.str ud 1512,.str n71 1513,.str WK 1514,.str Xz 1515,.str qd 1516] 0
def o929:=fz JR JR (st 96)
def o930:=ko JR 1509 JR 1510 1511 651 1 0 3 925 true 181 926 927 928 929 1517 651 1518
def o931:=fY JR JR (st 96) qm 1431 930
def o934:=jq q9 #[.str ud 1523,.str xL 1524,.str qd 1525,.str wk 1526,.str zG 1527,.str n59 1528,.str Xz 1529,.str n217 1530,.str n73 1531] 0
def o936:=fz JQ JQ (st 97)
def o937:=ko JQ 1520 JQ 1521 1522 658 2 0 3 932 true 181 933 934 935 936 1532 658 1533
def o938:=fY JQ JQ (st 97) qm 1431 937
def o941:=jq q9 #[.str ud 1538,.str xL 1539,.str v0 1540,.str n18 1541,.str qd 1542,.str wk 1543,.str zG 1544] 0
def o943:=fz JP JP (st 98)
def o944:=ko JP 1535 JP 1536 1537 665 2 0 3 939 true 181 940 941 942 943 1545 665 1546
def o945:=fY JP JP (st 98) qm 1431 944
def o948:=jq q9 #[.str Xy 1551,.str qd 1552,.str n71 1553,.str n59 1554,.str n57 1555] 0
def o950:=fz JO JO (st 99)
def o951:=ko JO 1548 JO 1549 1550 675 2 0 3 946 true 181 947 948 949 950 1556 675 1557
def o952:=fY JO JO (st 99) qm 1431 951
def o955:=fz JN JN (st 100)
def o956:=kq q14 #[.str JN 1559,.str JN 1560,.str ql 1561,.int 681 0,.int 3 0,.int 0 0,.int 0 0,.int 3 0,.ref 953,.bool true,.int 181 0,.ref 954,.none,.none,.none,.ref 955,.int 1562 0,.int 681 0,.str ql 1563]
def o957:=fY JN JN (st 100) qm 1431 956
def o960:=jq q9 #[.str Xx 1568,.str n67 1569,.str zG 1570,.str Jq 1571,.str n71 1572,.str n18 1573] 0
def o962:=fz JM JM (st 101)
def o963:=ko JM 1565 JM 1566 1567 686 3 0 3 958 true 181 959 960 961 962 1574 686 1575
def o964:=fY JM JM (st 101) qm 1431 963
def o967:=fz JL JL (st 102)
def o968:=kq q14 #[.str JL 1577,.str JL 1578,.str ql 1579,.int 696 0,.int 5 0,.int 0 0,.int 0 0,.int 3 0,.ref 965,.bool true,.int 181 0,.ref 966,.none,.none,.none,.ref 967,.int 1580 0,.int 696 0,.str ql 1581]
def o969:=fY JL JL (st 102) qm 1431 968
def o972:=fz JK JK (st 103)
def o973:=kq q14 #[.str JK 1583,.str JK 1584,.str ql 1585,.int 702 0,.int 5 0,.int 0 0,.int 0 0,.int 3 0,.ref 970,.bool true,.int 181 0,.ref 971,.none,.none,.none,.ref 972,.int 1586 0,.int 702 0,.str ql 1587]
def o974:=fY JK JK (st 103) qm 1431 973
def o977:=fz JJ JJ (st 104)
def o978:=kq q14 #[.str JJ 1589,.str JJ 1590,.str ql 1591,.int 717 0,.int 4 0,.int 0 0,.int 0 0,.int 3 0,.ref 975,.bool true,.int 181 0,.ref 976,.none,.none,.none,.ref 977,.int 1592 0,.int 717 0,.str ql 1593]
def o979:=fY JJ JJ (st 104) qm 1431 978
def o982:=jq q9 #[.str n283 1598,.str n71 1599,.str yv 1600,.str n61 1601,.str n67 1602] 0
def o984:=fz JI JI (st 105)
def o985:=ko JI 1595 JI 1596 1597 725 1 0 3 980 true 181 981 982 983 984 1603 725 1604
def o986:=fY JI JI (st 105) qm 1431 985
def o989:=jq q9 #[.str n285 1609] 0
def o991:=fz JH JH (st 106)
def o992:=ko JH 1606 JH 1607 1608 736 1 0 3 987 true 181 988 989 990 991 1610 736 1611
def o993:=fY JH JH (st 106) qm 1431 992
def o996:=jq q9 #[.str Xx 1616,.str n67 1617] 0
def o998:=fz JG JG (st 107)
def o999:=ko JG 1613 JG 1614 1615 743 2 0 3 994 true 181 995 996 997 998 1618 743 1619
def o1000:=fY JG JG (st 107) qm 1431 999
def o1003:=jq q9 #[.str ud 1624,.str n43 1625,.str n44 1626,.str n288 1627] 0
def o1005:=fz JF JF (st 108)
def o1006:=ko JF 1621 JF 1622 1623 745 3 0 3 1001 true 181 1002 1003 1004 1005 1628 745 1629
def o1007:=fY JF JF (st 108) qm 1431 1006
def o1010:=jq q9 #[.str ud 1634,.str xL 1635,.str Xy 1636,.str YE 1637,.str n290 1638,.str Xx 1639,.str n67 1640,.str n291 1641] 0
def o1012:=fz JE JE (st 109)
def o1013:=ko JE 1631 JE 1632 1633 748 4 0 3 1008 true 181 1009 1010 1011 1012 1642 748 1643
def o1014:=fY JE JE (st 109) qm 1431 1013
def o1017:=fz JD JD (st 110)
def o1018:=kq q14 #[.str JD 1645,.str JD 1646,.str ql 1647,.int 754 0,.int 3 0,.int 0 0,.int 0 0,.int 3 0,.ref 1015,.bool true,.int 181 0,.ref 1016,.none,.none,.none,.ref 1017,.int 1648 0,.int 754 0,.str ql 1649]
def o1019:=fY JD JD (st 110) qm 1431 1018
def o1022:=fz JC JC (st 111)
def o1023:=kq q14 #[.str JC 1651,.str JC 1652,.str ql 1653,.int 769 0,.int 2 0,.int 0 0,.int 0 0,.int 3 0,.ref 1020,.bool true,.int 181 0,.ref 1021,.none,.none,.none,.ref 1022,.int 1654 0,.int 769 0,.str ql 1655]
def o1024:=fY JC JC (st 111) qm 1431 1023
def o1027:=jq q9 #[.str n250 1660,.str ud 1661,.str n298 1662,.str n43 1663,.str xL 1664,.str Xy 1665,.str YE 1666,.str WK 1667] 0
def o1029:=fz uc uc (st 112)
def o1030:=ko uc 1657 uc 1658 1659 780 1 0 3 1025 true 181 1026 1027 1028 1029 1668 780 1669
def o1031:=fY uc uc (st 112) qm 1431 1030
def v2_a(P:Params):=dn #[] 0
def yR(P:Params):=dn #[de P n376 221 (.int 38 0),de P n377 222 (.int 1 0)] 2
def v38_0(P:Params):=gv []
def v38_1(P:Params):=gv [.ref 51]
def v38_2(P:Params):=gv [.ref 51,.ref 63]
def zO(P:Params):=gv [.ref 51,.ref 63,.ref 75]
noncomputable def qg (P:Params) (nv:Value):List DictEntry:=[de P n2 165 nv,de P w5 166 (.none),de P n369 167 (.none),de P n370 168 (.builtin q18),de P n371 169 (.none),dr P n372 170 6,dr P n373 171 4,de P n374 173 (.str ql 172),de P n375 174 (.none),dr P n1 193 21,dr P n7 224 38,dr P n9 240 51,dr P n10 256 63,dr P n11 272 75,dr P n15 281 84,dr P n16 288 91,dr P n22 297 98,dr P n23 305 105,dr P n24 313 112,de P n26 317 (.int 65535 316),dr P n28 324 119,dr P n32 336 127,dr P n33 345 135,de P n35 349 (.int 4 348),de P n36 351 (.int 20 350),de P n37 353 (.int 60 352),de P n38 355 (.int 65535 354),de P n39 357 (.int 16384 356),de P n40 359 (.int 8192 358),de P n41 361 (.int 8191 360),de P n42 363 (.int 8 362),dr P n55 453 188,dr P n60 461 199,dr P n66 469 206,dr P n70 477 213,dr P n72 485 220,dr P n78 498 227,dr P n82 506 234,dr P n86 518 241,de P n88 522 (.int 0 521),de P n89 524 (.int 1 523),de P n90 526 (.int 40 525),de P n91 528 (.int 128 527),dr P n93 535 248,dr P n96 546 255,dr P n95 555 262,dr P Jv 565 269,dr P n99 573 276,dr P Ju 580 283,dr P Jt 586 288,de P n109 590 (.int 8 589),dr P Js 597 295,dr P Jr 607 302,dr P Jp 616 309,dr P Jn 632 316,de P n123 636 (.int 32 635),de P n124 642 (.int 4294967295 641),dr P Jm 649 323,dr P Jl 657 330,dr P Jk 666 337,dr P Jj 673 344,dr P Ji 680 351,dr P Ww 733 383,dr P Ws 796 432,dr P Jg 804 443,dr P Wn 913 516,de P n167 921 (.int 4294967295 920),de P n168 925 (.int 16777216 924),de P n169 927 (.int 3 926),de P n170 929 (.int 11 928),de P n171 931 (.int 0 930),de P n172 933 (.int 4 932),de P n173 935 (.int 0 934),de P n174 937 (.int 1 936),dr P Wm 970 537,dr P Jf 979 548,dr P YC 1166 670,de P n210 1170 (.int 8 1169),de P n211 1172 (.int 8 1171),dr P WT 1239 719,dr P WQ 1322 773,dr P Je 1329 784,dr P Jd 1336 791,dr P Jc 1344 798,dr P WL 1430 856,dr P Jb 1441 867,dr P Ja 1450 874,dr P JZ 1458 881,dr P JY 1467 888,dr P JX 1473 893,dr P JW 1482 900,dr P JV 1488 905,dr P JU 1495 912,dr P JT 1502 919,dr P JS 1508 924,dr P JR 1519 931,dr P JQ 1534 938,dr P JP 1547 945,dr P JO 1558 952,dr P JN 1564 957,dr P JM 1576 964,dr P JL 1582 969,dr P JK 1588 974,dr P JJ 1594 979,dr P JI 1605 986,dr P JH 1612 993,dr P JG 1620 1000,dr P JF 1630 1007,dr P JE 1644 1014,dr P JD 1650 1019,dr P JC 1656 1024,dr P uc 1670 1031]
def v3_a(P:Params):=dv (qg P (.str n302 164)) 9
def v3_0(P:Params):=dv (qg P (.str n3 194)) 11
def v3_1(P:Params):=dv (qg P (.str n3 194)) 12
def v3_2(P:Params):=dv (qg P (.str n3 194)) 13
def v3_3(P:Params):=dv (qg P (.str n25 314)) 20
def v3_4(P:Params):=dv (qg P (.str n34 346)) 31
def v3_5(P:Params):=dv (qg P (.str n34 346)) 32
def v3_6(P:Params):=dv (qg P (.str n87 519)) 47
def v3_7(P:Params):=dv (qg P (.str qM 633)) 61
def v3_8(P:Params):=dv (qg P (.str qM 633)) 63
def v3_9(P:Params):=dv (qg P (.str qM 633)) 65
def v3_10(P:Params):=dv (qg P (.str qM 633)) 66
def v3_11(P:Params):=dv (qg P (.str zU 914)) 76
def v3_12(P:Params):=dv (qg P (.str zU 914)) 77
def v3_13(P:Params):=dv (qg P (.str qX 1167)) 80
def v3_14(P:Params):=dv (qg P (.str qX 1167)) 81
def v3_15(P:Params):=dv (qg P (.str qX 1167)) 84
def v3_16(P:Params):=dv (qg P (.str qX 1167)) 85
def v3_17(P:Params):=dv (qg P (.str qm 1431)) 97
def v3_18(P:Params):=dv (qg P (.str qm 1431)) 110
def v3_19(P:Params):=dv (qg P (.str qm 1431)) 112
noncomputable def yI:List Value:=[.int 1 0,.int 0 0,.ref 20,.int 5 0,.int 0 0,.ref 27,.int 9 0,.int 0 0,.ref 47,.int 11 0,.int 0 0,.ref 59,.int 13 0,.int 0 0,.ref 71,.int 16 0,.int 0 0,.ref 83,.int 18 0,.int 0 0,.ref 90,.int 20 0,.int 0 0,.ref 97,.int 23 0,.int 0 0,.ref 104,.int 26 0,.int 0 0,.ref 111,.int 31 0,.int 0 0,.ref 118,.int 35 0,.int 0 0,.ref 126,.int 43 0,.int 0 0,.ref 134,.int 54 0,.int 0 0,.ref 141,.int 82 0,.int 0 0,.ref 198,.int 84 0,.int 0 0,.ref 205,.int 95 0,.int 0 0,.ref 212,.int 100 0,.int 0 0,.ref 219,.int 107 0,.int 0 0,.ref 226,.int 116 0,.int 0 0,.ref 233,.int 125 0,.int 0 0,.ref 240,.int 141 0,.int 0 0,.ref 247,.int 143 0,.int 0 0,.ref 254,.int 156 0,.int 0 0,.ref 261,.int 163 0,.int 0 0,.ref 268,.int 171 0,.int 0 0,.ref 275,.int 181 0,.int 0 0,.ref 282,.int 183 0,.int 0 0,.ref 287,.int 187 0,.int 0 0,.ref 294,.int 192 0,.int 0 0,.ref 301,.int 194 0,.int 0 0,.ref 308,.int 199 0,.int 0 0,.ref 315,.int 221 0,.int 0 0,.ref 322,.int 225 0,.int 0 0,.ref 329,.int 227 0,.int 0 0,.ref 336,.int 233 0,.int 0 0,.ref 343,.int 235 0,.int 0 0,.ref 350,.int 237 0,.int 0 0,.ref 357,.int 251 0,.int 0 0,.ref 393,.int 278 0,.int 0 0,.ref 442,.int 280 0,.int 0 0,.ref 449,.int 357 0,.int 0 0,.ref 526,.int 363 0,.int 0 0,.ref 547,.int 365 0,.int 0 0,.ref 554,.int 474 0,.int 0 0,.ref 680,.int 507 0,.int 0 0,.ref 729,.int 558 0,.int 0 0,.ref 783,.int 560 0,.int 0 0,.ref 790,.int 562 0,.int 0 0,.ref 797,.int 564 0,.int 0 0,.ref 804,.int 613 0,.int 0 0,.ref 866,.int 617 0,.int 0 0,.ref 873,.int 624 0,.int 0 0,.ref 880,.int 626 0,.int 0 0,.ref 887,.int 631 0,.int 0 0,.ref 892,.int 633 0,.int 0 0,.ref 899,.int 638 0,.int 0 0,.ref 904,.int 644 0,.int 0 0,.ref 911,.int 646 0,.int 0 0,.ref 918,.int 648 0,.int 0 0,.ref 923,.int 651 0,.int 0 0,.ref 930,.int 658 0,.int 0 0,.ref 937,.int 665 0,.int 0 0,.ref 944,.int 675 0,.int 0 0,.ref 951,.int 681 0,.int 0 0,.ref 956,.int 686 0,.int 0 0,.ref 963,.int 696 0,.int 0 0,.ref 968,.int 702 0,.int 0 0,.ref 973,.int 717 0,.int 0 0,.ref 978,.int 725 0,.int 0 0,.ref 985,.int 736 0,.int 0 0,.ref 992,.int 743 0,.int 0 0,.ref 999,.int 745 0,.int 0 0,.ref 1006,.int 748 0,.int 0 0,.ref 1013,.int 754 0,.int 0 0,.ref 1018,.int 769 0,.int 0 0,.ref 1023,.int 780 0,.int 0 0,.ref 1030]
def v12_a(P:Params):=fv (yI.take 0)
def v12_0(P:Params):=fv (yI.take 6)
def v12_1(P:Params):=fv (yI.take 9)
def v12_2(P:Params):=fv (yI.take 12)
def v12_3(P:Params):=fv (yI.take 30)
def v12_4(P:Params):=fv (yI.take 39)
def v12_5(P:Params):=fv (yI.take 42)
def v12_6(P:Params):=fv (yI.take 75)
def v12_7(P:Params):=fv (yI.take 108)
def v12_8(P:Params):=fv (yI.take 114)
def v12_9(P:Params):=fv (yI.take 120)
def v12_10(P:Params):=fv (yI.take 123)
def v12_11(P:Params):=fv (yI.take 129)
def v12_12(P:Params):=fv (yI.take 132)
def v12_13(P:Params):=fv (yI.take 135)
def v12_14(P:Params):=fv (yI.take 138)
def v12_15(P:Params):=fv (yI.take 147)
def v12_16(P:Params):=fv (yI.take 150)
def v12_17(P:Params):=fv (yI.take 186)
def v12_18(P:Params):=fv (yI.take 225)
def v12_19(P:Params):=fv (yI.take 231)
noncomputable def yP (P:Params) (x2 x3 x12 x38:Obj):List Obj:=[boot_o_0 P,boot_o_1 P,x2,x3,boot_o_4 P,boot_o_5 P,boot_o_6 P,boot_o_7 P,boot_o_8 P,boot_o_9 P,boot_o_10 P,o11,x12,o13,o14,o11,o16,o17,o11,o19,o20,o21,o22,o23,o24 P,o11,o26,o27,o28,o11,o16,o31,o11,o33,o34,o35,o36,o37 P,x38,o39,o40,o41,o42,o23,o44 P,o11,o16,o47,o48,o11,o50 P,o51,o52,o53,o42,o23,o56 P,o11,o16,o59,o60,o11,o62 P,o63,o64,o65,o42,o23,o68 P,o11,o16,o71,o72,o11,o74 P,o75,o76,o77,o11,o16,o80,o11,o82,o83,o84,o11,o16,o87,o11,o89,o90,o91,o11,o16,o94,o11,o96,o97,o98,o11,o16,o101,o11,o103,o104,o105,o11,o16,o108,o11,o110,o111,o112,o11,o16,o115,o11,o117,o118,o119,o120,o11,o16,o123,o11,o125,o126,o127,o128,o11,o16,o131,o11,o133,o134,o135,o11,o23,o138 P,o11,o140,o141,o142,o143,o11,o16,o146,o11,o148,o149,o150,o11,o16,o153,o11,o155,o156,o157,o11,o16,o160,o11,o162,o163,o164,o11,o16,o167,o11,o169,o170,o171,o11,o16,o174,o11,o176,o177,o178,o11,o16,o181,o11,o183,o184,o185,o186,o187 P,o188,o189,o190,o191,o192,o11,o16,o195,o11,o197,o198,o199,o11,o16,o202,o11,o204,o205,o206,o11,o16,o209,o11,o211,o212,o213,o11,o16,o216,o11,o218,o219,o220,o11,o16,o223,o11,o225,o226,o227,o11,o16,o230,o11,o232,o233,o234,o11,o16,o237,o11,o239,o240,o241,o11,o16,o244,o11,o246,o247,o248,o11,o16,o251,o11,o253,o254,o255,o11,o16,o258,o11,o260,o261,o262,o11,o16,o265,o11,o267,o268,o269,o11,o16,o272,o11,o274,o275,o276,o11,o16,o279,o11,o281,o282,o283,o11,o16,o286,o287,o288,o11,o16,o291,o11,o293,o294,o295,o11,o16,o298,o11,o300,o301,o302,o11,o16,o305,o11,o307,o308,o309,o11,o16,o312,o11,o314,o315,o316,o11,o16,o319,o11,o321,o322,o323,o11,o16,o326,o11,o328,o329,o330,o11,o16,o333,o11,o335,o336,o337,o11,o16,o340,o11,o342,o343,o344,o11,o16,o347,o11,o349,o350,o351,o11,o23,o354 P,o11,o356,o357,o358,o359,o11,o16,o362,o11,o364,o365,o366,o11,o16,o369,o11,o371,o372,o373,o11,o16,o376,o11,o378,o379,o380,o381,o382 P,o383,o384,o385,o386,o387,o11,o23,o390 P,o11,o392,o393,o394,o11,o16,o397,o11,o399,o400,o401,o11,o16,o404,o11,o406,o407,o408,o11,o16,o411,o11,o413,o414,o415,o11,o16,o418,o11,o420,o421,o422,o11,o16,o425,o11,o427,o428,o429,o430,o431 P,o432,o433,o434,o435,o436,o11,o16,o439,o11,o441,o442,o443,o11,o23,o446 P,o11,o448,o449,o450,o11,o16,o453,o11,o455,o456,o457,o11,o16,o460,o11,o462,o463,o464,o11,o16,o467,o11,o469,o470,o471,o11,o16,o474,o11,o476,o477,o478,o11,o16,o481,o11,o483,o484,o485,o11,o16,o488,o11,o490,o491,o492,o11,o16,o495,o11,o497,o498,o499,o11,o16,o502,o11,o504,o505,o506,o11,o16,o509,o11,o511,o512,o513,o514,o515 P,o516,o517,o518,o519,o520,o11,o23,o523 P,o11,o525,o526,o527,o11,o16,o530,o11,o532,o533,o534,o535,o536 P,o537,o538,o539,o540,o541,o11,o16,o544,o11,o546,o547,o548,o11,o23,o551 P,o11,o553,o554,o555,o556,o11,o16,o559,o11,o561,o562,o563,o11,o16,o566,o11,o568,o569,o570,o11,o16,o573,o11,o575,o576,o577,o11,o16,o580,o11,o582,o583,o584,o11,o16,o587,o588,o589,o11,o16,o592,o11,o594,o595,o596,o11,o16,o599,o11,o601,o602,o603,o11,o16,o606,o11,o608,o609,o610,o11,o16,o613,o11,o615,o616,o617,o11,o16,o620,o11,o622,o623,o624,o11,o16,o627,o11,o629,o630,o631,o11,o16,o634,o11,o636,o637,o638,o11,o16,o641,o11,o643,o644,o645,o646,o11,o16,o649,o11,o651,o652,o653,o11,o16,o656,o11,o658,o659,o660,o11,o16,o663,o11,o665,o666,o667,o668,o669 P,o670,o671,o672,o673,o674,o11,o23,o677 P,o11,o679,o680,o681,o11,o16,o684,o11,o686,o687,o688,o11,o16,o691,o11,o693,o694,o695,o11,o16,o698,o11,o700,o701,o702,o11,o16,o705,o11,o707,o708,o709,o11,o16,o712,o11,o714,o715,o716,o717,o718 P,o719,o720,o721,o722,o723,o11,o23,o726 P,o11,o728,o729,o730,o11,o16,o733,o11,o735,o736,o737,o11,o16,o740,o11,o742,o743,o744,o11,o16,o747,o11,o749,o750,o751,o11,o16,o754,o11,o756,o757,o758,o11,o16,o761,o762,o763,o11,o16,o766,o11,o768,o769,o770,o771,o772 P,o773,o774,o775,o776,o777,o11,o16,o780,o11,o782,o783,o784,o11,o16,o787,o11,o789,o790,o791,o11,o16,o794,o11,o796,o797,o798,o11,o23,o801 P,o11,o803,o804,o805,o806,o11,o16,o809,o11,o811,o812,o813,o11,o16,o816,o11,o818,o819,o820,o11,o16,o823,o824,o825,o11,o16,o828,o11,o830,o831,o832,o11,o16,o835,o11,o837,o838,o839,o11,o16,o842,o11,o844,o845,o846,o11,o16,o849,o11,o851,o852,o853,o854,o855 P,o856,o857,o858,o859,o860,o11,o16,o863,o11,o865,o866,o867,o11,o16,o870,o11,o872,o873,o874,o11,o16,o877,o11,o879,o880,o881,o11,o16,o884,o11,o886,o887,o888,o11,o16,o891,o892,o893,o11,o16,o896,o11,o898,o899,o900,o11,o16,o903,o904,o905,o11,o16,o908,o11,o910,o911,o912,o11,o16,o915,o11,o917,o918,o919,o11,o16,o922,o923,o924,o11,o16,o927,o11,o929,o930,o931,o11,o16,o934,o11,o936,o937,o938,o11,o16,o941,o11,o943,o944,o945,o11,o16,o948,o11,o950,o951,o952,o11,o16,o955,o956,o957,o11,o16,o960,o11,o962,o963,o964,o11,o16,o967,o968,o969,o11,o16,o972,o973,o974,o11,o16,o977,o978,o979,o11,o16,o982,o11,o984,o985,o986,o11,o16,o989,o11,o991,o992,o993,o11,o16,o996,o11,o998,o999,o1000,o11,o16,o1003,o11,o1005,o1006,o1007,o11,o16,o1010,o11,o1012,o1013,o1014,o11,o16,o1017,o1018,o1019,o11,o16,o1022,o1023,o1024,o11,o16,o1027,o11,o1029,o1030,o1031]
noncomputable def evs {α:Type}:List α->List α
 | []=>[]
 | [x]=>[x]
 | x::_::r=>x::evs r
noncomputable def ods {α:Type}:List α->List α
 | []=>[]
 | [_]=>[]
 | _::y::r=>y::ods r
noncomputable def bt:Nat->List Obj->BT
 | 0,_=>.nil
 | _+1,[]=>.nil
 | n+1,x::xs=>.node x (bt n (evs xs)) (bt n (ods xs))
noncomputable def life0 (P:Params):Life:=(boot_heap P).life
noncomputable def yE:Env:={ scope:=pwn.main.scope,locals:=mainNs,globals:=mainNs,cells:=[],code:=.ref 13,frame:=some 14 }
noncomputable def Loa (P:Params):List Obj:=(yP P (v2_a P) (v3_a P) (v12_a P) (v12_a P)).take 15
noncomputable abbrev sR (w:World) (l:List Obj) (n m:Nat) (os:OsState):SharedT:=⟨bt 11 l,n,life0 w.params,#[],boot_drawn,m,os⟩
noncomputable def Sra (w:World) (os:OsState):SharedT:=sR w (Loa w.params) 15 187 os
noncomputable def sts0:List Stmt:=[st 0,st 1,st 2]
noncomputable def Lo0 (P:Params):List Obj:=(yP P (yR P) (v3_0 P) (v12_0 P) (v38_0 P)).take 42
noncomputable def Sr0 (w:World) (os:OsState):SharedT:=sR w (Lo0 w.params) 42 225 os
noncomputable def sts1:List Stmt:=[st 3]
noncomputable def Lo1 (P:Params):List Obj:=(yP P (yR P) (v3_1 P) (v12_1 P) (v38_1 P)).take 54
noncomputable def Sr1 (w:World) (os:OsState):SharedT:=sR w (Lo1 w.params) 54 241 os
noncomputable def sts2:List Stmt:=[st 4]
noncomputable def Lo2 (P:Params):List Obj:=(yP P (yR P) (v3_2 P) (v12_2 P) (v38_2 P)).take 66
noncomputable def Sr2 (w:World) (os:OsState):SharedT:=sR w (Lo2 w.params) 66 257 os
noncomputable def sts3:List Stmt:=[st 5,st 6,st 7,st 8,st 9,st 10,st 11,st 12,st 13]
noncomputable def Lo3 (P:Params):List Obj:=(yP P (yR P) (v3_3 P) (v12_3 P) (zO P)).take 113
noncomputable def Sr3 (w:World) (os:OsState):SharedT:=sR w (Lo3 w.params) 113 318 os
noncomputable def sts4:List Stmt:=[st 14,st 15,st 16,st 17,st 18,st 19,st 20,st 21,st 22,st 23,st 24,st 25]
noncomputable def Lo4 (P:Params):List Obj:=(yP P (yR P) (v3_4 P) (v12_4 P) (zO P)).take 136
noncomputable def Sr4 (w:World) (os:OsState):SharedT:=sR w (Lo4 w.params) 136 364 os
noncomputable def sts5:List Stmt:=[st 26]
noncomputable def Lo5 (P:Params):List Obj:=(yP P (yR P) (v3_5 P) (v12_5 P) (zO P)).take 193
noncomputable def Sr5 (w:World) (os:OsState):SharedT:=sR w (Lo5 w.params) 193 454 os
noncomputable def sts6:List Stmt:=[st 27,st 28,st 29,st 30,st 31,st 32,st 33,st 34,st 35,st 36,st 37,st 38,st 39,st 40,st 41,st 42]
noncomputable def Lo6 (P:Params):List Obj:=(yP P (yR P) (v3_6 P) (v12_6 P) (zO P)).take 270
noncomputable def Sr6 (w:World) (os:OsState):SharedT:=sR w (Lo6 w.params) 270 566 os
noncomputable def sts7:List Stmt:=[st 43,st 44,st 45,st 46,st 47,st 48,st 49,st 50,st 51,st 52,st 53,st 54,st 55,st 56,st 57,st 58]
noncomputable def Lo7 (P:Params):List Obj:=(yP P (yR P) (v3_7 P) (v12_7 P) (zO P)).take 345
noncomputable def Sr7 (w:World) (os:OsState):SharedT:=sR w (Lo7 w.params) 345 674 os
noncomputable def sts8:List Stmt:=[st 59,st 60]
noncomputable def Lo8 (P:Params):List Obj:=(yP P (yR P) (v3_8 P) (v12_8 P) (zO P)).take 388
noncomputable def Sr8 (w:World) (os:OsState):SharedT:=sR w (Lo8 w.params) 388 734 os
noncomputable def sts9:List Stmt:=[st 61,st 62]
noncomputable def Lo9 (P:Params):List Obj:=(yP P (yR P) (v3_9 P) (v12_9 P) (zO P)).take 444
noncomputable def Sr9 (w:World) (os:OsState):SharedT:=sR w (Lo9 w.params) 444 805 os
noncomputable def sts10:List Stmt:=[st 63]
noncomputable def Lo10 (P:Params):List Obj:=(yP P (yR P) (v3_10 P) (v12_10 P) (zO P)).take 521
noncomputable def Sr10 (w:World) (os:OsState):SharedT:=sR w (Lo10 w.params) 521 914 os
noncomputable def sts11:List Stmt:=[st 64,st 65,st 66,st 67,st 68,st 69,st 70,st 71,st 72,st 73,st 74]
noncomputable def Lo11 (P:Params):List Obj:=(yP P (yR P) (v3_11 P) (v12_11 P) (zO P)).take 549
noncomputable def Sr11 (w:World) (os:OsState):SharedT:=sR w (Lo11 w.params) 549 980 os
noncomputable def sts12:List Stmt:=[st 75]
noncomputable def Lo12 (P:Params):List Obj:=(yP P (yR P) (v3_12 P) (v12_12 P) (zO P)).take 675
noncomputable def Sr12 (w:World) (os:OsState):SharedT:=sR w (Lo12 w.params) 675 1167 os
noncomputable def sts13:List Stmt:=[st 76,st 77,st 78,st 79]
noncomputable def Lo13 (P:Params):List Obj:=(yP P (yR P) (v3_13 P) (v12_13 P) (zO P)).take 724
noncomputable def Sr13 (w:World) (os:OsState):SharedT:=sR w (Lo13 w.params) 724 1240 os
noncomputable def sts14:List Stmt:=[st 80]
noncomputable def Lo14 (P:Params):List Obj:=(yP P (yR P) (v3_14 P) (v12_14 P) (zO P)).take 778
noncomputable def Sr14 (w:World) (os:OsState):SharedT:=sR w (Lo14 w.params) 778 1323 os
noncomputable def sts15:List Stmt:=[st 81,st 82,st 83]
noncomputable def Lo15 (P:Params):List Obj:=(yP P (yR P) (v3_15 P) (v12_15 P) (zO P)).take 799
noncomputable def Sr15 (w:World) (os:OsState):SharedT:=sR w (Lo15 w.params) 799 1345 os
noncomputable def sts16:List Stmt:=[st 84]
noncomputable def Lo16 (P:Params):List Obj:=(yP P (yR P) (v3_16 P) (v12_16 P) (zO P)).take 861
noncomputable def Sr16 (w:World) (os:OsState):SharedT:=sR w (Lo16 w.params) 861 1431 os
noncomputable def sts17:List Stmt:=[st 85,st 86,st 87,st 88,st 89,st 90,st 91,st 92,st 93,st 94,st 95,st 96,st 97]
noncomputable def Lo17 (P:Params):List Obj:=(yP P (yR P) (v3_17 P) (v12_17 P) (zO P)).take 939
noncomputable def Sr17 (w:World) (os:OsState):SharedT:=sR w (Lo17 w.params) 939 1535 os
noncomputable def sts18:List Stmt:=[st 98,st 99,st 100,st 101,st 102,st 103,st 104,st 105,st 106,st 107,st 108,st 109,st 110]
noncomputable def Lo18 (P:Params):List Obj:=(yP P (yR P) (v3_18 P) (v12_18 P) (zO P)).take 1020
noncomputable def Sr18 (w:World) (os:OsState):SharedT:=sR w (Lo18 w.params) 1020 1651 os
noncomputable def sts19:List Stmt:=[st 111,st 112]
noncomputable def Lo19 (P:Params):List Obj:=(yP P (yR P) (v3_19 P) (v12_19 P) (zO P)).take 1032
noncomputable def Sr19 (w:World) (os:OsState):SharedT:=sR w (Lo19 w.params) 1032 1671 os
noncomputable def bodyN:List Stmt:=(sts0++(sts1++(sts2++(sts3++(sts4++(sts5++(sts6++(sts7++(sts8++(sts9++(sts10++(sts11++(sts12++(sts13++(sts14++(sts15++(sts16++(sts17++(sts18++(sts19++[]))))))))))))))))))))
noncomputable def cE:Code:=.body bodyN yE
theorem pc0(w:World):(λ os=>segRunT treeTable pwn w 11 (some (.ref 6)) 1 267 (Sra w os) (piecesOf sts0 yE cE ⟨0,0,0,0⟩ [topFrame ⟨0,0,0,0⟩]))=λ os=>some (.next,Sr0 w os,cE,⟨5,0,8,30⟩):=by
 rw[BP,BK];kernel_rfl
theorem pc1(w:World):(λ os=>segRunT treeTable pwn w 11 (some (.ref 6)) 1 214 (Sr0 w os) (piecesOf sts1 yE cE ⟨5,0,8,30⟩ [topFrame ⟨0,0,0,0⟩]))=λ os=>some (.next,Sr1 w os,cE,⟨9,0,10,8⟩):=by
 rw[BP,BK];kernel_rfl
theorem pc2(w:World):(λ os=>segRunT treeTable pwn w 11 (some (.ref 6)) 1 214 (Sr1 w os) (piecesOf sts2 yE cE ⟨9,0,10,8⟩ [topFrame ⟨0,0,0,0⟩]))=λ os=>some (.next,Sr2 w os,cE,⟨11,0,12,8⟩):=by
 rw[BP,BK];kernel_rfl
theorem pc3(w:World):(λ os=>segRunT treeTable pwn w 11 (some (.ref 6)) 1 390 (Sr2 w os) (piecesOf sts3 yE cE ⟨11,0,12,8⟩ [topFrame ⟨0,0,0,0⟩]))=λ os=>some (.next,Sr3 w os,cE,⟨30,0,30,8⟩):=by
 rw[BP,BK];kernel_rfl
theorem pc4(w:World):(λ os=>segRunT treeTable pwn w 11 (some (.ref 6)) 1 178 (Sr3 w os) (piecesOf sts4 yE cE ⟨30,0,30,8⟩ [topFrame ⟨0,0,0,0⟩]))=λ os=>some (.next,Sr4 w os,cE,⟨53,0,53,9⟩):=by
 rw[BP,BK];kernel_rfl
theorem pc5(w:World):(λ os=>segRunT treeTable pwn w 11 (some (.ref 6)) 1 405 (Sr4 w os) (piecesOf sts5 yE cE ⟨53,0,53,9⟩ [topFrame ⟨0,0,0,0⟩]))=λ os=>some (.next,Sr5 w os,cE,⟨54,0,81,137⟩):=by
 rw[BP,BK];kernel_rfl
theorem pc6(w:World):(λ os=>segRunT treeTable pwn w 11 (some (.ref 6)) 1 390 (Sr5 w os) (piecesOf sts6 yE cE ⟨54,0,81,137⟩ [topFrame ⟨0,0,0,0⟩]))=λ os=>some (.next,Sr6 w os,cE,⟨163,0,170,16⟩):=by
 rw[BP,BK];kernel_rfl
theorem pc7(w:World):(λ os=>segRunT treeTable pwn w 11 (some (.ref 6)) 1 392 (Sr6 w os) (piecesOf sts7 yE cE ⟨163,0,170,16⟩ [topFrame ⟨0,0,0,0⟩]))=λ os=>some (.next,Sr7 w os,cE,⟨233,0,234,35⟩):=by
 rw[BP,BK];kernel_rfl
theorem pc8(w:World):(λ os=>segRunT treeTable pwn w 11 (some (.ref 6)) 1 325 (Sr7 w os) (piecesOf sts8 yE cE ⟨233,0,234,35⟩ [topFrame ⟨0,0,0,0⟩]))=λ os=>some (.next,Sr8 w os,cE,⟨237,0,250,76⟩):=by
 rw[BP,BK];kernel_rfl
theorem pc9(w:World):(λ os=>segRunT treeTable pwn w 11 (some (.ref 6)) 1 383 (Sr8 w os) (piecesOf sts9 yE cE ⟨237,0,250,76⟩ [topFrame ⟨0,0,0,0⟩]))=λ os=>some (.next,Sr9 w os,cE,⟨278,0,279,49⟩):=by
 rw[BP,BK];kernel_rfl
theorem pc10(w:World):(λ os=>segRunT treeTable pwn w 11 (some (.ref 6)) 1 495 (Sr9 w os) (piecesOf sts10 yE cE ⟨278,0,279,49⟩ [topFrame ⟨0,0,0,0⟩]))=λ os=>some (.next,Sr10 w os,cE,⟨280,0,347,20⟩):=by
 rw[BP,BK];kernel_rfl
theorem pc11(w:World):(λ os=>segRunT treeTable pwn w 11 (some (.ref 6)) 1 357 (Sr10 w os) (piecesOf sts11 yE cE ⟨280,0,347,20⟩ [topFrame ⟨0,0,0,0⟩]))=λ os=>some (.next,Sr11 w os,cE,⟨363,0,364,147⟩):=by
 rw[BP,BK];kernel_rfl
theorem pc12(w:World):(λ os=>segRunT treeTable pwn w 11 (some (.ref 6)) 1 741 (Sr11 w os) (piecesOf sts12 yE cE ⟨363,0,364,147⟩ [topFrame ⟨0,0,0,0⟩]))=λ os=>some (.next,Sr12 w os,cE,⟨365,0,470,20⟩):=by
 rw[BP,BK];kernel_rfl
theorem pc13(w:World):(λ os=>segRunT treeTable pwn w 11 (some (.ref 6)) 1 384 (Sr12 w os) (piecesOf sts13 yE cE ⟨365,0,470,20⟩ [topFrame ⟨0,0,0,0⟩]))=λ os=>some (.next,Sr13 w os,cE,⟨474,0,506,30⟩):=by
 rw[BP,BK];kernel_rfl
theorem pc14(w:World):(λ os=>segRunT treeTable pwn w 11 (some (.ref 6)) 1 395 (Sr13 w os) (piecesOf sts14 yE cE ⟨474,0,506,30⟩ [topFrame ⟨0,0,0,0⟩]))=λ os=>some (.next,Sr14 w os,cE,⟨507,0,557,27⟩):=by
 rw[BP,BK];kernel_rfl
theorem pc15(w:World):(λ os=>segRunT treeTable pwn w 11 (some (.ref 6)) 1 89 (Sr14 w os) (piecesOf sts15 yE cE ⟨507,0,557,27⟩ [topFrame ⟨0,0,0,0⟩]))=λ os=>some (.next,Sr15 w os,cE,⟨562,0,563,82⟩):=by
 rw[BP,BK];kernel_rfl
theorem pc16(w:World):(λ os=>segRunT treeTable pwn w 11 (some (.ref 6)) 1 423 (Sr15 w os) (piecesOf sts16 yE cE ⟨562,0,563,82⟩ [topFrame ⟨0,0,0,0⟩]))=λ os=>some (.next,Sr16 w os,cE,⟨564,0,611,16⟩):=by
 rw[BP,BK];kernel_rfl
theorem pc17(w:World):(λ os=>segRunT treeTable pwn w 11 (some (.ref 6)) 1 370 (Sr16 w os) (piecesOf sts17 yE cE ⟨564,0,611,16⟩ [topFrame ⟨0,0,0,0⟩]))=λ os=>some (.next,Sr17 w os,cE,⟨658,0,664,179⟩):=by
 rw[BP,BK];kernel_rfl
theorem pc18(w:World):(λ os=>segRunT treeTable pwn w 11 (some (.ref 6)) 1 393 (Sr17 w os) (piecesOf sts18 yE cE ⟨658,0,664,179⟩ [topFrame ⟨0,0,0,0⟩]))=λ os=>some (.next,Sr18 w os,cE,⟨754,0,768,81⟩):=by
 rw[BP,BK];kernel_rfl
theorem pc19(w:World):(λ os=>segRunT treeTable pwn w 11 (some (.ref 6)) 1 63 (Sr18 w os) (piecesOf sts19 yE cE ⟨754,0,768,81⟩ [topFrame ⟨0,0,0,0⟩]))=λ os=>some (.next,Sr19 w os,cE,⟨780,0,791,83⟩):=by
 rw[BP,BK];kernel_rfl
noncomputable def rwn:OpenLaw:=
 { prog:=pwn,name:=uc,about:=[YC,YD],foot:=27,most:=some 63,bound:=none,writes:=false }
abbrev tF(q:Pos):List Frame:=[topFrame q]
noncomputable def qn:Program:={ pwn with main:={ pwn.main with body:=[st 112] } }
noncomputable def H1 (P:Params):Heap:=⟨Array.mk (Lo19 P),life0 P⟩
noncomputable def Sa (w:World) (os:OsState):Shared:=⟨⟨Array.mk (Loa w.params),life0 w.params⟩,Array.mk [],boot_drawn,187,os⟩
theorem preRun(w:World):(λ os=>topGo treeTable pwn w 11 (some (.ref 6)) 12 ⟨boot_heap w.params,Array.mk [],boot_drawn,boot_toks,os⟩ (topStub pwn))=λ os=>some (Sa w os,⟨denote treeTable cE,cE,⟨0,0,0,0⟩,tF ⟨0,0,0,0⟩⟩):=by
 rw[Fast.te15667345088766844465,Fast.te11892475500146522536,BK];kernel_rfl
theorem blockRun(w:World):(λ os=>segRun treeTable pwn w 11 (some (.ref 6)) 1 1 (Sa w os) (blockOf bodyN yE cE ⟨0,0,0,0⟩ (tF ⟨0,0,0,0⟩)))=λ os=>some (.next,(Sra w os).abs,cE,⟨0,0,0,0⟩):=by
 rw[Fast.te14374325043358763698,BK];kernel_rfl
theorem finRun(w:World):(λ os=>topRun treeTable pwn w 11 (some (.ref 6)) 2 (Sr19 w os).abs ⟨doneF .next,cE,⟨780,0,791,83⟩,tF ⟨0,0,0,0⟩⟩)=λ os=>some ⟨H1 w.params,Array.mk [],boot_drawn,1671,os⟩:=by
 rw[Fast.te14082659384304107361,BK];kernel_rfl
def steps:Nat:=12+(1+(267+(214+(214+(390+(178+(405+(390+(392+(325+(383+(495+(357+(741+(384+(395+(89+(423+(370+(393+(63+2)))))))))))))))))))))
theorem run(w:World)(os:OsState):topRun treeTable pwn w 11 (some (.ref 6)) steps ⟨boot_heap w.params,Array.mk [],boot_drawn,boot_toks,os⟩ (topStub pwn)=some ⟨H1 w.params,Array.mk [],boot_drawn,1671,os⟩:=by
 unfold steps;refine go_top (CY (preRun w) os) (piece_block (CY (blockRun w) os) ?_);unfold bodyN;exact Ck (Cj (CY (pc0 w) os)) (Ck (Cj (CY (pc1 w) os)) (Ck (Cj (CY (pc2 w) os)) (Ck (Cj (CY (pc3 w) os)) (Ck (Cj (CY (pc4 w) os)) (Ck (Cj (CY (pc5 w) os)) (Ck (Cj (CY (pc6 w) os)) (Ck (Cj (CY (pc7 w) os)) (Ck (Cj (CY (pc8 w) os)) (Ck (Cj (CY (pc9 w) os)) (Ck (Cj (CY (pc10 w) os)) (Ck (Cj (CY (pc11 w) os)) (Ck (Cj (CY (pc12 w) os)) (Ck (Cj (CY (pc13 w) os)) (Ck (Cj (CY (pc14 w) os)) (Ck (Cj (CY (pc15 w) os)) (Ck (Cj (CY (pc16 w) os)) (Ck (Cj (CY (pc17 w) os)) (Ck (Cj (CY (pc18 w) os)) (Ck (Cj (CY (pc19 w) os)) (piece_nil (CY (finRun w) os)))))))))))))))))))))
theorem opens:∀ w:World,(fencedOpening treeTable pwn w 14000).map (λ s=>(s.heap,s.gens,s.drawn,s.toks))=some (boot_heap w.params,Array.mk [],boot_drawn,boot_toks):=
 boot_open (by kernel_rfl) (by decide) (λ s=>by kernel_rfl)
theorem size0:∀ w:World,((boot_heap w.params).isNs mainGlobals&&(Array.mk []:Array GenState).size == 0,(boot_heap w.params).objs.size,(boot_heap w.params).nsMap mainGlobals "__annotations__")=(true,11,some (.ref 6)):=λ w=>by kernel_rfl
noncomputable def xN:List Str:=[n1,n7,n9,n10,n11,n15,n16,n22,n23,n24,n26,n28,n32,n33,n35,n36,n37,n38,n39,n40,n41,n42,n55,n60,n66,n70,n72,n78,n82,n86,n88,n89,n90,n91,n93,n96,n95,Jv,n99,Ju,Jt,n109,Js,Jr,Jp,Jn,n123,n124,Jm,Jl,Jk,Jj,Ji,Ww,Ws,Jg,Wn,n167,n168,n169,n170,n171,n172,n173,n174,Wm,Jf,YC,n210,n211,WT,WQ,Je,Jd,Jc,WL,Jb,Ja,JZ,JY,JX,JW,JV,JU,JT,JS,JR,JQ,JP,JO,JN,JM,JL,JK,JJ,JI,JH,JG,JF,JE,JD,JC]
noncomputable abbrev sEnd (w:World) (os:OsState):Shared:=⟨H1 w.params,Array.mk [],boot_drawn,1671,os⟩
theorem look1(w:World):(λ os=>(staticsOk (importedModules pwn.main.body) (boot_heap w.params) (H1 w.params)&&namesBound pwn (H1 w.params)&&gensDone (sEnd w os)&&laidKept (boot_heap w.params) (H1 w.params)))=λ _=>true:=by
 kernel_rfl
theorem look2(w:World):(λ os=>openSeen qn xN (importedModules pwn.main.body) (λ _=>true) true (sEnd w os))=λ _=>openGood qn xN:=by
 rw[Fast.te4187177175401517315];kernel_rfl
theorem rw_eq:PySem.Challenge.rw_sf0051_01=rwn:=by
 unfold PySem.Challenge.rw_sf0051_01 rwn;rw[pw_eq];congr 1
theorem law_of(h:rwn.row.wellSaid=true->rwn.row.Holds):rwn.Holds:=by
 o_law
 exact h (by assumption)
noncomputable def Yn:DefRec:=⟨uc,qY (st 112),wP (st 112),je (st 112),⟨780,0,791,83⟩⟩
def YPn(w:World)(h:Heap):Prop:=∀ b o,(H1 w.params).get? b=some o->h.get? b=some o
theorem left:LeftO pwn qn xN (λ _=>true) (λ s=>s.heap) (λ w=>H1 w.params) 14000:=
 LeftO.of_pieces opens size0 run (by decide) (λ w=>by
  funext os;have h1:=CY (look1 w) os;have h2:=CY (look2 w) os;dsimp only at h1 h2 ⊢
  rw[h1,h2])
theorem okN:(chainsOk qn&&opensWell rwn.row.prog&&(frees rwn.row.toRowW&&rwn.row.within.isEmpty))=true:=by kernel_rfl
theorem Xk:rwn.row.toRowW.promised:=⟨[WData.list [.int 3,.int 1]],by decide +kernel,by decide +kernel⟩
theorem bareN:rwn.row.prog.bare:=⟨rfl,rfl,rfl,rfl,rfl,by decide +kernel⟩
theorem defN:defOf qn rwn.row.name=some (Yn,[]):=by kernel_rfl
theorem theDefN:rwn.row.prog.theDef rwn.row.name=some (Yn.params,Yn.body,Yn.scope):=by kernel_rfl
theorem kwN:kwWritten? Yn.params.kwonlyargs Yn.params.kw_defaults=some []:=by kernel_rfl
theorem head(call:WalkO qn xN (λ _ _=>True) YPn rwn.row.toRowW Yn [] λ f vs=>PySem.call f vs):PySem.Challenge.rw_sf0051_01.Holds:=by
 rw[rw_eq];refine law_of λ said=>?_;exact holds_open (XP:=λ _ _=>True) (YP:=YPn) left (λ w s e b o h=>by rw[e];exact h) (λ w h h' y k b o e=>k b o (y b o e)) (λ _ _=>trivial) (λ _ _ _ _ _=>trivial)
  defN theDefN kwN (λ s _=>recFacts_nil rfl) rfl said okN bareN Xk call
inductive Ex2{A B:Type}(w:A->B->Prop):Prop
 | intro(a:A) (b:B) (h:w a b):Ex2 w
inductive Ex3{A B C:Type}(w:A->B->C->Prop):Prop
 | intro(a:A) (b:B) (c:C) (h:w a b c):Ex3 w
inductive Ex4{A B C D:Type}(w:A->B->C->D->Prop):Prop
 | intro(a:A) (b:B) (c:C) (d:D) (h:w a b c d):Ex4 w
inductive Ex5{A B C D E:Type}(w:A->B->C->D->E->Prop):Prop
 | intro(a:A) (b:B) (c:C) (d:D) (e:E) (h:w a b c d e):Ex5 w
inductive Ex6{A B C D E F:Type}(w:A->B->C->D->E->F->Prop):Prop
 | intro(a:A) (b:B) (c:C) (d:D) (e:E) (f:F) (h:w a b c d e f):Ex6 w
inductive Ex7{A B C D E F G:Type}(w:A->B->C->D->E->F->G->Prop):Prop
 | intro(a:A) (b:B) (c:C) (d:D) (e:E) (f:F) (g:G) (h:w a b c d e f g):Ex7 w
inductive Ex8{A B C D E F G H:Type}(w:A->B->C->D->E->F->G->H->Prop):Prop
 | intro(a:A) (b:B) (c:C) (d:D) (e:E) (f:F) (g:G) (h0:H) (h:w a b c d e f g h0):Ex8 w
inductive Ex9{A B C D E F G H I:Type}(w:A->B->C->D->E->F->G->H->I->Prop):Prop
 | intro(a:A) (b:B) (c:C) (d:D) (e:E) (f:F) (g:G) (h0:H) (i:I) (h:w a b c d e f g h0 i):Ex9 w
inductive Ex10{A B C D E F G H I J:Type}(w:A->B->C->D->E->F->G->H->I->J->Prop):Prop
 | intro(a:A) (b:B) (c:C) (d:D) (e:E) (f:F) (g:G) (h0:H) (i:I) (j:J) (h:w a b c d e f g h0 i j):Ex10 w
inductive Ex11{A B C D E F G H I J K:Type}(w:A->B->C->D->E->F->G->H->I->J->K->Prop):Prop
 | intro(a:A) (b:B) (c:C) (d:D) (e:E) (f:F) (g:G) (h0:H) (i:I) (j:J) (k:K) (h:w a b c d e f g h0 i j k):Ex11 w
inductive Ex12{A B C D E F G H I J K L:Type}(w:A->B->C->D->E->F->G->H->I->J->K->L->Prop):Prop
 | intro(a:A) (b:B) (c:C) (d:D) (e:E) (f:F) (g:G) (h0:H) (i:I) (j:J) (k:K) (l:L) (h:w a b c d e f g h0 i j k l):Ex12 w
inductive jT(A B C:Prop):Prop
 | mk (p1:A) (p2:B) (p3:C)
inductive jj(A B C D:Prop):Prop
 | mk (p1:A) (p2:B) (p3:C) (p4:D)
inductive vj(A B C D E:Prop):Prop
 | mk (p1:A) (p2:B) (p3:C) (p4:D) (p5:E)
structure And6(A B C D E F:Prop):Prop where
 p1:A
 p2:B
 p3:C
 p4:D
 p5:E
 p6:F
inductive And7(A B C D E F G:Prop):Prop
 | mk (p1:A) (p2:B) (p3:C) (p4:D) (p5:E) (p6:F) (p7:G)
inductive And8(A B C D E F G H:Prop):Prop
 | mk (p1:A) (p2:B) (p3:C) (p4:D) (p5:E) (p6:F) (p7:G) (p8:H)
inductive And9(A B C D E F G H I:Prop):Prop
 | mk (p1:A) (p2:B) (p3:C) (p4:D) (p5:E) (p6:F) (p7:G) (p8:H) (p9:I)
inductive And11(A B C D E F G H I J K:Prop):Prop
 | mk (p1:A) (p2:B) (p3:C) (p4:D) (p5:E) (p6:F) (p7:G) (p8:H) (p9:I) (p10:J) (p11:K)
inductive And12(A B C D E F G H I J K L:Prop):Prop
 | mk (p1:A) (p2:B) (p3:C) (p4:D) (p5:E) (p6:F) (p7:G) (p8:H) (p9:I) (p10:J) (p11:K) (p12:L)
inductive And13(A B C D E F G H I J K L M:Prop):Prop
 | mk (p1:A) (p2:B) (p3:C) (p4:D) (p5:E) (p6:F) (p7:G) (p8:H) (p9:I) (p10:J) (p11:K) (p12:L) (p13:M)
inductive And14(A B C D E F G H I J K L M N:Prop):Prop
 | mk (p1:A) (p2:B) (p3:C) (p4:D) (p5:E) (p6:F) (p7:G) (p8:H) (p9:I) (p10:J) (p11:K) (p12:L) (p13:M) (p14:N)
@[elab_as_elim] theorem rwl {α:Sort _} {a b:α} {P:α->Prop} (h:a=b) (p:P b):P a:=h▸p
theorem fe{P:Prop}(h:False):P:=h.elim
theorem ff{P:Prop}(h:false=true):P:=nomatch h
theorem ft{P:Prop}(h:true=false):P:=nomatch h
theorem nsm{α:Type}{x:α}{P:Prop}(h:none=some x):P:=nomatch h
theorem snm{α:Type}{x:α}{P:Prop}(h:some x=none):P:=nomatch h
inductive BI where
 | len | range | bytes | any | sum | sorted | max | min | enumerate | str | list
inductive T where
 | none | bool (b:Bool) | int (i:Int) | str (s:Str) | bytes (b:List UInt8)
 | tup (ts:List T) | lst (ts:List T) | inst (C:Addr) (fs:List (Str×T))
 | ref (a:Addr) | bi (b:BI) | rng (a b c:Int)
inductive V where
 | p (t:T) | m (id:Nat) | lam (x:Expr) (sc:Scope) (loc:List (Str×V))
inductive jB where
 | plst (ts:List T) | vlst (vs:List V) | inst (C:Addr) (fs:List (Str×V)) | dict (es:List (T×V)) (ep:Nat) | gone
structure St where
 loc:List (Str×V)
 mem:List jB
 sc:List (Str×NameKind)
inductive Fl where
 | next | brk | cont | ret (v:V)
noncomputable def seq (a b:Str):Bool:=Fast.sEq a b
noncomputable def lk {α:Type} (x:Str):List (Str×α)->Option α
 | []=>.none
 | (y,v)::r=>@Bool.rec (λ _=>Option α) (lk x r) (.some v) (seq x y)
noncomputable def put {α:Type} (x:Str) (v:α):List (Str×α)->List (Str×α)
 | []=>[(x,v)]
 | (y,u)::r=>@Bool.rec (λ _=>List (Str×α)) ((y,u)::put x v r) ((y,v)::r) (seq x y)
noncomputable def lkN {α:Type} (x:Nat):List (Nat×α)->Option α
 | []=>.none
 | (y,v)::r=>match Nat.beq x y with
   | true=>.some v
   | false=>lkN x r
def Br(b:Bool)(A B:Prop):Prop:=@Bool.rec (λ _=>Prop) B A b
mutual
noncomputable def T.eqB:T->T->Bool
 | .none,.none=>true
 | .bool a,.bool b=>a == b
 | .int a,.int b=>a == b
 | .str a,.str b=>a == b
 | .bytes a,.bytes b=>a == b
 | .tup a,.tup b=>T.eqL a b
 | .lst a,.lst b=>T.eqL a b
 | _,_=>false
noncomputable def T.eqL:List T->List T->Bool
 | [],[]=>true
 | a::r,b::q=>T.eqB a b&&T.eqL r q
 | _,_=>false
end
noncomputable def yr {α:Type}:List α->Bool
 | []=>true
 | _::_=>false
noncomputable def yq {α β:Type}:List α->List β->Bool
 | [],b=>yr b
 | _::r,b=>match b with
   | []=>false
   | _::q=>yq r q
noncomputable def isNS:T->Bool
 | .none=>true
 | .str _=>true
 | _=>false
noncomputable def Us:T->Bool
 | .bool _=>true
 | _=>false
noncomputable def isIntT:T->Bool
 | .int _=>true
 | _=>false
noncomputable def isStrT:T->Bool
 | .str _=>true
 | _=>false
noncomputable def isBytT:T->Bool
 | .bytes _=>true
 | _=>false
noncomputable def T.same:Nat->T->T->Bool
 | 0,_,_=>false
 | n+1,a,b=>match a with
   | .none=>isNS b
   | .bool _=>Us b
   | .int _=>isIntT b
   | .str _=>isStrT b
   | .bytes _=>isBytT b
   | .tup x=>(match b with
     | .tup y=>sameL (T.same n) x y
     | _=>false)
   | .lst x=>(match b with
     | .lst y=>(match yq x y with
       | true=>sameL (T.same n) x y
       | false=>true)
     | _=>false)
   | _=>false
where
 sameL (f:T->T->Bool):List T->List T->Bool
  | [],b=>yr b
  | a::r,b=>match b with
    | []=>false
    | c::q=>f a c&&sameL f r q
noncomputable def z6 (a b c:Int):List Int:=(List.range ((b-a+c-1).fdiv c).toNat).map λ(i:Nat)=>a+c*(i:Int)
noncomputable def YO:Nat->List T->List T
 | _,[]=>[]
 | n,t::r=>.tup [.int n,t]::YO (n+1) r
noncomputable def lim (n:Nat) (i:Int):Nat:=if i<0 then n-(-i).toNat else min i.toNat n
noncomputable def jG {α:Type} (l:List α) (lo hi:Option Int):List α:=
 let a:=match lo with | .none=>0 | .some i=>lim l.length i
 let b:=match hi with | .none=>l.length | .some i=>lim l.length i
 (l.drop a).take (b-a)
noncomputable def xi {α:Type} (x:α) (o:Option (List α)):Option (List α):=match o with
 | .some l=>.some (x::l)
 | .none=>.none
noncomputable def T.ints:List T->Option (List Int)
 | []=>.some []
 | t::r=>match t with
   | .int i=>xi i (T.ints r)
   | _=>.none
noncomputable def Xn:List V->Option (List T)
 | []=>.some []
 | v::r=>match v with
   | .p t=>xi t (Xn r)
   | _=>.none
noncomputable def Zy:List (Str×V)->Option (List (Str×T))
 | []=>.some []
 | v::r=>match v.2 with
   | .p t=>xi (v.1,t) (Zy r)
   | _=>.none
noncomputable def yD (n:Nat):V->Bool
 | .p _=>true
 | .m i=>Nat.blt i n
 | .lam _ _ _=>false
noncomputable def j8 (n:Nat):List V->Bool
 | []=>true
 | v::r=>yD n v&&j8 n r
noncomputable def wi (n:Nat):List (Str×V)->Bool
 | []=>true
 | v::r=>yD n v.2&&wi n r
noncomputable def XN (n:Nat):List (T×V)->Bool
 | []=>true
 | v::r=>yD n v.2&&XN n r
noncomputable def WH (n:Nat):jB->Bool
 | .plst _=>true
 | .vlst vs=>j8 n vs
 | .inst _ fs=>wi n fs
 | .dict es _=>XN n es
 | .gone=>true
noncomputable def qi (n:Nat):List jB->Bool
 | []=>true
 | o::r=>WH n o&&qi n r
noncomputable def jC:List jB->Nat->jB
 | [],_=>.gone
 | o::_,0=>o
 | _::r,n+1=>jC r n
noncomputable def jp:List jB->Nat->jB->List jB
 | [],_,_=>[]
 | _::r,0,o=>o::r
 | x::r,n+1,o=>x::jp r n o
noncomputable def jA:List jB->Nat
 | []=>0
 | _::r=>(jA r).succ
noncomputable def jZ:Nat->List jB->List jB
 | 0,_=>[]
 | _+1,[]=>[]
 | n+1,o::r=>o::jZ n r
noncomputable def jU:List jB->jB->List jB
 | [],o=>[o]
 | x::r,o=>x::jU r o
noncomputable def glT:List (Str×Value):=[(n1,.ref 21),(n7,.ref 38),(n9,.ref 51),(n10,.ref 63),(n11,.ref 75),(n15,.ref 84),(n16,.ref 91),(n22,.ref 98),(n23,.ref 105),(n24,.ref 112),(n26,.int 65535 316),(n28,.ref 119),(n32,.ref 127),(n33,.ref 135),(n35,.int 4 348),(n36,.int 20 350),(n37,.int 60 352),(n38,.int 65535 354),(n39,.int 16384 356),(n40,.int 8192 358),(n41,.int 8191 360),(n42,.int 8 362),(n55,.ref 188),(n60,.ref 199),(n66,.ref 206),(n70,.ref 213),(n72,.ref 220),(n78,.ref 227),(n82,.ref 234),(n86,.ref 241),(n88,.int 0 521),(n89,.int 1 523),(n90,.int 40 525),(n91,.int 128 527),(n93,.ref 248),(n96,.ref 255),(n95,.ref 262),(Jv,.ref 269),(n99,.ref 276),(Ju,.ref 283),(Jt,.ref 288),(n109,.int 8 589),(Js,.ref 295),(Jr,.ref 302),(Jp,.ref 309),(Jn,.ref 316),(n123,.int 32 635),(n124,.int 4294967295 641),(Jm,.ref 323),(Jl,.ref 330),(Jk,.ref 337),(Jj,.ref 344),(Ji,.ref 351),(Ww,.ref 383),(Ws,.ref 432),(Jg,.ref 443),(Wn,.ref 516),(n167,.int 4294967295 920),(n168,.int 16777216 924),(n169,.int 3 926),(n170,.int 11 928),(n171,.int 0 930),(n172,.int 4 932),(n173,.int 0 934),(n174,.int 1 936),(Wm,.ref 537),(Jf,.ref 548),(YC,.ref 670),(n210,.int 8 1169),(n211,.int 8 1171),(WT,.ref 719),(WQ,.ref 773),(Je,.ref 784),(Jd,.ref 791),(Jc,.ref 798),(WL,.ref 856),(Jb,.ref 867),(Ja,.ref 874),(JZ,.ref 881),(JY,.ref 888),(JX,.ref 893),(JW,.ref 900),(JV,.ref 905),(JU,.ref 912),(JT,.ref 919),(JS,.ref 924),(JR,.ref 931),(JQ,.ref 938),(JP,.ref 945),(JO,.ref 952),(JN,.ref 957),(JM,.ref 964),(JL,.ref 969),(JK,.ref 974),(JJ,.ref 979),(JI,.ref 986),(JH,.ref 993),(JG,.ref 1000),(JF,.ref 1007),(JE,.ref 1014),(JD,.ref 1019),(JC,.ref 1024),(uc,.ref 1031)]
noncomputable def blT:List (Str×BI):=[(n20,.len),(n31,.range),(n14,.bytes),(n184,.any),(n242,.sum),(n230,.sorted),(n216,.max),(n218,.min),(n271,.enumerate),(n200,.str),(n245,.list)]
noncomputable def fnT:List (Nat×Stmt×List T):=[(21,(st 0),[]),(35,(mt 2 0),[]),(84,(st 7),[]),(91,(st 8),[]),(98,(st 9),[]),(105,(st 10),[]),(112,(st 11),[]),(119,(st 14),[]),(127,(st 15),[.int 0]),(135,(st 16),[.int 0]),(150,(mt 26 0),[.int 0,.int 64,.int 0,.bool false,.bool false,.int 0,.bytes []]),(157,(mt 26 1),[]),(164,(mt 26 2),[]),(171,(mt 26 3),[]),(178,(mt 26 4),[]),(185,(mt 26 5),[]),(199,(st 27),[]),(206,(st 28),[]),(213,(st 29),[]),(220,(st 30),[]),(227,(st 31),[]),(234,(st 32),[]),(241,(st 33),[]),(248,(st 39),[]),(255,(st 40),[]),(262,(st 41),[]),(269,(st 42),[]),(276,(st 43),[]),(283,(st 44),[]),(288,(st 45),[]),(295,(st 48),[]),(302,(st 49),[]),(309,(st 50),[]),(316,(st 51),[]),(323,(st 55),[]),(330,(st 56),[]),(337,(st 57),[]),(344,(st 58),[]),(351,(st 59),[]),(366,(mt 60 0),[.int 0]),(373,(mt 60 1),[]),(380,(mt 60 2),[]),(401,(mt 61 0),[]),(408,(mt 61 1),[]),(415,(mt 61 2),[]),(422,(mt 61 3),[]),(429,(mt 61 4),[]),(443,(st 62),[]),(457,(mt 63 0),[]),(464,(mt 63 1),[]),(471,(mt 63 2),[]),(478,(mt 63 3),[]),(485,(mt 63 4),[]),(492,(mt 63 5),[]),(499,(mt 63 6),[]),(506,(mt 63 7),[]),(513,(mt 63 8),[]),(534,(mt 73 0),[]),(548,(st 74),[]),(563,(mt 75 0),[.bool false]),(570,(mt 75 1),[]),(577,(mt 75 2),[]),(584,(mt 75 3),[]),(589,(mt 75 4),[]),(596,(mt 75 5),[]),(603,(mt 75 6),[]),(610,(mt 75 7),[]),(617,(mt 75 8),[]),(624,(mt 75 9),[]),(631,(mt 75 10),[]),(638,(mt 75 11),[]),(645,(mt 75 12),[]),(653,(mt 75 13),[.int 64,.bool false]),(660,(mt 75 14),[]),(667,(mt 75 15),[]),(688,(mt 79 0),[]),(695,(mt 79 1),[]),(702,(mt 79 2),[]),(709,(mt 79 3),[]),(716,(mt 79 4),[]),(737,(mt 80 0),[]),(744,(mt 80 1),[]),(751,(mt 80 2),[]),(758,(mt 80 3),[]),(763,(mt 80 4),[]),(770,(mt 80 5),[]),(784,(st 81),[]),(791,(st 82),[]),(798,(st 83),[]),(813,(mt 84 0),[.int 65535]),(820,(mt 84 1),[]),(825,(mt 84 2),[]),(832,(mt 84 3),[]),(839,(mt 84 4),[]),(846,(mt 84 5),[]),(853,(mt 84 6),[]),(867,(st 86),[]),(874,(st 87),[]),(881,(st 88),[]),(888,(st 89),[]),(893,(st 90),[]),(900,(st 91),[]),(905,(st 92),[]),(912,(st 93),[]),(919,(st 94),[]),(924,(st 95),[]),(931,(st 96),[]),(938,(st 97),[]),(945,(st 98),[]),(952,(st 99),[]),(957,(st 100),[]),(964,(st 101),[]),(969,(st 102),[]),(974,(st 103),[]),(979,(st 104),[]),(986,(st 105),[]),(993,(st 106),[]),(1000,(st 107),[]),(1007,(st 108),[]),(1014,(st 109),[]),(1019,(st 110),[]),(1024,(st 111),[]),(1031,(st 112),[])]
noncomputable def clT:List (Nat×Addr):=[(188,150),(383,366),(432,401),(516,457),(537,534),(670,563),(719,688),(773,737),(856,813)]
noncomputable def mtT:List (Nat×List (Str×Addr)):=[(188,[(n19,157),(n53,164),(n54,171),(n56,178),(n57,185)]),(383,[(Wx,373),(n57,380)]),(432,[(ZH,408),(YG,415),(Wu,422),(Wt,429)]),(516,[(n19,464),(ZF,471),(YF,478),(Wr,485),(Wq,492),(Wp,499),(Wo,506),(v0,513)]),(537,[]),(670,[(Wl,570),(Wk,577),(Wj,584),(Wi,589),(Wh,596),(YD,603),(Wg,610),(Wf,617),(Wd,624),(Wb,631),(Wa,638),(WZ,645),(WY,653),(WX,660),(vt,667)]),(719,[(WW,695),(WV,702),(WU,709),(vr,716)]),(773,[(WS,744),(vz,751),(vr,758),(n17,763),(WR,770)]),(856,[(vz,820),(WO,825),(WN,832),(WP,839),(vt,846),(WM,853)])]
noncomputable def atT:List (Nat×List Str):=[(188,[n43,n44,n45,n46,n47,n48,n49,n50,n51,n52]),(383,[vO,w7,Wy,yZ,n136]),(432,[YH,yv,ue]),(516,[n152,wk]),(537,[qd,w7,zG]),(670,[xL,ue,n178,YE,n180]),(719,[vN,v0]),(773,[n224,vN,n225,n226,YB,n227,n73,n19]),(856,[X2,X0,vN,n238])]
noncomputable def ZJ (C:Addr) (n:Str):Option Addr:=match lkN C mtT with
 | .some l=>lk n l
 | .none=>.none
noncomputable abbrev Uj:Str:=n94
noncomputable abbrev nPop:Str:=n163
noncomputable def Uk (n:Nat):Bool:=Nat.beq n 616
noncomputable def zW (C:Addr):Bool:=Nat.beq C 51||(Nat.beq C 63||Nat.beq C 75)
noncomputable def memS (x:Str):List Str->Bool
 | []=>false
 | y::r=>seq x y||memS x r
noncomputable def xr (C:Addr) (n:Str):Bool:=match lkN C atT with
 | .some l=>memS n l
 | .none=>false
noncomputable def XH (a:Addr):Bool:=(lkN a fnT).isSome||(lkN a clT).isSome
noncomputable def xS (f:Addr):Bool:=Nat.beq f 867
noncomputable def memN (n:Nat):List Nat->Bool
 | []=>false
 | y::r=>Nat.beq n y||memN n r
noncomputable def WE:List Nat:=[333,340,398,400,405,413,418,430,501,506,643,705,709,770,776,778,779,781,783]
abbrev K:=V->St->Prop
abbrev KX:=Addr->St->Prop
abbrev KM:=V->List jB->Prop
abbrev KXM:=Addr->List jB->Prop
abbrev zM:=List V->List jB->KM->KXM->Prop
inductive jK where
 | e (x:Expr) (st:St) (k:K) (kx:KX)
 | es (xs:List Expr) (st:St) (k:List V->St->Prop) (kx:KX)
 | cmp (a:V) (ops:List CmpOp) (cs:List Expr) (st:St) (k:K) (kx:KX)
 | bo (op:BoolOp) (xs:List Expr) (st:St) (k:K) (kx:KX)
 | t (x:Expr) (st:St) (k:Bool->St->Prop) (kx:KX)
 | ts (op:BoolOp) (xs:List Expr) (st:St) (k:Bool->St->Prop) (kx:KX)
 | tc (a:V) (ops:List CmpOp) (cs:List Expr) (st:St) (k:Bool->St->Prop) (kx:KX)
 | asg (tgt:Expr) (v:V) (st:St) (k:St->Prop) (kx:KX)
 | asgs (tgts:List Expr) (vs:List V) (st:St) (k:St->Prop) (kx:KX)
 | s (x:Stmt) (st:St) (k:Fl->St->Prop) (kx:KX)
 | ss (xs:List Stmt) (st:St) (k:Fl->St->Prop) (kx:KX)
 | call (f:Addr) (args:List V) (mem:List jB) (k:KM) (kx:KXM)
noncomputable def St.set (st:St) (x:Str) (v:V):St:=⟨put x v st.loc,st.mem,st.sc⟩
noncomputable def St.wm (st:St) (mem:List jB):St:=⟨st.loc,mem,st.sc⟩
noncomputable def valT:Value->T
 | .ref a=>.ref a
 | .int i _=>.int i
 | .str s _=>.str s
 | _=>.none
noncomputable def y9 (x:Str):Bool:=match x.cps.toList with
 | a::b::_=>!(Nat.beq a 95&&Nat.beq b 95)
 | _=>true
noncomputable def vV (st:St) (x:Str):Option V:=
 match y9 x with
 | false=>.none
 | true=>match lk x st.sc with
 | .some .globalImplicit=>(match lk x glT with
   | .some v=>.some (.p (valT v))
   | .none=>(match lk x blT with
     | .some b=>.some (.p (.bi b))
     | .none=>.none))
 | .some .local=>lk x st.loc
 | .some .cell=>lk x st.loc
 | .some .free=>lk x st.loc
 | _=>.none
def sml(i:Int):Prop:=-(2^64)<i/\i<2^64
def sm2(i:Int):Prop:=-(2^61)<i/\i<2^61
noncomputable def yN:List (T×V)->List T
 | []=>[]
 | e::r=>e.1::yN r
noncomputable def listOf? (mem:List jB):V->Option (List T)
 | .p (.lst ts)=>.some ts
 | .p (.tup ts)=>.some ts
 | .p (.rng a b c)=>.some ((z6 a b c).map T.int)
 | .m i=>(match jC mem i with
   | .plst ts=>.some ts
   | .dict es _=>.some (yN es)
   | _=>.none)
 | _=>.none
def on(b:Bool)(P:Prop):Prop:=match b with
 | true=>P
 | false=>False
def kNo:KX:=λ _ _=>False
def binI(op:Operator)(x y:Int)(st:St)(k:K):Prop:=match op with
 | .Add=>k (.p (.int (x+y))) st
 | .Sub=>k (.p (.int (x-y))) st
 | .Mult=>(sml x/\sml y)/\k (.p (.int (x*y))) st
 | .FloorDiv=>y≠0/\k (.p (.int (x.fdiv y))) st
 | .Mod=>y≠0/\k (.p (.int (x.fmod y))) st
 | .Pow=>((x=2\/x=10/\y<=15)/\0<=y/\y<=64)/\k (.p (.int (x^y.toNat))) st
 | .LShift=>(sml x/\0<=y/\y<=64)/\k (.p (.int (x*2^y.toNat))) st
 | .RShift=>(0<=y/\y<=64)/\k (.p (.int (x.fdiv (2^y.toNat)))) st
 | .BitAnd=>k (.p (.int (Builtin.bitAnd x y))) st
 | .BitOr=>k (.p (.int (Builtin.bitOr x y))) st
 | .BitXor=>k (.p (.int (Builtin.bitXor x y))) st
 | _=>False
def QN(op:Operator)(P:Prop):Prop:=match op with | .Add=>P | _=>False
def onMul(op:Operator)(P:Prop):Prop:=match op with | .Mult=>P | _=>False
def binT(op:Operator)(a b:T)(st:St)(k:K):Prop:=match a with
 | .int x=>(match b with
   | .int y=>binI op x y st k
   | _=>False)
 | .bytes x=>(match b with
   | .bytes y=>QN op (x.length+y.length<=2^20/\k (.p (.bytes (x++y))) st)
   | .int y=>onMul op ((x≠[]/\x.length<=16/\-1000<=y/\y<=1000)/\k (.p (.bytes (List.replicate y.toNat x).flatten)) st)
   | _=>False)
 | .str x=>(match b with
   | .str y=>QN op ((x.length<=1000/\y.length<=1000)/\k (.p (.str (x++y))) st)
   | _=>False)
 | .tup x=>(match b with
   | .tup y=>QN op ((x≠[]/\y≠[]/\x.length+y.length<=1000)/\k (.p (.tup (x++y))) st)
   | _=>False)
 | .lst x=>(match b with
   | .lst y=>QN op (x.length+y.length<=100000/\k (.p (.lst (x++y))) st)
   | .int y=>onMul op ((x.length<=64/\-1000<=y/\y<=1000)/\k (.p (.lst (List.replicate y.toNat x).flatten)) st)
   | _=>False)
 | _=>False
def binM(op:Operator)(o:jB)(b:T)(st:St)(k:K):Prop:=match b with
 | .lst y=>(match o with
   | .plst x=>QN op (x.length+y.length<=100000/\k (.p (.lst (x++y))) st)
   | _=>False)
 | _=>False
def binop(op:Operator)(a b:V)(st:St)(k:K):Prop:=match b with
 | .p u=>(match a with
   | .p t=>binT op t u st k
   | .m i=>binM op (jC st.mem i) u st k
   | _=>False)
 | _=>False
noncomputable def notBi:V->Bool
 | .p (.bi _)=>false
 | _=>true
noncomputable def Uq:V->Bool
 | .p .none=>true
 | _=>false
noncomputable def lstT? (mem:List jB):V->Option T
 | .p t=>.some t
 | .m i=>(match jC mem i with
   | .plst ts=>.some (.lst ts)
   | _=>.none)
 | .lam _ _ _=>.none
noncomputable def intV:V->Option Int
 | .p (.int i)=>.some i
 | _=>.none
def cmpI(op:CmpOp)(x y:Int)(k:Bool->Prop):Prop:=match op with
 | .Lt=>k (decide (x<y))
 | .LtE=>k (decide (x<=y))
 | .Gt=>k (decide (y<x))
 | .GtE=>k (decide (y<=x))
 | .Eq=>k (x == y)
 | .NotEq=>k (!(x == y))
 | _=>False
abbrev kNt'(k:Bool->Prop)(b:Bool):Prop:=k (!b)
def cmpIs(a b:V)(k:Bool->Prop):Prop:=match b with
 | .p .none=>on (notBi a) (k (Uq a))
 | _=>False
def XG(a b:V)(mem:List jB)(k:Bool->Prop):Prop:=match lstT? mem a with
 | .some x=>(match lstT? mem b with
   | .some y=>T.same 8 x y=true/\k (T.eqB x y)
   | .none=>False)
 | .none=>False
def cmpIn(x:Int)(b:V)(k:Bool->Prop):Prop:=match b with
 | .p (.lst ts)=>(match T.ints ts with
   | .some ns=>k (ns.any λ i=>i == x)
   | .none=>False)
 | _=>False
def cmpDi(x:List T)(o:jB)(k:Bool->Prop):Prop:=match o with
 | .dict es _=>(match T.ints x with
   | .some _=>k (!es.any λ e=>T.eqB e.1 (.tup x))
   | .none=>False)
 | _=>False
def cmpG(op:CmpOp)(a b:V)(st:St)(k:Bool->Prop):Prop:=match op with
 | .Is=>cmpIs a b k
 | .IsNot=>cmpIs a b (kNt' k)
 | .Eq=>XG a b st.mem k
 | .NotEq=>XG a b st.mem (kNt' k)
 | .In=>(match a with
   | .p (.int x)=>cmpIn x b k
   | _=>False)
 | .NotIn=>(match a with
   | .p (.int x)=>cmpIn x b (kNt' k)
   | .p (.tup x)=>(match b with
     | .m i=>cmpDi x (jC st.mem i) k
     | _=>False)
   | _=>False)
 | _=>False
def xk(op:CmpOp)(a b:V)(st:St)(k:Bool->Prop):Prop:=match intV a with
 | .some x=>(match intV b with
   | .some y=>cmpI op x y k
   | .none=>cmpG op a b st k)
 | .none=>cmpG op a b st k
def yK{α:Type}(o:Option α)(f:α->Prop):Prop:=match o with
 | .some t=>f t
 | .none=>False
abbrev kP(st:St)(k:K)(t:T):Prop:=k (.p t) st
abbrev kV(st:St)(k:K)(v:V):Prop:=k v st
def Uv(o:jB)(f:Addr->List (Str×V)->Prop):Prop:=match o with
 | .inst C fs=>f C fs
 | _=>False
def getF{α:Type}(n:Str)(f:α->Prop)(C:Addr)(fs:List (Str×α)):Prop:=on (xr C n) (yK (lk n fs) f)
def Ux(v:V)(n:Str)(st:St)(k:K):Prop:=match v with
 | .p (.inst C fs)=>getF n (kP st k) C fs
 | .m i=>Uv (jC st.mem i) (getF n (kV st k))
 | _=>False
noncomputable def y4 {α:Type} (l:List α):Bool:=Nat.blt l.length 100
def setF(i:Nat)(n:Str)(u:V)(st:St)(k:St->Prop)(C:Addr)(fs:List (Str×V)):Prop:=on (xr C n&&y4 fs) (k (st.wm (jp st.mem i (.inst C (put n u fs)))))
def Ud(v:V)(n:Str)(u:V)(st:St)(k:St->Prop):Prop:=match v with
 | .m i=>Uv (jC st.mem i) (setF i n u st k)
 | _=>False
noncomputable def etag:Expr->Nat
 | .Name _ _=>1
 | .Tuple _ _ _=>2
 | .Attribute _ _ _=>3
 | .Subscript _ _ _=>4
 | .ListComp _ _ _ _=>5
 | .SetComp _ _ _ _=>6
 | .DictComp _ _ _ _ _=>7
 | .Set _ _ _=>8
 | .Starred _ _=>9
 | .Call _ _ _ _=>10
 | .IfExp _ _ _ _=>11
 | .Compare _ _ _ _=>12
 | .List _ _=>13
 | .Constant _ _ _=>14
 | _=>0
noncomputable def tin (a b:Nat) (x:Expr):Bool:=Nat.ble a (etag x)&&Nat.ble (etag x) b
noncomputable def zi:Expr->Option Str
 | .Name n _=>.some n
 | _=>.none
noncomputable def uE:Expr->Option (Expr×List Expr×List Keyword)
 | .Call f as ks _=>.some (f,as,ks)
 | _=>.none
noncomputable def isLit (x:Expr):Bool:=match x with
 | .UnaryOp _ y _=>tin 14 14 y
 | _=>tin 14 14 x
noncomputable def wE (n:Nat) (i:Int):Option Nat:=match i with
 | .ofNat j=>(match Nat.blt j 1000 with
   | true=>.some j
   | false=>.none)
 | .negSucc j=>(match Nat.ble (j+1) n&&Nat.blt j 1000 with
   | true=>.some (n-(j+1))
   | false=>.none)
noncomputable def item? {α:Type} (l:List α) (i:Int):Option α:=match wE l.length i with
 | .some j=>l[j]?
 | .none=>.none
def getI(lit:Bool)(a:T)(j:Int)(st:St)(k:K):Prop:=match a with
 | .tup ts=>yK (item? ts j) (kP st k)
 | .bytes b=>(b.length<=100000/\0<=j/\j<b.length)/\k (.p (.int (b.getD j.toNat 0).toNat)) st
 | .lst ts=>(match lit with
   | true=>yK (item? ts j) (kP st k)
   | false=>(match T.ints ts with
     | .some ns=>(ns.length<=100000/\0<=j/\j<ns.length)/\k (.p (.int (ns.getD j.toNat 0))) st
     | .none=>(ts.length<=100000/\0<=j/\j<ts.length)/\∀ t,ts[j.toNat]?=.some t->k (.p t) st))
 | _=>False
def getM(o:jB)(j:Int)(st:St)(k:K):Prop:=match o with
 | .plst ts=>yK (item? ts j) (kP st k)
 | .vlst vs=>yK (item? vs j) (kV st k)
 | _=>False
def getD1(o:jB)(key:List T)(st:St)(k:K):Prop:=match o with
 | .dict es _=>(match es with
   | []=>False
   | e::r=>(match r with
     | []=>T.eqB e.1 (.tup key)=true/\k e.2 st
     | _::_=>False))
 | _=>False
def Uw(lit:Bool)(a:V)(i:V)(st:St)(k:K):Prop:=match i with
 | .p (.int j)=>(match a with
   | .p t=>getI lit t j st k
   | .m n=>getM (jC st.mem n) j st k
   | _=>False)
 | .p (.tup key)=>(match a with
   | .m n=>getD1 (jC st.mem n) key st k
   | _=>False)
 | _=>False
def setL(n:Nat)(j:Nat)(t:T)(st:St)(k:St->Prop)(o:jB):Prop:=match o with
 | .plst ts=>on (Nat.blt j ts.length&&Nat.blt j 1000) (k (st.wm (jp st.mem n (.plst (ts.set j t)))))
 | _=>False
def setD(n:Nat)(key:List T)(v:V)(st:St)(k:St->Prop)(o:jB):Prop:=match o with
 | .dict es _=>on (yr es) (yK (T.ints key) λ _=>∀ ep,k (st.wm (jp st.mem n (.dict [(.tup key,v)] ep))))
 | _=>False
def Uc(a i v:V)(st:St)(k:St->Prop):Prop:=match a with
 | .m n=>(match i with
   | .p (.int (.ofNat j))=>(match v with
     | .p t=>setL n j t st k (jC st.mem n)
     | _=>False)
   | .p (.tup key)=>setD n key v st k (jC st.mem n)
   | _=>False)
 | _=>False
noncomputable def oInt:Option V->Option (Option Int)
 | .none=>.some .none
 | .some (.p (.int i))=>.some (.some i)
 | _=>.none
noncomputable def ZE (n:Nat):Option Int->Option Nat
 | .none=>.some n
 | .some (.ofNat a)=>.some a
 | .some (.negSucc _)=>.none
def tupCut(ts:List T)(st:St)(k:K)(a b:Nat):Prop:=on ((Nat.ble a b&&Nat.ble b ts.length)&&!Nat.beq (b-a) ts.length) (ts.length<=1000/\k (.p (.tup ((ts.drop a).take (b-a)))) st)
def slcT(a:T)(st:St)(k:K)(l h:Option Int):Prop:=match a with
 | .lst ts=>ts.length<=100000/\k (.p (.lst (jG ts l h))) st
 | .tup ts=>yK (ZE 0 l) λ a=>yK (ZE ts.length h) λ b=>tupCut ts st k a b
 | .bytes b=>b.length<=100000/\k (.p (.bytes (jG b l h))) st
 | _=>False
def vF(a:V)(lo hi:Option V)(st:St)(k:K):Prop:=match a with
 | .p t=>yK (oInt lo) λ l=>yK (oInt hi) λ h=>slcT t st k l h
 | _=>False
noncomputable def Zo:T->Bool
 | .bool b=>b
 | _=>false
noncomputable def xX (i:Int):Str:=Str.ofString (toString i)
def zg(vs:List V)(f:V->Prop):Prop:=match vs with
 | []=>False
 | v::r=>(match r with
   | []=>f v
   | _::_=>False)
def lenK(st:St)(k:K)(v:V):Prop:=match v with
 | .p (.lst ts)=>ts.length<2^40/\k (.p (.int ts.length)) st
 | .p (.tup ts)=>ts.length<2^40/\k (.p (.int ts.length)) st
 | .p (.bytes b)=>b.length<2^40/\k (.p (.int b.length)) st
 | .m i=>(match jC st.mem i with
   | .plst ts=>ts.length<2^40/\k (.p (.int ts.length)) st
   | .vlst vs=>vs.length<2^40/\k (.p (.int vs.length)) st
   | _=>False)
 | _=>False
abbrev kI(f:Int->Prop)(v:V):Prop:=match v with
 | .p (.int i)=>f i
 | _=>False
def rng1(st:St)(k:K)(n:Int):Prop:=sm2 n/\k (.p (.rng 0 n 1)) st
def rng3(st:St)(k:K)(a b c:Int):Prop:=(sm2 a/\sm2 b/\sm2 c/\0<c)/\k (.p (.rng a b c)) st
def rngK(args:List V)(st:St)(k:K):Prop:=match args with
 | []=>False
 | a::r=>(match r with
   | []=>kI (rng1 st k) a
   | b::q=>(match q with
     | []=>False
     | c::u=>(match u with
       | []=>(match a with
         | .p (.int a)=>(match b with
           | .p (.int b)=>kI (rng3 st k a b) c
           | _=>False)
         | _=>False)
       | _::_=>False)))
def bytK(st:St)(k:K)(v:V):Prop:=match v with
 | .p (.lst ts)=>(match T.ints ts with
   | .some ns=>(ns.length<=100000/\∀ i∈ns,0<=i/\i<256)/\k (.p (.bytes (ns.map λ i=>UInt8.ofNat i.toNat))) st
   | .none=>False)
 | .p (.int n)=>(0<=n/\n<=1000)/\k (.p (.bytes (List.replicate n.toNat 0))) st
 | .p (.bytes b)=>k (.p (.bytes b)) st
 | _=>False
abbrev kTl(f:List T->Prop)(v:V):Prop:=match v with
 | .p (.lst ts)=>f ts
 | _=>False
def anyK(st:St)(k:K)(ts:List T):Prop:=(∀ t∈ts,Us t=true)/\k (.p (.bool (ts.any Zo))) st
def sumK(st:St)(k:K)(ts:List T):Prop:=yK (T.ints ts) λ ns=>k (.p (.int ns.sum)) st
def YM(f:Int->Int->Prop)(args:List V):Prop:=match args with
 | []=>False
 | a::r=>(match a with
   | .p (.int x)=>zg r (kI (f x))
   | _=>False)
def strK(st:St)(k:K)(i:Int):Prop:=sml i/\k (.p (.str (xX i))) st
def lisK(st:St)(k:K)(v:V):Prop:=match v with
 | .m i=>(match jC st.mem i with
   | .dict es _=>(match es with
     | []=>k (.p (.lst [])) st
     | e::r=>(match r with
       | []=>k (.p (.lst [e.1])) st
       | _::_=>False))
   | _=>False)
 | _=>False
def sorK(st:St)(k:K)(v:V):Prop:=match v with
 | .m i=>(match jC st.mem i with
   | .plst ts=>(match ts with
     | []=>k (.p (.lst [])) st
     | t::r=>(match r with
       | []=>k (.p (.lst [t])) st
       | _::_=>False))
   | _=>False)
 | _=>False
def bcall(b:BI)(args:List V)(st:St)(k:K):Prop:=match b with
 | .len=>zg args (lenK st k)
 | .range=>rngK args st k
 | .bytes=>zg args (bytK st k)
 | .any=>zg args (kTl (anyK st k))
 | .sum=>zg args (kTl (sumK st k))
 | .max=>YM (λ a b=>k (.p (.int (max a b))) st) args
 | .min=>YM (λ a b=>k (.p (.int (min a b))) st) args
 | .str=>zg args (kI (strK st k))
 | .list=>zg args (lisK st k)
 | .sorted=>zg args (sorK st k)
 | .enumerate=>False
def appO(o:jB)(i:Nat)(st:St)(k:K)(x:V):Prop:=match o with
 | .plst ts=>(match x with
   | .p t=>ts.length<=100000/\k (.p .none) (st.wm (jp st.mem i (.plst (ts++[t]))))
   | .m j=>(match ts with
     | []=>k (.p .none) (st.wm (jp st.mem i (.vlst [.m j])))
     | _::_=>False)
   | _=>False)
 | .vlst vs=>vs.length<=100000/\k (.p .none) (st.wm (jp st.mem i (.vlst (vs++[x]))))
 | _=>False
def bapp(v:V)(args:List V)(st:St)(k:K):Prop:=match v with
 | .m i=>zg args (appO (jC st.mem i) i st k)
 | _=>False
def popO(o:jB)(i:Nat)(st:St)(k:K)(x:V):Prop:=match x with
 | .p (.tup key)=>(match o with
   | .dict es _=>(match es with
     | []=>False
     | e::r=>(match r with
       | []=>T.eqB e.1 (.tup key)=true/\∀ ep,k e.2 (st.wm (jp st.mem i (.dict [] ep)))
       | _::_=>False))
   | _=>False)
 | _=>False
def bpop(v:V)(args:List V)(st:St)(k:K):Prop:=match v with
 | .m i=>zg args (popO (jC st.mem i) i st k)
 | _=>False
noncomputable def bmIf (b c:Bool):Option Bool:=match b with
 | true=>.some c
 | false=>.none
noncomputable def bmO (n:Str):jB->Option Bool
 | .plst _=>bmIf (seq n Uj) true
 | .vlst _=>bmIf (seq n Uj) true
 | .dict _ _=>bmIf (seq n nPop) false
 | _=>.none
noncomputable def bmOk (mem:List jB) (n:Str):V->Option Bool
 | .m i=>bmO n (jC mem i)
 | _=>.none
noncomputable def noF {α:Type} (n:Str) (C:Addr) (fs:List (Str×α)):Option Addr:=match lk n fs with
 | .none=>.some C
 | .some _=>.none
noncomputable def clsV (mem:List jB) (n:Str):V->Option Addr
 | .p (.inst C fs)=>noF n C fs
 | .m i=>(match jC mem i with
   | .inst C fs=>noF n C fs
   | _=>.none)
 | _=>.none
noncomputable def bindD (x:Str) (ds:List T) (o:Option (List (Str×V))):Option (List (Str×V)):=match ds with
 | d::_=>xi (x,.p d) o
 | []=>.none
noncomputable def ve:List Str->List V->List T->Option (List (Str×V))
 | [],vs,_=>(match vs with
   | []=>.some []
   | _::_=>.none)
 | x::xs,vs,ds=>(match vs with
   | v::r=>xi (x,v) (ve xs r ds)
   | []=>(match Nat.ble (xs.length+1) ds.length with
     | true=>bindD x (ds.drop (ds.length-(xs.length+1))) (ve xs [] ds)
     | false=>.none))
noncomputable def js:List Arg->List Str
 | []=>[]
 | a::r=>a.arg::js r
def finM(n:Nat)(v:V)(mem:List jB)(k:KM)(o:jB):Prop:=match o with
 | .plst ts=>k (.p (.lst ts)) (jZ n mem)
 | _=>k v mem
def finV(n:Nat)(v:V)(mem:List jB)(k:KM):Prop:=match v with
 | .p t=>k (.p t) (jZ n mem)
 | .m i=>(match Nat.blt i n with
   | true=>k (.m i) (jZ n mem)
   | false=>finM n v mem k (jC mem i))
 | .lam _ _ _=>False
def fin(keepsM:Bool)(n:Nat)(v:V)(mem:List jB)(k:KM):Prop:=match qi n (jZ n mem)&&!keepsM with
 | true=>finV n v mem k
 | false=>k v mem
def finX(n:Nat)(C:Addr)(mem:List jB)(kx:KXM):Prop:=
 match qi n (jZ n mem) with
 | true=>kx C (jZ n mem)
 | false=>kx C mem
noncomputable def mutCls (C:Addr):Bool:=Nat.beq C 719
def finI(n:Nat)(mem:List jB)(k:KM)(C:Addr)(fs:List (Str×V)):Prop:=match mutCls C with
 | true=>k (.m n) mem
 | false=>(match Zy fs with
   | .none=>k (.m n) mem
   | .some l=>(match qi n (jZ n mem) with
     | true=>k (.p (.inst C l)) (jZ n mem)
     | false=>k (.m n) mem))
def J0(n:Nat)(mem:List jB)(k:KM):Prop:=Uv (jC mem n) (finI n mem k)
inductive Src where
 | fix | plst (i:Nat) | dict (i ep:Nat)
noncomputable def QE (mem:List jB):V->Src
 | .m i=>(match jC mem i with
   | .dict _ ep=>.dict i ep
   | _=>.plst i)
 | _=>.fix
abbrev xR(src:Src)(ts:List T)(mem:List jB)(P:Prop):Prop:=match src with
 | .plst i=>(match jC mem i with
   | .plst us=>us=ts/\P
   | _=>False)
 | .dict i ep=>(match jC mem i with
   | .dict es ep'=>(yN es=ts/\ep'=ep)/\P
   | _=>False)
 | .fix=>P
abbrev kGo(src:Src)(us:List T)(go:St->Prop)(st:St):Prop:=xR src us st.mem (go st)
abbrev kW2(go:St->Prop)(k:Fl->St->Prop)(fl:Fl)(st:St):Prop:=match fl with
 | .next=>go st
 | .cont=>go st
 | .brk=>k .next st
 | .ret v=>k (.ret v) st
abbrev kF1(self:jK->Prop)(body:List Stmt)(kb:Fl->St->Prop)(kx:KX)(st:St):Prop:=self (.ss body st kb kx)
def zm(self:jK->Prop)(tgt:Expr)(body:List Stmt)(src:Src)(us:List T):List T->St->(Fl->St->Prop)->KX->Prop
 | [],st,k,_=>k .next st
 | t::r,st,k,kx=>self (.asg tgt (.p t) st (kF1 self body (kW2 (kGo src us (λ st2=>zm self tgt body src us r st2 k kx)) k) kx) kx)
abbrev kW1(self:jK->Prop)(body:List Stmt)(go:St->Prop)(k:Fl->St->Prop)(kx:KX)(b:Bool)(st:St):Prop:=Br b (self (.ss body st (kW2 go k) kx)) (k .next st)
@[irreducible] noncomputable def qV (self:jK->Prop) (c:Expr) (body:List Stmt) (n:Nat):St->(Fl->St->Prop)->KX->Prop:=
 @Nat.rec (λ _=>St->(Fl->St->Prop)->KX->Prop) (λ _ _ _=>False) (λ _ ih st k kx=>self (.t c st (kW1 self body (λ st2=>ih st2 k kx) k kx) kx)) n
theorem Zh{self:jK->Prop}{c:Expr}{body:List Stmt}{st:St}{k:Fl->St->Prop}{kx:KX}:qV self c body 0 st k kx=False:=by with_unfolding_all rfl
theorem ww{self:jK->Prop}{c:Expr}{body:List Stmt}{n:Nat}{st:St}{k:Fl->St->Prop}{kx:KX}:qV self c body (n+1) st k kx=self (.t c st (kW1 self body (λ st2=>qV self c body n st2 k kx) k kx) kx):=by with_unfolding_all rfl
abbrev KL:=List T->List jB->Prop
abbrev kC1(self:jK->Prop)(ifs:List Expr)(kb:Bool->St->Prop)(st:St):Prop:=self (.ts .And ifs st kb kNo)
abbrev kCu(u:T)(k:KL)(l:List T):List jB->Prop:=k (u::l)
abbrev kC3(src:Src)(us:List T)(go:St->KL->Prop)(k:KL)(v:V)(st:St):Prop:=match v with
 | .p u=>xR src us st.mem (go st (kCu u k))
 | _=>False
abbrev kC2(self:jK->Prop)(elt:Expr)(src:Src)(us:List T)(go:St->KL->Prop)(k:KL)(b:Bool)(st:St):Prop:=
 Br b (self (.e elt st (kC3 src us go k) kNo)) (xR src us st.mem (go st k))
def zK(self:jK->Prop)(tgt elt:Expr)(ifs:List Expr)(src:Src)(us:List T):List T->St->KL->Prop
 | [],st,k=>k [] st.mem
 | t::r,st,k=>self (.asg tgt (.p t) st (kC1 self ifs (kC2 self elt src us (zK self tgt elt ifs src us r) k)) kNo)
noncomputable def jF:Scope->List (Str×NameKind)
 | ⟨_,ns,_,_,_⟩=>ns
noncomputable def scK:NameKind->Bool
 | .local=>true
 | .free=>true
 | .globalImplicit=>true
 | _=>false
noncomputable def yO:List (Str×NameKind)->Bool
 | []=>true
 | x::r=>scK x.2&&yO r
noncomputable def smp:Nat->Expr->Bool
 | 0,_=>false
 | n+1,x=>match x with
   | .Constant _ _ _=>true
   | .Name _ _=>true
   | .Attribute o _ _=>smp n o
   | .Subscript o i _=>smp n o&&smp n i
   | .List es _=>es.all (smp n)
   | .Tuple es _ _=>es.all (smp n)
   | _=>false
abbrev kRt(k:Fl->St->Prop)(v:V)(st:St):Prop:=k (.ret v) st
def hdlS(self:jK->Prop)(C:Addr)(x:Str)(e:Expr)(st:St)(k:Fl->St->Prop)(go:Prop):Prop:=match vV st x with
 | .some (.p (.ref X))=>(match zW X&&zW C with
   | true=>(match Nat.beq C X with
     | true=>on (smp 10 e) (self (.e e st (kRt k) kNo))
     | false=>go)
   | false=>False)
 | _=>False
noncomputable def retOf:Stmt->Option Expr
 | .Return e _=>e
 | _=>.none
def vU(self:jK->Prop)(C:Addr):List ExceptHandler->St->(Fl->St->Prop)->KX->Prop
 | [],st,_,kx=>kx C st
 | .ExceptHandler (.some t) .none [b] _::r,st,k,kx=>yK (zi t) λ x=>yK (retOf b) λ e=>hdlS self C x e st k (vU self C r st k kx)
 | _,_,_,_=>False
noncomputable def W6 (x:Str) (o:Option V) (l:List (Str×V)):List (Str×V):=match o with
 | .some v=>(x,v)::l
 | .none=>l
noncomputable def qT:List (Str×NameKind)->List (Str×V)->List (Str×V)
 | [],_=>[]
 | x::r,loc=>match x.2 with
   | .free=>W6 x.1 (lk x.1 loc) (qT r loc)
   | _=>qT r loc
noncomputable def isFr:Option NameKind->Bool
 | .some .free=>true
 | _=>false
noncomputable def isCF:Option NameKind->Bool
 | .some .cell=>true
 | .some .free=>true
 | _=>false
noncomputable def isLo:Option NameKind->Bool
 | .some .local=>true
 | _=>false
noncomputable def frO (st:St) (sc:List (Str×NameKind)) (n:Str) (k:NameKind):Bool:=match k with
 | .free=>isFr (lk n sc)&&((lk n st.loc).isSome&&isCF (lk n st.sc))
 | .local=>isLo (lk n sc)
 | _=>true
noncomputable def zt (st:St) (sc:List (Str×NameKind)):List (Str×NameKind)->Bool
 | []=>true
 | x::r=>frO st sc x.1 x.2&&zt st sc r
noncomputable def uu (sc:List (Str×NameKind)):List (Str×V)->Bool
 | []=>true
 | x::r=>isFr (lk x.1 sc)&&uu sc r
noncomputable def scFn:Scope->Bool
 | ⟨.function,_,false,false,_⟩=>true
 | _=>false
noncomputable def vK:List (Str×NameKind):=jF (je (Mine.st 110))
noncomputable def Ql:Addr:=1018
noncomputable def noStar:List Expr->Bool
 | []=>true
 | x::r=>!tin 9 9 x&&noStar r
noncomputable def wA (x:Expr):Bool:=!tin 8 8 x
noncomputable def ZC:List Expr->Bool
 | []=>true
 | x::r=>wA x&&ZC r
noncomputable def Q9 (x:Expr):Bool:=!tin 5 7 x
noncomputable def nc0 (x:Expr):Bool:=match uE x with
 | .some (f,as,ks)=>!(tin 1 1 f&&(as.isEmpty&&ks.isEmpty))
 | .none=>true
noncomputable def nameOk (x:Expr):Bool:=match zi x with
 | .some n=>y9 n
 | .none=>false
noncomputable def dynE (x:Expr):Bool:=tin 10 13 x||(tin 3 3 x||nameOk x)
noncomputable def ZR (x:Expr):Option (Str×Expr):=match uE x with
 | .some (f,[y],[])=>(match zi f with
   | .some n=>.some (n,y)
   | .none=>.none)
 | _=>.none
noncomputable def YK (x:Expr):Bool:=tin 1 2 x
noncomputable def Ui (a:Arguments):Bool:=a.posonlyargs.isEmpty&&a.args.isEmpty&&a.vararg.isNone&&a.kwonlyargs.isEmpty&&a.kwarg.isNone&&a.defaults.isEmpty&&a.kw_defaults.isEmpty
def cstS(c:Const)(st:St)(k:K):Prop:=match c with
 | .none=>k (.p .none) st
 | .bool b=>k (.p (.bool b)) st
 | .int i=>k (.p (.int i)) st
 | .str s=>k (.p (.str s)) st
 | .bytes b=>k (.p (.bytes b)) st
 | _=>False
abbrev kBi2(op:Operator)(a:V)(k:K):K:=λ b st=>binop op a b st k
abbrev kBi(self:jK->Prop)(op:Operator)(r:Expr)(k:K)(kx:KX):K:=λ a st=>self (.e r st (kBi2 op a k) kx)
abbrev kUn(op:UnaryOp)(k:K):K:=λ v st=>match op with
 | .USub=>(match v with
   | .p (.int i)=>k (.p (.int (-i))) st
   | _=>False)
 | .Not=>(match v with
   | .p (.bool b)=>k (.p (.bool (!b))) st
   | _=>False)
 | _=>False
noncomputable def unOk:UnaryOp->Bool
 | .USub=>true
 | .Not=>true
 | _=>false
abbrev kCm(self:jK->Prop)(ops:List CmpOp)(cs:List Expr)(k:K)(kx:KX):K:=λ a st=>self (.cmp a ops cs st k kx)
abbrev kIf(self:jK->Prop)(b o:Expr)(k:K)(kx:KX)(c:Bool)(st:St):Prop:=Br c (self (.e b st k kx)) (self (.e o st k kx))
abbrev kAt(n:Str)(k:K):K:=λ v st=>Ux v n st k
abbrev kSl2(a:V)(lo:Option V)(k:K):K:=λ h st=>vF a lo (.some h) st k
abbrev kSl1(self:jK->Prop)(hi:Option Expr)(a:V)(k:K)(kx:KX):K:=λ l st=>match hi with
 | .none=>vF a (.some l) .none st k
 | .some h=>self (.e h st (kSl2 a (.some l) k) kx)
def slS(self:jK->Prop)(lo hi:Option Expr)(a:V)(st:St)(k:K)(kx:KX):Prop:=match lo with
 | .none=>(match hi with
   | .none=>vF a .none .none st k
   | .some h=>self (.e h st (kSl2 a .none k) kx))
 | .some l=>self (.e l st (kSl1 self hi a k kx) kx)
abbrev kGi(i:Expr)(a:V)(k:K):K:=λ j st=>Uw (isLit i) a j st k
abbrev kSu(self:jK->Prop)(i:Expr)(k:K)(kx:KX):K:=λ a st=>match i with
 | .Slice lo hi .none _=>slS self lo hi a st k kx
 | _=>self (.e i st (kGi i a k) kx)
abbrev kLi(p:Pos)(k:K)(vs:List V)(st:St):Prop:=match y4 vs with
 | true=>(match Xn vs with
   | .some ts=>(match Uk p.line with
     | false=>k (.p (.lst ts)) st
     | true=>k (.m (jA st.mem)) (st.wm (jU st.mem (.plst ts))))
   | .none=>k (.m (jA st.mem)) (st.wm (jU st.mem (.vlst vs))))
 | false=>False
def liS(self:jK->Prop)(es:List Expr)(p:Pos)(st:St)(k:K)(kx:KX):Prop:=match es with
 | []=>(match memN p.line WE with
   | true=>k (.p (.lst [])) st
   | false=>k (.m (jA st.mem)) (st.wm (jU st.mem (.plst []))))
 | e::r=>self (.es (e::r) st (kLi p k) kx)
abbrev kTu(k:K)(vs:List V)(st:St):Prop:=on (y4 vs) (yK (Xn vs) λ ts=>k (.p (.tup ts)) st)
noncomputable abbrev kLc2 (st:St) (k:K):KL:=λ l mem=>k (.p (.lst l)) (st.wm mem)
abbrev kLc(self:jK->Prop)(tgt elt:Expr)(ifs:List Expr)(ns:List (Str×NameKind))(k:K):K:=λ v st=>match listOf? st.mem v with
 | .some ts=>on (zt st ns ns) (xR (QE st.mem v) ts st.mem (ts.length<=100000/\zK self tgt elt ifs (QE st.mem v) ts ts ⟨qT ns st.loc,st.mem,ns⟩ (kLc2 st k)))
 | .none=>False
noncomputable def scOk (sc:Scope) (st:St):Bool:=(yO (jF sc)&&scFn sc)&&zt st (jF sc) (jF sc)
def lc1(self:jK->Prop)(elt:Expr)(sc:Scope)(st:St)(k:K)(kx:KX):Comprehension->Prop
 | ⟨tgt,it,ifs,n⟩=>on (Nat.beq n.natAbs 0) (on ((wA it&&YK tgt)&&scOk sc st) (self (.e it st (kLc self tgt elt ifs (jF sc) k) kx)))
def lcpS(self:jK->Prop)(elt:Expr)(gens:List Comprehension)(sc:Scope)(st:St)(k:K)(kx:KX):Prop:=match gens with
 | []=>False
 | g::r=>(match r with
   | []=>lc1 self elt sc st k kx g
   | _::_=>False)
abbrev kR(k:K)(st:St):KM:=λ v mem=>k v (st.wm mem)
abbrev kRx(kx:KX)(st:St):KXM:=λ C mem=>kx C (st.wm mem)
abbrev kL(k:K)(st:St):K:=λ v st3=>k v (st.wm st3.mem)
abbrev kLx(kx:KX)(st:St):KX:=λ C st3=>kx C (st.wm st3.mem)
abbrev kMc(self:jK->Prop)(f:Addr)(ov:V)(k:K)(kx:KX)(vs:List V)(st:St):Prop:=self (.call f (ov::vs) st.mem (kR k st) (kRx kx st))
abbrev kBm(b:Bool)(ov:V)(k:K)(vs:List V)(st:St):Prop:=match b with
 | true=>bapp ov vs st k
 | false=>bpop ov vs st k
abbrev kMe(self:jK->Prop)(n:Str)(args:List Expr)(k:K)(kx:KX):K:=λ ov st=>match clsV st.mem n ov with
 | .some C=>yK (ZJ C n) λ f=>self (.es args st (kMc self f ov k kx) kx)
 | .none=>yK (bmOk st.mem n ov) λ b=>self (.es args st (kBm b ov k) kx)
def calS(self:jK->Prop)(t:T)(k:K)(kx:KX)(vs:List V)(st:St):Prop:=match t with
 | .ref a=>on (XH a) (self (.call a vs st.mem (kR k st) (kRx kx st)))
 | .bi b=>bcall b vs st k
 | _=>False
abbrev kFc(self:jK->Prop)(fv:V)(k:K)(kx:KX)(vs:List V)(st:St):Prop:=match fv with
 | .p t=>calS self t k kx vs st
 | .m _=>False
 | .lam x sc loc=>(match vs with
   | []=>on (yO (jF sc)&&uu (jF sc) loc) (self (.e x ⟨loc,st.mem,jF sc⟩ (kL k st) (kLx kx st)))
   | _::_=>False)
abbrev kFn(self:jK->Prop)(args:List Expr)(k:K)(kx:KX):K:=λ fv st=>self (.es args st (kFc self fv k kx) kx)
def caS(self:jK->Prop)(f:Expr)(args:List Expr)(pos:Pos)(st:St)(k:K)(kx:KX):Prop:=match f with
 | .Attribute o n apos=>on ((nc0 o&&noStar args)&&(Nat.beq apos.endLine pos.line&&Nat.blt args.length 20)) (self (.e o st (kMe self n args k kx) kx))
 | .Name _ _=>on (noStar args) (self (.e f st (kFn self args k kx) kx))
 | _=>False
def jl(self:jK->Prop)(sp:Addr->Option zM)(x:Expr)(st:St)(k:K)(kx:KX):Prop:=match x with
 | .Constant c _ _=>cstS c st k
 | .Name n _=>yK (vV st n) (kV st k)
 | .BinOp l op r _=>self (.e l st (kBi self op r k kx) kx)
 | .UnaryOp op y _=>on (unOk op) (self (.e y st (kUn op k) kx))
 | .BoolOp op vs _=>self (.bo op vs st k kx)
 | .Compare l ops cs _=>on (ZC cs) (self (.e l st (kCm self ops cs k kx) kx))
 | .IfExp t b o _=>self (.t t st (kIf self b o k kx) kx)
 | .Attribute o n _=>on (nc0 o) (self (.e o st (kAt n k) kx))
 | .Subscript o i _=>self (.e o st (kSu self i k kx) kx)
 | .List es p=>liS self es p st k kx
 | .Tuple es _ _=>self (.es es st (kTu k) kx)
 | .Dict ks vs _=>(match ks with
   | []=>(match vs with
     | []=>k (.m (jA st.mem)) (st.wm (jU st.mem (.dict [] 0)))
     | _::_=>False)
   | _::_=>False)
 | .ListComp elt gens sc _=>lcpS self elt gens sc st k kx
 | .Lambda args body sc _=>on (Ui args&&scOk sc st) (st.sc=vK/\k (.lam body sc (qT (jF sc) st.loc)) st)
 | .Call f args kws pos=>(match kws with
   | []=>caS self f args pos st k kx
   | _::_=>False)
 | _=>False
noncomputable def tgtOk (x:Expr):Bool:=tin 1 4 x
noncomputable def uO (x:Str):List Str->Bool
 | []=>false
 | y::r=>seq x y||uO x r
noncomputable def lnIf (o:Option NameKind) (q:Option (List Str)) (n:Str):Option (List Str):=match o with
 | .some .local=>(match q with
   | .some ns=>(match uO n ns with
     | true=>.none
     | false=>.some (n::ns))
   | .none=>.none)
 | _=>.none
noncomputable def zH (sc:List (Str×NameKind)):List Expr->Option (List Str)
 | []=>.some []
 | e::r=>match zi e with
   | .some n=>lnIf (lk n sc) (zH sc r) n
   | .none=>.none
noncomputable def notLoc (sc:List (Str×NameKind)) (x:Expr):Bool:=match zi x with
 | .some n=>(match lk n sc with
   | .some .cell=>true
   | _=>false)
 | .none=>true
noncomputable def yJ:List Str->List V->St->St
 | [],_,st=>st
 | n::ns,vs,st=>match vs with
   | []=>st
   | v::r=>yJ ns r (st.set n v)
abbrev kNx(k:Fl->St->Prop)(st:St):Prop:=k .next st
abbrev kEx(k:Fl->St->Prop):K:=λ _ st=>k .next st
abbrev kTn(ns:List Str)(k:Fl->St->Prop)(vs:List V)(st:St):Prop:=on (y4 vs&&yq ns vs) (k .next (yJ ns vs st))
abbrev kTg(self:jK->Prop)(ts:List Expr)(k:Fl->St->Prop)(kx:KX)(vs:List V)(st:St):Prop:=on (y4 vs&&yq ts vs) (self (.asgs ts vs st (kNx k) kx))
abbrev kA1(self:jK->Prop)(t:Expr)(k:Fl->St->Prop)(kx:KX):K:=λ v st=>self (.asg t v st (kNx k) kx)
abbrev kAN(n:Str)(k:Fl->St->Prop):K:=λ v st=>k .next (st.set n v)
def asT2(self:jK->Prop)(ts es:List Expr)(st:St)(k:Fl->St->Prop)(kx:KX)(o:Option (List Str)):Prop:=match o with
 | .some ns=>self (.es es st (kTn ns k) kx)
 | .none=>on (ts.any (notLoc st.sc)) (self (.es es st (kTg self ts k kx) kx))
def asT(self:jK->Prop)(ts es:List Expr)(st:St)(k:Fl->St->Prop)(kx:KX):Prop:=on (es.any dynE&&noStar ts) (asT2 self ts es st k kx (zH st.sc ts))
def as1(self:jK->Prop)(t e:Expr)(st:St)(k:Fl->St->Prop)(kx:KX):Prop:=on (tgtOk t&&Q9 e) (self (.e e st (kA1 self t k kx) kx))
def isLoc(o:Option NameKind)(P:Prop):Prop:=match o with
 | .some .local=>P
 | _=>False
def asS(self:jK->Prop)(t e:Expr)(st:St)(k:Fl->St->Prop)(kx:KX):Prop:=match t with
 | .Tuple ts _ _=>(match e with
   | .Tuple es _ _=>asT self ts es st k kx
   | _=>as1 self t e st k kx)
 | .Name n _=>(match e with
   | .ListComp elt gens sc _=>isLoc (lk n st.sc) (lcpS self elt gens sc st (kAN n k) kx)
   | _=>as1 self t e st k kx)
 | _=>as1 self t e st k kx
abbrev kAu(n:Str)(a:V)(k:Fl->St->Prop):K:=λ b st=>match a with
 | .p (.int x)=>(match b with
   | .p (.int y)=>k .next (st.set n (.p (.int (x+y))))
   | _=>False)
 | _=>False
abbrev kIs(self:jK->Prop)(b o:List Stmt)(k:Fl->St->Prop)(kx:KX)(c:Bool)(st:St):Prop:=Br c (self (.ss b st k kx)) (self (.ss o st k kx))
noncomputable def ur (st:St) (it:Expr):Option Expr:=match ZR it with
 | .some (n,x)=>(match vV st n with
   | .some (.p (.bi .enumerate))=>.some x
   | _=>.none)
 | .none=>.none
noncomputable def isTup (x:Expr):Bool:=tin 2 2 x
abbrev kEn(self:jK->Prop)(tgt:Expr)(body:List Stmt)(k:Fl->St->Prop)(kx:KX)(vs:List V)(st:St):Prop:=on (isTup tgt) (zg vs (kTl λ ts=>ts.length<=100000/\zm self tgt body .fix ts (YO 0 ts) st k kx))
abbrev kFo(self:jK->Prop)(tgt:Expr)(body:List Stmt)(k:Fl->St->Prop)(kx:KX):K:=λ v st=>match listOf? st.mem v with
 | .some ts=>xR (QE st.mem v) ts st.mem (ts.length<=100000/\zm self tgt body (QE st.mem v) ts ts st k kx)
 | .none=>False
def foS2(self:jK->Prop)(tgt it:Expr)(body:List Stmt)(st:St)(k:Fl->St->Prop)(kx:KX)(o:Option Expr):Prop:=match o with
 | .some x=>on (noStar [x]) (self (.es [x] st (kEn self tgt body k kx) kx))
 | .none=>self (.e it st (kFo self tgt body k kx) kx)
def foS(self:jK->Prop)(tgt it:Expr)(body:List Stmt)(st:St)(k:Fl->St->Prop)(kx:KX):Prop:=on (wA it&&YK tgt) (foS2 self tgt it body st k kx (ur st it))
abbrev kRa(C:Addr)(kx:KX)(vs:List V)(st:St):Prop:=match vs with
 | [.p (.str _)]=>kx C st
 | _=>False
def raN(self:jK->Prop)(X:Str)(args:List Expr)(st:St)(kx:KX):Prop:=match vV st X with
 | .some (.p (.ref C))=>on (zW C&&noStar args) (self (.es args st (kRa C kx) kx))
 | _=>False
def raS(self:jK->Prop)(e:Expr)(st:St)(kx:KX):Prop:=match uE e with
 | .some (f,args,[])=>(match zi f with
   | .some X=>raN self X args st kx
   | .none=>False)
 | _=>False
abbrev kTr(self:jK->Prop)(hs:List ExceptHandler)(k:Fl->St->Prop)(kx:KX):KX:=λ C st=>vU self C hs st k kx
def yS(self:jK->Prop)(x:Stmt)(st:St)(k:Fl->St->Prop)(kx:KX):Prop:=match x with
 | .Return e _=>(match e with
   | .none=>k (.ret (.p .none)) st
   | .some e=>self (.e e st (kRt k) kx))
 | .Assign ts e _=>(match ts with
   | []=>False
   | t::r=>(match r with
     | []=>asS self t e st k kx
     | _::_=>False))
 | .AugAssign t op e _=>(match t with
   | .Name n _=>(match op with
     | .Add=>isLoc (lk n st.sc) (yK (vV st n) λ a=>self (.e e st (kAu n a k) kx))
     | _=>False)
   | _=>False)
 | .Expr e _=>on (Q9 e) (self (.e e st (kEx k) kx))
 | .If t b o _=>self (.t t st (kIs self b o k kx) kx)
 | .For tgt it body o _=>(match o with
   | []=>foS self tgt it body st k kx
   | _::_=>False)
 | .While c body o _=>(match o with
   | []=>qV self c body 70000 st k kx
   | _::_=>False)
 | .Raise e c _=>(match c with
   | .none=>yK e λ e=>raS self e st kx
   | .some _=>False)
 | .Try body hs o f _=>(match hs with
   | []=>False
   | h0::r=>(match o with
     | []=>(match f with
       | []=>self (.ss body st k (kTr self (h0::r) k kx))
       | _::_=>False)
     | _::_=>False))
 | .Continue _=>k .cont st
 | .Break _=>k .brk st
 | .Pass _=>k .next st
 | _=>False
abbrev kRf(f:Addr)(n:Nat)(k:KM)(fl:Fl)(st:St):Prop:=match fl with
 | .next=>fin (xS f) n (.p .none) st.mem k
 | .ret v=>fin (xS f) n v st.mem k
 | _=>False
abbrev kXf(n:Nat)(kx:KXM):KX:=λ C st=>finX n C st.mem kx
abbrev kCl(n:Nat)(k:KM):KM:=λ v mem=>match v with
 | .p .none=>J0 n mem k
 | _=>False
def xm(self:jK->Prop)(sp:Addr->Option zM)(f:Addr)(args:List V)(mem:List jB)(k:KM)(kx:KXM):Prop:=match sp f with
 | .some F=>F args mem k kx
 | .none=>(match lkN f fnT with
   | .some (s,ds)=>(match ve (js (qY s).args) args ds with
     | .some loc=>self (.ss (wP s) ⟨loc,mem,jF (je s)⟩ (kRf f (jA mem) k) (kXf (jA mem) kx))
     | .none=>False)
   | .none=>(match lkN f clT with
     | .some i=>self (.call i (.m (jA mem)::args) (jU mem (.inst f [])) (kCl (jA mem) k) kx)
     | .none=>False))
abbrev kE2(v:V)(k:List V->St->Prop)(vs:List V)(st:St):Prop:=k (v::vs) st
abbrev kE1(self:jK->Prop)(xs:List Expr)(k:List V->St->Prop)(kx:KX):K:=λ v st=>self (.es xs st (kE2 v k) kx)
abbrev kc1(op:CmpOp)(a:V)(kb:V->St->Bool->Prop):K:=λ b st=>xk op a b st (kb b st)
abbrev kc2(k:K)(_:V)(st:St)(r:Bool):Prop:=k (.p (.bool r)) st
abbrev kc3(self:jK->Prop)(ops:List CmpOp)(cs:List Expr)(k:K)(kx:KX)(b:V)(st:St)(r:Bool):Prop:=Br r (self (.cmp b ops cs st k kx)) (k (.p (.bool false)) st)
abbrev kc4(k:Bool->St->Prop)(_:V)(st:St)(r:Bool):Prop:=k r st
abbrev kc5(self:jK->Prop)(ops:List CmpOp)(cs:List Expr)(k:Bool->St->Prop)(kx:KX)(b:V)(st:St)(r:Bool):Prop:=Br r (self (.tc b ops cs st k kx)) (k false st)
def cmS(self:jK->Prop)(a:V)(ops:List CmpOp)(cs:List Expr)(st:St)(k1:V->St->Bool->Prop)(k2:List CmpOp->List Expr->V->St->Bool->Prop)(kx:KX):Prop:=match ops with
 | []=>False
 | op::r=>(match cs with
   | []=>False
   | c::q=>(match r with
     | []=>(match q with
       | []=>self (.e c st (kc1 op a k1) kx)
       | _::_=>False)
     | _::_=>(match q with
       | []=>False
       | _::_=>self (.e c st (kc1 op a (k2 r q)) kx))))
abbrev kBo(self:jK->Prop)(op:BoolOp)(xs:List Expr)(k:K)(kx:KX):K:=λ v st=>match v with
 | .p (.bool b)=>(match op with
   | .And=>Br b (self (.bo .And xs st k kx)) (k (.p (.bool false)) st)
   | .Or=>Br b (k (.p (.bool true)) st) (self (.bo .Or xs st k kx)))
 | _=>False
abbrev kNt(k:Bool->St->Prop)(b:Bool)(st:St):Prop:=k (!b) st
abbrev kTb(k:Bool->St->Prop):K:=λ v st=>match v with
 | .p (.bool b)=>k b st
 | _=>False
abbrev kTi(self:jK->Prop)(b o:Expr)(k:Bool->St->Prop)(kx:KX)(c:Bool)(st:St):Prop:=Br c (self (.t b st k kx)) (self (.t o st k kx))
abbrev kTc(self:jK->Prop)(ops:List CmpOp)(cs:List Expr)(k:Bool->St->Prop)(kx:KX):K:=λ a st=>self (.tc a ops cs st k kx)
abbrev kTs(self:jK->Prop)(op:BoolOp)(xs:List Expr)(k:Bool->St->Prop)(kx:KX)(b:Bool)(st:St):Prop:=match op with
 | .And=>Br b (self (.ts .And xs st k kx)) (k false st)
 | .Or=>Br b (k true st) (self (.ts .Or xs st k kx))
abbrev kAs(self:jK->Prop)(ts:List Expr)(vs:List V)(k:St->Prop)(kx:KX)(st:St):Prop:=self (.asgs ts vs st k kx)
abbrev kSa(n:Str)(v:V)(k:St->Prop):K:=λ ov st=>Ud ov n v st k
abbrev kSj(a v:V)(k:St->Prop):K:=λ j st=>Uc a j v st k
abbrev kSi(self:jK->Prop)(i:Expr)(v:V)(k:St->Prop)(kx:KX):K:=λ a st=>self (.e i st (kSj a v k) kx)
abbrev kSs(self:jK->Prop)(xs:List Stmt)(k:Fl->St->Prop)(kx:KX)(fl:Fl)(st:St):Prop:=match fl with
 | .next=>self (.ss xs st k kx)
 | _=>k fl st
def tS(self:jK->Prop)(x:Expr)(st:St)(k:Bool->St->Prop)(kx:KX):Prop:=match x with
 | .UnaryOp .Not y _=>self (.t y st (kNt k) kx)
 | .BoolOp op vs _=>self (.ts op vs st k kx)
 | .IfExp t b o _=>self (.t t st (kTi self b o k kx) kx)
 | .Compare l ops cs _=>on (ZC cs) (self (.e l st (kTc self ops cs k kx) kx))
 | _=>self (.e x st (kTb k) kx)
def asgN(n:Str)(v:V)(st:St)(k:St->Prop)(o:Option NameKind):Prop:=match o with
 | .some .local=>k (st.set n v)
 | .some .cell=>on (lk n st.loc).isNone (k (st.set n v))
 | _=>False
def asgU(self:jK->Prop)(ts:List Expr)(v:V)(st:St)(k:St->Prop)(kx:KX):Prop:=match v with
 | .p (.tup us)=>on (Nat.beq ts.length us.length&&noStar ts) (self (.asgs ts (us.map V.p) st k kx))
 | _=>False
def asgS(self:jK->Prop)(tgt:Expr)(v:V)(st:St)(k:St->Prop)(kx:KX):Prop:=match tgt with
 | .Name n _=>asgN n v st k (lk n st.sc)
 | .Tuple ts _ _=>asgU self ts v st k kx
 | .Attribute o n _=>on (nc0 o) (self (.e o st (kSa n v k) kx))
 | .Subscript o i _=>self (.e o st (kSi self i v k kx) kx)
 | _=>False
def JA(sp:Addr->Option zM)(self:jK->Prop):jK->Prop
 | .e x st k kx=>jl self sp x st k kx
 | .es xs st k kx=>(match xs with
   | []=>k [] st
   | x::r=>self (.e x st (kE1 self r k kx) kx))
 | .cmp a ops cs st k kx=>cmS self a ops cs st (kc2 k) (λ r q=>kc3 self r q k kx) kx
 | .bo op xs st k kx=>(match xs with
   | []=>False
   | x::r=>(match r with
     | []=>self (.e x st k kx)
     | _::_=>self (.e x st (kBo self op r k kx) kx)))
 | .t x st k kx=>tS self x st k kx
 | .tc a ops cs st k kx=>cmS self a ops cs st (kc4 k) (λ r q=>kc5 self r q k kx) kx
 | .ts op xs st k kx=>(match xs with
   | []=>(match op with
     | .And=>k true st
     | .Or=>k false st)
   | x::r=>self (.t x st (kTs self op r k kx) kx))
 | .asg tgt v st k kx=>asgS self tgt v st k kx
 | .asgs ts vs st k kx=>(match ts with
   | []=>(match vs with
     | []=>k st
     | _::_=>False)
   | t::r=>(match vs with
     | []=>False
     | v::q=>self (.asg t v st (kAs self r q k kx) kx)))
 | .s x st k kx=>yS self x st k kx
 | .ss xs st k kx=>(match xs with
   | []=>k .next st
   | x::r=>self (.s x st (kSs self r k kx) kx))
 | .call f args mem k kx=>xm self sp f args mem k kx
def ev(sp:Addr->Option zM)(n:Nat):jK->Prop:=@Nat.rec (λ _=>jK->Prop) (λ _=>False) (λ _ ih=>JA sp ih) n
noncomputable abbrev FZ:=Addr->Option Obj
noncomputable def biV:BI->Value
 | .len=>.builtin "len" | .range=>.type "range" | .bytes=>.type "bytes" | .any=>.builtin "any" | .sum=>.builtin "sum"
 | .sorted=>.builtin "sorted" | .max=>.builtin "max" | .min=>.builtin "min" | .enumerate=>.type "enumerate" | .str=>.type "str" | .list=>.type "list"
noncomputable def jS (items:Array Value) (n:Nat):Obj:={ cls:=.type "list",data:=.seq items n }
noncomputable def yH (items:Array Value) (n:Nat):Obj:={ cls:=.type "tuple",data:=.seq items n }
mutual
inductive VR(Z:FZ):T->Value->Prop
 | none:VR Z .none .none
 | bool (b:Bool):VR Z (.bool b) (.bool b)
 | int (i:Int) (t:Tok):VR Z (.int i) (.int i t)
 | str (x:Str) (t:Tok):VR Z (.str x) (.str x t)
 | bytes (b:Array UInt8) (t:Tok):VR Z (.bytes b.toList) (.bytes b t)
 | tup {ts:List T} {a:Addr} {items:Array Value} {n:Nat}:Z a=some (yH items n)->VRL Z ts items.toList->VR Z (.tup ts) (.ref a)
 | lst {ts:List T} {a:Addr} {items:Array Value} {n:Nat}:Z a=some (jS items n)->VRL Z ts items.toList->VR Z (.lst ts) (.ref a)
 | inst {C:Addr} {fs:List (Str×T)} {a dx:Addr} {sl:Array (Option Value)} {es:List DictEntry} {n:Nat}:Z a=some ⟨.ref C,some dx,.plain,sl⟩->Z dx=some (dictOf es n)->VRF Z fs es->VR Z (.inst C fs) (.ref a)
 | ref (a:Addr):VR Z (.ref a) (.ref a)
 | bi (b:BI) {v:Value}:v=biV b->VR Z (.bi b) v
 | rng {a b c:Int} {x:Addr} {t1 t2 t3:Tok}:Z x=some { cls:=.type "range",dict:=none,data:=.fields #[.int a t1,.int b t2,.int c t3],slots:=#[] }->(jj (sm2 a) (sm2 b) (sm2 c) (0<c))->VR Z (.rng a b c) (.ref x)
inductive VRL(Z:FZ):List T->List Value->Prop
 | nil:VRL Z [] []
 | cons {t:T} {v:Value} {ts:List T} {vs:List Value}:VR Z t v->VRL Z ts vs->VRL Z (t::ts) (v::vs)
inductive VRF(Z:FZ):List (Str×T)->List DictEntry->Prop
 | nil:VRF Z [] []
 | cons {x:Str} {k:Tok} {h:Int} {t:T} {v:Value} {ts:List (Str×T)} {es:List DictEntry}:VR Z t v->VRF Z ts es->VRF Z ((x,t)::ts) (⟨h,.str x k,v⟩::es)
end
inductive j9 where
 | loc | cel (x:Str) | obj (i:Nat) | dct (i:Nat) | priv | tab
structure Lay where
 Z:FZ
 role:Addr->Option j9
 rho:Nat->Addr
 P:FZ
def LamO(x:Expr)(sc:Scope)(cl:List (Str×Addr))(o:Obj)(fd:FuncData)(c:Addr)(oc:Obj)(vs:Array Value)(qq:Str)(t:Tok):Prop:=
 And14 (o.data=.func fd) (Ui fd.params=true) (fd.body=.expr x) (fd.scope=sc) (fd.globals=mainGlobals) (fd.closure=cl) (fd.defaults=.none) (fd.builtins=builtinsNs) (fd.code=.ref c) (oc.data=.fields vs) (vs[1]?=some (.str qq t)) (fd.scope.isCoroutine=false) (fd.scope.isGenerator=false) (fd.scope.kind=.function)
def Qs(Z:FZ)(a:Addr)(x:Expr)(sc:Scope)(cl:List (Str×Addr)):Prop:=
 Ex7 λ o fd c oc vs qq t=>jT (Z a=some o) (Z c=some oc) (LamO x sc cl o fd c oc vs qq t)
theorem Qs.mono{Z Z':FZ}(k:∀ b o,Z b=some o->Z' b=some o){a:Addr}{x:Expr}{sc:Scope}{cl:List (Str×Addr)}(h:Qs Z a x sc cl):Qs Z' a x sc cl:=by
 obtain⟨o,fd,c,oc,vs,qq,t,h1,h2,h3⟩:=h;exact⟨o,fd,c,oc,vs,qq,t,k _ _ h1,k _ _ h2,h3⟩
mutual
inductive VV(d:Lay)(n:Nat):V->Value->Prop
 | p {t:T} {v:Value}:VR d.Z t v->VV d n (.p t) v
 | m {i:Nat}:i<n->VV d n (.m i) (.ref (d.rho i))
 | lam {x:Expr} {sc:Scope} {loc:List (Str×V)} {a:Addr} {cl:List (Str×Addr)}:Qs d.Z a x sc cl->VVC d n cl loc->VV d n (.lam x sc loc) (.ref a)
inductive VVC(d:Lay)(n:Nat):List (Str×Addr)->List (Str×V)->Prop
 | nil {cl:List (Str×Addr)}:VVC d n cl []
 | cons {cl:List (Str×Addr)} {y:Str} {v:V} {r:List (Str×V)} {c:Addr} {val:Value} {o:Obj}:cl.lookup y=some c->d.Z c=some o->o.data=.cell (some val)->VV d n v val->VVC d n cl r->VVC d n cl ((y,v)::r)
end
inductive VVL(d:Lay)(n:Nat):List V->List Value->Prop
 | nil:VVL d n [] []
 | cons {t:V} {v:Value} {ts:List V} {vs:List Value}:VV d n t v->VVL d n ts vs->VVL d n (t::ts) (v::vs)
inductive VVF(d:Lay)(n:Nat):List (Str×V)->List DictEntry->Prop
 | nil:VVF d n [] []
 | cons {x:Str} {k:Tok} {h:Int} {t:V} {v:Value} {ts:List (Str×V)} {es:List DictEntry}:VV d n t v->VVF d n ts es->VVF d n ((x,t)::ts) (⟨h,.str x k,v⟩::es)
def VRI(Z:FZ)(t:T)(v:Value):Prop:=match t with
 | .none=>v=.none
 | .bool b=>v=.bool b
 | .int i=>∃ u,v=.int i u
 | .str x=>∃ u,v=.str x u
 | .bytes b=>Ex2 λ a u=>b=a.toList/\v=.bytes a u
 | .tup ts=>Ex3 λ a items n=>jT (v=.ref a) (Z a=some (yH items n)) (VRL Z ts items.toList)
 | .lst ts=>Ex3 λ a items n=>jT (v=.ref a) (Z a=some (jS items n)) (VRL Z ts items.toList)
 | .inst C fs=>Ex5 λ a dx sl es n=>jj (v=.ref a) (Z a=some ⟨.ref C,some dx,.plain,sl⟩) (Z dx=some (dictOf es n)) (VRF Z fs es)
 | .ref a=>v=.ref a
 | .bi b=>v=biV b
 | .rng a b c=>Ex4 λ x t1 t2 t3=>jT (v=.ref x) (Z x=some { cls:=.type "range",dict:=none,data:=.fields #[.int a t1,.int b t2,.int c t3],slots:=#[] }) (jj (sm2 a) (sm2 b) (sm2 c) (0<c))
noncomputable def Dn:=@VR.casesOn
theorem VR.inv{Z:FZ}{t:T}{v:Value}(h:VR Z t v):VRI Z t v:=by
 induction h using Dn with
 | none=>rfl
 | bool=>rfl
 | int _ u=>exact⟨u,rfl⟩
 | str _ u=>exact⟨u,rfl⟩
 | bytes a u=>exact⟨a,u,rfl,rfl⟩
 | tup z r=>exact⟨_,_,_,rfl,z,r⟩
 | lst z r=>exact⟨_,_,_,rfl,z,r⟩
 | inst z zd f=>exact⟨_,_,_,_,_,rfl,z,zd,f⟩
 | ref=>rfl
 | bi _ e=>exact e
 | rng z c=>exact⟨_,_,_,_,rfl,z,c⟩
theorem VRL.inv{Z:FZ}{t:T}{ts:List T}{vs:List Value}(h:VRL Z (t::ts) vs):Ex2 λ v r=>jT (vs=v::r) (VR Z t v) (VRL Z ts r):=by
 cases h with | cons a r=>exact⟨_,_,rfl,a,r⟩
def VVI(d:Lay)(n:Nat)(x:V)(v:Value):Prop:=match x with
 | .p t=>VR d.Z t v
 | .m i=>i<n/\v=.ref (d.rho i)
 | .lam x sc loc=>Ex2 λ a cl=>jT (v=.ref a) (Qs d.Z a x sc cl) (VVC d n cl loc)
noncomputable def Do:=@VV.casesOn
theorem VV.inv{d:Lay}{n:Nat}{x:V}{v:Value}(h:VV d n x v):VVI d n x v:=by
 induction h using Do with
 | p h=>exact h
 | m h=>exact⟨h,rfl⟩
 | lam h r=>exact⟨_,_,rfl,h,r⟩
theorem VVL.inv{d:Lay}{n:Nat}{t:V}{ts:List V}{vs:List Value}(h:VVL d n (t::ts) vs):Ex2 λ v r=>jT (vs=v::r) (VV d n t v) (VVL d n ts r):=by
 cases h with | cons a r=>exact⟨_,_,rfl,a,r⟩
theorem VVL.inv0{d:Lay}{n:Nat}{vs:List Value}(h:VVL d n [] vs):vs=[]:=by
 cases h;rfl
theorem VRL.ind{Z:FZ}{P:(a:List T)->(x:List Value)->VRL Z a x->Prop}(h0:P [] [] .nil)(h1:∀{t v ts vs} (a:VR Z t v) (r:VRL Z ts vs),P ts vs r->P (t::ts) (v::vs) (.cons a r)){a:List T}{x:List Value}(h:VRL Z a x):P a x h:=
 VRL.rec (motive_1:=λ _ _ _=>True) (motive_2:=P) (motive_3:=λ _ _ _=>True) trivial (λ _=>trivial) (λ _ _=>trivial) (λ _ _=>trivial) (λ _ _=>trivial) (λ _ _ _=>trivial) (λ _ _ _=>trivial) (λ _ _ _ _=>trivial) (λ _=>trivial) (λ _ _ _=>trivial) (λ _ _=>trivial) h0 (λ a b _ h=>h1 a b h) trivial (λ _ _ _ _=>trivial) h
theorem VRF.ind{Z:FZ}{P:(a:List (Str×T))->(x:List DictEntry)->VRF Z a x->Prop}(h0:P [] [] .nil)(h1:∀{x k h t v ts es} (a:VR Z t v) (r:VRF Z ts es),P ts es r->P ((x,t)::ts) (⟨h,.str x k,v⟩::es) (.cons a r)){a:List (Str×T)}{x:List DictEntry}(h:VRF Z a x):P a x h:=
 VRF.rec (motive_1:=λ _ _ _=>True) (motive_2:=λ _ _ _=>True) (motive_3:=P) trivial (λ _=>trivial) (λ _ _=>trivial) (λ _ _=>trivial) (λ _ _=>trivial) (λ _ _ _=>trivial) (λ _ _ _=>trivial) (λ _ _ _ _=>trivial) (λ _=>trivial) (λ _ _ _=>trivial) (λ _ _=>trivial) trivial (λ _ _ _ _=>trivial) h0 (λ a b _ h=>h1 a b h) h
theorem VR.mono{Z Z':FZ}(k:∀ b o,Z b=some o->Z' b=some o){t:T}{v:Value}(h:VR Z t v):VR Z' t v:=
 VR.rec (motive_1:=λ t v _=>VR Z' t v) (motive_2:=λ t v _=>VRL Z' t v) (motive_3:=λ t v _=>VRF Z' t v) .none .bool .int .str .bytes (λ h _ r=>.tup (k _ _ h) r) (λ h _ r=>.lst (k _ _ h) r) (λ h1 h2 _ r=>.inst (k _ _ h1) (k _ _ h2) r) .ref (λ b _ e=>.bi b e) (λ h c=>.rng (k _ _ h) c)
  .nil (λ _ _ a r=>.cons a r) .nil (λ _ _ a r=>.cons a r) h
theorem VRL.mono{Z Z':FZ}(k:∀ b o,Z b=some o->Z' b=some o){t:List T}{v:List Value}(h:VRL Z t v):VRL Z' t v:=by
 induction h using VRL.ind with
 | h0=>exact .nil
 | h1 a _ ih=>exact .cons (a.mono k) ih
structure Ext(d:Lay)(n:Nat)(d':Lay)(n':Nat):Prop where
 z:∀ b o,d.Z b=some o->d'.Z b=some o
 rho:∀ i,i<n->d'.rho i=d.rho i
 n:n<=n'
 P:d'.P=d.P
theorem Ext.refl(d:Lay)(n:Nat):Ext d n d n:=⟨λ _ _ e=>e,λ _ _=>rfl,BN _,rfl⟩
theorem Ext.trans{d d' d'':Lay}{n n' n'':Nat}(x:Ext d n d' n')(y:Ext d' n' d'' n''):Ext d n d'' n'':=
 ⟨λ b o e=>y.z b o (x.z b o e),λ i h=>(y.rho i (BY h x.n)).trans (x.rho i h),BF x.n y.n,y.P.trans x.P⟩
theorem VV.mono{d d':Lay}{n n':Nat}(x:Ext d n d' n'){t:V}{v:Value}(h:VV d n t v):VV d' n' t v:=
 VV.rec (motive_1:=λ t v _=>VV d' n' t v) (motive_2:=λ c t _=>VVC d' n' c t) (λ h=>.p (h.mono x.z)) (λ h=>x.rho _ h▸.m (BY h x.n)) (λ h _ r=>.lam (h.mono x.z) r) .nil (λ a b c _ _ v r=>.cons a (x.z _ _ b) c v r) h
theorem VVC.ind{d:Lay}{n:Nat}{P:(c:List (Str×Addr))->(l:List (Str×V))->VVC d n c l->Prop}(h0:∀{cl},P cl [] .nil)(h1:∀{cl y v r c val o} (a:cl.lookup y=some c) (b:d.Z c=some o) (e:o.data=.cell (some val)) (u:VV d n v val) (q:VVC d n cl r),P cl r q->P cl ((y,v)::r) (.cons a b e u q)){c:List (Str×Addr)}{l:List (Str×V)}(h:VVC d n c l):P c l h:=
 VVC.rec (motive_1:=λ _ _ _=>True) (motive_2:=P) (λ _=>trivial) (λ _=>trivial) (λ _ _ _=>trivial) h0 (λ a b e u q _ ih=>h1 a b e u q ih) h
theorem VVC.mono{d d':Lay}{n n':Nat}(x:Ext d n d' n'){cl:List (Str×Addr)}{t:List (Str×V)}(h:VVC d n cl t):VVC d' n' cl t:=by
 induction h using VVC.ind with
 | h0=>exact .nil
 | h1 a b e u _ ih=>exact .cons a (x.z _ _ b) e (u.mono x) ih
theorem VVL.mono{d d':Lay}{n n':Nat}(x:Ext d n d' n'){t:List V}{v:List Value}(h:VVL d n t v):VVL d' n' t v:=by
 induction h with
 | nil=>exact .nil
 | cons a _ ih=>exact .cons (a.mono x) ih
theorem VVF.mono{d d':Lay}{n n':Nat}(x:Ext d n d' n'){t:List (Str×V)}{v:List DictEntry}(h:VVF d n t v):VVF d' n' t v:=by
 induction h with
 | nil=>exact .nil
 | cons a _ ih=>exact .cons (a.mono x) ih
noncomputable def kH (ks:List Int):Int:=reduceHash (Builtin.Tuple.tupleHashOf (ks.map hashInt))
inductive DR(d:Lay)(n:Nat):List (T×V)->List DictEntry->Prop
 | nil:DR d n [] []
 | one {ks:List Int} {a:Addr} {items:Array Value} {k:Nat} {v:V} {val:Value}:d.Z a=some (yH items k)->VRL d.Z (ks.map T.int) items.toList->VV d n v val->DR d n [(.tup (ks.map T.int),v)] [⟨kH ks,.ref a,val⟩]
noncomputable def Dp:=@DR.casesOn
theorem DR.mono{d d':Lay}{n n':Nat}(x:Ext d n d' n'){t:List (T×V)}{v:List DictEntry}(h:DR d n t v):DR d' n' t v:=by
 induction h using Dp with
 | nil=>exact .nil
 | one a b c=>exact .one (x.z _ _ a) (b.mono x.z) (c.mono x)
structure Run where
 prog:Program
 w:World
 base:Heap
 os:OsState
 mg:Str->Option Value
 mb:Str->Option Value
def zN(d:Lay)(n:Nat)(h:Heap)(i:Nat):jB->Prop
 | .plst ts=>d.role (d.rho i)=some (.obj i)/\Ex2 λ items k=>h.get? (d.rho i)=some (jS items k)/\VRL d.Z ts items.toList
 | .vlst vs=>d.role (d.rho i)=some (.obj i)/\Ex2 λ items k=>h.get? (d.rho i)=some (jS items k)/\VVL d n vs items.toList
 | .inst C fs=>d.role (d.rho i)=some (.obj i)/\Ex4 λ dx sl es k=>jj (h.get? (d.rho i)=some ⟨.ref C,some dx,.plain,sl⟩) (d.role dx=some (.dct i)) (h.get? dx=some (dictOf es k)) (VVF d n fs es)
 | .dict es ep=>jT (d.role (d.rho i)=some (.obj i)) (d.rho i≠sysModules) (∃ ds,h.get? (d.rho i)=some { cls:=.type "dict",dict:=none,data:=.dict ds ep,slots:=#[] }/\DR d n es ds.toList)
 | .gone=>True
def FrOk(e:Env):Prop:=vj (e.scope.kind≠.module) (e.scope.isGenerator=false) (e.scope.isCoroutine=false) (e.builtins=builtinsNs) (e.globals=mainGlobals)
noncomputable def qA:Addr:=1016
def TabR(d:Lay)(h:Heap):Prop:=d.role qA=some .tab/\∃ ps,jT (h.get? qA=some (tabObj ps)) (TriplesOk ps.toList) (∀ pos c,codeAmong pos ps.toList=some c->Ex5 λ c' oc vs q t=>jj (c=.ref c') (d.Z c'=some oc) (oc.data=.fields vs) (vs[1]?=some (.str q t)))
theorem TabR.mono{d d':Lay}{h h':Heap}(t:TabR d h)(k:∀ b o,d.Z b=some o->d'.Z b=some o)(hr:d.role qA=some .tab->d'.role qA=some .tab)(hk:∀ o,h.get? qA=some o->h'.get? qA=some o):TabR d' h':=by
 obtain⟨r,ps,g,o,f⟩:=t;refine⟨hr r,ps,hk _ g,o,λ pos c e=>?_⟩;obtain⟨c',oc,vs,q,t,h1,h2,h3,h4⟩:=f pos c e;exact⟨c',oc,vs,q,t,h1,k _ _ h2,h3,h4⟩
def zP(o:Obj):Prop:=(∃ vs,o.data=.fields vs)\/Ex2 λ vs n=>o.data=.seq vs n
theorem wB{o:Obj}{es:Array DictEntry}{ep:Nat}(h:o.data=.dict es ep):¬ zP o:=by
 rintro(⟨vs,e⟩ | ⟨vs,n,e⟩) <;> (replace e:=h▸e;cases e)
noncomputable def jh (fr:List Env):List Addr:=fr.filterMap (·.frame)
theorem wq{env:Env}{fr:List Env}{b:Addr}(h:b∈jh fr):b∈jh (env::fr):=by
 obtain⟨e,he,hf⟩:=Cw.mp h;exact Cw.mpr ⟨e,.tail _ he,hf⟩
structure jH(X:Run)(d:Lay)(mem:List jB)(fr:List Env)(s:Shared):Prop where
 gens:s.gens=#[]
 os:s.os=X.os
 base:∀ b o,X.base.get? b=some o->d.Z b=some o
 zin:∀ b o,d.Z b=some o->s.heap.get? b=some o
 zr:∀ b r,d.role b=some r->d.Z b=none
 rin:∀ b r,d.role b=some r->∃ o,s.heap.get? b=some o
 pin:∀ b o,d.P b=some o->d.role b=some .priv/\∃ sl,s.heap.get? b=some { o with slots:=sl }/\((zP o\/b∉jh fr)->sl=o.slots)
 mem:∀ i,i<jA mem->zN d (jA mem) s.heap i (jC mem i)
 tab:TabR d s.heap
 fr:∀ e∈fr,FrOk e/\Ex2 λ L o=>jj (e.frame=some L) (d.role L=some .loc\/d.role L=some .priv) (s.heap.get? L=some o) (¬ zP o)
theorem qc{a b:Str}:seq a b=true↔a=b:=Fast.sEq_iff
theorem yU{a b:Str}:seq a b=false↔a≠b:=by
 constructor
 ·intro h e;replace h:=(qc.mpr e)▸h;exact ft h
 ·intro h;cases e:seq a b with
  | false=>rfl
  | true=>exact absurd (qc.mp e) h
theorem j7{α:Type}(x y:Str)(v:α)(r:List (Str×α)):lk x ((y,v)::r)=if x=y then some v else lk x r:=by
 show @Bool.rec (λ _=>Option α) (lk x r) (.some v) (seq x y)=_;cases e:seq x y with
 | true=>exact rwl (BJ (qc.mp e)) rfl
 | false=>exact rwl (BE (yU.mp e)) rfl
theorem yj{α:Type}(x y:Str)(v:α):∀ l:List (Str×α),lk x (put y v l)=if x=y then some v else lk x l
 | []=>by show lk x [(y,v)]=_;rw[j7]
 | (z,u)::r=>by
   have ih:=yj x y v r;show lk x (@Bool.rec (λ _=>List (Str×α)) ((z,u)::put y v r) ((z,v)::r) (seq y z))=_;cases e:seq y z with
   | true=>
     have e:=qc.mp e;subst e;show lk x ((y,v)::r)=_;rw[j7,j7];by_cases h:x=y <;> simp[h]
   | false=>
     have e:=yU.mp e;show lk x ((z,u)::put y v r)=_;rw[j7,j7,ih];by_cases h:x=z
     ·subst h;exact rwl (BJ rfl) (rwl (BJ rfl) (rwl (BE (DF e)) rfl))
     ·exact rwl (BE h) (rwl (BE h) rfl)
theorem qK{α:Type}(x:Str):∀ l:List (Str×α),lk x l=l.lookup x
 | []=>rfl
 | (y,v)::r=>by
   rw[j7,Bc,qK x r];by_cases h:x=y
   ·subst h;simp
   ·exact rwl (BE h) (rwl (Bh.mpr h) rfl)
theorem j4:∀(l:List jB) (i j:Nat) (o:jB),i<jA l->jC (jp l i o) j=if j=i then o else jC l j
 | [],i,j,o,h=>by cases h
 | x::r,0,0,o,h=>rfl
 | x::r,0,j+1,o,h=>rfl
 | x::r,i+1,0,o,h=>rfl
 | x::r,i+1,j+1,o,h=>by
   have ih:=j4 r i j o (CA h);show jC (jp r i o) j=_;refine rwl ih ?_;by_cases e:j=i <;> simp[e,jC]
theorem jW:∀(l:List jB) (i:Nat) (o:jB),jA (jp l i o)=jA l
 | [],_,_=>rfl
 | x::r,0,o=>rfl
 | x::r,i+1,o=>by show(jA (jp r i o)).succ=_;refine rwl (jW r i o) ?_;rfl
theorem jI:∀(l:List jB) (o:jB),jA (jU l o)=jA l+1:=by
 intro l;induction l with
 | nil=>
   intro _;exact rfl
 | cons x r ih=>
   intro o;show(jA (jU r o)).succ=_;refine rwl (ih o) ?_;rfl
theorem jr:∀(l:List jB) (o:jB) (j:Nat),jC (jU l o) j=if j=jA l then o else jC l j
 | [],o,0=>rfl
 | [],o,j+1=>by show jC [] j=_;refine rwl (BE (by exact Nat.succ_ne_zero j)) ?_;cases j <;> rfl
 | x::r,o,0=>by show x=_;refine rwl (BE (by exact(Nat.succ_ne_zero _).symm)) ?_;rfl
 | x::r,o,j+1=>by
   have ih:=jr r o j;show jC (jU r o) j=_;refine rwl ih ?_;show _=if j+1=(jA r).succ then o else jC r j
   by_cases e:j=jA r <;> simp[e]
theorem qZ:∀(n:Nat) (l:List jB),n<=jA l->jA (jZ n l)=n
 | 0,_,_=>rfl
 | n+1,[],h=>absurd h (Nat.not_succ_le_zero _)
 | n+1,x::r,h=>by show(jA (jZ n r)).succ=_;exact rwl (qZ n r (Cn h)) rfl
theorem qC:∀(n:Nat) (l:List jB) (j:Nat),j<n->jC (jZ n l) j=jC l j
 | n+1,[],j,_=>by cases j <;> rfl
 | n+1,x::r,0,_=>rfl
 | n+1,x::r,j+1,h=>qC n r j (CA h)
theorem zN.mono{d d':Lay}{n n':Nat}{h h':Heap}{i:Nat}(x:Ext d n d' n')(hi:i<n)
  (hr:∀ b,d.role b=some (.obj i)\/d.role b=some (.dct i)->d'.role b=d.role b)
  (hk:∀ b o,d.role b=some (.obj i)\/d.role b=some (.dct i)->h.get? b=some o->h'.get? b=some o) :
  ∀{o:jB},zN d n h i o->zN d' n' h' i o:=by
 intro o;have e:=x.rho i hi;induction o using jB.casesOn with
 | plst ts=>
   rintro⟨r,items,k,g,v⟩;exact⟨by refine rwl e (rwl (hr _ (.inl r)) ?_);exact r,items,k,by refine rwl e ?_;exact hk _ _ (.inl r) g,v.mono x.z⟩
 | vlst ts=>
   rintro⟨r,items,k,g,v⟩;exact⟨by refine rwl e (rwl (hr _ (.inl r)) ?_);exact r,items,k,by refine rwl e ?_;exact hk _ _ (.inl r) g,v.mono x⟩
 | inst C fs=>
   rintro⟨r,dx,sl,es,k,g,rd,gd,v⟩;exact⟨by refine rwl e (rwl (hr _ (.inl r)) ?_);exact r,dx,sl,es,k,by refine rwl e ?_;exact hk _ _ (.inl r) g,by refine rwl (hr _ (.inr rd)) ?_;exact rd,hk _ _ (.inr rd) gd,v.mono x⟩
 | dict ts ep=>
   rintro⟨r,ne,ds,g,v⟩;exact⟨by refine rwl e (rwl (hr _ (.inl r)) ?_);exact r,rwl e ne,ds,by refine rwl e ?_;exact hk _ _ (.inl r) g,v.mono x⟩
 | gone=>exact λ _=>trivial
noncomputable def Lay.grow (d:Lay) (h:Heap):Lay:={ d with Z:=λ b=>match d.role b with | some _=>none | none=>h.get? b }
theorem Lay.grow_of{d:Lay}{h:Heap}{b:Addr}{o:Obj}(r:d.role b=none)(e:h.get? b=some o):(d.grow h).Z b=some o:=by
 show(match d.role b with | some _=>none | none=>h.get? b)=_;refine rwl r ?_;exact e
theorem Lay.of_grow{d:Lay}{h:Heap}{b:Addr}{o:Obj}(e:(d.grow h).Z b=some o):d.role b=none/\h.get? b=some o:=by
 have e:(match d.role b with | some _=>none | none=>h.get? b)=some o:=e;cases q:d.role b with
 | none=>replace e:=q▸e;exact⟨rfl,e⟩
 | some r=>replace e:=q▸e;exact nsm e
section
variable{X:Run}{d:Lay}{mem:List jB}{fr:List Env}{s s':Shared}
theorem jH.zrole(c:jH X d mem fr s){b:Addr}{o:Obj}(e:d.Z b=some o):d.role b=none:=by
 cases q:d.role b with
 | none=>rfl
 | some r=>replace e:=(c.zr b r q)▸e;exact nsm e
theorem jH.norole(c:jH X d mem fr s){b:Addr}(e:s.heap.get? b=none):d.role b=none:=by
 cases q:d.role b with
 | none=>rfl
 | some r=>obtain⟨o,ho⟩:=c.rin b r q;replace ho:=e▸ho;exact nsm ho
theorem jH.ext_grow(c:jH X d mem fr s){h':Heap}(k:∀ b o,s.heap.get? b=some o->h'.get? b=some o){n:Nat}:Ext d n (d.grow h') n:=
 ⟨λ b o e=>Lay.grow_of (c.zrole e) (k b o (c.zin b o e)),λ _ _=>rfl,BN _,rfl⟩
theorem jH.grow(c:jH X d mem fr s)(k:∀ b o,s.heap.get? b=some o->s'.heap.get? b=some o)(hg:s'.gens=s.gens:=by rfl)(ho:s'.os=s.os:=by rfl):jH X (d.grow s'.heap) mem fr s' where
 gens:=hg.trans c.gens
 os:=ho.trans c.os
 base:=λ b o e=>(c.ext_grow k (n:=0)).z b o (c.base b o e)
 zin:=λ b o e=>(Lay.of_grow e).2
 zr:=λ b r (e:d.role b=some r)=>by show(match d.role b with | some _=>none | none=>s'.heap.get? b)=_;exact rwl e rfl
 rin:=λ b r e=>let ⟨o,h⟩:=c.rin b r e;⟨o,k b o h⟩
 pin:=λ b o e=>let ⟨r,sl,h,hz⟩:=c.pin b o e;⟨r,sl,k b _ h,hz⟩
 mem:=λ i hi=>(c.mem i hi).mono (c.ext_grow k) hi (λ _ _=>rfl) λ b o _ e=>k b o e
 tab:=c.tab.mono (λ b o e=>(c.ext_grow k (n:=0)).z b o e) (λ r=>r) λ o e=>k _ o e
 fr:=λ e he=>let ⟨a,L,o,f,r,g,q⟩:=c.fr e he;⟨a,L,o,f,r,k L o g,q⟩
theorem jH.toks(c:jH X d mem fr s)(hh:s'.heap=s.heap)(hg:s'.gens=s.gens:=by rfl)(ho:s'.os=s.os:=by rfl):jH X d mem fr s' where
 gens:=hg.trans c.gens
 os:=ho.trans c.os
 base:=c.base
 zin:=λ b o e=>by refine rwl hh ?_;exact c.zin b o e
 zr:=c.zr
 rin:=by refine rwl hh ?_;exact c.rin
 pin:=by refine rwl hh ?_;exact c.pin
 mem:=by refine rwl hh ?_;exact c.mem
 tab:=by refine rwl hh ?_;exact c.tab
 fr:=by refine rwl hh ?_;exact c.fr
theorem jH.sameLoc(c:jH X d mem fr s){a:Addr}{r:j9}(hr:d.role a=some r)(hn:r≠.priv)(hn1:∀ i,r≠.obj i)(hn2:∀ i,r≠.dct i)(hn3:r≠.tab)(hs:Heap.SameBut a s.heap s'.heap)
  (ha:∃ o,s'.heap.get? a=some o/\¬ zP o) (hg:s'.gens=s.gens:=by rfl) (ho:s'.os=s.os:=by rfl):jH X d mem fr s' where
 gens:=hg.trans c.gens
 os:=ho.trans c.os
 base:=c.base
 zin:=λ b o e=>(hs.2 b (λ q=>by(replace e:=q▸e;replace e:=(c.zr a r hr)▸e);exact nsm e)).trans (c.zin b o e)
 zr:=c.zr
 rin:=λ b r' e=>by
  by_cases q:b=a
  ·subst q;obtain⟨o,h,_⟩:=ha;exact⟨o,h⟩
  ·obtain⟨o,h⟩:=c.rin b r' e;exact⟨o,(hs.2 b q).trans h⟩
 pin:=λ b o e=>by
  obtain⟨r',sl,h,hz⟩:=c.pin b o e;refine⟨r',sl,(hs.2 b λ q=>?_).trans h,hz⟩
  (replace r':=q▸r';replace r':=hr▸r');exact hn (B9 r')
 mem:=λ i hi=>(c.mem i hi).mono (Ext.refl _ _) hi (λ _ _=>rfl) λ b o q e=>(hs.2 b λ z=>by
  (replace q:=z▸q;replace q:=hr▸q)
  rcases q with q | q
  ·exact hn1 i (B9 q)
  ·exact hn2 i (B9 q)).trans e
 tab:=c.tab.mono (λ _ _ e=>e) (λ q=>q) λ o e=>(hs.2 qA (λ z=>by have t:=c.tab.1;(replace t:=z▸t;replace t:=hr▸t);exact hn3 (B9 t))).trans e
 fr:=λ e he=>by
  obtain⟨a',L,o,f,r',g,q⟩:=c.fr e he;by_cases z:L=a
  ·subst z;obtain⟨o',h',q'⟩:=ha;exact⟨a',L,o',f,r',h',q'⟩
  ·exact⟨a',L,o,f,r',(hs.2 L z).trans g,q⟩
end
structure Loc(X:Run)(d:Lay)(env:Env)(fr:List Env)(st:St)(s:Shared):Prop where
 core:jH X d st.mem fr s
 kind:env.scope.kind=.function
 sc:∀ x k,lk x st.sc=some k->env.kindOf x=some k\/(k=.free/\env.kindOf x=some .cell)
 glob:env.globals=mainGlobals
 blt:env.builtins=builtinsNs
 top:fr≠[]/\(st.sc=vK->env.code=.ref Ql)
 role:d.role env.locals=some .loc
 ns:∃ m,s.heap.Ns env.locals m/\∀ x v,lk x st.loc=some v->lk x st.sc=some .local->∃ val,m x=some val/\VV d (jA st.mem) v val
 cel:∀ x v,lk x st.loc=some v->lk x st.sc=some .cell\/lk x st.sc=some .free->Ex3 λ c val o=>jj (env.cells.lookup x=some c) (d.Z c=some o) (o.data=.cell (some val)) (VV d (jA st.mem) v val)
 ucel:∀ x,lk x st.loc=none->lk x st.sc=some .cell->Ex2 λ c o=>jj (env.cells.lookup x=some c) (s.heap.get? c=some o) (o.data=.cell none) (d.role c=some (.cel x))
section
variable{X:Run}{d d':Lay}{env:Env}{fr:List Env}{st:St}{s s':Shared}
theorem Loc.grow(l:Loc X d env fr st s)(k:∀ b o,s.heap.get? b=some o->s'.heap.get? b=some o)(hg:s'.gens=s.gens:=by rfl)(ho:s'.os=s.os:=by rfl):Loc X (d.grow s'.heap) env fr st s' where
 core:=l.core.grow k hg ho
 kind:=l.kind
 sc:=l.sc
 glob:=l.glob
 blt:=l.blt
 top:=l.top
 role:=l.role
 ns:=let ⟨m,hn,h⟩:=l.ns;⟨m,hn.keeps k,λ x v a b=>let ⟨val,e,q⟩:=h x v a b;⟨val,e,q.mono (l.core.ext_grow k)⟩⟩
 cel:=λ x v a b=>let ⟨c,val,o,h1,h2,h3,h4⟩:=l.cel x v a b;⟨c,val,o,h1,(l.core.ext_grow k (n:=0)).z _ _ h2,h3,h4.mono (l.core.ext_grow k)⟩
 ucel:=λ x a b=>let ⟨c,o,h1,h2,h3,h4⟩:=l.ucel x a b;⟨c,o,h1,k _ _ h2,h3,h4⟩
theorem Loc.toks(l:Loc X d env fr st s)(hh:s'.heap=s.heap)(hg:s'.gens=s.gens:=by rfl)(ho:s'.os=s.os:=by rfl):Loc X d env fr st s' where
 core:=l.core.toks hh hg ho
 kind:=l.kind
 sc:=l.sc
 glob:=l.glob
 blt:=l.blt
 top:=l.top
 role:=l.role
 ns:=by refine rwl hh ?_;exact l.ns
 cel:=l.cel
 ucel:=by rw[hh];exact l.ucel
theorem Loc.bind(l:Loc X d env fr st s){x:Str}{v:V}{val:Value}{m:Str->Option Value}(hx:env.kindOf x=some .local)(hv:VV d (jA st.mem) v val)
  (hm:s.heap.Ns env.locals m) (hn:s'.heap.Ns env.locals (λ y=>if y=x then some val else m y)) (hs:Heap.SameBut env.locals s.heap s'.heap)
  (hg:s'.gens=s.gens:=by rfl) (ho:s'.os=s.os:=by rfl):Loc X d env fr (st.set x v) s' where
 core:=l.core.sameLoc l.role (by nofun) (by nofun) (by nofun) (by nofun) hs (let ⟨o,es,ep,a,b,_⟩:=hn;⟨o,a,wB b⟩) hg ho
 kind:=l.kind
 sc:=l.sc
 glob:=l.glob
 blt:=l.blt
 top:=l.top
 role:=l.role
 ns:=by
  obtain⟨m',hm',h⟩:=l.ns;have e:m'=m:=by
   obtain⟨o,es,ep,a1,a2,a3,a4⟩:=hm;obtain⟨o',es',ep',b1,b2,b3,b4⟩:=hm';replace b1:=a1▸b1;obtain rfl:=B9 b1;replace b2:=a2▸b2;cases b2;funext y;rw[<- a4,<- b4]
  subst e;refine⟨_,hn,λ y u a b=>?_⟩;have a:lk y (put x v st.loc)=some u:=a;rw[yj] at a;by_cases q:y=x
  ·subst q;replace a:=(BJ rfl)▸a;obtain rfl:=B9 a;exact⟨val,BJ rfl,hv⟩
  ·replace a:=(BE q)▸a;obtain⟨val',e,z⟩:=h y u a b;exact⟨val',by rw[BE q];exact e,z⟩
 cel:=λ y u a b=>by
  have a:lk y (put x v st.loc)=some u:=a;rw[yj] at a;by_cases q:y=x
  ·subst q;rcases b with b | b
   ·rcases l.sc y _ b with e | ⟨e,_⟩
    ·replace e:=hx▸e;cases e
    ·cases e
   ·rcases l.sc y _ b with e | ⟨_,e⟩ <;> (replace e:=hx▸e;cases e)
  ·rw[BE q] at a;exact l.cel y u a b
 ucel:=λ y a b=>by
  have a:lk y (put x v st.loc)=none:=a;rw[yj] at a;by_cases q:y=x
  ·replace a:=(BJ q)▸a;exact snm a
  ·replace a:=(BE q)▸a;obtain⟨c,o,h1,h2,h3,h4⟩:=l.ucel y a b;refine⟨c,o,h1,(hs.2 c λ z=>?_).trans h2,h3,h4⟩
   (replace h4:=z▸h4;replace h4:=l.role▸h4);cases h4
end
structure AOk(A:Around)(fr:List Env)(r:Nat):Prop where
 fr:A.frames=some fr
 gd:A.guards=some []
 dep:A.depth+r<=880
 uni:A.units+4*r<=9800
theorem AOk.le{A:Around}{fr:List Env}{r r':Nat}(a:AOk A fr r)(h:r'<=r):AOk A fr r':=⟨a.fr,a.gd,by have:=a.dep;lia,by have:=a.uni;lia⟩
theorem AOk.mark{A:Around}{fr:List Env}{r:Nat}(a:AOk A fr r)(h:Option Value):AOk (A.mark h) fr r:=⟨a.fr,a.gd,a.dep,a.uni⟩
theorem AOk.in1{A:Around}{fr:List Env}{r:Nat}(a:AOk A fr (r+1)):AOk A.in1 fr r:=⟨a.fr,a.gd,by have:=a.dep;show A.depth+r<=_;lia,by have:=a.uni;show A.units+1+4*r<=_;lia⟩
theorem AOk.deeper{A:Around}{fr:List Env}{r:Nat}(a:AOk A fr (r+1))(env:Env):AOk (A.deeper env) (env::fr) r:=
 ⟨by show A.frames.map _=_;rw[a.fr];rfl,a.gd,by have:=a.dep;show A.depth+1+r<=_;lia,by have:=a.uni;show A.units+3+4*r<=_;lia⟩
theorem AOk.room{A:Around}{fr:List Env}{r:Nat}(a:AOk A fr r):A.depth<recursionLimit:=by have:=a.dep;show A.depth<1000;omega
theorem AOk.line{A:Around}{fr:List Env}{r:Nat}(a:AOk A fr r):A.units<cLine:=by have:=a.uni;show A.units<9900;lia
structure Exc(d:Lay)(fr:List Env)(C ea:Addr)(fl:Option Value)(B:Heap)(a0:Value)(s:Shared):Prop where
 stays:B.StaysIn s.heap
 own:∀ b,((∃ o,d.Z b=some o)\/∃ r,d.role b=some r)->b∉jh fr->B.get? b=s.heap.get? b
 new:B.get? ea=none
 ff:s.heap.FunFrames B fr
 tr:match fl with
  | none=>Ex2 λ oe vs=>vj (s.heap.get? ea=some oe) (oe.cls=.ref C) (oe.data=.fields vs) (vs[0]?=some a0) (vs[1]?=some .none)
  | some f=>s.heap.TracedAtW B ea (.ref C) a0 f
section
variable{X:Run}{d:Lay}{mem:List jB}{fr:List Env}{s s':Shared}{env:Env}{st:St}
theorem jH.notFrame(c:jH X d mem fr s){b:Addr}(hb:b∈jh fr):(d.role b=some .loc\/d.role b=some .priv)/\∃ o,s.heap.get? b=some o/\¬ zP o:=by
 obtain⟨e,he,hf⟩:=Cw.mp hb;obtain⟨_,L,o,f,r,g,q⟩:=c.fr e he;rw[hf] at f;obtain rfl:=B9 f;exact⟨r,o,g,q⟩
theorem jH.slots(c:jH X d mem fr s){B:Heap}(own:∀ b,((∃ o,d.Z b=some o)\/∃ r,d.role b=some r)->b∉jh fr->B.get? b=s.heap.get? b)
  (hB:B.StaysIn s'.heap) (hu:s.heap.UpToSlots s'.heap) (hg:s'.gens=s.gens:=by rfl) (ho:s'.os=s.os:=by rfl):jH X d mem fr s':=by
 have keep:∀ b o,((∃ o,d.Z b=some o)\/∃ r,d.role b=some r)->b∉jh fr->s.heap.get? b=some o->s'.heap.get? b=some o:=λ b o h1 h2 h3=>hB b o ((own b h1 h2).trans h3);have slot:∀ b o,b∈jh fr->s.heap.get? b=some o->∃ sl,s'.heap.get? b=some { o with slots:=sl }:=λ b o h1 h2=>by
  obtain⟨_,o',h3,h4⟩:=c.notFrame h1;rw[h2] at h3;obtain rfl:=B9 h3;exact hu b o h2 λ vs e=>h4 (.inl ⟨vs,e⟩)
 have nf:∀ b,(d.role b≠some .loc/\d.role b≠some .priv)->b∉jh fr:=λ b h hb=>by rcases(c.notFrame hb).1 with q | q;exact h.1 q;exact h.2 q
 refine⟨hg.trans c.gens,ho.trans c.os,c.base,λ b o e=>?_,c.zr,λ b r e=>?_,λ b o e=>?_,λ i hi=>?_,c.tab.mono (λ _ _ e=>e) (λ q=>q) λ o e=>keep qA o (.inr ⟨_,c.tab.1⟩) (nf qA (by rw[c.tab.1];exact⟨nofun,nofun⟩)) e,λ e he=>?_⟩
 ·have hr:=c.zrole e;exact keep b o (.inl ⟨o,e⟩) (nf b (by rw[hr];exact⟨nofun,nofun⟩)) (c.zin b o e)
 ·obtain⟨o,h⟩:=c.rin b r e;by_cases q:b∈jh fr
  ·obtain⟨sl,h'⟩:=slot b o q h;exact⟨_,h'⟩
  ·exact⟨o,keep b o (.inr ⟨r,e⟩) q h⟩
 ·obtain⟨r,sl,h,hz⟩:=c.pin b o e;by_cases q:b∈jh fr
  ·obtain⟨sl',h'⟩:=slot b _ q h;obtain⟨_,o',h3,h4⟩:=c.notFrame q;rw[h] at h3;obtain rfl:=B9 h3;exact⟨r,sl',h',λ z=>z.elim (λ z=>absurd z h4) λ z=>absurd q z⟩
  ·exact⟨r,sl,keep b _ (.inr ⟨_,r⟩) q h,hz⟩
 ·refine(c.mem i hi).mono (Ext.refl _ _) hi (λ _ _=>rfl) λ b o q e=>?_;rcases q with q | q <;> exact keep b o (.inr ⟨_,q⟩) (nf b (by rw[q];exact⟨nofun,nofun⟩)) e
 ·obtain⟨a,L,o,f,r,g,q⟩:=c.fr e he;obtain⟨sl,h'⟩:=slot L o (Cw.mpr ⟨e,he,f⟩) g;exact⟨a,L,_,f,r,h',q⟩
theorem Loc.slots(l:Loc X d env fr st s){B:Heap}(own:∀ b,((∃ o,d.Z b=some o)\/∃ r,d.role b=some r)->b∉jh fr->B.get? b=s.heap.get? b)
  (hB:B.StaysIn s'.heap) (hu:s.heap.UpToSlots s'.heap) (hg:s'.gens=s.gens:=by rfl) (ho:s'.os=s.os:=by rfl):Loc X d env fr st s' where
 core:=l.core.slots own hB hu hg ho
 kind:=l.kind
 sc:=l.sc
 glob:=l.glob
 blt:=l.blt
 top:=l.top
 role:=l.role
 ns:=let ⟨m,hn,h⟩:=l.ns;⟨m,hu.ns hn,h⟩
 cel:=l.cel
 ucel:=λ x a b=>by
  obtain⟨c,o,h1,h2,h3,h4⟩:=l.ucel x a b;obtain⟨sl,h'⟩:=hu c o h2 (by rw[h3];nofun);exact⟨c,_,h1,h',h3,h4⟩
theorem Zz(c:jH X d mem fr s){B:Heap}(own:∀ b,((∃ o,d.Z b=some o)\/∃ r,d.role b=some r)->b∉jh fr->B.get? b=s.heap.get? b)
  (hB:B.StaysIn s'.heap):∀ b,((∃ o,d.Z b=some o)\/∃ r,d.role b=some r)->b∉jh fr->B.get? b=s'.heap.get? b:=λ b h1 h2=>by
 have:∃ o,s.heap.get? b=some o:=by
  rcases h1 with ⟨o,e⟩ | ⟨r,e⟩
  ·exact⟨o,c.zin b o e⟩
  ·exact c.rin b r e
 obtain⟨o,e⟩:=this;have e':=(own b h1 h2).trans e;rw[e',hB b o e']
end
section
variable{X:Run}{A:Around}{E:Value->Shared->Prop}{d:Lay}{fr:List Env}{s:Shared}{env:Env}{st:St}{C ea L:Addr}{fl:Option Value}{B:Heap}{a0:Value}{outer:List Env}{mem:List jB}
theorem Exc.note(x:Exc d (env::outer) C ea fl B a0 s)(c:jH X d mem (env::outer) s)(hA:A.frames=some (env::outer))(hf:env.frame=some L)(hfl:fl=none\/fl=some .none\/fl=some (rawInt L)){Q:Unit->Shared->Prop}
  (hQ:∀ h',Exc d (env::outer) C ea (some (rawInt L)) B a0 { s with heap:=h' }->B.StaysIn h'->s.heap.UpToSlots h'->Q () { s with heap:=h' }) :
  wpAny (model X.prog X.w) A (noteFrame (.ref ea) env) Q E s:=by
 have fin:∀ h',Heap.NotedW B (env::outer) ea (.ref C) a0 (rawInt L) s.heap h'->Q () { s with heap:=h' }:=λ h' ⟨k1,k2,k3,k4⟩=>
  hQ h' ⟨k1,Zz c x.own k1,x.new,k2,k3⟩ k1 k4
 rcases hfl with rfl | rfl | rfl
 ·obtain⟨oe,vs,he,hc,hd,h0,h1⟩:=x.tr;have hsz:1<vs.size:=(Array.getElem?_eq_some_iff.mp h1).1;unfold noteFrame;simp only[hf];refine B0 (wpAny_field he hd h1 ?_);rw[BE (by decide)];exact wpAny_entryW hA x.ff hf he x.stays x.new hd hsz h0 λ h' q=>fin h' (hc▸q)
 ·exact wpAny_noteFrame_onW hA x.ff hf x.tr x.stays x.new fin
 ·obtain⟨oe,vs,T,oT,ts,he,⟨hcls,h0⟩,hd,h1,hnT,hTe,hT,hdT,h3⟩:=x.tr;exact wpAny_noteFrame_inFlight hf he hd h1 hT hdT h3 (hQ s.heap x x.stays (.refl _))
theorem Exc.flight(x:Exc d (env::outer) C ea fl B a0 s)(c:jH X d mem (env::outer) s){f:Value}(hfl:fl≠none)(g:Option Addr)(hg:f=(g.elim .none λ a=>rawInt a)){Q:Unit->Shared->Prop}
  (hQ:∀ h',Exc d (env::outer) C ea (some f) B a0 { s with heap:=h' }->B.StaysIn h'->s.heap.UpToSlots h'->Q () { s with heap:=h' }) :
  wpAny (model X.prog X.w) A (setFlight (.ref ea) g) Q E s:=by
 induction fl using BU with
 | none=>exact absurd rfl hfl
 | some fl=>
   obtain⟨oe,vs,T,oT,ts,he,⟨hcls,h0⟩,hd,h1,hnT,hTe,hT,hdT,h3⟩:=x.tr;have hsz:=(Array.getElem?_eq_some_iff.mp h3).1;unfold setFlight;refine B0 (wpAny_field he hd h1 ?_);rw[BJ (show(Value.ref T != Value.none)=true from by simp)];refine wpAny_setField hT hdT hsz ?_;have other:∀ v b,b≠T->(s.heap.update T (Obj.mapFields (·.setIfInBounds 3 v))).get? b=s.heap.get? b:=λ v b hb=>By _ _ (DF hb);have noRecord:∀ b o,s.heap.get? b=some o->(∀ vs,o.data≠.fields vs)->b≠T:=λ b o hb hnf q=>by
    rw[q,hT] at hb;injection hb with hb;subst hb;exact hnf ts hdT
   have hBT:B.StaysIn (s.heap.update T (Obj.mapFields (·.setIfInBounds 3 f))):=λ b o hb=>(other f b λ q=>by rw[q,hnT] at hb;exact nsm hb).trans (x.stays b o hb);subst hg;refine hQ _ ⟨hBT,Zz c x.own hBT,x.new,x.ff.of_keeps λ b o hb hnf=>⟨o,(other _ b (noRecord b o hb hnf)).trans hb,rfl⟩,?_⟩ hBT λ b o hb hnf=>⟨o.slots,(other _ b (noRecord b o hb hnf)).trans hb⟩;refine⟨oe,vs,T,_,_,(other _ ea (DF hTe)).trans he,⟨hcls,h0⟩,hd,h1,hnT,hTe,CX _ hT (Obj.isFreed_of_fields (Obj.data_mapFields hdT _)),Obj.data_mapFields hdT _,by simp[hsz]⟩
theorem Exc.leave(x:Exc d (env::outer) C ea fl B a0 s)(c:jH X d mem (env::outer) s)(hA:A.frames=some (env::outer))(hf:env.frame=some L)(hfl:fl=none\/fl=some .none\/fl=some (rawInt L)){Q:Unit->Shared->Prop}
  (hQ:∀ h',Exc d (env::outer) C ea (some .none) B a0 { s with heap:=h' }->jH X d mem (env::outer) { s with heap:=h' }->B.StaysIn h'->s.heap.UpToSlots h'->Q () { s with heap:=h' }) :
  wpAny (model X.prog X.w) A (leaving env (.ref ea)) Q E s:=by
 unfold leaving;refine B0 (x.note c hA hf hfl λ h₁ x₁ k₁ u₁=>?_);have c₁:=c.slots (s':={ s with heap:=h₁ }) x.own k₁ u₁;exact x₁.flight c₁ nofun none rfl λ h₂ x₂ k₂ u₂=>hQ h₂ x₂ (c₁.slots (s':={ s with heap:=h₂ }) x₁.own k₂ u₂) k₂ (u₁.trans u₂)
end
theorem W7{α β:Type}(f:α->β->Sem (ForInStep β))(g:α->β->β)(hf:∀ x b,f x b=pure (.yield (g x b))):∀(l:List α) (b:β),forIn l b f=pure (l.foldl (λ b x=>g x b) b):=by
 intro l;induction l with
 | nil=>
   intro b;rw[List.forIn_nil];rfl
 | cons x l ih=>
   intro b;rw[List.forIn_cons,hf,pure_bind];exact ih _
noncomputable def Zg (x:Str×Value) (slots:List (Str×Value)):List (Str×Value):=if(slots.lookup x.1).isNone then slots++[(x.1,x.2)] else slots
theorem yp{n:Str}:∀(ns:List Str) (vs:List Value),n∉ns->(ns.zip vs).lookup n=none
 | [],_,_=>rfl
 | _::_,[],_=>rfl
 | x::ns,v::vs,h=>by
   have e:(n == x)=false:=Bh.mpr λ e=>h (by rw[e];exact Cx);rw[DD,Bc,e];exact yp ns vs λ q=>h (Ci _ q)
theorem qs{n:Str}{a b:List (Str×Value)}(h:a.lookup n=none):(a++b).lookup n=b.lookup n:=by
 rw[List.lookup_append,h];rfl
theorem Jz:∀(l acc:List (Str×Value)),(∀ x∈l,(acc.lookup x.1).isSome=true)->l.foldl (λ b x=>Zg x b) acc=acc:=by
 intro l;induction l with
 | nil=>
   intro _ _;exact rfl
 | cons x l ih=>
   intro acc h;have e:Zg x acc=acc:=by
    unfold Zg;have:=h x Cx;cases q:acc.lookup x.1 with
    | none=>rw[q] at this;exact ff this
    | some v=>rfl
   rw[List.foldl_cons,e];exact ih acc λ y hy=>h y (Ci _ hy)
theorem xd:∀(l acc:List (Str×Value)),(l.map (·.1)).Nodup->(∀ x∈l,acc.lookup x.1=none)->l.foldl (λ b x=>Zg x b) acc=acc++l:=by
 intro l;induction l with
 | nil=>
   intro acc _ _;simp
 | cons qp l ih=>
   obtain⟨n,v⟩:=qp;intro acc hn h;obtain⟨h1,h2⟩:=D3.mp hn;have e:Zg (n,v) acc=acc++[(n,v)]:=by
    unfold Zg;rw[h (n,v) Cx];rfl
   rw[List.foldl_cons,e,ih _ h2 λ y hy=>?_]
   ·simp
   ·have e:(y.1 == n)=false:=Bh.mpr λ q=>h1 (by show n∈_;rw[<- q];exact List.mem_map_of_mem hy);rw[qs (h y (Ci _ hy)),Bc,e];rfl
theorem yc:∀(pre:List (Str×Value)) (l:List (Str×Value)),(l.map (·.1)).Nodup->(∀ x∈l,pre.lookup x.1=none)->(l.map (·.1)).filterMap (λ n=>((pre++l).lookup n).map (n,·))=l
 | pre,[],_,_=>rfl
 | pre,(n,v)::l,hn,h=>by
   obtain⟨h1,h2⟩:=D3.mp hn;have e:(pre++(n,v)::l).lookup n=some v:=by rw[qs (h (n,v) Cx),Bc,Cg]
   rw[BZ,List.filterMap_cons];dsimp only;rw[e];show(n,v)::_=_;have:=yc (pre++[(n,v)]) l h2 λ y hy=>by
    have e:(y.1 == n)=false:=Bh.mpr λ q=>h1 (by show n∈_;rw[<- q];exact List.mem_map_of_mem hy);rw[qs (h y (Ci _ hy)),Bc,e];rfl
   rw[D2] at this;exact Bo _ this
theorem vY:∀(ns:List Str) (vs:List Value),ns.length<=vs.length->(ns.zip vs).map (·.1)=ns
 | [],_,_=>rfl
 | _::_,[],h=>absurd h (Nat.not_succ_le_zero _)
 | n::ns,v::vs,h=>by rw[DD,BZ,vY ns vs (Cn h)]
theorem J9{α β:Type}:∀(ns:List α) (vs ws:List β),vs.length<=ns.length->ns.zip (vs++ws)=ns.zip vs++(ns.drop vs.length).zip ws
 | ns,[],ws,_=>by simp
 | [],v::vs,ws,h=>absurd h (Nat.not_succ_le_zero _)
 | n::ns,v::vs,ws,h=>by
   rw[List.cons_append,DD,DD,J9 ns vs ws (Cn h)];rfl
theorem zk{n:Str}:∀(ns:List Str) (vs:List Value),n∈ns.take vs.length->((ns.zip vs).lookup n).isSome=true
 | [],_,h=>by simp at h
 | _::_,[],h=>by simp at h
 | x::ns,v::vs,h=>by
   rw[DD,Bc];cases q:n == x with
   | true=>rfl
   | false=>
     rw[Bw,List.take_succ_cons] at h;rcases BO.mp h with e | h
     ·rw[e,Cg] at q;exact ft q
     ·exact zk ns vs h
theorem wif{M:Model}{A:Around}{E:Value->Shared->Prop}{s:Shared}{α:Type}{c:Bool}{a b:Sem α}{Q:α->Shared->Prop}(hc:c=false)(h:wpAny M A b Q E s):wpAny M A (if c=true then a else b) Q E s:=by
 subst hc;exact h
theorem wfor{M:Model}{A:Around}{E:Value->Shared->Prop}{s:Shared}{α β:Type}{f:α->β->Sem (ForInStep β)}(g:α->β->β)(hf:∀ x b,f x b=pure (.yield (g x b))){l:List α}{b:β}{Q:β->Shared->Prop}(h:Q (l.foldl (λ b x=>g x b) b) s):wpAny M A (forIn l b f) Q E s:=by
 rw[W7 f g hf];exact BC h
noncomputable def y6 (p:Arguments):Bool:=p.posonlyargs.isEmpty&&p.kwonlyargs.isEmpty&&p.vararg.isNone&&p.kwarg.isNone
theorem bo_sub{n v d:Nat}(h:n<=v+d):d-(d-(n-v))=n-v:=Nat.sub_sub_self (Nat.sub_le_iff_le_add'.mpr h)
theorem bo_le{n v d:Nat}(h1:v<=n)(h:n<=v+d):n<=v+(d-(d-(n-v))):=rwl (bo_sub h) (D7 (DW h1).symm)
theorem xq{M:Model}{A:Around}{E:Value->Shared->Prop}{s:Shared}{fd:FuncData}{vals D:List Value}{Q:List (Str×Value)->Shared->Prop}
  (hp:y6 fd.params=true) (hnd:(fd.params.args.map (·.arg)).Nodup) (hD:∀(E:Value->Shared->Prop) (Q:Option (Array Value)->Shared->Prop),Q (if D.isEmpty then none else some D.toArray) s->wpAny M A (seqItems? fd.defaults) Q E s)
  (h1:vals.length<=fd.params.args.length) (h2:fd.params.args.length<=vals.length+D.length) (h3:D.length<=fd.params.args.length)
  (h:Q ((fd.params.args.map (·.arg)).zip (vals++D.drop (D.length-(fd.params.args.length-vals.length)))) s):wpAny M A (bindArgs fd ⟨vals,[]⟩) Q E s:=by
 obtain⟨⟨pa,ar,va,ko,kd,kw,de⟩⟩:∃ p,p=fd.params:=⟨_,rfl⟩;obtain⟨fn,fq,fp,fb,fs,fg,fc,fde,fk,fdo,fpm,fan,fco,fct,fbl⟩:=fd;obtain⟨pa,ar,va,ko,kd,kw,de⟩:=fp;simp only[y6,Bn,List.isEmpty_iff,Option.isNone_iff_eq_none] at hp;obtain⟨⟨⟨rfl,rfl⟩,rfl⟩,rfl⟩:=hp;dsimp only at hnd hD h1 h2 h3 h;generalize hns:ar.map (·.arg)=ns at hnd h;have hl:ar.length=ns.length:=by rw[<- hns,BB]
 rw[hl] at h1 h2 h3 h;have k1:ns.length-D.length<=vals.length:=Nat.sub_le_iff_le_add.mpr h2;have k2:vals.length-(ns.length-D.length)=D.length-(ns.length-vals.length):=rwl (Nat.sub_sub_right _ h3) (rwl (Nat.sub_sub_right _ h1) (rwl (Nat.add_comm D.length vals.length) rfl));have k3:=bo_sub h2;have k4:=bo_le h1 h2;unfold bindArgs;dsimp only[List.map,List.nil_append];rw[Cu,hns];refine B0 (BC ?_);refine B0 (hD _ _ ?_);have eD:((if D.isEmpty=true then none else some D.toArray:Option (Array Value)).getD #[]).toList=D:=by
  induction D using BA with
  | nil=>rfl
  | cons a b=>rfl
 have e1:(decide (vals.length > ns.length)&&(none:Option Arg).isNone)=false:=by rw[BX (DT.mpr h1)];rfl
 have e2:D.drop (D.length-ns.length)=D:=by rw[Nat.sub_eq_zero_of_le h3];rfl
 have e3:((ns.take (ns.length-D.length)).filter λ n=>((ns.zip vals).lookup n).isNone)=[]:=by
  rw[List.filter_eq_nil_iff];intro n hn q
  have:((ns.zip vals).lookup n).isSome=true:=zk ns vals (by
   have:ns.take (ns.length-D.length) <+: ns.take vals.length:=List.take_prefix_take_left k1
   exact this.subset hn)
  cases z:(ns.zip vals).lookup n with
  | none=>rw[z] at this;exact ff this
  | some v=>rw[z] at q;exact ff q
 have e4:((ns.drop (ns.length-D.length)).zip D).foldl (λ b x=>Zg x b) (ns.zip vals)=ns.zip (vals++D.drop (D.length-(ns.length-vals.length))):=by
  have q1:ns.drop (ns.length-D.length)=(ns.take vals.length).drop (ns.length-D.length)++ns.drop vals.length:=by
   have t:=List.drop_append_of_le_length (l₁:=ns.take vals.length) (l₂:=ns.drop vals.length) (i:=ns.length-D.length) (by rw[DC];exact Nat.le_min.mpr ⟨k1,Nat.sub_le _ _⟩);rw[Dj] at t;exact t
  have q2:(ns.drop (ns.length-D.length)).zip D=((ns.take vals.length).drop (ns.length-D.length)).zip (D.take (vals.length-(ns.length-D.length)))++(ns.drop vals.length).zip (D.drop (D.length-(ns.length-vals.length))):=by
   have t:=@List.zip_append _ _ ((ns.take vals.length).drop (ns.length-D.length)) (ns.drop vals.length) (D.take (vals.length-(ns.length-D.length))) (D.drop (vals.length-(ns.length-D.length))) (by rw[Ca,DC,DC,DJ h1,DJ (show vals.length-(ns.length-D.length)<=D.length from rwl k2 (Nat.sub_le _ _))]);rw[Dj,<- q1] at t;rw[t,k2]
  have f1:=Jz (((ns.take vals.length).drop (ns.length-D.length)).zip (D.take (vals.length-(ns.length-D.length)))) (ns.zip vals) λ x hx=>
   zk ns vals (List.mem_of_mem_drop (List.of_mem_zip (a:=x.1) (b:=x.2) hx).1)
  have f2:=xd ((ns.drop vals.length).zip (D.drop (D.length-(ns.length-vals.length)))) (ns.zip vals)
   (by rw[vY _ _ (by rw[Ca,Ca];exact D7 k3.symm)];exact hnd.sublist (List.drop_sublist _ _)) (by
   intro x hx;have hx:=(List.of_mem_zip (a:=x.1) (b:=x.2) hx).1;have:x.1∉ns.take vals.length:=λ q=>by
    have:=List.nodup_append.mp ((Dj vals.length ns).symm▸hnd);exact this.2.2 _ q _ hx rfl
   have e:ns.zip vals=(ns.take vals.length).zip vals:=by
    have t:=@List.zip_append _ _ (ns.take vals.length) (ns.drop vals.length) vals [] (by rw[DC];exact DJ h1);rw[Dj,Cu,List.zip_nil_right,Cu] at t;exact t
   rw[e]
   exact yp _ _ this)
  rw[q2,List.foldl_append,f1,f2,J9 ns vals _ h1]
 have e5:=yc [] (ns.zip (vals++D.drop (D.length-(ns.length-vals.length)))) (by rw[vY _ _ (by rw[BV,Ca];exact k4)];exact hnd) λ _ _=>rfl;rw[vY _ _ (by rw[BV,Ca];exact k4),DK] at e5;refine wif e1 (wif (by rw[eD,e2,e3];rfl) ?_);refine B0 (wfor Zg (λ x b=>by unfold Zg;split <;> rfl) ?_);refine B0 (BC ?_);refine wif rfl ?_;refine BC ?_;rw[eD,e2];dsimp only;rw[e4,e5];exact h
noncomputable def qJ:Option j9->Bool
 | some .loc=>true
 | some (.cel _)=>true
 | _=>false
def NoCur(d:Lay):Prop:=∀ b,qJ (d.role b)=false
noncomputable def Lay.park (d:Lay) (h:Heap):Lay:={ d with role:=λ b=>if qJ (d.role b)=true then some .priv else d.role b,P:=λ b=>if qJ (d.role b)=true then h.get? b else d.P b }
noncomputable def Lay.unpark (d d':Lay):Lay:={ d' with role:=λ b=>if qJ (d.role b)=true then d.role b else d'.role b,P:=d.P }
theorem xD{d:Lay}{h:Heap}{b:Addr}(e:qJ (d.role b)=true):(d.park h).role b=some .priv:=BJ e
theorem zZ{d:Lay}{h:Heap}{b:Addr}(e:¬ qJ (d.role b)=true):(d.park h).role b=d.role b:=BE e
theorem wX{d:Lay}{h:Heap}{b:Addr}(e:qJ (d.role b)=true):(d.park h).P b=h.get? b:=BJ e
theorem QL{d:Lay}{h:Heap}{b:Addr}(e:¬ qJ (d.role b)=true):(d.park h).P b=d.P b:=BE e
theorem wx{d d':Lay}{b:Addr}(e:qJ (d.role b)=true):(d.unpark d').role b=d.role b:=BJ e
theorem qG{d d':Lay}{b:Addr}(e:¬ qJ (d.role b)=true):(d.unpark d').role b=d'.role b:=BE e
theorem NoCur.park(d:Lay)(h:Heap):NoCur (d.park h):=λ b=>by
 by_cases e:qJ (d.role b)=true
 ·refine rwl (xD e) ?_;rfl
 ·refine rwl (zZ e) ?_;exact Bool.eq_false_iff.mpr e
section
variable{X:Run}{d d':Lay}{env:Env}{fr:List Env}{st:St}{s s':Shared}{mem mem':List jB}{n n':Nat}
theorem uk{h:Heap}{t:V}{v:Value}(x:VV d n t v):VV (d.park h) n t v:=
 VV.rec (d:=d) (n:=n) (motive_1:=λ t v _=>VV (d.park h) n t v) (motive_2:=λ c t _=>VVC (d.park h) n c t) (λ h=>.p h) (λ h=>.m h) (λ h _ r=>.lam h r) .nil (λ a b c _ _ v r=>.cons a b c v r) x
theorem Zk{h:Heap}{cl:List (Str×Addr)}{t:List (Str×V)}(x:VVC d n cl t):VVC (d.park h) n cl t:=by
 induction x using VVC.ind with
 | h0=>exact .nil
 | h1 a b e u _ ih=>exact .cons a b e (uk u) ih
theorem Zi{h:Heap}{ts:List V}{vs:List Value}(v:VVL d n ts vs):VVL (d.park h) n ts vs:=by
 induction v with
 | nil=>exact .nil
 | cons a _ ih=>exact .cons (uk a) ih
theorem wJ{h:Heap}{d'':Lay}(x:Ext (d.park h) n d' n'):Ext d n (d.unpark d') n':=⟨x.z,x.rho,x.n,rfl⟩
theorem yQ{t:V}{v:Value}(x:VV d' n t v):VV (d.unpark d') n t v:=
 VV.rec (d:=d') (n:=n) (motive_1:=λ t v _=>VV (d.unpark d') n t v) (motive_2:=λ c t _=>VVC (d.unpark d') n c t) (λ h=>.p h) (λ h=>.m h) (λ h _ r=>.lam h r) .nil (λ a b c _ _ v r=>.cons a b c v r) x
theorem Y2{ts:List V}{vs:List Value}(v:VVL d' n ts vs):VVL (d.unpark d') n ts vs:=by
 induction v with
 | nil=>exact .nil
 | cons a _ ih=>exact .cons (yQ a) ih
theorem jH.park(c:jH X d mem fr s):jH X (d.park s.heap) mem fr s where
 gens:=c.gens
 os:=c.os
 base:=c.base
 zin:=c.zin
 zr:=λ b r e=>by
  by_cases q:qJ (d.role b)=true
  ·cases z:d.role b with
   | none=>replace q:=z▸q;exact ff q
   | some r'=>exact c.zr b r' z
  ·replace e:=(zZ q)▸e;exact c.zr b r e
 rin:=λ b r e=>by
  by_cases q:qJ (d.role b)=true
  ·cases z:d.role b with
   | none=>replace q:=z▸q;exact ff q
   | some r'=>exact c.rin b r' z
  ·replace e:=(zZ q)▸e;exact c.rin b r e
 pin:=λ b o e=>by
  by_cases q:qJ (d.role b)=true
  ·replace e:=(wX q)▸e;exact⟨xD q,o.slots,e,λ _=>rfl⟩
  ·replace e:=(QL q)▸e;obtain⟨r,sl,h,hz⟩:=c.pin b o e;exact⟨rwl (zZ q) r,sl,h,hz⟩
 mem:=λ i hi=>by
  have:=c.mem i hi;have nc:∀ b,d.role b=some (.obj i)\/d.role b=some (.dct i)->(d.park s.heap).role b=d.role b:=λ b h=>zZ (by rcases h with h | h <;> refine rwl h ?_ <;> nofun);have x:∀{o:jB},zN d (jA mem) s.heap i o->zN (d.park s.heap) (jA mem) s.heap i o:=by
   intro o;induction o using jB.casesOn with
   | plst ts=>rintro⟨r,items,k,g,v⟩;exact⟨(nc _ (.inl r)).trans r,items,k,g,v⟩
   | vlst ts=>rintro⟨r,items,k,g,v⟩;exact⟨(nc _ (.inl r)).trans r,items,k,g,Zi v⟩
   | inst C fs=>
     rintro⟨r,dx,sl,es,k,g,rd,gd,v⟩;refine⟨(nc _ (.inl r)).trans r,dx,sl,es,k,g,(nc _ (.inr rd)).trans rd,gd,?_⟩;clear g rd gd r;induction v with
     | nil=>exact .nil
     | cons a _ ih=>exact .cons (uk a) ih
   | dict es ep=>
     rintro⟨r,ne,ds,g,v⟩;refine⟨(nc _ (.inl r)).trans r,ne,ds,g,?_⟩;clear g;generalize ds.toList=dl at v ⊢;induction v using Dp with
     | nil=>exact .nil
     | one a b c=>exact .one a b (uk c)
   | gone=>exact λ _=>trivial
  exact x this
 tab:=c.tab.mono (λ _ _ e=>e) (λ r=>(zZ (by refine rwl r ?_;nofun)).trans r) λ _ e=>e
 fr:=λ e he=>by
  obtain⟨a,L,o,f,r,g,q⟩:=c.fr e he;refine⟨a,L,o,f,.inr ?_,g,q⟩;by_cases z:qJ (d.role L)=true
  ·exact xD z
  ·refine rwl (zZ z) ?_;rcases r with r | r
   ·replace z:=r▸z;exact absurd rfl z
   ·exact r
theorem zN.unpark{h:Heap}{i:Nat}(nc:∀ b,qJ (d.role b)=true->d'.role b=some .priv):∀{o:jB},zN d' n' h i o->zN (d.unpark d') n' h i o:=by
 have nr:∀ b,d'.role b=some (.obj i)\/d'.role b=some (.dct i)->(d.unpark d').role b=d'.role b:=λ b h=>qG λ q=>by
  replace h:=(nc b q)▸h;rcases h with h | h <;> cases h
 intro o;induction o using jB.casesOn with
 | plst ts=>rintro⟨r,items,k,g,v⟩;exact⟨(nr _ (.inl r)).trans r,items,k,g,v⟩
 | vlst ts=>
   rintro⟨r,items,k,g,v⟩;exact⟨(nr _ (.inl r)).trans r,items,k,g,Y2 v⟩
 | inst C fs=>
   rintro⟨r,dx,sl,es,k,g,rd,gd,v⟩;refine⟨(nr _ (.inl r)).trans r,dx,sl,es,k,g,(nr _ (.inr rd)).trans rd,gd,?_⟩;clear g rd gd r;induction v with
   | nil=>exact .nil
   | cons a _ ih=>exact .cons (yQ a) ih
 | dict es ep=>
   rintro⟨r,ne,ds,g,v⟩;refine⟨(nr _ (.inl r)).trans r,ne,ds,g,?_⟩;clear g;generalize ds.toList=dl at v ⊢;induction v using Dp with
   | nil=>exact .nil
   | one a b c=>exact .one a b (yQ c)
 | gone=>exact λ _=>trivial
theorem Loc.unpark(l:Loc X d env fr st s)(c:jH X d' mem' fr s')(x:Ext (d.park s.heap) (jA st.mem) d' (jA mem')):Loc X (d.unpark d') env fr (st.wm mem') s':=by
 have nc:∀ b,qJ (d.role b)=true->d'.role b=some .priv/\Ex2 λ o sl=>s.heap.get? b=some o/\s'.heap.get? b=some { o with slots:=sl }:=λ b q=>by
  cases z:d.role b with
  | none=>replace q:=z▸q;exact ff q
  | some r=>
    obtain⟨o,h⟩:=l.core.rin b r z;have e:d'.P b=some o:=by refine rwl x.P (rwl (wX q) ?_);exact h
    obtain⟨r',sl,h',_⟩:=c.pin b o e;exact⟨r',o,sl,h,h'⟩
 have nr:∀ b r,d'.role b=some r->r≠.priv->(d.unpark d').role b=some r:=λ b r h hr=>by
  rw[qG λ q=>?_]
  ·exact h
  ·rw[(nc b q).1] at h;obtain rfl:=B9 h;exact hr rfl
 have xx:Ext d (jA st.mem) (d.unpark d') (jA mem'):=wJ (d'':=d) x;have hL:qJ (d.role env.locals)=true:=by refine rwl l.role ?_;rfl
 refine⟨⟨c.gens,c.os,c.base,c.zin,λ b r e=>?_,λ b r e=>?_,λ b o e=>?_,λ i hi=>(c.mem i hi).unpark λ b q=>(nc b q).1,c.tab.mono (λ _ _ e=>e) (λ r=>nr qA _ r nofun) (λ _ e=>e),λ e he=>?_⟩,l.kind,l.sc,l.glob,l.blt,l.top,?_,?_,λ y v a b=>?_,λ y a b=>?_⟩
 ·by_cases q:qJ (d.role b)=true
  ·exact c.zr b _ (nc b q).1
  ·replace e:=(qG q)▸e;exact c.zr b r e
 ·by_cases q:qJ (d.role b)=true
  ·exact c.rin b _ (nc b q).1
  ·replace e:=(qG q)▸e;exact c.rin b r e
 ·have e:d.P b=some o:=e;have q:¬ qJ (d.role b)=true:=λ q=>by replace q:=((l.core.pin b o e).1)▸q;exact ff q
  obtain⟨r,sl,h,hz⟩:=c.pin b o (by refine rwl x.P (rwl (QL q) ?_);exact e);exact⟨rwl (qG q) r,sl,h,hz⟩
 ·obtain⟨a,L,o,f,r,g,q⟩:=c.fr e he;obtain⟨_,L',o',f',r',_,_⟩:=l.core.fr e he;replace f':=f▸f';obtain rfl:=B9 f';refine⟨a,L,o,f,?_,g,q⟩;by_cases z:qJ (d.role L)=true
  ·refine rwl (wx z) ?_;exact r'
  ·refine rwl (qG z) ?_;exact r
 ·refine rwl (wx hL) ?_;exact l.role
 ·obtain⟨m,hm,h⟩:=l.ns;obtain⟨r',o,sl,h1,h2⟩:=nc env.locals hL;obtain⟨o',es,ep,g1,g2,g3⟩:=hm;replace g1:=h1▸g1;obtain rfl:=B9 g1;exact⟨m,⟨_,es,ep,h2,g2,g3⟩,λ y v a b=>let ⟨val,e,q⟩:=h y v a b;⟨val,e,q.mono xx⟩⟩
 ·obtain⟨c',val,o,h1,h2,h3,h4⟩:=l.cel y v a b;exact⟨c',val,o,h1,x.z _ _ h2,h3,h4.mono xx⟩
 ·obtain⟨c',o,h1,h2,h3,h4⟩:=l.ucel y a b;have q:qJ (d.role c')=true:=by refine rwl h4 ?_;rfl
  obtain⟨r',o',sl,g1,g2⟩:=nc c' q;replace g1:=h2▸g1;obtain rfl:=B9 g1;exact⟨c',_,h1,g2,h3,rwl (wx q) h4⟩
noncomputable def Lay.fix (d:Lay) (c:Addr) (h:Heap):Lay:={ d with role:=λ b=>if b=c then none else d.role b,Z:=λ b=>if b=c then h.get? b else d.Z b }
theorem Loc.fill(l:Loc X d env fr st s){x:Str}{v:V}{val:Value}{c:Addr}(hx:lk x st.sc=some .cell)(hv:VV d (jA st.mem) v val)(hr:d.role c=some (.cel x))
  (hc:env.cells.lookup x=some c) (hn:s'.heap.IsCell c (some val)) (hs:Heap.SameBut c s.heap s'.heap) (hg:s'.gens=s.gens:=by rfl) (ho:s'.os=s.os:=by rfl) :
  Loc X (d.fix c s'.heap) env fr (st.set x v) s'/\Ext d (jA st.mem) (d.fix c s'.heap) (jA st.mem):=by
 obtain⟨oc,hoc,hod⟩:=hn;have hz:d.Z c=none:=l.core.zr c _ hr;have zc:∀ b o,d.Z b=some o->b≠c:=λ b o e q=>by(replace e:=q▸e;replace e:=hz▸e);exact nsm e
 have x0:Ext d (jA st.mem) (d.fix c s'.heap) (jA st.mem):=⟨λ b o e=>by show(if b=c then _ else _)=_;refine rwl (BE (zc b o e)) ?_;exact e,λ _ _=>rfl,BN _,rfl⟩;have rc:∀ b r,(d.fix c s'.heap).role b=some r->b≠c/\d.role b=some r:=λ b r e=>by
  have e:(if b=c then none else d.role b)=some r:=e;by_cases q:b=c
  ·replace e:=(BJ q)▸e;exact nsm e
  ·replace e:=(BE q)▸e;exact⟨q,e⟩
 have rn:∀ b,b≠c->(d.fix c s'.heap).role b=d.role b:=λ b q=>BE q;have oth:∀ b r,d.role b=some r->r≠.cel x->b≠c:=λ b r e hne q=>by(replace e:=q▸e;replace e:=hr▸e);obtain rfl:=B9 e;exact hne rfl
 refine⟨⟨⟨hg.trans l.core.gens,ho.trans l.core.os,λ b o e=>x0.z b o (l.core.base b o e),λ b o e=>?_,λ b r e=>?_,λ b r e=>?_,λ b o e=>?_,λ i hi=>?_,l.core.tab.mono x0.z (λ r=>(rn qA (oth qA _ r nofun)).trans r) (λ o e=>(hs.2 qA (oth qA _ l.core.tab.1 nofun)).trans e),λ e he=>?_⟩,l.kind,l.sc,l.glob,l.blt,l.top,?_,?_,λ y u a b=>?_,λ y a b=>?_⟩,x0⟩
 ·have e:(if b=c then s'.heap.get? b else d.Z b)=some o:=e;by_cases q:b=c
  ·replace e:=(BJ q)▸e;exact e
  ·replace e:=(BE q)▸e;exact(hs.2 b q).trans (l.core.zin b o e)
 ·obtain⟨q,e⟩:=rc b r e;show(if b=c then s'.heap.get? b else d.Z b)=none;refine rwl (BE q) ?_;exact l.core.zr b r e
 ·obtain⟨q,e⟩:=rc b r e;obtain⟨o,h⟩:=l.core.rin b r e;exact⟨o,(hs.2 b q).trans h⟩
 ·obtain⟨r,sl,h,hz⟩:=l.core.pin b o e;have q:=oth b _ r nofun
  exact⟨rwl (rn b q) r,sl,(hs.2 b q).trans h,hz⟩
 ·refine(l.core.mem i hi).mono x0 hi (λ b h=>rn b ?_) λ b o h e=>(hs.2 b ?_).trans e
  ·rcases h with h | h <;> exact oth b _ h nofun
  ·rcases h with h | h <;> exact oth b _ h nofun
 ·obtain⟨a,L,o,f,r,g,q⟩:=l.core.fr e he;have z:L≠c:=by rcases r with r | r <;> exact oth L _ r nofun
  exact⟨a,L,o,f,rwl (rn L z) r,(hs.2 L z).trans g,q⟩
 ·refine rwl (rn _ (oth _ _ l.role nofun)) ?_;exact l.role
 ·obtain⟨m,hm,h⟩:=l.ns;refine⟨m,hm.sameBut hs (oth _ _ l.role nofun),λ y u a b=>?_⟩;have a:lk y (put x v st.loc)=some u:=a;rw[yj] at a;by_cases q:y=x
  ·replace b:=q▸b;(replace b:=(show(st.set x v).sc=st.sc from rfl)▸b;replace b:=hx▸b);cases b
  ·replace a:=(BE q)▸a;obtain⟨val',e,z⟩:=h y u a b;exact⟨val',e,z.mono x0⟩
 ·have a:lk y (put x v st.loc)=some u:=a;rw[yj] at a;by_cases q:y=x
  ·subst q;replace a:=(BJ rfl)▸a;obtain rfl:=B9 a;refine⟨c,val,oc,hc,?_,hod,hv.mono x0⟩;show(if c=c then s'.heap.get? c else d.Z c)=_;refine rwl (BJ rfl) ?_;exact hoc
  ·replace a:=(BE q)▸a;obtain⟨c',val',o,h1,h2,h3,h4⟩:=l.cel y u a b;exact⟨c',val',o,h1,x0.z _ _ h2,h3,h4.mono x0⟩
 ·have a:lk y (put x v st.loc)=none:=a;rw[yj] at a;by_cases q:y=x
  ·replace a:=(BJ q)▸a;exact snm a
  ·replace a:=(BE q)▸a;obtain⟨c',o,h1,h2,h3,h4⟩:=l.ucel y a b;have z:c'≠c:=λ z=>by(replace h4:=z▸h4;replace h4:=hr▸h4);cases h4;exact q rfl
   exact⟨c',o,h1,(hs.2 c' z).trans h2,h3,rwl (rn c' z) h4⟩
end
inductive BL(d:Lay)(n:Nat):List (Str×V)->List (Str×Value)->Prop
 | nil:BL d n [] []
 | cons {x:Str} {t:V} {v:Value} {ts:List (Str×V)} {vs:List (Str×Value)}:VV d n t v->BL d n ts vs->BL d n ((x,t)::ts) ((x,v)::vs)
theorem BL.find{d:Lay}{n:Nat}{loc:List (Str×V)}{bs:List (Str×Value)}(b:BL d n loc bs){x:Str}{v:V}(h:lk x loc=some v):∃ val,(x,val)∈bs/\VV d n v val:=by
 induction b with
 | nil=>exact nsm h
 | @cons y t u ts vs a r ih=>
   rw[j7] at h;by_cases q:x=y
   ·subst q;rw[BJ rfl] at h;obtain rfl:=B9 h;exact⟨u,Cx,a⟩
   ·rw[BE q] at h;obtain⟨val,h1,h2⟩:=ih h;exact⟨val,Ci _ h1,h2⟩
theorem BL.none{d:Lay}{n:Nat}{loc:List (Str×V)}{bs:List (Str×Value)}(b:BL d n loc bs){x:Str}(h:lk x loc=none):x∉bs.map (·.1):=by
 induction b with
 | nil=>exact Ch
 | @cons y t u ts vs a r ih=>
   rw[j7] at h;by_cases q:x=y
   ·rw[BJ q] at h;exact snm h
   ·rw[BE q] at h;intro z;rcases BO.mp z with z | z
    ·exact q z
    ·exact ih h z
theorem Qp{k:Str->Option NameKind}{x:Str}:∀(bs:List (Str×Value)) (m:Str->Option Value),x∉bs.map (·.1)->bindL k bs m x=m x
 | [],_,_=>rfl
 | (y,v)::r,m,h=>by
   unfold bindL;rw[Qp r _ λ q=>h (Ci _ q)];have:x≠y:=λ q=>h (by rw[q];exact Cx);split
   ·exact BE this
   ·rfl
theorem uF{k:Str->Option NameKind}{x:Str}:∀(bs:List (Str×Value)) (m:Str->Option Value),x∉bs.map (·.1)->bindC k bs m x=m x
 | [],_,_=>rfl
 | (y,v)::r,m,h=>by
   unfold bindC;rw[uF r _ λ q=>h (Ci _ q)];have:x≠y:=λ q=>h (by rw[q];exact Cx);split
   ·rfl
   ·exact BE this
theorem Yv{k:Str->Option NameKind}{x:Str}{v:Value}(hk:k x=some .local):∀(bs:List (Str×Value)) (m:Str->Option Value),(bs.map (·.1)).Nodup->(x,v)∈bs->bindL k bs m x=some v
 | (y,u)::r,m,hn,h=>by
   obtain⟨h1,h2⟩:=D3.mp hn;unfold bindL;rcases BO.mp h with e | h
   ·cases e;rw[Qp r _ h1,BJ hk];exact BJ rfl
   ·exact Yv hk r _ h2 h
theorem Yw{k:Str->Option NameKind}{x:Str}{v:Value}(hk:k x≠some .local):∀(bs:List (Str×Value)) (m:Str->Option Value),(bs.map (·.1)).Nodup->(x,v)∈bs->bindC k bs m x=some v
 | (y,u)::r,m,hn,h=>by
   obtain⟨h1,h2⟩:=D3.mp hn;unfold bindC;rcases BO.mp h with e | h
   ·cases e;rw[uF r _ h1,BE hk];exact BJ rfl
   ·exact Yw hk r _ h2 h
theorem cellsFrom_some{x:Str}:∀(names:List (Str×NameKind)) (n:Nat) (acc:List (Str×Addr)),(acc.lookup x).isSome=true\/names.lookup x=some .cell->((cellsFrom n names acc).lookup x).isSome=true:=by
 intro names;induction names with
 | nil=>
   intro _ _ h;rcases h with h | h;exact h;exact nsm h
 | cons qp r ih=>
   obtain⟨y,k⟩:=qp;intro n acc h;unfold cellsFrom;rw[Bc] at h;cases e:x == y with
   | true=>
     rw[e] at h;by_cases hk:(k == NameKind.cell)=true
     ·rw[BJ hk];exact ih _ _ (.inl (by rw[Bc,e];rfl))
     ·rw[BE hk];rcases h with h | h
      ·exact ih _ _ (.inl h)
      ·obtain rfl:=B9 h;exact absurd rfl hk
   | false=>
     rw[e] at h;split
     ·refine ih _ _ ?_;rw[Bc,e];exact h
     ·exact ih _ _ h
noncomputable def qe (d:Lay) (L:Addr) (cells:List (Str×Addr)) (cm:Str->Option Value):Addr->Option j9:=λ b=>
 if b=L then some .loc else match cells.find? (λ p=>p.2 == b) with
  | some p=>if cells.lookup p.1=some b then(match cm p.1 with | some _=>none | none=>some (.cel p.1)) else none
  | none=>d.role b
noncomputable def Lay.enter (d:Lay) (L:Addr) (cells:List (Str×Addr)) (cm:Str->Option Value) (h:Heap):Lay:=({ d with role:=qe d L cells cm }).grow h
section
variable{X:Run}{d d':Lay}{env:Env}{fr:List Env}{s s₁:Shared}{mem:List jB}{loc:List (Str×V)}{binds:List (Str×Value)}
theorem jH.enter(c:jH X d mem fr s)(x:InCallC s env.locals (bindL env.kindOf binds λ _=>none) env.cells (bindC env.kindOf binds λ _=>none) s₁)(b:BL d (jA mem) loc binds)
  (hnd:(binds.map (·.1)).Nodup) (hkind:∀ y∈binds,env.kindOf y.1=some .local\/env.kindOf y.1=some .cell) (hf:env.frame=some env.locals) (hk:env.scope.kind=.function)
  (hgl:env.globals=mainGlobals) (hbl:env.builtins=builtinsNs) (hcl:env.cells=cellsFrom (env.locals+1) env.scope.names []) (hco:env.scope.isCoroutine=false) (hge:env.scope.isGenerator=false) (hcode:jF env.scope=vK->env.code=.ref Ql) :
  ∃ d',jT (Loc X d' env (env::fr) ⟨loc,mem,jF env.scope⟩ s₁) (Ext d (jA mem) d' (jA mem)) (∀ e∈fr,e.frame≠some env.locals):=by
 generalize hL:env.locals=L at *;generalize hcm:bindC env.kindOf binds (λ _=>none)=cm at *;obtain⟨hin,hcell,hap,hab⟩:=x;have keep:=hin.keep;have old:∀ b o,s.heap.get? b=some o->b<L:=λ b o e=>BY (Be e) hin.fresh;have rold:∀ b r,d.role b=some r->b<L:=λ b r e=>let ⟨o,h⟩:=c.rin b r e;old b o h
 have cl_of:∀ b,b<L->qe d L env.cells cm b=d.role b:=λ b hb=>by
  unfold qe;rw[BE (Ba hb)];cases q:env.cells.find? (λ p=>p.2 == b) with
  | none=>rfl
  | some p=>
    have h1:=List.mem_of_find?_eq_some q;have h2:p.2=b:=by simpa using List.find?_some q
    exact absurd (hab p.1 p.2 h1) (by rw[h2];exact Nat.lt_asymm hb)
 have cl_at:∀ y c',env.cells.lookup y=some c'->c'≠L/\qe d L env.cells cm c'=(match cm y with | some _=>none | none=>some (.cel y)):=λ y c' h=>by
  have hm:=mem_of_lookup h;have hne:=Nat.ne_of_gt (hab y c' hm);refine⟨hne,?_⟩;unfold qe;rw[BE hne];cases q:env.cells.find? (λ p=>p.2 == c') with
  | none=>exact absurd (List.find?_eq_none.mp q _ hm) (by simp)
  | some p=>
    have h1:=List.mem_of_find?_eq_some q;have h2:p.2=c':=by simpa using List.find?_some q
    have h3:p.1=y:=name_of_addr hap (n:=p.1) (n':=y) (c:=c') (by rw[<- h2];exact h1) hm;dsimp only;rw[h3,BJ h]
 have rnew:∀ b r,qe d L env.cells cm b=some r->∃ o,s₁.heap.get? b=some o:=λ b r e=>by
  unfold qe at e;by_cases q:b=L
  ·obtain⟨o,_,_,h,_⟩:=hin.ns;exact⟨o,by rw[q];exact h⟩
  ·rw[BE q] at e;cases z:env.cells.find? (λ p=>p.2 == b) with
   | none=>rw[z] at e;obtain⟨o,h⟩:=c.rin b r e;exact⟨o,keep b o h⟩
   | some p=>
     rw[z] at e;dsimp only at e;by_cases w:env.cells.lookup p.1=some b
     ·obtain⟨o,h,_⟩:=hcell p.1 b w;exact⟨o,h⟩
     ·rw[BE w] at e;exact nsm e
 have rz:∀ b o,d.Z b=some o->qe d L env.cells cm b=none:=λ b o e=>(cl_of b (old b o (c.zin b o e))).trans (c.zrole e);have x0:Ext d (jA mem) (d.enter L env.cells cm s₁.heap) (jA mem):=⟨λ b o e=>Lay.grow_of (d:={ d with role:=qe d L env.cells cm }) (rz b o e) (keep b o (c.zin b o e)),λ _ _=>rfl,BN _,rfl⟩;have rr:(d.enter L env.cells cm s₁.heap).role=qe d L env.cells cm:=rfl;obtain⟨h₁,tk,rfl⟩:=hin.same;have fne:∀ e∈fr,e.frame≠some L:=λ e he q=>by
  obtain⟨_,L',o,f,r,g,_⟩:=c.fr e he;rw[q] at f;obtain rfl:=B9 f;exact Cl _ (old L o g)
 refine⟨d.enter L env.cells cm h₁,⟨⟨c.gens,c.os,λ b o e=>x0.z b o (c.base b o e),λ b o e=>(Lay.of_grow e).2,λ b r e=>?_,λ b r e=>rnew b r e,λ b o e=>?_,λ i hi=>?_,c.tab.mono x0.z (λ r=>(cl_of qA (rold qA _ r)).trans r) (λ o e=>keep _ o e),λ e he=>?_⟩,hk,?_,hgl,hbl,⟨nofun,hcode⟩,?_,?_,?_,?_⟩,x0,fne⟩
 ·show(match qe d L env.cells cm b with | some _=>none | none=>h₁.get? b)=none;have e:qe d L env.cells cm b=some r:=e;rw[e]
 ·obtain⟨r,sl,h,hz⟩:=c.pin b o e;exact⟨(cl_of b (rold b _ r)).trans r,sl,keep b _ h,λ z=>hz (z.imp id λ z y=>z (wq y))⟩
 ·exact(c.mem i hi).mono x0 hi (λ b h=>cl_of b (by rcases h with h | h <;> exact rold b _ h)) λ b o _ e=>keep b o e
 ·rcases BO.mp he with rfl | he
  ·obtain⟨o,es,ep,h1,h2,_⟩:=hin.ns;exact⟨⟨by rw[hk];decide,hge,hco,hbl,hgl⟩,L,o,hf,.inl (BJ rfl),h1,wB h2⟩
  ·obtain⟨a,L',o,f,r,g,q⟩:=c.fr e he;refine⟨a,L',o,f,?_,keep _ _ g,q⟩;rw[rr,cl_of L' (old L' o g)];exact r
 ·intro y k h
  left
  rw[<- h];show env.scope.names.lookup y=lk y env.scope.names;rw[qK]
 ·rw[hL,rr];exact BJ rfl
 ·rw[hL];refine⟨_,hin.ns,λ y v h hs=>?_⟩;obtain⟨val,hm,hv⟩:=b.find h;have hkl:env.kindOf y=some .local:=by
   rw[<- hs];show env.scope.names.lookup y=lk y env.scope.names;rw[qK]
  exact⟨val,Yv hkl _ _ hnd hm,hv.mono x0⟩
 ·intro y v h hs;obtain⟨val,hm,hv⟩:=b.find h;have hkk:env.kindOf y=some .cell:=by
   have e:env.kindOf y=lk y (jF env.scope):=by show env.scope.names.lookup y=lk y env.scope.names;rw[qK]
   rcases hkind _ hm with q | q
   ·have q:env.kindOf y=some .local:=q;rw[e] at q;have hs:lk y (jF env.scope)=some .cell\/lk y (jF env.scope)=some .free:=hs;rw[q] at hs;rcases hs with hs | hs <;> cases hs
   ·exact q
  have hc:=cellsFrom_some (x:=y) env.scope.names (L+1) [] (.inr hkk);rw[<- hcl] at hc;obtain⟨c',hc'⟩:=DS.mp hc;have hval:cm y=some val:=by rw[<- hcm];exact Yw (by rw[hkk];nofun) _ _ hnd hm
  obtain⟨o,h1,h2⟩:=hcell y c' hc';refine⟨c',val,o,hc',Lay.grow_of (d:={ d with role:=qe d L env.cells cm }) ?_ h1,by rw[h2,hval],hv.mono x0⟩;have:=(cl_at y c' hc').2;rw[hval] at this;exact this
 ·intro y h hs;have hkk:env.kindOf y=some .cell:=by rw[<- hs];show env.scope.names.lookup y=lk y env.scope.names;rw[qK]
  have hc:=cellsFrom_some (x:=y) env.scope.names (L+1) [] (.inr hkk);rw[<- hcl] at hc;obtain⟨c',hc'⟩:=DS.mp hc;have hval:cm y=none:=by rw[<- hcm];exact uF _ _ (b.none h)
  obtain⟨o,h1,h2⟩:=hcell y c' hc';refine⟨c',o,hc',h1,by rw[h2,hval],?_⟩;have:=(cl_at y c' hc').2;rw[hval] at this;exact this
noncomputable def Lay.drop (d:Lay) (L:Addr):Lay:={ d with role:=λ b=>if b=L then none else d.role b }
theorem jH.drop(c:jH X d mem (env::fr) s){L:Addr}(hL:d.role L=some .loc)(hf:∀ e∈fr,e.frame≠some L)(he:env.frame=some L):jH X (d.drop L) mem fr s where
 gens:=c.gens
 os:=c.os
 base:=c.base
 zin:=c.zin
 zr:=λ b r e=>by
  have e:(if b=L then none else d.role b)=some r:=e;by_cases q:b=L
  ·rw[BJ q] at e;exact nsm e
  ·rw[BE q] at e;exact c.zr b r e
 rin:=λ b r e=>by
  have e:(if b=L then none else d.role b)=some r:=e;by_cases q:b=L
  ·rw[BJ q] at e;exact nsm e
  ·rw[BE q] at e;exact c.rin b r e
 pin:=λ b o e=>by
  obtain⟨r,sl,h,hz⟩:=c.pin b o e;refine⟨?_,sl,h,λ z=>hz (z.imp id λ z y=>?_)⟩
  rotate_left
  ·obtain⟨e',he',hf'⟩:=Cw.mp y;rcases BO.mp he' with q | q
   ·rw[q,he] at hf';cases hf';rw[hL] at r;cases r
   ·exact z (Cw.mpr ⟨e',q,hf'⟩)
  show(if b=L then none else d.role b)=_;rw[BE λ q=>by rw[q,hL] at r;cases r];exact r
 mem:=λ i hi=>zN.mono (d:=d) (d':=d.drop L) ⟨λ _ _ e=>e,λ _ _=>rfl,BN _,rfl⟩ hi (λ b h=>by
  show(if b=L then none else d.role b)=_
  rw[BE λ q=>by rw[q,hL] at h;rcases h with h | h <;> cases h]) (λ _ _ _ e=>e) (c.mem i hi)
 tab:=c.tab.mono (λ _ _ e=>e) (λ r=>by
  show(if qA=L then none else d.role qA)=_
  rw[BE λ q=>by rw[q,hL] at r;cases r];exact r) λ _ e=>e
 fr:=λ e he=>by
  obtain⟨a,L',o,f,r,g,q⟩:=c.fr e (Ci _ he);refine⟨a,L',o,f,?_,g,q⟩;have:L'≠L:=λ z=>hf e he (by rw[f,z]);show(if L'=L then none else d.role L')=_\/(if L'=L then none else d.role L')=_;rw[BE this];exact r
theorem Exc.drop{C ea L:Addr}{fl:Option Value}{B:Heap}{a0:Value}(x:Exc d (env::fr) C ea fl B a0 s)(c:jH X d mem (env::fr) s)(hL:d.role L=some .loc)(hf:env.frame=some L):Exc (d.drop L) fr C ea fl B a0 s where
 stays:=x.stays
 own:=λ b h1 h2=>by
  have h1':(∃ o,d.Z b=some o)\/∃ r,d.role b=some r:=by
   rcases h1 with h1 | ⟨r,e⟩
   ·exact .inl h1
   ·have e:(if b=L then none else d.role b)=some r:=e;by_cases q:b=L
    ·rw[BJ q] at e;exact nsm e
    ·rw[BE q] at e;exact .inr ⟨r,e⟩
  have hne:b≠L:=λ q=>by
   rcases h1 with ⟨o,e⟩ | ⟨r,e⟩
   ·have e:d.Z b=some o:=e;rw[q,c.zr L _ hL] at e;exact nsm e
   ·have e:(if b=L then none else d.role b)=some r:=e;rw[BJ q] at e;exact nsm e
  refine x.own b h1' λ z=>?_;unfold jh at z;rw[List.filterMap_cons,hf] at z;rcases BO.mp z with z | z
  ·exact hne z
  ·exact h2 z
 new:=x.new
 ff:=x.ff.2.2
 tr:=x.tr
end
def FlOk(env:Env)(fl:Option Value):Prop:=fl=none\/fl=some .none\/∃ L,env.frame=some L/\fl=some (rawInt L)
def PE(X:Run)(d:Lay)(n:Nat)(env:Env)(fr:List Env)(k:K)(Q:Value->Shared->Prop):Prop:=
 ∀ v st' d' val s',k v st'->Ext d n d' (jA st'.mem)->Loc X d' env fr st' s'->VV d' (jA st'.mem) v val->Q val s'
def PES(X:Run)(d:Lay)(n:Nat)(env:Env)(fr:List Env)(k:List V->St->Prop)(Q:List Value->Shared->Prop):Prop:=
 ∀ v st' d' val s',k v st'->Ext d n d' (jA st'.mem)->Loc X d' env fr st' s'->VVL d' (jA st'.mem) v val->Q val s'
def PB(X:Run)(d:Lay)(n:Nat)(env:Env)(fr:List Env)(k:Bool->St->Prop)(Q:Bool->Shared->Prop):Prop:=
 ∀ b st' d' s',k b st'->Ext d n d' (jA st'.mem)->Loc X d' env fr st' s'->Q b s'
def PU(X:Run)(d:Lay)(n:Nat)(env:Env)(fr:List Env)(k:St->Prop)(Q:Unit->Shared->Prop):Prop:=
 ∀ st' d' s',k st'->Ext d n d' (jA st'.mem)->Loc X d' env fr st' s'->Q () s'
inductive FlR(d:Lay)(n:Nat):Fl->Flow->Prop
 | next:FlR d n .next .next
 | brk:FlR d n .brk .brk
 | cont:FlR d n .cont .cont
 | ret {v:V} {val:Value}:VV d n v val->FlR d n (.ret v) (.ret val)
def PS(X:Run)(d:Lay)(n:Nat)(env:Env)(fr:List Env)(k:Fl->St->Prop)(Q:Flow->Shared->Prop):Prop:=
 ∀ fl st' d' f s',k fl st'->Ext d n d' (jA st'.mem)->Loc X d' env fr st' s'->FlR d' (jA st'.mem) fl f->Q f s'
def PX(X:Run)(d:Lay)(n:Nat)(env:Env)(fr:List Env)(kx:KX)(E:Value->Shared->Prop):Prop:=
 ∀ C st' d' ea fl B a0 s',kx C st'->Ext d n d' (jA st'.mem)->Loc X d' env fr st' s'->Exc d' fr C ea fl B a0 s'->FlOk env fl->E (.ref ea) s'
section
variable{X:Run}{d d':Lay}{n n':Nat}{env:Env}{fr:List Env}
theorem PE.of{k:K}{Q:Value->Shared->Prop}(h:PE X d n env fr k Q)(x:Ext d n d' n'):PE X d' n' env fr k Q:=λ v st' d'' val s' a b=>h v st' d'' val s' a (x.trans b)
theorem PES.of{k:List V->St->Prop}{Q:List Value->Shared->Prop}(h:PES X d n env fr k Q)(x:Ext d n d' n'):PES X d' n' env fr k Q:=λ v st' d'' val s' a b=>h v st' d'' val s' a (x.trans b)
theorem PB.of{k:Bool->St->Prop}{Q:Bool->Shared->Prop}(h:PB X d n env fr k Q)(x:Ext d n d' n'):PB X d' n' env fr k Q:=λ v st' d'' s' a b=>h v st' d'' s' a (x.trans b)
theorem PU.of{k:St->Prop}{Q:Unit->Shared->Prop}(h:PU X d n env fr k Q)(x:Ext d n d' n'):PU X d' n' env fr k Q:=λ st' d'' s' a b=>h st' d'' s' a (x.trans b)
theorem PS.of{k:Fl->St->Prop}{Q:Flow->Shared->Prop}(h:PS X d n env fr k Q)(x:Ext d n d' n'):PS X d' n' env fr k Q:=λ v st' d'' f s' a b=>h v st' d'' f s' a (x.trans b)
theorem PX.of{kx:KX}{E:Value->Shared->Prop}(h:PX X d n env fr kx E)(x:Ext d n d' n'):PX X d' n' env fr kx E:=λ C st' d'' ea fl B a0 s' a b=>h C st' d'' ea fl B a0 s' a (x.trans b)
end
def Y0(env:Env)(fr:List Env):Prop:=jT (∃ outer,fr=env::outer) (env.frame=some env.locals) (env.func.isSome=true)
def Smp(xs:List Expr):Prop:=∃ m,xs.all (smp m)=true
def Den(X:Run)(r:Nat):jK->Prop
 | .e x st k kx=>∀ A fr d env s Q E,Loc X d env fr st s->AOk A fr r->(A.handled=none\/Smp [x])->PE X d (jA st.mem) env fr k Q->PX X d (jA st.mem) env fr kx E->wpAny (model X.prog X.w) A (eval x env) Q E s
 | .es xs st k kx=>∀ A fr d env s pos Q E,Loc X d env fr st s->AOk A fr r->(A.handled=none\/Smp xs)->PES X d (jA st.mem) env fr k Q->PX X d (jA st.mem) env fr kx E->wpAny (model X.prog X.w) A (spliced (backTo pos (starEach xs env))) Q E s
 | .cmp a ops cs st k kx=>∀ A fr d env s pos va Q E,Loc X d env fr st s->AOk A fr r->A.handled=none->VV d (jA st.mem) a va->PE X d (jA st.mem) env fr k Q->PX X d (jA st.mem) env fr kx E->wpAny (model X.prog X.w) A (compareChain pos va ops (evalEach cs env)) Q E s
 | .tc a ops cs st k kx=>∀ A fr d env s pos va Q E,Loc X d env fr st s->AOk A fr r->A.handled=none->VV d (jA st.mem) a va->PB X d (jA st.mem) env fr k Q->PX X d (jA st.mem) env fr kx E->wpAny (model X.prog X.w) A (testChain pos va ops (evalEach cs env)) Q E s
 | .bo op xs st k kx=>∀ A fr d env s pos Q E,Loc X d env fr st s->AOk A fr r->A.handled=none->PE X d (jA st.mem) env fr k Q->PX X d (jA st.mem) env fr kx E->wpAny (model X.prog X.w) A (eval (.BoolOp op xs pos) env) Q E s
 | .t x st k kx=>∀ A fr d env s Q E,Loc X d env fr st s->AOk A fr r->A.handled=none->PB X d (jA st.mem) env fr k Q->PX X d (jA st.mem) env fr kx E->wpAny (model X.prog X.w) A (isTrue x env (eval x env)) Q E s
 | .ts op xs st k kx=>∀ A fr d env s Q E,Loc X d env fr st s->AOk A fr r->A.handled=none->PB X d (jA st.mem) env fr k Q->PX X d (jA st.mem) env fr kx E->wpAny (model X.prog X.w) A (allTrue op xs env) Q E s
 | .asg tgt v st k kx=>∀ A fr d env s val Q E,Loc X d env fr st s->AOk A fr r->A.handled=none->VV d (jA st.mem) v val->PU X d (jA st.mem) env fr k Q->PX X d (jA st.mem) env fr kx E->wpAny (model X.prog X.w) A (assign tgt env val) Q E s
 | .asgs ts vs st k kx=>∀ A fr d env s vals Q E,Loc X d env fr st s->AOk A fr r->A.handled=none->VVL d (jA st.mem) vs vals->noStar ts=true->PU X d (jA st.mem) env fr k Q->PX X d (jA st.mem) env fr kx E->wpAny (model X.prog X.w) A (assignInOrder ((assignEach ts env).map (·.2)) vals) Q E s
 | .s x st k kx=>∀ A fr d env s Q E,Loc X d env fr st s->AOk A fr r->A.handled=none->Y0 env fr->PS X d (jA st.mem) env fr k Q->PX X d (jA st.mem) env fr kx E->wpAny (model X.prog X.w) A (exec x env) Q E s
 | .ss xs st k kx=>∀ A fr d env s Q E,Loc X d env fr st s->AOk A fr r->A.handled=none->Y0 env fr->PS X d (jA st.mem) env fr k Q->PX X d (jA st.mem) env fr kx E->wpAny (model X.prog X.w) A (execs xs env) Q E s
 | .call f args mem k kx=>∀ A fr d s vals R,jH X d mem fr s->AOk A fr r->A.handled=none->VVL d (jA mem) args vals->
   (∀ v mem' d' val s',k v mem'->Ext d (jA mem) d' (jA mem')->jH X d' mem' fr s'->VV d' (jA mem') v val->R (.ok (.ret val)) s')->
   (∀ C mem' d' ea B a0 s',kx C mem'->Ext d (jA mem) d' (jA mem')->jH X d' mem' fr s'->Exc d' fr C ea (some .none) B a0 s'->R (.error (.ref ea)) s')->
   codeAny (model X.prog X.w) A (.call (.ref f) ⟨vals,[]⟩) R s
theorem Ext.le{d d':Lay}{n n':Nat}(x:Ext d n d' n'):n<=n':=x.n
theorem QV{h h':Heap}{a:Addr}(x:Heap.ExtBut a h h')(ha:h.get? a=none):∀ b o,h.get? b=some o->h'.get? b=some o:=λ b o e=>x b o (λ q=>by rw[q,ha] at e;exact nsm e) e
section
variable{X:Run}{r:Nat}{self:jK->Prop}{A:Around}{fr:List Env}{d:Lay}{env:Env}{s:Shared}{st:St}{Q:Value->Shared->Prop}{E:Value->Shared->Prop}{k:K}{kx:KX}
theorem Br.elim{b:Bool}{P Y:Prop}(h:Br b P Y):if b=true then P else Y:=by cases b <;> exact h
theorem PE.now(q:PE X d (jA st.mem) env fr k Q)(l:Loc X d env fr st s){v:V}{val:Value}(h:k v st)(hv:VV d (jA st.mem) v val):Q val s:=q v st d val s h (.refl _ _) l hv
theorem PE.toks(q:PE X d (jA st.mem) env fr k Q)(l:Loc X d env fr st s){v:V}{val:Value}{t:Nat}(h:k v st)(hv:VV d (jA st.mem) v val):Q val { s with toks:=t }:=
 q v st d val _ h (.refl _ _) (l.toks rfl) hv
theorem den_const{c:Const}{kd:Nat}{pos:Pos}(h:jl self sp (.Constant c kd pos) st k kx)(l:Loc X d env fr st s)(q:PE X d (jA st.mem) env fr k Q) :
  wpAny (model X.prog X.w) A (eval (.Constant c kd pos) env) Q E s:=by
 induction c using Const.casesOn with
 | none=>exact Constant_none (q.now l h (.p .none))
 | bool b=>exact Constant_bool (q.now l h (.p (.bool b)))
 | int i=>exact wpAny_Constant_int (q.toks l h (.p (.int i _)))
 | str x=>exact wpAny_Constant_str (q.toks l h (.p (.str x _)))
 | bytes b=>exact Constant_bytes (q.toks l h (.p (by have:=VR.bytes (Z:=d.Z) b.toArray s.toks;simpa using this)))
 | _=>exact h.elim
end
noncomputable def okV:Value->Bool
 | .ref _=>true
 | .int _ _=>true
 | .str _ _=>true
 | _=>false
structure ClsOk(K:Frag)(C:Addr):Prop where
 ga:findIn K (.ref C) "__getattribute__"=some (some (.builtin "object.__getattribute__"))
 gt:findIn K (.ref C) "__getattr__"=some none
 sa:findIn K (.ref C) "__setattr__"=some (some (.builtin "object.__setattr__"))
 po:plainOver K C=true
 hd:hasDictIn K C=true
structure jo(X:Run):Prop where
 k:∃ K:Frag,jj (K.In X.base) (∀ C n,xr C n=true->ClsOk K C/\∃ attr,jT (findIn K (.ref C) n=some attr) (noGet K attr=true) (takerIn K C n=some none)) (∀ C n f,ZJ C n=some f->jj (ClsOk K C) (findIn K (.ref C) n=some (some (.ref f))) (typeIn K (.ref f)=some (.type "function")) (keepIn K (.ref f)=true)) (∀ a,XH a=true->keepIn K (.ref a)=true)
 g:X.base.Ns mainGlobals X.mg
 b:X.base.Ns builtinsNs X.mb
 lim:X.base.NoLimit
 seer:X.base.NoSeer
 tree:X.prog.given.tree=none
 gl:∀ x v,lk x glT=some v->X.mg x=some v/\okV v=true
 bl:∀ x b,lk x glT=none->lk x blT=some b->X.mg x=none/\X.mb x=some (biV b)
theorem jV{α:Type}{o:Option α}{f:α->Prop}(h:yK o f):∃ t,o=some t/\f t:=by
 induction o using BU with
 | none=>exact False.elim h
 | some t=>exact⟨t,rfl,h⟩
theorem jn{b:Bool}{P:Prop}(h:on b P):b=true/\P:=by
 induction b using CM with
 | true=>exact⟨rfl,h⟩
 | false=>exact fe h
theorem zf{vs:List V}{f:V->Prop}(h:zg vs f):∃ v,vs=[v]/\f v:=by
 induction vs using BA with
 | nil=>exact False.elim h
 | cons v r=>induction r using BA with
   | nil=>exact⟨v,rfl,h⟩
   | cons=>exact False.elim h
theorem y8{op:Operator}{P:Prop}(h:QN op P):op=.Add/\P:=by
 induction op using Operator.casesOn with
 | Add=>exact⟨rfl,h⟩
 | _=>exact False.elim h
theorem Z1{op:Operator}{P:Prop}(h:onMul op P):op=.Mult/\P:=by
 induction op using Operator.casesOn with
 | Mult=>exact⟨rfl,h⟩
 | _=>exact False.elim h
theorem wC{e:Expr}{x:Str}(h:zi e=some x):∃ p,e=.Name x p:=by
 induction e using Bd with
 | Name n p=>obtain rfl:=B9 h;exact⟨p,rfl⟩
 | _=>exact nsm h
theorem uY{e f:Expr}{as:List Expr}{ks:List Keyword}(h:uE e=some (f,as,ks)):∃ p,e=.Call f as ks p:=by
 induction e using Bd with
 | Call n a k p=>cases h;exact⟨p,rfl⟩
 | _=>exact nsm h
theorem yY{x:Str}(h:y9 x=true):(x == ("__debug__":Str))=false/\(x == ("__classdict__":Str))=false:=by
 constructor
 ·refine Bh.mpr λ e=>?_;subst e;revert h;decide +kernel
 ·refine Bh.mpr λ e=>?_;subst e;revert h;decide +kernel
section
variable{X:Run}{r:Nat}{self:jK->Prop}{A:Around}{fr:List Env}{d:Lay}{env:Env}{s:Shared}{st:St}{Q:Value->Shared->Prop}{E:Value->Shared->Prop}{k:K}{kx:KX}
theorem Loc.stays(l:Loc X d env fr st s):∀ b o,X.base.get? b=some o->s.heap.get? b=some o:=λ b o e=>l.core.zin b o (l.core.base b o e)
theorem jH.stays{mem:List jB}(l:jH X d mem fr s):∀ b o,X.base.get? b=some o->s.heap.get? b=some o:=λ b o e=>l.zin b o (l.base b o e)
theorem vr_valT{Z:FZ}{v:Value}(h:okV v=true):VR Z (valT v) v:=by
 induction v using Value.casesOn with
 | ref a=>exact .ref a
 | int i t=>exact .int i t
 | str x t=>exact .str x t
 | _=>exact ff h
theorem Un{M:Model}{x:Str}(hk:env.scope.kind=.function)(hx:env.kindOf x=some .globalImplicit)(h:wpAny M A (loadGlobal env x) Q E s):wpAny M A (loadName env x) Q E s:=by
 unfold loadName;have hb:env.blockKind=.function:=by unfold Env.blockKind;rw[hk];rfl
 rw[hk,hx,hb];exact h
theorem qw(ok:jo X)(l:Loc X d env fr st s){x:Str}{v:V}(h:vV st x=some v)(q:∀ val,VV d (jA st.mem) v val->Q val s):wpAny (model X.prog X.w) A (loadName env x) Q E s/\(x == ("__debug__":Str))=false:=by
 unfold vV at h;cases hn:y9 x with
 | false=>replace h:=hn▸h;exact nsm h
 | true=>
   replace h:=hn▸h;refine⟨?_,(yY hn).1⟩;dsimp only at h;cases hk:lk x st.sc with
   | none=>replace h:=hk▸h;exact nsm h
   | some kd=>
     replace h:=hk▸h;have hs:=l.sc x kd hk;induction kd using Cp with
     | «local»=>
       dsimp only at h;rcases hs with hs | ⟨e,_⟩
       ·obtain⟨m,hm,hl⟩:=l.ns;obtain⟨val,hv,hvv⟩:=hl x v h hk;exact wpAny_loadName_local l.kind hs hm hv (q val hvv)
       ·cases e
     | cell=>
       dsimp only at h;rcases hs with hs | ⟨e,_⟩
       ·obtain⟨c,val,o,h1,h2,h3,h4⟩:=l.cel x v h (.inl hk);exact wpAny_loadName_cell l.kind hs h1 ⟨o,l.core.zin _ _ h2,h3⟩ (q val h4)
       ·cases e
     | free=>
       dsimp only at h;obtain⟨c,val,o,h1,h2,h3,h4⟩:=l.cel x v h (.inr hk);rcases hs with hs | ⟨_,hs⟩
       ·exact wpAny_loadName_free l.kind hs h1 ⟨o,l.core.zin _ _ h2,h3⟩ (q val h4) (yY hn).2
       ·exact wpAny_loadName_cell l.kind hs h1 ⟨o,l.core.zin _ _ h2,h3⟩ (q val h4)
     | globalExplicit=>exact nsm h
     | globalImplicit=>
       dsimp only at h;rcases hs with hs | ⟨e,_⟩
       ·have hg:s.heap.Ns env.globals X.mg:=by refine rwl l.glob ?_;exact ok.g.keeps l.stays
        have hb:s.heap.Ns env.builtins X.mb:=by refine rwl l.blt ?_;exact ok.b.keeps l.stays
        cases hgl:lk x glT with
        | some u=>
          replace h:=hgl▸h;obtain rfl:=B9 h;obtain⟨e1,e2⟩:=ok.gl x u hgl;exact Un l.kind hs (Calls.loadGlobal_global hg e1 (q u (.p (vr_valT e2))))
        | none=>
          replace h:=hgl▸h;cases hbl:lk x blT with
          | none=>replace h:=hbl▸h;exact nsm h
          | some b=>
            replace h:=hbl▸h;obtain rfl:=B9 h;obtain⟨e1,e2⟩:=ok.bl x b hgl hbl;exact Un l.kind hs (Calls.loadGlobal_builtin hg e1 hb e2 (q (biV b) (.p (.bi b rfl))))
       ·cases e
theorem den_name(ok:jo X){x:Str}{pos:Pos}(h:jl self sp (.Name x pos) st k kx)(l:Loc X d env fr st s)(q:PE X d (jA st.mem) env fr k Q) :
  wpAny (model X.prog X.w) A (eval (.Name x pos) env) Q E s:=by
 obtain⟨v,hv,h⟩:=jV h;obtain⟨a,b⟩:=qw (A:=A) (E:=E) ok l hv λ val hvv=>q.now l h hvv;exact wpAny_Name a b
end
theorem Loc.room{X:Run}(ok:jo X){A:Around}{r:Nat}{d:Lay}{env:Env}{fr:List Env}{st:St}{s:Shared}(l:Loc X d env fr st s)(a:AOk A fr r):PylongRoom (model X.prog X.w) A s:=by
 have hf:=a.fr;induction fr using BA with
 | nil=>exact absurd rfl l.top.1
 | cons e outer=>
   obtain⟨⟨h1,h2,h3,h4,h5⟩,_⟩:=l.core.fr e Cx;have k:∀ b o,X.base.get? b=some o->s.heap.get? b=some o:=λ b o q=>l.core.zin b o (l.core.base b o q);exact PylongRoom.of (ok.lim.keeps k) (by have:=a.dep;show A.depth+100<1000;lia) (SeerAt.of (ok.seer.keeps k) ok.tree hf h2 h3 h4 h5)
theorem Q0{x:Int}(h:sml x):x.natAbs<2^64:=by obtain⟨a,b⟩:=h;omega
section
variable{X:Run}{r:Nat}{self:jK->Prop}{A:Around}{fr:List Env}{d:Lay}{env:Env}{s:Shared}{st:St}{Q:Value->Shared->Prop}{E:Value->Shared->Prop}{k:K}{kx:KX}
theorem Loc.pushExt(l:Loc X d env fr st s)(o:Obj){n:Nat}:Ext d n (d.grow (s.heap.push o)) n:=l.core.ext_grow λ b o' e=>BH _ e
theorem Loc.newZ(l:Loc X d env fr st s){o:Obj}(hf:o.isFreed=false):(d.grow (s.heap.push o)).Z s.heap.objs.size=some o:=
 Lay.grow_of (l.core.norole (CU (BN _))) (BR _ hf)
theorem PE.push(q:PE X d (jA st.mem) env fr k Q)(l:Loc X d env fr st s){v:V}{o:Obj}(h:k v st)(hf:o.isFreed=false)
  (hv:∀ d',Ext d (jA st.mem) d' (jA st.mem)->d'.Z s.heap.objs.size=some o->VV d' (jA st.mem) v (.ref s.heap.objs.size)):Q (.ref s.heap.objs.size) { s with heap:=s.heap.push o }:=
 q v st _ _ _ h (l.pushExt o) (l.grow (s':={ s with heap:=s.heap.push o }) λ b o' e=>BH _ e) (hv _ (l.pushExt o) (l.newZ hf))
theorem PE.int(q:PE X d (jA st.mem) env fr k Q)(l:Loc X d env fr st s){i:Int}(h:k (.p (.int i)) st):Q (.int i s.toks) { s with toks:=s.toks+1 }:=q.toks l h (.p (.int i _))
theorem PE.bool(q:PE X d (jA st.mem) env fr k Q)(l:Loc X d env fr st s){b:Bool}(h:k (.p (.bool b)) st):Q (.bool b) s:=q.now l h (.p (.bool b))
theorem z4{Z:FZ}{a b:List T}{x y:List Value}(h:VRL Z a x)(h2:VRL Z b y):VRL Z (a++b) (x++y):=by
 induction h using VRL.ind with
 | h0=>exact h2
 | h1 u _ ih=>exact .cons u ih
theorem jP{Z:FZ}{a:List T}{x:List Value}(h:VRL Z a x):x.length=a.length:=by
 induction h using VRL.ind with
 | h0=>rfl
 | h1 _ _ ih=>exact Bo Nat.succ ih
theorem z3{d:Lay}{n:Nat}{a:List V}{x:List Value}(h:VVL d n a x):x.length=a.length:=by
 induction h with
 | nil=>rfl
 | cons _ _ ih=>exact rwl Bw (rwl Bw (rwl ih rfl))
theorem xv{Z:FZ}{a:List T}{x:List Value}(h:VRL Z a x):∀ n:Nat,VRL Z (List.replicate n a).flatten (List.replicate n x).flatten:=by
 intro n;induction n with
 | zero=>
   exact .nil
 | succ n ih=>
   refine rwl List.replicate_succ (rwl List.replicate_succ (rwl List.flatten_cons (rwl List.flatten_cons ?_)));exact z4 h (ih)
theorem X4{prog:Program}{w:World}{l:Addr}{items:Array Value}{k:Nat}{x:Int}{u:Tok}
  (hl:s.heap.get? l=some { cls:=.type "list",dict:=none,data:=.seq items k,slots:=#[] })
  (hlo:-(2^63:Int)<=x) (hhi:x<2^63) (hsz:items.size*x.toNat<=2^24)
  (h:Q (.ref s.heap.objs.size) { s with heap:=s.heap.push { cls:=.type "list",data:=.seq (List.foldl (λ x1 x2=>x1++x2) #[] (List.replicate (if items.isEmpty=true then 0 else x.toNat) items)) } }) :
  wpAny (model prog w) A (binaryOp .Mult (.ref l) (.int x u)) Q E s:=
 wpAny_binaryOp_repeat_ref (T:="list") (U:="int") (by decide) ⟨_,hl,rfl⟩ (λ s'=>typeIs_int s' x u) noFill_list_mul PySem.F.fills_int_mul PySem.F.slot_int_rmul repeat_list PySem.F.slot_int_index.lookup
  (call_meets PySem.F.slot_int_rmul (typeIs_int s x u) PySem.F.entry_int_rmul (PySem.F.args_int_rmul_2 _ _) (int___rmul___int_list x u l items k)
   ⟨hl,rfl,⟨_,hl,rfl⟩,call_meets PySem.F.slot_list_mul ⟨_,hl,rfl⟩ PySem.F.entry_list_mul (PySem.F.args_list_mul_2 _ _)
    (AutoListH.list___mul___list_int_3 l items k x u (by simp[Builtin.List.listFitsIndex];lia) (by lia) (by simp[Builtin.List.listTooLong,sizeLine];lia))
    ⟨hl,h⟩⟩)
theorem den_binI(ok:jo X)(l:Loc X d env fr st s)(a:AOk A fr r){op:Operator}{x y:Int}{t u:Tok}(h:binI op x y st k)(q:PE X d (jA st.mem) env fr k Q):wpAny (model X.prog X.w) A (binaryOp op (.int x t) (.int y u)) Q E s:=by
 induction op using Operator.casesOn with
 | Add=>exact PySem.P.add_int (q.int l h)
 | Sub=>exact PySem.P.sub_int (q.int l h)
 | Mult=>obtain⟨h1,h⟩:=h;exact PySem.P.mul_int (q.int l h) (.of_left (intBits_le (Q0 h1.1)))
 | FloorDiv=>obtain⟨h1,h⟩:=h;exact floordiv_int h1 (q.int l h) (.inr (l.room ok a))
 | Mod=>obtain⟨h1,h⟩:=h;exact mod_int' h1 (q.int l h)
 | Pow=>obtain⟨⟨h0,h1,h2⟩,h⟩:=h;exact pow_int_small h1 (by lia) (by rcases h0 with rfl | ⟨rfl,_⟩ <;> decide) (q.int l h)
 | LShift=>obtain⟨⟨h0,h1,h2⟩,h⟩:=h;exact lshift_int_small h1 (by lia) (Q0 h0) (q.int l h)
 | RShift=>obtain⟨⟨h1,h2⟩,h⟩:=h;exact rshift_int h1 (q.int l h)
 | BitAnd=>exact and_int (q.int l h)
 | BitOr=>exact or_int (q.int l h)
 | BitXor=>exact xor_int (q.int l h)
 | _=>exact fe h
theorem XO{a b:Addr}{i1 i2:Array Value}{n1 n2:Nat}{x y:List T}(l:Loc X d env fr st s)(z1:s.heap.get? a=some (jS i1 n1))(z2:s.heap.get? b=some (jS i2 n2))(r1:VRL d.Z x i1.toList)(r2:VRL d.Z y i2.toList)
  (h:x.length+y.length<=100000/\k (.p (.lst (x++y))) st) (q:PE X d (jA st.mem) env fr k Q):wpAny (model X.prog X.w) A (binaryOp .Add (.ref a) (.ref b)) Q E s:=by
 have l1:=jP r1;have l2:=jP r2;rw[BQ] at l1 l2;refine PySem.P.add_list z1 z2 ?_ (by have:=h.1;refine rwl CE ?_;lia);exact q.push l (o:=jS (i1++i2) 0) h.2 rfl λ d' x z=>.p (.lst z (by refine rwl Array.toList_append ?_;exact(z4 r1 r2).mono x.z))
set_option tactic.hygienic true in
theorem den_binT(ok:jo X)(l:Loc X d env fr st s)(a:AOk A fr r){op:Operator}{x y:T}{vx vy:Value}(hx:VR d.Z x vx)(hy:VR d.Z y vy)
  (h:binT op x y st k) (q:PE X d (jA st.mem) env fr k Q):wpAny (model X.prog X.w) A (binaryOp op vx vy) Q E s:=by
 induction hx using Dn with
 | int i t=>
   induction hy using Dn with
   | int j u=>have h:binI op i j st k:=h;exact den_binI ok l a h q
   | _=>exact fe h
 | bytes b1 t1=>
   induction hy using Dn with
   | bytes b2 t2=>
     obtain⟨rfl,h1,h⟩:=y8 h;refine KBy.add_bytes (by simp at h1;lia) λ t' tk=>q.toks l h (.p ?_);have:=VR.bytes (Z:=d.Z) (b1++b2) t';rwa [Array.toList_append] at this
   | int j u=>
     obtain⟨rfl,⟨h1,h2,h3,h4⟩,h⟩:=Z1 h;have e:b1=b1.toList.toArray:=by simp
     refine rwl e ?_;refine bytes_mul_any h1 (by lia) (by lia) h2 λ t' tk=>q.toks l h (.p ?_);have:=VR.bytes (Z:=d.Z) (List.replicate j.toNat b1.toList).flatten.toArray t';rwa [CI] at this
   | _=>exact fe h
 | str x t=>
   induction hy using Dn with
   | str y u=>
     obtain⟨rfl,h1,h⟩:=y8 h;exact add_str (λ t' tk=>q.toks l h (.p (.str _ _))) (by refine rwl CE ?_;lia)
   | _=>exact fe h
 | tup z1 r1=>
   induction hy using Dn with
   | tup z2 r2=>
     rename_i i1 n1 _ _ i2 n2;obtain⟨rfl,⟨h1,h2,h3⟩,h⟩:=y8 h;have l1:=jP r1;have l2:=jP r2;have p1:=D5.mpr h1;have p2:=D5.mpr h2;rw[BQ] at l1 l2;refine PySem.P.add_tuple (l.core.zin _ _ z1) (l.core.zin _ _ z2) (by rw[Array.isEmpty_iff_size_eq_zero];lia) (by rw[Array.isEmpty_iff_size_eq_zero];lia) ?_ (by rw[CE];lia);exact q.push l (o:=yH (i1++i2) 0) h rfl λ d' x z=>.p (.tup z (by refine rwl Array.toList_append ?_;exact(z4 r1 r2).mono x.z))
   | _=>exact fe h
 | lst z1 r1=>
   induction hy using Dn with
   | lst z2 r2=>
     obtain⟨rfl,h⟩:=y8 h;exact XO l (l.core.zin _ _ z1) (l.core.zin _ _ z2) r1 r2 h q
   | int j u=>
     rename_i i1 n1;obtain⟨rfl,⟨h1,h2,h3⟩,h⟩:=Z1 h;have l1:=jP r1;replace l1:=BQ▸l1;refine X4 (l.core.zin _ _ z1) (by lia) (by lia) ?_ ?_
     ·have:i1.size*j.toNat<=64*1000:=Nat.mul_le_mul (by lia) (by lia);lia
     ·refine q.push l (o:=jS (List.foldl (λ x1 x2=>x1++x2) #[] (List.replicate (if i1.isEmpty=true then 0 else j.toNat) i1)) 0) h rfl λ d' x z=>.p (.lst z ?_);refine rwl (listMul_foldl_if i1 j.toNat) (rwl CI ?_);exact(xv r1 _).mono x.z
   | _=>exact fe h
 | _=>exact fe h
theorem den_binop(ok:jo X)(l:Loc X d env fr st s)(a:AOk A fr r){op:Operator}{x y:V}{vx vy:Value}(hx:VV d (jA st.mem) x vx)(hy:VV d (jA st.mem) y vy)
  (h:binop op x y st k) (q:PE X d (jA st.mem) env fr k Q):wpAny (model X.prog X.w) A (binaryOp op vx vy) Q E s:=by
 induction hy using Do with
 | p hy=>induction hx using Do with
   | p hx=>exact den_binT ok l a hx hy (show binT op _ _ st k from h) q
   | m hi=>
     have c:=l.core.mem _ hi;have h:binM op (jC st.mem _) _ st k:=h;generalize jC st.mem _=o at c h;induction hy using Dn with
     | lst z2 r2=>induction o using jB.casesOn with
       | plst tx=>
         obtain⟨rfl,h⟩:=y8 h;obtain⟨c1,i1,n1,c2,c3⟩:=c;exact XO l c2 (l.core.zin _ _ z2) c3 r2 h q
       | _=>exact fe h
     | _=>exact fe h
   | lam=>exact fe h
 | _=>exact fe h
end
section
open PySem.SeqAt
theorem yb{α β:Type}{a:List α}{b:List β}:yq a b=true↔a.length=b.length:=by
 induction a generalizing b with
 | nil=>induction b using BA with
   | nil=>exact⟨λ _=>rfl,λ _=>rfl⟩
   | cons=>exact⟨λ h=>ff h,λ h=>absurd h.symm (Nat.succ_ne_zero _)⟩
 | cons x r ih=>induction b using BA with
   | nil=>exact⟨λ h=>ff h,λ h=>absurd h (Nat.succ_ne_zero _)⟩
   | cons y q=>exact ih.trans ⟨Bo Nat.succ,Nat.succ.inj⟩
theorem eqL_len{a b:List T}(h:T.eqL a b=true):a.length=b.length:=by
 induction a generalizing b with
 | nil=>induction b using BA with
   | nil=>rfl
   | cons=>exact ff h
 | cons x r ih=>induction b using BA with
   | nil=>exact ff h
   | cons y q=>exact Bo Nat.succ (ih (BD.mp h).2)
theorem QJ{f:T->T->Bool}{a b:List T}(h:T.same.sameL f a b=true):a.length=b.length/\∀(j:Nat) (h1:j<a.length) (h2:j<b.length),f a[j] b[j]=true:=by
 induction a generalizing b with
 | nil=>induction b using BA with
   | nil=>exact⟨rfl,λ j h1=>absurd h1 (DI _)⟩
   | cons=>exact ff h
 | cons x r ih=>induction b using BA with
   | nil=>exact ff h
   | cons y q=>
     have h:=BD.mp h;have ih:=ih h.2;refine⟨Bo Nat.succ ih.1,λ j h1 h2=>?_⟩;induction j using CD with
     | zero=>exact h.1
     | succ j=>exact ih.2 j (CA h1) (CA h2)
theorem Xf{f:T->T->Bool}{a b:List T}(h:T.same.sameL f a b=true):a.length=b.length:=(QJ h).1
theorem qQ{Z:FZ}{a:List T}{x:List Value}(h:VRL Z a x):∀(j:Nat) (h1:j<a.length) (h2:j<x.length),VR Z a[j] x[j]:=by
 induction h using VRL.ind with
 | h0=>exact λ j h1=>absurd h1 (DI _)
 | h1 u _ ih=>
   intro j h1 h2;induction j using CD with
   | zero=>exact u
   | succ j=>exact ih j (CA h1) (CA h2)
noncomputable def Ya (a b:List T) (j:Nat):Bool:=match a[j]?,b[j]? with
 | some x,some y=>T.eqB x y
 | _,_=>false
theorem Qh{a b:List T}(h:a.length=b.length):T.eqL a b=(List.range a.length).all (Ya a b):=by
 induction a generalizing b with
 | nil=>induction b using BA with
   | nil=>rfl
   | cons=>exact absurd h.symm (Nat.succ_ne_zero _)
 | cons x r ih=>induction b using BA with
   | nil=>exact absurd h (Nat.succ_ne_zero _)
   | cons y q=>
     refine rwl Bw (rwl List.range_succ_eq_map (rwl DU (rwl List.all_map ?_)));exact Bo (T.eqB x y&&·) (ih (Nat.succ.inj h))
theorem uU(a b:Int):T.eqB (.int a) (.int b)=(a == b):=rfl
theorem ye(a b:Str):T.eqB (.str a) (.str b)=(a == b):=rfl
theorem uV(a b:Bool):T.eqB (.bool a) (.bool b)=(a == b):=rfl
theorem XC(a b:List UInt8):T.eqB (.bytes a) (.bytes b)=(a == b):=rfl
theorem uT:T.eqB .none .none=true:=rfl
theorem YY(a b:T)(r q:List T):T.eqL (a::r) (b::q)=(T.eqB a b&&T.eqL r q):=rfl
theorem YZ:T.eqL [] []=true:=rfl
theorem XB(a:T)(r:List T):T.eqL (a::r) []=false:=rfl
theorem wg(x y:List T):T.eqB (.tup x) (.tup y)=T.eqL x y:=rfl
theorem zu(x y:List T):T.eqB (.lst x) (.lst y)=T.eqL x y:=rfl
inductive SV(Z:FZ)(n:Nat):T->Value->T->Value->Prop
 | none:SV Z n .none .none .none .none
 | ns (x:Str) (t:Tok):SV Z n .none .none (.str x) (.str x t)
 | bool (b c:Bool):SV Z n (.bool b) (.bool b) (.bool c) (.bool c)
 | int (i:Int) (t:Tok) (j:Int) (u:Tok):SV Z n (.int i) (.int i t) (.int j) (.int j u)
 | str (i:Str) (t:Tok) (j:Str) (u:Tok):SV Z n (.str i) (.str i t) (.str j) (.str j u)
 | bytes (i:Array UInt8) (t:Tok) (j:Array UInt8) (u:Tok):SV Z n (.bytes i.toList) (.bytes i t) (.bytes j.toList) (.bytes j u)
 | tup {ts us:List T} {a b:Addr} {i1 i2:Array Value} {n1 n2:Nat} (z1:Z a=some (yH i1 n1)) (r1:VRL Z ts i1.toList) (z2:Z b=some (yH i2 n2)) (r2:VRL Z us i2.toList) (h:T.same.sameL (T.same n) ts us=true):SV Z n (.tup ts) (.ref a) (.tup us) (.ref b)
 | lst {ts us:List T} {a b:Addr} {i1 i2:Array Value} {n1 n2:Nat} (z1:Z a=some (jS i1 n1)) (r1:VRL Z ts i1.toList) (z2:Z b=some (jS i2 n2)) (r2:VRL Z us i2.toList) (h:T.same (n+1) (.lst ts) (.lst us)=true):SV Z n (.lst ts) (.ref a) (.lst us) (.ref b)
theorem vo{Z:FZ}{n:Nat}{x y:T}{a b:Value}(hx:VR Z x a)(hy:VR Z y b)(h:T.same (n+1) x y=true):SV Z n x a y b:=by
 induction hx using Dn with
 | none=>induction hy using Dn with
   | none=>exact .none
   | str x t=>exact .ns x t
   | _=>exact ff h
 | bool b=>induction hy using Dn with
   | bool c=>exact .bool b c
   | _=>exact ff h
 | int b t=>induction hy using Dn with
   | int c u=>exact .int b t c u
   | _=>exact ff h
 | str b t=>induction hy using Dn with
   | str c u=>exact .str b t c u
   | _=>exact ff h
 | bytes b t=>induction hy using Dn with
   | bytes c u=>exact .bytes b t c u
   | _=>exact ff h
 | tup z r=>induction hy using Dn with
   | tup z' r'=>exact .tup z r z' r' h
   | _=>exact ff h
 | lst z r=>induction hy using Dn with
   | lst z' r'=>exact .lst z r z' r' h
   | _=>exact ff h
 | _=>exact ff h
theorem Zu{n:Nat}{ts us:List T}(h:T.same (n+1) (.lst ts) (.lst us)=true)(e:yq ts us=true):T.same.sameL (T.same n) ts us=true:=by
 have h:(match yq ts us with | true=>T.same.sameL (T.same n) ts us | false=>true)=true:=h;rwa [e] at h
theorem QI{Z:FZ}{f:T->T->Bool}(ih:∀{x y:T} {v:Value},VR Z x v->VR Z y v->f x y=true->T.eqB x y=true){x y:List T}{v:List Value}(hx:VRL Z x v):VRL Z y v->T.same.sameL f x y=true->T.eqL x y=true:=by
 induction hx using VRL.ind generalizing y with
 | h0=>intro hy _;cases hy;rfl
 | h1 a r ih2=>
   intro hy h;cases hy with | cons a' r'=>
   have h:=BD.mp h;exact BD.mpr ⟨ih a a' h.1,ih2 r' h.2⟩
theorem same_eq{Z:FZ}(n:Nat):∀{x y:T} {a b:Value},VR Z x a->VR Z y b->T.same n x y=true->a=b->T.eqB x y=true:=by
 induction n with
 | zero=>intro x y a b _ _ h _;exact ff h
 | succ n ih=>
   intro x y a b hx hy h e;have S:=vo hx hy h;clear hx hy h;induction S using SV.casesOn with
   | none=>rfl
   | ns=>exact Value.noConfusion e
   | bool b c=>exact rwl (Value.bool.inj e) (Cg c)
   | int b t c u=>exact rwl (Value.int.inj e).1 (Cg c)
   | str b t c u=>exact rwl (Value.str.inj e).1 (Cg c)
   | bytes b t c u=>exact rwl (Value.bytes.inj e).1 (Cg c.toList)
   | tup z r z' r' h=>
     obtain rfl:=Value.ref.inj e;have w:=(B9 (z.symm.trans z'))
     injection w with _ _ w
     obtain rfl:=(Data.seq.inj w).1;exact QI (λ a b c=>ih a b c rfl) r r' h
   | lst z r z' r' h=>
     obtain rfl:=Value.ref.inj e;have w:=(B9 (z.symm.trans z'))
     injection w with _ _ w
     obtain rfl:=(Data.seq.inj w).1;exact QI (λ a b c=>ih a b c rfl) r r' (Zu h (yb.mpr ((jP r).symm.trans (jP r'))))
theorem Zt{Z:FZ}(n:Nat){x y:T}{v:Value}(hx:VR Z x v)(hy:VR Z y v)(h:T.same n x y=true):T.eqB x y=true:=same_eq n hx hy h rfl
theorem EqAt.bytes(A:Around)(s:Shared)(b:Array UInt8)(t:Tok)(c:Array UInt8)(u:Tok):EqAt A s (.bytes b t) (.bytes c u) (b.toList == c.toList):=λ prog w E Q h=>by
 unfold eqBool;refine Bu ?_;refine wpAny_ite_split (λ hab=>?_) (λ _=>?_)
 ·have e:b=c:=by have:=eq_of_beq hab;injection this
  subst e;exact B0 (wpAny_rule (BC (by simpa using h)))
 ·exact B0 (eq_bytes (prog:=prog) (w:=w) (Cv h))
theorem Qj{Z:FZ}{n:Nat}{A:Around}{s:Shared}(ih:∀(A:Around) (x y:T) (a b:Value),VR Z x a->VR Z y b->T.same n x y=true->A.units+n<cLine->EqAt A s a b (T.eqB x y))
  {x y:List T} {i1 i2:Array Value} (r1:VRL Z x i1.toList) (r2:VRL Z y i2.toList) (h:T.same.sameL (T.same n) x y=true) (hu:A.units+n<cLine) :
  ∀ j (h1:j<i1.size) (h2:j<i2.size),EqAt A s i1[j] i2[j] (Ya x y j):=λ j h1 h2=>by
 have l1:=jP r1;have l2:=jP r2;rw[BQ] at l1 l2;have g1:j<x.length:=by refine rwl l1.symm ?_;exact h1
 have g2:j<y.length:=by refine rwl l2.symm ?_;exact h2
 have e:=ih A x[j] y[j] _ _ (qQ r1 j g1 (rwl BQ h1)) (qQ r2 j g2 (rwl BQ h2)) ((QJ h).2 j g1 g2) hu;rw[Array.getElem_toList,Array.getElem_toList] at e;have:Ya x y j=T.eqB x[j] y[j]:=by unfold Ya;exact rwl (BS g1) (rwl (BS g2) rfl)
 refine rwl this ?_;exact e
theorem Q4{α β:Type}{a:List α}{b:List β}(h:yq a b=false):a.length≠b.length:=λ e=>by rw[yb.mpr e] at h;exact ft h
theorem eqL_ne{a b:List T}(h:a.length≠b.length):T.eqL a b=false:=by
 cases e:T.eqL a b with
 | false=>rfl
 | true=>exact absurd (eqL_len e) h
theorem Xj{ts us:List T}{i1 i2:Array Value}(l1:i1.size=ts.length)(l2:i2.size=us.length)(e:ts.length=us.length):T.eqB (.tup ts) (.tup us)=((List.range (min i1.size i2.size)).all (Ya ts us)&&i1.size == i2.size):=by
 rw[wg,Qh e,l1,l2,e,Nat.min_self,Cg,Bool.and_true]
theorem jk{Z:FZ}{a:List T}{x:Array Value}(h:VRL Z a x.toList):x.size=a.length:=(BQ).symm.trans (jP h)
theorem Q3{Z:FZ}{s:Shared}{A:Around}{n:Nat}(ea:∀(A:Around) (x y:T) (a b:Value),VR Z x a->VR Z y b->T.same n x y=true->A.units+n<cLine->EqAt A s a b (T.eqB x y))(hu:A.units+(n+1)<cLine)
  {ts us:List T} {a b:Addr} {i1 i2:Array Value} {n1 n2:Nat} (g1:s.heap.get? a=some (jS i1 n1)) (r1:VRL Z ts i1.toList) (g2:s.heap.get? b=some (jS i2 n2)) (r2:VRL Z us i2.toList) (h:T.same (n+1) (.lst ts) (.lst us)=true) :
  RcAt A s (.ref a) (.ref b) (T.eqB (.lst ts) (.lst us))/\RcNeAt A s (.ref a) (.ref b) (!T.eqB (.lst ts) (.lst us)):=by
 have l1:=jk r1;have l2:=jk r2;have hu':A.units<cLine:=by omega
 rw[zu];cases e:yq ts us with
 | true=>
   have h:=Zu h e;have e:=yb.mp e;have he:=Qj (A:=A.in1) ea r1 r2 h (by show A.units+1+n<_;omega);have e2:i1.size=i2.size:=by exact rwl l1 (rwl l2 (rwl e rfl))
   rw[Qh e,<- l1];exact⟨RcAt.lists ⟨_,g1,rfl,_,rfl⟩ ⟨_,g2,rfl,_,rfl⟩ e2 hu' he,RcNeAt.lists ⟨_,g1,rfl,_,rfl⟩ ⟨_,g2,rfl,_,rfl⟩ e2 hu' he⟩
 | false=>
   have e:=Q4 e;have e':(i1.size != i2.size)=true:=by refine rwl l1 (rwl l2 ?_);exact bne_iff_ne.mpr e
   rw[eqL_ne e];exact⟨RcAt.lists_lengths ⟨_,g1,rfl,_,rfl⟩ ⟨_,g2,rfl,_,rfl⟩ e' hu',RcNeAt.lists_lengths ⟨_,g1,rfl,_,rfl⟩ ⟨_,g2,rfl,_,rfl⟩ e' hu'⟩
theorem rc_tup{Z:FZ}{s:Shared}{A:Around}{n:Nat}(ea:∀(A:Around) (x y:T) (a b:Value),VR Z x a->VR Z y b->T.same n x y=true->A.units+n<cLine->EqAt A s a b (T.eqB x y))(hu:A.units+(n+1)<cLine)
  {ts us:List T} {a b:Addr} {i1 i2:Array Value} {n1 n2:Nat} (g1:s.heap.get? a=some (yH i1 n1)) (r1:VRL Z ts i1.toList) (g2:s.heap.get? b=some (yH i2 n2)) (r2:VRL Z us i2.toList) (h:T.same.sameL (T.same n) ts us=true) :
  RcAt A s (.ref a) (.ref b) (T.eqB (.tup ts) (.tup us))/\RcNeAt A s (.ref a) (.ref b) (!T.eqB (.tup ts) (.tup us)):=by
 have hu':A.units<cLine:=by lia
 have he:=Qj (A:=A.in1) ea r1 r2 h (by show A.units+1+n<_;lia);refine rwl (Xj (jk r1) (jk r2) (Xf h)) ?_;exact⟨RcAt.tuples ⟨_,g1,rfl,_,rfl⟩ ⟨_,g2,rfl,_,rfl⟩ hu' he,RcNeAt.tuples ⟨_,g1,rfl,_,rfl⟩ ⟨_,g2,rfl,_,rfl⟩ hu' he⟩
theorem eqAt_T{Z:FZ}{s:Shared}(kz:∀ b o,Z b=some o->s.heap.get? b=some o)(n:Nat):∀(A:Around) (x y:T) (a b:Value),VR Z x a->VR Z y b->T.same n x y=true->A.units+n<cLine->EqAt A s a b (T.eqB x y):=by
 induction n with
 | zero=>intro A x y _ _ _ _ h _;exact ff h
 | succ n ih=>
   intro A x y a b hx hy h hu;have S:=vo hx hy h;induction S using SV.casesOn with
   | none=>exact EqAt.same .none
   | ns x t=>exact EqAt.none_str x t
   | bool x y=>exact EqAt.bool_bool x y
   | int i t j u=>exact EqAt.int_int i t j u
   | str x t y u=>exact EqAt.str_str x t y u
   | bytes x t y u=>exact EqAt.bytes A s x t y u
   | @tup ts us a b i1 i2 n1 n2 z r z' r' h'=>
     by_cases q:a=b
     ·subst q;refine rwl (Zt (n+1) hx hy h) ?_;exact EqAt.same _
     ·exact EqAt.of_refs q (rc_tup ih hu (kz _ _ z) r (kz _ _ z') r' h').1
   | @lst ts us a b i1 i2 n1 n2 z r z' r' h'=>
     by_cases q:a=b
     ·subst q;refine rwl (Zt (n+1) hx hy h) ?_;exact EqAt.same _
     ·exact EqAt.of_refs q (Q3 ih hu (kz _ _ z) r (kz _ _ z') r' h').1
end
section
open PySem.SeqAt
theorem yB{α:Type}{x:α}{o:Option (List α)}{l:List α}(h:xi x o=some l):∃ q,o=some q/\l=x::q:=by
 induction o using BU with
 | none=>exact nsm h
 | some q=>obtain rfl:=B9 h;exact⟨q,rfl,rfl⟩
noncomputable def Dq:=@T.casesOn
theorem yk{ts:List T}{ns:List Int}(h:T.ints ts=some ns):ts=ns.map T.int:=by
 induction ts generalizing ns with
 | nil=>obtain rfl:=B9 h;rfl
 | cons t r ih=>induction t using Dq with
   | int i=>
     obtain⟨q,e,rfl⟩:=yB (o:=T.ints r) h;refine rwl (ih e) ?_;rfl
   | _=>exact nsm h
theorem Zm{Z:FZ}{ns:List Int}{vs:List Value}(h:VRL Z (ns.map T.int) vs):kf_ints vs=true/\∀ x,vs.any (isInt x)=ns.any λ i=>i == x:=by
 induction ns generalizing vs with
 | nil=>cases h;exact⟨rfl,λ _=>rfl⟩
 | cons n ns ih=>
   cases h with | cons u r=>
   cases u;obtain⟨a,b⟩:=ih r;exact⟨a,λ x=>by refine rwl Cz (rwl Cz (rwl (b x) ?_));rfl⟩
section
variable{X:Run}{r:Nat}{self:jK->Prop}{A:Around}{fr:List Env}{d:Lay}{env:Env}{s:Shared}{st:St}{Q:Value->Shared->Prop}{E:Value->Shared->Prop}{k:K}{kx:KX}
theorem in_ints{x:Int}{t:Tok}{l:Addr}{its:Array Value}{n:Nat}{Z:FZ}{ns:List Int}(hl:s.heap.get? l=some (jS its n))(r:VRL Z (ns.map T.int) its.toList)(h:Q (.bool (ns.any λ i=>i == x)) s) :
  wpAny (model X.prog X.w) A (compareOp .In (.int x t) (.ref l)) Q E s:=by
 obtain⟨a,b⟩:=Zm r;refine SeqInW.in_listW (isInt x) (λ y hy=>kf_eq a y (by simpa using hy)) ⟨_,hl,rfl,_,rfl⟩ ?_;refine rwl Array.any_toList.symm (rwl (b x) ?_);exact h
theorem WI{x:Int}{t:Tok}{l:Addr}{its:Array Value}{n:Nat}{Z:FZ}{ns:List Int}(hl:s.heap.get? l=some (jS its n))(r:VRL Z (ns.map T.int) its.toList)(h:Q (.bool (!ns.any λ i=>i == x)) s) :
  wpAny (model X.prog X.w) A (compareOp .NotIn (.int x t) (.ref l)) Q E s:=by
 obtain⟨a,b⟩:=Zm r;refine SeqInW.notIn_listW (isInt x) (λ y hy=>kf_eq a y (by simpa using hy)) ⟨_,hl,rfl,_,rfl⟩ ?_;refine rwl Array.any_toList.symm (rwl (b x) ?_);exact h
theorem xM(l:Loc X d env fr st s){v:V}{val:Value}{t:T}(hv:VV d (jA st.mem) v val)(h:lstT? st.mem v=some t) :
  VR d.Z t val\/Ex4 λ ts a its n=>jj (t=.lst ts) (val=.ref a) (s.heap.get? a=some (jS its n)) (VRL d.Z ts its.toList):=by
 induction hv using Do with
 | p hv=>obtain rfl:=B9 h;exact .inl hv
 | m hi=>
   have c:=l.core.mem _ hi;have h:(match jC st.mem _ with | .plst ts=>some (T.lst ts) | _=>none)=some t:=h;generalize jC st.mem _=o at c h;induction o using jB.casesOn with
   | plst ts=>
     obtain rfl:=B9 h;obtain⟨c1,i1,n1,c2,c3⟩:=c;exact .inr ⟨ts,_,i1,n1,rfl,rfl,c2,c3⟩
   | _=>exact nsm h
 | lam=>exact nsm h
theorem rc_T(l:Loc X d env fr st s)(hu:A.units+8<cLine){x y:V}{vx vy:Value}{tx ty:T}(hx:VV d (jA st.mem) x vx)(hy:VV d (jA st.mem) y vy)(ex:lstT? st.mem x=some tx)(ey:lstT? st.mem y=some ty)
  (h:T.same 8 tx ty=true):RcAt A s vx vy (T.eqB tx ty)/\RcNeAt A s vx vy (!T.eqB tx ty):=by
 have cx:=xM l hx ex;have cy:=xM l hy ey;clear hx hy ex ey;have ea:=eqAt_T (Z:=d.Z) (s:=s) l.core.zin 7;have lz:∀{ts:List T} {val:Value},VR d.Z (.lst ts) val->Ex3 λ a its n=>jT (val=.ref a) (s.heap.get? a=some (jS its n)) (VRL d.Z ts its.toList):=λ h=>by
  cases h with | lst z r=>exact⟨_,_,_,rfl,l.core.zin _ _ z,r⟩
 rcases cy with cy | ⟨us,b,i2,n2,rfl,rfl,g2,r2⟩
 ·rcases cx with cx | ⟨ts,a,i1,n1,rfl,rfl,g1,r1⟩
  ·cases vo cx cy h with
   | none=>exact⟨RcAt.none_none,RcNeAt.none_none⟩
   | ns x t=>exact⟨RcAt.none_str _ _,RcNeAt.none_str _ _⟩
   | bool x y=>exact⟨RcAt.bool_bool x y,RcNeAt.bool_bool x y⟩
   | int i t j u=>exact⟨RcAt.int_int _ _ _ _,RcNeAt.int_int _ _ _ _⟩
   | str x t y u=>exact⟨RcAt.str_str _ _ _ _,RcNeAt.str_str _ _ _ _⟩
   | bytes x t y u=>exact⟨λ prog w E Q h=>eq_bytes (prog:=prog) (w:=w) h,λ prog w E Q h=>ne_bytes (prog:=prog) (w:=w) h⟩
   | tup z r z' r' h=>exact rc_tup ea hu (l.core.zin _ _ z) r (l.core.zin _ _ z') r' h
   | lst z r z' r' h=>exact Q3 ea hu (l.core.zin _ _ z) r (l.core.zin _ _ z') r' h
  ·induction ty using Dq with
   | lst us=>
     obtain⟨b,i2,n2,rfl,g2,r2⟩:=lz cy;exact Q3 ea hu g1 r1 g2 r2 h
   | _=>exact ff h
 ·induction tx using Dq with
  | lst ts=>
    have:Ex3 λ a its n=>jT (vx=.ref a) (s.heap.get? a=some (jS its n)) (VRL d.Z ts its.toList):=by
     rcases cx with cx | ⟨us,a,its,n,e,h1,h2,h3⟩
     ·exact lz cx
     ·cases e;exact⟨a,its,n,h1,h2,h3⟩
    obtain⟨a,i1,n1,rfl,g1,r1⟩:=this;exact Q3 ea hu g1 r1 g2 r2 h
  | none=>exact ff h
  | _=>exact ff h
theorem is_none{v:V}{val:Value}{n:Nat}(hv:VV d n v val)(hb:notBi v=true):PySem.plainIs val .none=true/\(val == .none)=Uq v:=by
 induction hv using Do with
 | p hv=>
   induction hv using Dn with
   | bi=>exact ff hb
   | _=>exact⟨rfl,rfl⟩
 | _=>exact⟨rfl,rfl⟩
inductive DX(d:Lay)(n:Nat):List (T×V)->List (List Int×Addr×Value)->Prop
 | nil:DX d n [] []
 | one {ks:List Int} {a:Addr} {items:Array Value} {k:Nat} {v:V} {val:Value}:d.Z a=some (yH items k)->VRL d.Z (ks.map T.int) items.toList->VV d n v val->DX d n [(.tup (ks.map T.int),v)] [(ks,a,val)]
theorem items_are{prog:Program}{w:World}{Z:FZ}{ks:List Int}{vs:List Value}(h:VRL Z (ks.map T.int) vs):ItemsAre (intKind prog w) ks vs:=by
 induction ks generalizing vs with
 | nil=>cases h;exact .nil
 | cons k ks ih=>
   cases h with | cons a b=>
   cases a with | int _ t=>exact .cons (Cg k) (ih b)
theorem xQ{prog:Program}{w:World}{Z:FZ}{h:Heap}(kz:∀ b o,Z b=some o->h.get? b=some o){ks:List Int}{a:Addr}{items:Array Value}{k:Nat}(z:Z a=some (yH items k))(v:VRL Z (ks.map T.int) items.toList) :
  (tupleKind (intKind prog w)).is h ks a:=⟨_,items,k,kz _ _ z,rfl,rfl,items_are v⟩
theorem UC{o:Obj}{ds:Array DictEntry}{ep:Nat}(h:o.ExactDict)(e:o.data=.dict ds ep):o={ cls:=.type "dict",dict:=none,data:=.dict ds ep,slots:=#[] }:=by
 obtain⟨c,dd,dt,sl⟩:=o;obtain⟨h1,h2,h3⟩:=h;dsimp only at h1 h2 h3 e;subst h1 h2 h3 e;rfl
theorem ut{prog:Program}{w:World}{mem:List jB}(c:jH X d mem fr s){i:Nat}{es:List (T×V)}{ep:Nat}(hi:i<jA mem)(h:jC mem i=.dict es ep) :
  jT (d.role (d.rho i)=some (.obj i)) ((d.rho i == sysModules)=false) (∃ xs,s.heap.DictOfH (tupleKind (intKind prog w)) (d.rho i) xs/\DX d (jA mem) es xs):=by
 have o:=c.mem i hi;replace o:=h▸o;obtain⟨r,ne,ds,g,v⟩:=o;refine⟨r,Bh.mpr ne,?_⟩;generalize hl:ds.toList=dl at v;induction v using Dp with
 | nil=>
   refine⟨[],⟨_,ds,ep,g,⟨rfl,rfl,rfl⟩,rfl,hl,?_,List.nodup_nil⟩,.nil⟩;intro x hx;simp at hx
 | one z u vv=>
   refine⟨[(_,_,_)],⟨_,ds,ep,g,⟨rfl,rfl,rfl⟩,rfl,hl,?_,by simp⟩,.one z u vv⟩;intro x hx;refine rwl (BG.mp hx) ?_;exact xQ c.zin z u
theorem dict_back{prog:Program}{w:World}{d':Lay}{h:Heap}{a:Addr}{n:Nat}{es:List (T×V)}{xs:List (List Int×Addr×Value)}(o:h.DictOfH (tupleKind (intKind prog w)) a xs)(x:DX d n es xs) :
  Ex2 λ ep ds=>h.get? a=some { cls:=.type "dict",dict:=none,data:=.dict ds ep,slots:=#[] }/\DR d n es ds.toList:=by
 obtain⟨o,ds,ep,g,e,hd,hl,_,_⟩:=o;refine⟨ep,ds,by exact rwl g (rwl (UC e hd) rfl),?_⟩;refine rwl hl ?_;induction x using DX.casesOn with
 | nil=>exact .nil
 | one z u v=>exact .one z u v
theorem eqL_ints(a b:List Int):T.eqL (a.map T.int) (b.map T.int)=decide (a=b):=by
 induction a generalizing b with
 | nil=>induction b using BA with
   | nil=>rfl
   | cons=>rfl
 | cons x a ih=>induction b using BA with
   | nil=>rfl
   | cons y b=>
     show((x == y)&&T.eqL (a.map T.int) (b.map T.int))=_;refine rwl (ih b) ?_;by_cases h:x=y <;> by_cases h':a=b <;> simp[h,h']
noncomputable def Dr:=@V.casesOn
theorem QX{x:V}{i:Int}(h:intV x=some i){n:Nat}{val:Value}(hv:VV d n x val):x=.p (.int i)/\∃ t,val=.int i t:=by
 induction x using Dr with
 | p t=>induction t using Dq with
   | int j=>obtain rfl:=B9 h;exact⟨rfl,hv.inv.inv⟩
   | _=>exact nsm h
 | _=>exact nsm h
theorem den_cmpI{op:CmpOp}{x y:Int}{t u:Tok}{kb:Bool->Prop}(h:cmpI op x y kb)(q:∀ b,kb b->Q (.bool b) s):wpAny (model X.prog X.w) A (compareOp op (.int x t) (.int y u)) Q E s:=by
 induction op using CmpOp.casesOn with
 | Lt=>exact PySem.P.lt_int (q _ h)
 | LtE=>exact PySem.P.le_int (q _ h)
 | Gt=>exact PySem.P.gt_int (q _ h)
 | GtE=>exact PySem.P.ge_int (q _ h)
 | Eq=>exact PySem.P.eq_int (q _ h)
 | NotEq=>exact PySem.P.ne_int (q _ h)
 | _=>exact fe h
theorem Yq{x y:V}{vx vy:Value}{n:Nat}(hx:VV d n x vx)(hy:VV d n y vy){kb:Bool->Prop}(h:cmpIs x y kb):jT (vy=.none) (PySem.plainIs vx .none=true) (kb (vx == .none)):=by
 induction y using Dr with
 | p t=>induction t using Dq with
   | none=>
     obtain⟨e,h⟩:=jn h;obtain⟨e1,e2⟩:=is_none hx e;exact⟨hy.inv.inv,e1,rwl e2 h⟩
   | _=>exact fe h
 | _=>exact fe h
theorem Ys(l:Loc X d env fr st s)(hu:A.units+8<cLine){x y:V}{vx vy:Value}(hx:VV d (jA st.mem) x vx)(hy:VV d (jA st.mem) y vy){kb:Bool->Prop}(h:XG x y st.mem kb):∃ b,jT (RcAt A s vx vy b) (RcNeAt A s vx vy (!b)) (kb b):=by
 unfold XG at h;cases ex:lstT? st.mem x with
 | none=>replace h:=ex▸h;exact h.elim
 | some tx=>
   replace h:=ex▸h;cases ey:lstT? st.mem y with
   | none=>replace h:=ey▸h;exact h.elim
   | some ty=>
     replace h:=ey▸h;obtain⟨h1,h⟩:=h;obtain⟨a,b⟩:=rc_T (A:=A) l hu hx hy ex ey h1;exact⟨_,a,b,h⟩
theorem Yr{n:Nat}{y:V}{vy:Value}{x:Int}(hy:VV d n y vy){kb:Bool->Prop}(h:cmpIn x y kb):Ex4 λ(ns:List Int) (a:Addr) (its:Array Value) (m:Nat)=>jj (vy=.ref a) (d.Z a=some (jS its m)) (VRL d.Z (ns.map T.int) its.toList) (kb (ns.any λ i=>i == x)):=by
 induction y using Dr with
 | p t=>induction t using Dq with
   | lst ts=>
     obtain⟨a,its,m,rfl,z,r⟩:=hy.inv.inv;have h:(match T.ints ts with | .some ns=>kb (ns.any λ i=>i == x) | .none=>False):=h;cases e:T.ints ts with
     | none=>replace h:=e▸h;exact h.elim
     | some ns=>
       replace h:=e▸h;replace r:=(yk e)▸r;exact⟨ns,_,_,_,rfl,z,r,h⟩
   | _=>exact fe h
 | _=>exact fe h
theorem cmpDi_of{x:List T}{es:List (T×V)}{ep:Nat}{kb:Bool->Prop}(h:cmpDi x (.dict es ep) kb):∃ ks:List Int,x=ks.map T.int/\kb (!es.any λ e=>T.eqB e.1 (.tup x)):=by
 have h:(match T.ints x with | .some _=>kb (!es.any λ e=>T.eqB e.1 (.tup x)) | .none=>False):=h;cases e:T.ints x with
 | none=>replace h:=e▸h;exact h.elim
 | some ks=>replace h:=e▸h;exact⟨ks,yk e,h⟩
theorem Yh(l:Loc X d env fr st s)(a:AOk A fr r){op:CmpOp}{x y:V}{vx vy:Value}(hx:VV d (jA st.mem) x vx)(hy:VV d (jA st.mem) y vy){kb:Bool->Prop}
  (h:cmpG op x y st kb) (q2:∀ b t,kb b->Q (.bool b) { s with toks:=t }):wpAny (model X.prog X.w) A (compareOp op vx vy) Q E s:=by
 have q:∀ b,kb b->Q (.bool b) s:=λ b=>q2 b s.toks;have hu:A.units+8<cLine:=by have:=a.uni;show A.units+8<9900;lia
 induction op using CmpOp.casesOn with
 | Is=>
   obtain⟨rfl,e1,h⟩:=Yq hx hy h;exact wpAny_is_plain e1 (q _ h)
 | IsNot=>
   obtain⟨rfl,e1,h⟩:=Yq hx hy h;exact wpAny_isNot_plain e1 (q _ h)
 | Eq=>
   obtain⟨b,h1,h2,h⟩:=Ys (A:=A) l hu hx hy h;exact h1 _ _ _ _ (q _ h)
 | NotEq=>
   obtain⟨b,h1,h2,h⟩:=Ys (A:=A) l hu hx hy h;exact h2 _ _ _ _ (q _ h)
 | In=>induction x using Dr with
   | p x=>induction x using Dq with
     | int i=>
       obtain⟨t,rfl⟩:=hx.inv.inv;obtain⟨ns,_,_,_,rfl,z,r,h⟩:=Yr hy (kb:=kb) h;exact in_ints (l.core.zin _ _ z) r (q _ h)
     | _=>exact fe h
   | _=>exact fe h
 | NotIn=>induction x using Dr with
   | p x=>induction x using Dq with
     | int i=>
       obtain⟨t,rfl⟩:=hx.inv.inv;obtain⟨ns,_,_,_,rfl,z,r,h⟩:=Yr hy (kb:=kNt' kb) h;exact WI (l.core.zin _ _ z) r (q _ h)
     | tup x=>induction y using Dr with
       | m i=>
         obtain⟨a0,its,m0,rfl,z,u⟩:=hx.inv.inv;obtain⟨hi,rfl⟩:=hy.inv;have h:cmpDi _ (jC st.mem i) kb:=h;cases e:jC st.mem i with
         | dict es ep=>
           replace h:=e▸h;obtain⟨ks,e2,h⟩:=cmpDi_of h;subst e2;obtain⟨_,ne,xs,o,dx⟩:=ut (prog:=X.prog) (w:=X.w) l.core hi e;refine wpAny_notIn_heap (show A.in1.units<cLine from by show A.units+1<cLine;lia) (xQ l.core.zin z u) ne o ?_;refine q2 _ _ ?_;have e3:(es.any λ e=>T.eqB e.1 (.tup (ks.map T.int)))=(atKey xs ks).isSome:=by
            induction dx using DX.casesOn with
            | nil=>rfl
            | @one k2 a2 _ _ _ v2 _ _ _=>
              simp only[Cz,List.any_nil,Bool.or_false,atKey,List.find?_cons,List.find?_nil];rw[wg,eqL_ints];by_cases hk:k2=ks <;> simp[hk]
           refine rwl e3.symm ?_;exact h
         | _=>replace h:=e▸h;exact fe h
       | _=>exact fe h
     | _=>exact fe h
   | _=>exact fe h
 | _=>exact fe h
theorem wh(l:Loc X d env fr st s)(a:AOk A fr r){op:CmpOp}{x y:V}{vx vy:Value}(hx:VV d (jA st.mem) x vx)(hy:VV d (jA st.mem) y vy){kb:Bool->Prop}
  (h:xk op x y st kb) (q2:∀ b t,kb b->Q (.bool b) { s with toks:=t }):wpAny (model X.prog X.w) A (compareOp op vx vy) Q E s:=by
 unfold xk at h;cases e1:intV x with
 | none=>replace h:=e1▸h;exact Yh l a hx hy h q2
 | some i=>
   replace h:=e1▸h;cases e2:intV y with
   | none=>replace h:=e2▸h;exact Yh l a hx hy h q2
   | some j=>
     replace h:=e2▸h;obtain⟨_,t,rfl⟩:=QX e1 hx;obtain⟨_,u,rfl⟩:=QX e2 hy;exact den_cmpI h λ b=>q2 b s.toks
end
end
theorem wd{x y:Str}{k:Tok}:(Value.str x k).isStr y=true↔x=y:=by show(x == y)=true↔_;exact beq_iff_eq
theorem wf{h:Int}{x y:Str}{k:Tok}{v:Value}{es:List DictEntry}:getL y (⟨h,.str x k,v⟩::es)=if y=x then some (some v) else getL y es:=by
 unfold getL;rw[List.find?_cons];by_cases q:y=x
 ·subst q;rw[BJ rfl,wd.mpr rfl]
 ·have:(Value.str x k).isStr y=false:=Bool.eq_false_iff.mpr λ e=>q (wd.mp e).symm;rw[BE q];dsimp only;rw[this,Cz];rfl
set_option tactic.hygienic true in
theorem vrf_get{Z:FZ}{x:Str}{t:T}{fs:List (Str×T)}{es:List DictEntry}(r:VRF Z fs es)(h:lk x fs=some t):∃ v,getL x es=some (some v)/\VR Z t v:=by
 induction r using VRF.ind with
 | h0=>exact nsm h
 | h1 a r ih=>
   rw[j7] at h;rw[wf];split at h
   ·rename_i q;rw[BJ q];obtain rfl:=B9 h;exact⟨_,rfl,a⟩
   ·rename_i q;rw[BE q];exact ih h
set_option tactic.hygienic true in
theorem vrf_none{Z:FZ}{x:Str}{fs:List (Str×T)}{es:List DictEntry}(r:VRF Z fs es)(h:lk x fs=none):getL x es=some none:=by
 induction r using VRF.ind with
 | h0=>rfl
 | h1 a r ih=>
   rw[j7] at h;rw[wf];split at h
   ·exact nomatch h
   ·rename_i q;rw[BE q];exact ih h
set_option tactic.hygienic true in
theorem UZ{d:Lay}{n:Nat}{x:Str}{t:V}{fs:List (Str×V)}{es:List DictEntry}(r:VVF d n fs es)(h:lk x fs=some t):∃ v,getL x es=some (some v)/\VV d n t v:=by
 induction r with
 | nil=>exact nsm h
 | cons a r ih=>
   rw[j7] at h;rw[wf];split at h
   ·rename_i q;rw[BJ q];obtain rfl:=B9 h;exact⟨_,rfl,a⟩
   ·rename_i q;rw[BE q];exact ih h
set_option tactic.hygienic true in
theorem Zj{d:Lay}{n:Nat}{x:Str}{fs:List (Str×V)}{es:List DictEntry}(r:VVF d n fs es)(h:lk x fs=none):getL x es=some none:=by
 induction r with
 | nil=>rfl
 | cons a r ih=>
   rw[j7] at h;rw[wf];split at h
   ·exact nomatch h
   ·rename_i q;rw[BE q];exact ih h
theorem vvf_len{d:Lay}{n:Nat}{fs:List (Str×V)}{es:List DictEntry}(r:VVF d n fs es):es.length=fs.length:=by
 induction r with
 | nil=>rfl
 | cons _ _ ih=>rw[Bw,Bw,ih]
theorem vvf_put{d:Lay}{n:Nat}{x:Str}{t:V}{v:Value}{hsh:Int}{tk:Tok}(hv:VV d n t v){fs:List (Str×V)}{es:List DictEntry}(r:VVF d n fs es):VVF d n (put x t fs) (putL x hsh (.str x tk) v es):=by
 induction r with
 | nil=>exact .cons hv .nil
 | @cons y k hh t' v' fs es a r ih=>
   show VVF d n (@Bool.rec (λ _=>List (Str×V)) ((y,t')::put x t fs) ((y,t)::fs) (seq x y)) (if(Value.str y k).isStr x then⟨hh,.str y k,v⟩::es else⟨hh,.str y k,v'⟩::putL x hsh (.str x tk) v es);cases e:seq x y with
   | true=>
     rw[BJ (wd.mpr (qc.mp e).symm)];exact .cons hv r
   | false=>
     rw[BE λ q=>yU.mp e (wd.mp q).symm];exact .cons a ih
theorem Zw{name:Str}{hsh:Int}{key v:Value}:∀ es:List DictEntry,(putL name hsh key v es).length<=es.length+1:=by
 intro es;induction es with
 | nil=>
   exact BN _
 | cons e r ih=>
   unfold putL;split
   ·exact BW _
   ·exact DB (ih)
theorem QC{Z:FZ}{t:T}{v:Value}(h:VR Z t v):handedIn v=true:=by
 induction h using Dn with
 | bi b e=>
   subst e;cases b <;> first | rfl | decide +kernel
 | _=>rfl
theorem XX{d:Lay}{n:Nat}{t:V}{v:Value}(h:VV d n t v):handedIn v=true:=by
 induction h using Do with
 | p h=>exact QC h
 | m=>rfl
 | lam=>rfl
set_option tactic.hygienic true in
theorem osa_set{prog:Program}{w:World}{A:Around}{R:Result->Shared->Prop}{s:Shared}{K:Frag}{x C:Addr}{ox:Obj}{dx:Addr}{name:Str}{tk:Tok}{v:Value}{es:List DictEntry}{n:Nat}(X:K.In s.heap)
  (I:InstAt s.heap x ox C (some (dictOf es n))) (hd:ox.dict=some dx) (hp:plainOver K C=true) (ht:takerIn K C name=some none) (hh:hasDictIn K C=true) (hl:(getL name es).isSome=true) (hz:es.length<=1000)
  (h:∀ h' n',Heap.SameBut dx s.heap h'->h'.get? dx=some (dictOf (putL name (PyData.keyHash w.params name) (.str name s.toks) v es) n')->R (.ok (.ret .none)) { s with heap:=h',toks:=s.toks+1 }) :
  codeAny (model prog w) A (.call (.builtin "object.__setattr__") ⟨[.ref x,.str name tk,v],[]⟩) R s:=by
 refine osa_open X I hp ht λ b=>?_;obtain⟨cd,hc,hd'⟩:=any_some hh;have e:=putName_dict name (PyData.keyHash w.params name) (.str name s.toks) v es n;obtain⟨hx,hcl,hn,D⟩:=I;obtain⟨oc,odi,oda,osl⟩:=ox;dsimp only at hcl hd D;subst hcl hd;dsimp only at D;have D':(s.heap.update dx (Obj.putName name (PyData.keyHash w.params name) (.str name s.toks) v)).get? dx=some (dictOf (putL name (PyData.keyHash w.params name) (.str name s.toks) v es) (putN name es n)):=by
  rw[<- e];exact CX _ D (by rw[e];rfl)
 refine B0 (BC (B0 (B0 (wpAny_loadPart hx (B0 ((looks_clsIn X hc).here ?_))))));rw[hd'];refine BC (a:=some dx) (B0 (BC (B0 ?_)));unfold nsSet;refine B0 (B0 (wpAny_askSetting (BC (B0 (wpAny_mkText (B0 (wpAny_loadPart D ?_)))))));dsimp only;have c:(!es.toArray.any (·.key.isStr name)&&es.toArray.any (·.refKey))=false:=by
  unfold getL at hl;rw[<- Array.any_toList,<- Array.any_toList,CI];split at hl
  ·rename_i en he;rw[List.any_eq_true.mpr ⟨en,List.mem_of_find?_eq_some he,List.find?_some he⟩];rfl
  ·split at hl
   ·exact ff hl
   ·rename_i z;rw[Bool.not_eq_true] at z;rw[z,Bool.and_false]
 rw[aRefKeyMayBeTheName_at,c];refine wpAny_updatePart D ?_;refine B0 (wpAny_lookBehind D' (pastItsLine_dict (by rw[DM,CE];have:=Zw (name:=name) (hsh:=PyData.keyHash w.params name) (key:=.str name s.toks) (v:=v) es;lia)) ?_);exact BC (h _ _ (Dg ..) D')
section
variable{X:Run}{r:Nat}{self:jK->Prop}{A:Around}{fr:List Env}{d:Lay}{env:Env}{s:Shared}{st:St}{Q:Value->Shared->Prop}{E:Value->Shared->Prop}{k:K}{kx:KX}
theorem QY(l:Loc X d env fr st s){i:Nat}{C:Addr}{fs:List (Str×V)}(hi:i<jA st.mem)(e:jC st.mem i=.inst C fs) :
  Ex4 λ ox es n dx=>vj (InstAt s.heap (d.rho i) ox C (some (dictOf es n))) (ox.dict=some dx) (d.role dx=some (.dct i)) (d.role (d.rho i)=some (.obj i)) (VVF d (jA st.mem) fs es):=by
 have c:=l.core.mem i hi;rw[e] at c;obtain⟨r0,dx,sl,es,n,g,rd,gd,f⟩:=c;exact⟨_,es,n,dx,⟨g,rfl,rfl,gd⟩,rfl,rd,r0,f⟩
theorem xY{o:jB}{f:Addr->List (Str×V)->Prop}(h:Uv o f):Ex2 λ C fs=>o=.inst C fs/\f C fs:=by
 induction o using jB.casesOn with
 | inst C fs=>exact⟨C,fs,rfl,h⟩
 | _=>exact fe h
theorem Uy{α:Type}{n:Str}{f:α->Prop}{C:Addr}{fs:List (Str×α)}(h:getF n f C fs):xr C n=true/\∃ t,lk n fs=some t/\f t:=by
 obtain⟨e,h⟩:=jn h;exact⟨e,jV h⟩
theorem Yg(ok:jo X)(l:Loc X d env fr st s){v:V}{val:Value}{n:Str}(hv:VV d (jA st.mem) v val)(h:Ux v n st k)(q:PE X d (jA st.mem) env fr k Q){ex:Bool} :
  wpAny (model X.prog X.w) A (getAttr val n ex) Q E s:=by
 obtain⟨K,hK,hat,_⟩:=ok.k;have hK:=hK.keeps l.stays;induction hv using Do with
 | p hv=>induction hv using Dn with
   | @inst C fs a dx sl es n' z zd f=>
     have I:InstAt s.heap a _ C (some (dictOf es n')):=⟨l.core.zin _ _ z,rfl,rfl,l.core.zin _ _ zd⟩;obtain⟨ha,t,hl,h⟩:=Uy (f:=kP st k) h;obtain⟨u,hu,hvu⟩:=vrf_get f hl;obtain⟨c,attr,h1,h2,h3⟩:=hat C n ha;exact get_value hK I c.ga (findObj_own c.hd h1 h2 hu) (QC hvu) (q.toks l h (.p hvu))
   | _=>exact fe h
 | m hi=>
   obtain⟨C,fs,e,h⟩:=xY (f:=getF n (kV st k)) h;obtain⟨ha,t,hl,h⟩:=Uy h;obtain⟨ox,es,n',dx,I,_,_,_,f⟩:=QY l hi e;obtain⟨u,hu,hvu⟩:=UZ f hl;obtain⟨c,attr,h1,h2,h3⟩:=hat C n ha;exact get_value hK I c.ga (findObj_own c.hd h1 h2 hu) (XX hvu) (q.toks l h hvu)
 | lam=>exact fe h
theorem wT{mem:List jB}{i:Nat}{o:jB}:jA (jp mem i o)=jA mem:=jW mem i o
theorem Loc.write(l:Loc X d env fr st s){i:Nat}{o:jB}{a:Addr}{s':Shared}(hi:i<jA st.mem)(ha:d.role a=some (.obj i)\/d.role a=some (.dct i))(hs:Heap.SameBut a s.heap s'.heap)
  (hx:∃ oa,s'.heap.get? a=some oa) (hr:zN d (jA st.mem) s'.heap i o) (hg:s'.gens=s.gens:=by rfl) (ho:s'.os=s.os:=by rfl):Loc X d env fr (st.wm (jp st.mem i o)) s':=by
 have ne:∀ b r,d.role b=some r->r≠.obj i->r≠.dct i->b≠a:=λ b r h h1 h2 q=>by
  rw[q] at h;rcases ha with ha | ha <;> rw[ha] at h <;> obtain rfl:=B9 h
  ·exact h1 rfl
  ·exact h2 rfl
 have nz:∀ b o,d.Z b=some o->b≠a:=λ b o e q=>by
  rw[q] at e;rcases ha with ha | ha <;> (rw[l.core.zr a _ ha] at e;exact nsm e)
 have len:jA (jp st.mem i o)=jA st.mem:=wT;refine⟨⟨hg.trans l.core.gens,ho.trans l.core.os,l.core.base,λ b o' e=>(hs.2 b (nz b o' e)).trans (l.core.zin b o' e),l.core.zr,λ b r' e=>?_,λ b o' e=>?_,λ j hj=>?_,l.core.tab.mono (λ _ _ e=>e) (λ r=>r) (λ o e=>(hs.2 qA (ne qA _ l.core.tab.1 nofun nofun)).trans e),λ e he=>?_⟩,l.kind,l.sc,l.glob,l.blt,l.top,l.role,?_,λ y v h1 h2=>?_,λ y h1 h2=>?_⟩
 ·by_cases z:b=a
  ·subst z;exact hx
  ·obtain⟨o',h'⟩:=l.core.rin b r' e;exact⟨o',(hs.2 b z).trans h'⟩
 ·obtain⟨r',sl,h',hz⟩:=l.core.pin b o' e;exact⟨r',sl,(hs.2 b (ne b _ r' nofun nofun)).trans h',hz⟩
 ·have hj:j<jA (jp st.mem i o):=hj;rw[len] at hj;show zN d (jA (jp st.mem i o)) s'.heap j (jC (jp st.mem i o) j);rw[len,j4 _ _ _ _ hi];by_cases z:j=i
  ·subst z;rw[BJ rfl];exact hr
  ·rw[BE z];refine(l.core.mem j hj).mono (Ext.refl _ _) hj (λ _ _=>rfl) λ b o' h' e=>(hs.2 b ?_).trans e;rcases h' with h' | h'
   ·exact ne b _ h' (λ q=>z (by cases q;rfl)) nofun
   ·exact ne b _ h' nofun (λ q=>z (by cases q;rfl))
 ·obtain⟨a',L,o',f,r',g,q⟩:=l.core.fr e he;refine⟨a',L,o',f,r',(hs.2 L ?_).trans g,q⟩;rcases r' with r' | r' <;> exact ne L _ r' nofun nofun
 ·obtain⟨m,hm,h⟩:=l.ns;refine⟨m,hm.sameBut hs (ne _ _ l.role nofun nofun),λ y v h1 h2=>?_⟩;obtain⟨val,e,z⟩:=h y v h1 h2;exact⟨val,e,by show VV d (jA (jp st.mem i o)) v val;rw[len];exact z⟩
 ·obtain⟨c,val,o',g1,g2,g3,g4⟩:=l.cel y v h1 h2;exact⟨c,val,o',g1,g2,g3,by show VV d (jA (jp st.mem i o)) v val;rw[len];exact g4⟩
 ·obtain⟨c,o',g1,g2,g3,g4⟩:=l.ucel y h1 h2;exact⟨c,o',g1,(hs.2 c (ne c _ g4 nofun nofun)).trans g2,g3,g4⟩
theorem Ye(ok:jo X)(l:Loc X d env fr st s){v u:V}{val uv:Value}{n:Str}{ku:St->Prop}{Qu:Unit->Shared->Prop}(hv:VV d (jA st.mem) v val)(hu:VV d (jA st.mem) u uv)(h:Ud v n u st ku)
  (q:PU X d (jA st.mem) env fr ku Qu):wpAny (model X.prog X.w) A (setAttr val n uv) Qu E s:=by
 obtain⟨K,hK,hat,_⟩:=ok.k;have hK:=hK.keeps l.stays;induction hv using Do with
 | @m i hi=>
   obtain⟨C,fs,e,h⟩:=xY (f:=setF i n u st ku) h;obtain⟨e2,h⟩:=jn h;obtain⟨ha,hsh⟩:=BD.mp e2;obtain⟨c,attr,h1,h2,h3⟩:=hat C n ha;have c0:=l.core.mem i hi;rw[e] at c0;obtain⟨ro,dx,sl,es,n',g0,rd,gd,f⟩:=c0;have hlen:es.length<=1000:=by
    rw[vvf_len f];exact BF (Nat.le_of_lt (Co.mp hsh)) (by decide)
   have hl:(getL n es).isSome=true:=by
    cases z:lk n fs with
    | none=>rw[Zj f z];rfl
    | some t=>obtain⟨w,hw,_⟩:=UZ f z;rw[hw];rfl
   have I:InstAt s.heap (d.rho i) _ C (some (dictOf es n')):=⟨g0,rfl,rfl,gd⟩;refine set_plain hK I c.sa (osa_set (s:={ s with toks:=s.toks+1 }) hK I rfl c.po h3 c.hd hl hlen λ h' n'' hs hg=>?_);refine q _ d _ h (by have:=Ext.refl d (jA st.mem);rwa [show jA (st.wm (jp st.mem i (.inst C (put n u fs)))).mem=jA st.mem from wT]) (l.write (s':={ s with heap:=h',toks:=s.toks+1+1 }) hi (.inr rd) hs ⟨_,hg⟩ ⟨ro,dx,sl,_,n'',(hs.2 _ λ z=>?_).trans g0,rd,hg,vvf_put hu f⟩);rw[z,rd] at ro;cases ro
 | _=>exact fe h
theorem noF_of{α:Type}{n:Str}{C D:Addr}{fs:List (Str×α)}(h:noF n C fs=some D):C=D/\lk n fs=none:=by
 unfold noF at h;cases e:lk n fs with
 | none=>rw[e] at h;obtain rfl:=B9 h;exact⟨rfl,rfl⟩
 | some t=>rw[e] at h;exact nomatch h
theorem UH(ok:jo X)(l:Loc X d env fr st s){v:V}{val:Value}{n:Str}{C f:Addr}{pl:Sem Bool}{Qm:Value×List Value->Shared->Prop}(hv:VV d (jA st.mem) v val)(hc:clsV st.mem n v=some C)(hm:ZJ C n=some f)
  (q:Qm (.ref f,[val]) s):wpAny (model X.prog X.w) A (getMethod val n pl) Qm E s:=by
 obtain⟨K,hK,_,hme,_⟩:=ok.k;obtain⟨c,h1,h2,_⟩:=hme C n f hm;have hK:=hK.keeps l.stays;induction hv using Do with
 | p hv=>induction hv using Dn with
   | @inst C' fs a dx sl es n' z zd ff=>
     have I:InstAt s.heap a _ C' (some (dictOf es n')):=⟨l.core.zin _ _ z,rfl,rfl,l.core.zin _ _ zd⟩;obtain⟨rfl,hl⟩:=noF_of (fs:=fs) hc;exact method_fn hK I c.ga c.gt h1 h2 (by show(lookIn n (dictOf es n')).map _=_;rw[lookIn_dict,vrf_none ff hl];rfl) q
   | _=>exact nsm hc
 | @m i hi=>
   have hc:(match jC st.mem i with | .inst C fs=>noF n C fs | _=>none)=some C:=hc;cases e:jC st.mem i with
   | inst C' fs=>
     rw[e] at hc;obtain⟨rfl,hl⟩:=noF_of (fs:=fs) hc;obtain⟨ox,es,n',dx,I,_,_,_,ff⟩:=QY l hi e;exact method_fn hK I c.ga c.gt h1 h2 (by show(lookIn n (dictOf es n')).map _=_;rw[lookIn_dict,Zj ff hl];rfl) q
   | _=>rw[e] at hc;exact nomatch hc
 | lam=>exact nsm hc
end
theorem vvl_get{d:Lay}{n:Nat}{a:List V}{x:List Value}(h:VVL d n a x):∀(j:Nat) (t:V),a[j]?=some t->∃ v,x[j]?=some v/\VV d n t v:=by
 induction h with
 | nil=>intro j t e;exact nsm e
 | @cons t v ts vs u r ih=>
   intro j t' e;induction j using CD with
   | zero=>obtain rfl:=B9 e;exact⟨v,rfl,u⟩
   | succ j=>exact ih j t' e
theorem qQ?{Z:FZ}{a:List T}{x:List Value}(h:VRL Z a x):∀(j:Nat) (t:T),a[j]?=some t->∃ v,x[j]?=some v/\VR Z t v:=by
 induction h using VRL.ind with
 | h0=>intro j t e;exact nsm e
 | h1 u r ih=>
   intro j t' e;induction j using CD with
   | zero=>obtain rfl:=B9 e;exact⟨_,rfl,u⟩
   | succ j=>exact ih j t' e
theorem wD{n:Nat}{i:Int}{j:Nat}(h:wE n i=some j):(i=(j:Int)/\j<1000)\/(i<0/\-(n:Int)<=i/\-1000<=i/\(i+n).toNat=j):=by
 induction i using Int.casesOn with
 | ofNat m=>
   have h:(match Nat.blt m 1000 with | true=>some m | false=>none)=some j:=h;cases e:Nat.blt m 1000 with
   | true=>replace h:=e▸h;obtain rfl:=B9 h;exact .inl ⟨rfl,Co.mp e⟩
   | false=>replace h:=e▸h;exact nomatch h
 | negSucc m=>
   have h:(match Nat.ble (m+1) n&&Nat.blt m 1000 with | true=>some (n-(m+1)) | false=>none)=some j:=h;cases e:Nat.ble (m+1) n&&Nat.blt m 1000 with
   | true=>
     replace h:=e▸h;obtain rfl:=B9 h;obtain⟨e1,e2⟩:=BD.mp e;have e1:=Nat.ble_eq.mp e1;have e2:=Co.mp e2;exact .inr ⟨Int.negSucc_lt_zero m,Int.neg_le_neg (Bv.mpr e1),Int.neg_le_neg (Bv.mpr e2),rwl (CS _ _) (Int.toNat_sub n (m+1))⟩
   | false=>replace h:=e▸h;exact nomatch h
theorem ul{α:Type}{l:List α}{i:Int}{x:α}(h:item? l i=some x):∃ m,wE l.length i=some m/\l[m]?=some x:=by
 unfold item? at h;cases e:wE l.length i with
 | none=>replace h:=e▸h;exact nomatch h
 | some m=>replace h:=e▸h;exact⟨m,rfl,h⟩
section
variable{X:Run}{r:Nat}{self:jK->Prop}{A:Around}{fr:List Env}{d:Lay}{env:Env}{s:Shared}{st:St}{Q:Value->Shared->Prop}{E:Value->Shared->Prop}{k:K}{kx:KX}
theorem zl{prog:Program}{w:World}{l:Addr}{items:Array Value}{k:Int}{u:Tok}{j:Nat}{x:Value}(hl:s.heap.IsList l items)(h:wE items.size k=some j)(hx:items[j]?=some x)(q:Q x s) :
  wpAny (model prog w) A (getItem (.ref l) (.int k u)) Q E s:=by
 rcases wD h with ⟨rfl,h2⟩ | ⟨h1,h2,h3,h4⟩
 ·exact wpAny_getItem_list hl (Bb _) (Bj (Cq.mpr h2) (by decide)) (by simpa using hx) q
 ·exact wpAny_getItem_list_neg hl h1 h2 (BM (by decide) h3) (rwl h4 hx) q
theorem Q1{n:Nat}{k:Int}{j:Nat}(h:wE n k=some j)(hj:j<n):seqIndex? k n=some j:=by
 unfold seqIndex?;rcases wD h with ⟨rfl,h2⟩ | ⟨h1,h2,h3,h4⟩
 ·have:¬ ((j:Int)<0):=Bg.mpr (Bb _);simp[this,hj]
 ·simp only[h1,if_true];have:0<=k+(n:Int)/\k+(n:Int)<n:=⟨(Int.sub_neg k n)▸CP h2,Int.add_lt_of_lt_sub_right (rwl (Int.sub_self _) h1)⟩;simp[this.1,this.2,h4]
theorem X6{α:Type}{l:List α}{j:Nat}{x:α}(h:l[j]?=some x):j<l.length:=(Cb.mp h).1
theorem UT(k:List Int)(a:Addr)(v:Value):atKey [(k,a,v)] k=some (a,v):=by
 unfold atKey;refine rwl (List.find?_cons) ?_;simp
theorem Qi(ks:List Int)(key:List T)(h:T.eqL (ks.map T.int) key=true):key=ks.map T.int:=by
 induction ks generalizing key with
 | nil=>induction key using BA with
   | nil=>rfl
   | cons=>exact ff h
 | cons k ks ih=>induction key using BA with
   | nil=>exact ff h
   | cons t key=>
     obtain⟨h1,h2⟩:=BD.mp h;refine rwl (ih key h2) ?_;induction t using Dq with
     | int i=>refine rwl (eq_of_beq (show(k == i)=true from h1)) ?_;rfl
     | _=>exact ff h1
abbrev GetI(X:Run)(A:Around)(va vi:Value)(Q E:Value->Shared->Prop)(s:Shared):Prop:=wpAny (model X.prog X.w) A (getItem va vi) Q E s/\Ex2 λ T id=>s.TypeIs va T/\typeLookup (.type T) "__getitem__"=pure (some (.builtin id))
theorem uo{x:Addr}{items:Array Value}{n:Nat}{vi:Value}(hz:s.heap.get? x=some (jS items n))(h:wpAny (model X.prog X.w) A (getItem (.ref x) vi) Q E s):GetI X A (.ref x) vi Q E s:=⟨h,"list",_,⟨_,hz,rfl⟩,slot_list_getitem.lookup⟩
theorem den_getI(l:Loc X d env fr st s){a:T}{j:Int}{u:Tok}{va:Value}(ha:VR d.Z a va){lit:Bool}(h:getI lit a j st k)(q:PE X d (jA st.mem) env fr k Q):GetI X A va (.int j u) Q E s:=by
 induction ha using Dn with
 | tup z r=>
   obtain⟨t,e,h⟩:=jV (f:=kP st k) h;obtain⟨m,em,e⟩:=ul e;obtain⟨v,e1,hv⟩:=qQ? r m t e;have hl:=jk r;replace em:=hl.symm▸em;have hm:=X6 e;replace hm:=hl.symm▸hm;have hz:=l.core.zin _ _ z;have fit:-(2^63)<=j/\j<2^63:=by
    rcases wD em with ⟨rfl,h2⟩ | ⟨h1,h2,h3,h4⟩
    ·exact⟨BM (by decide) (Bb _),Bj (Cq.mpr h2) (by decide)⟩
    ·exact⟨BM (by decide) h3,Bj h1 (by decide)⟩
   exact⟨PySem.P.getItem_tuple hz fit.1 fit.2 (Q1 em hm) (by refine rwl (Bl).symm ?_;exact e1) (q.now l h (.p hv)),"tuple",_,⟨_,hz,rfl⟩,PySem.F.slot_tuple_getitem.lookup⟩
 | bytes b t=>
   obtain⟨⟨h0,h1,h2⟩,h⟩:=h;have e:b=b.toList.toArray:=by simp
   refine⟨?_,"bytes",_,typeIs_bytes s b t,FB.slot_bytes_getitem.lookup⟩;refine rwl e ?_;exact getItem_bytes (BF h0 (by decide)) h1 h2 (q.int l (by simpa using h))
 | @lst ts _ _ _ z r=>
   have hz:=l.core.zin _ _ z;refine uo hz ?_;induction lit using CM with
   | true=>
     obtain⟨t,e,h⟩:=jV (f:=kP st k) h;obtain⟨m,em,e⟩:=ul e;obtain⟨v,e1,hv⟩:=qQ? r m t e;exact zl ⟨_,hz,rfl,_,rfl⟩ (rwl (jk r) em) (by refine rwl (Bl).symm ?_;exact e1) (q.now l h (.p hv))
   | false=>
     have fin:∀ t,0<=j->j<2^40->ts[j.toNat]?=some t->k (.p t) st->wpAny (model X.prog X.w) A (getItem (.ref _) (.int j u)) Q E s:=λ t h1 h2 et h=>by
      obtain⟨v,e1,hv⟩:=qQ? r _ _ et;exact wpAny_getItem_list ⟨_,hz,rfl,_,rfl⟩ h1 (Bj h2 (by decide)) (by refine rwl (Bl).symm ?_;exact e1) (q.now l h (.p hv))
     have h:(match T.ints ts with
      | .some ns=>(ns.length<=100000/\0<=j/\j<ns.length)/\k (.p (.int (ns.getD j.toNat 0))) st
      | .none=>(ts.length<=100000/\0<=j/\j<ts.length)/\∀ t,ts[j.toNat]?=.some t->k (.p t) st):=h
     cases e:T.ints ts with
     | some ns=>
       replace h:=e▸h;obtain⟨⟨h0,h1,h2⟩,h⟩:=h;have hm:j.toNat<ns.length:=(Int.toNat_lt h1).mpr h2;exact fin _ h1 (Bz h2 (BM (Bv.mpr h0) (by decide))) (by refine rwl (yk e) (rwl (Bq) (rwl (BS hm) (rwl (List.getD_eq_getElem?_getD) (rwl (BS hm) ?_))));rfl) h
     | none=>
       replace h:=e▸h;obtain⟨⟨h0,h1,h2⟩,h⟩:=h;have et:=BS (show j.toNat<ts.length from(Int.toNat_lt h1).mpr h2);exact fin _ h1 (Bz h2 (BM (Bv.mpr h0) (by decide))) et (h _ et)
 | _=>exact fe h
theorem getD1_of{es:List (T×V)}{ep:Nat}{key:List T}(h:getD1 (.dict es ep) key st k):Ex2 λ t v=>jT (es=[(t,v)]) (T.eqB t (.tup key)=true) (k v st):=by
 induction es using BA with
 | nil=>exact fe h
 | cons e r=>induction r using BA with
   | nil=>exact⟨e.1,e.2,rfl,h.1,h.2⟩
   | cons=>exact fe h
theorem Yf(l:Loc X d env fr st s)(ak:AOk A fr r){a i:V}{va vi:Value}(ha:VV d (jA st.mem) a va)(hi:VV d (jA st.mem) i vi){lit:Bool}(h:Uw lit a i st k)(q:PE X d (jA st.mem) env fr k Q):GetI X A va vi Q E s:=by
 induction hi using Do with
 | p hi=>induction hi using Dn with
   | int j u=>induction ha using Do with
     | p ha=>exact den_getI l ha (lit:=lit) h q
     | @m n hn=>
       have h:getM (jC st.mem n) j st k:=h;have c:=l.core.mem n hn;generalize jC st.mem n=o at c h;induction o using jB.casesOn with
       | plst ts=>
         obtain⟨t,e,h⟩:=jV (f:=kP st k) h;obtain⟨m,em,e⟩:=ul e;obtain⟨c1,items,n1,c2,r⟩:=c;obtain⟨v,e1,hv⟩:=qQ? r m t e;exact uo c2 (zl ⟨_,c2,rfl,_,rfl⟩ (rwl (jk r) em) (by refine rwl (Bl).symm ?_;exact e1) (q.now l h (.p hv)))
       | vlst vs=>
         obtain⟨t,e,h⟩:=jV (f:=kV st k) h;obtain⟨m,em,e⟩:=ul e;obtain⟨c1,items,n1,c2,r⟩:=c;obtain⟨v,e1,hv⟩:=vvl_get r m t e;exact uo c2 (zl ⟨_,c2,rfl,_,rfl⟩ (by refine rwl BQ.symm (rwl (z3 r) ?_);exact em) (by refine rwl (Bl).symm ?_;exact e1) (q.now l h hv))
       | _=>exact fe h
     | lam=>exact fe h
   | tup z u=>induction ha using Do with
     | @m n hn=>
       have h:getD1 (jC st.mem n) _ st k:=h;cases em0:jC st.mem n with
       | dict es ep=>
         replace h:=em0▸h;obtain⟨t,v,rfl,h1,h2⟩:=getD1_of h;obtain⟨_,ne,xs,o,dx⟩:=ut (prog:=X.prog) (w:=X.w) l.core hn em0;cases dx with
         | @one ks _ _ _ _ val _ _ hv=>
           have h1:=Qi ks _ h1;subst h1;have hu:A.units+1<cLine:=by have:=ak.uni;show A.units+1<9900;lia
           exact⟨wpAny_getItem_heap (show A.in1.units<cLine from hu) (xQ l.core.zin z u) o (p:=(_,val)) (UT _ _ _) (q.toks l h2 hv),"dict",_,o.typeIs,slot_dict_getitem.lookup⟩
       | _=>replace h:=em0▸h;exact fe h
     | _=>exact fe h
   | _=>exact fe h
 | _=>exact fe h
end
theorem lim_lo(n:Nat)(v:Option Int):kms_lo v n=(match v with | none=>0 | some i=>lim n i):=by cases v <;> rfl
theorem lim_hi(n:Nat)(v:Option Int):kms_hi v n=(match v with | none=>n | some i=>lim n i):=by cases v <;> rfl
theorem max0(z:Int):(max 0 z).toNat=z.toNat:=by cases z <;> rfl
theorem min_cast(k n:Nat):(min (k:Int) n).toNat=min k n:=by
 rcases Nat.le_total k n with h | h
 ·rw[Int.min_eq_left (Bv.mpr h),DJ h];rfl
 ·rw[Int.min_eq_right (Bv.mpr h),Nat.min_eq_right h];rfl
theorem WJ(k n:Nat):Int.negSucc k+n<=n:=BM (DQ (Bk (Int.negSucc_lt_zero k)) n) (D8 (D0 _))
theorem lim_clip(n:Nat)(i:Int):clipAt n i=lim n i:=by
 unfold clipAt lim;cases i with
 | ofNat k=>exact(max0 _).trans (min_cast k n)
 | negSucc k=>
   rw[BJ (Int.negSucc_lt_zero k),BJ (Int.negSucc_lt_zero k),max0,Int.min_eq_left (WJ k n),CS];exact Int.toNat_sub n (k+1)
theorem wS{α:Type}(l:List α)(lo hi:Option Int):jG l lo hi=(l.drop (kms_lo lo l.length)).take (kms_hi hi l.length-kms_lo lo l.length):=by
 rw[lim_lo,lim_hi];rfl
theorem Zn{Z:FZ}{a:List T}{x:List Value}(h:VRL Z a x):∀ n:Nat,VRL Z (a.drop n) (x.drop n):=by
 induction h using VRL.ind with
 | h0=>intro n;cases n <;> exact .nil
 | h1 u r ih=>intro n;induction n using CD with
   | zero=>exact .cons u r
   | succ n=>exact ih n
theorem Zl{Z:FZ}{a:List T}{x:List Value}(h:VRL Z a x):∀ n:Nat,VRL Z (a.take n) (x.take n):=by
 induction h using VRL.ind with
 | h0=>intro n;cases n <;> exact .nil
 | h1 u r ih=>intro n;induction n using CD with
   | zero=>exact .nil
   | succ n=>exact .cons u (ih n)
theorem XY{Z:FZ}{a:List T}{x:List Value}(r:VRL Z a x)(lo hi:Option Int):VRL Z (jG a lo hi) (jG x lo hi):=by
 rw[wS,wS,jP r];exact Zl (Zn r _) _
def uZ(d:Lay)(n:Nat):Option V->Value->Prop
 | none,val=>val=.none
 | some t,val=>VV d n t val
theorem QW{d:Lay}{n:Nat}{v:Option V}{o:Option Int}{val:Value}(h:oInt v=some o)(hv:uZ d n v val):IsPart val o:=by
 induction v using BU with
 | none=>obtain rfl:=B9 h;have hv:val=.none:=hv;subst hv;exact .none
 | some v=>
   have hv:VV d n v val:=hv;cases hv with
   | p hv=>cases hv with
     | int=>obtain rfl:=B9 h;exact .int _ _
     | _=>exact nsm h
   | _=>exact nsm h
section
variable{prog:Program}{w:World}{A:Around}{E:Value->Shared->Prop}{s:Shared}
theorem wp{v:Value}{o:Option Int}{Q:Option Int->Shared->Prop}(hp:IsPart v o)(h:Q o s):wpAny (model prog w) A (Builtin.Slice.slicePartIndex v) Q E s:=by
 induction hp using IsPart.casesOn with
 | none=>exact slicePart_none h
 | int i t=>exact slicePart_int h
theorem QS{n:Nat}{o:Option Int}{a:Nat}(h:ZE n o=some a):(o=none/\a=n)\/o=some (a:Int):=by
 induction o using BU with
 | none=>obtain rfl:=B9 h;exact .inl ⟨rfl,rfl⟩
 | some i=>induction i using Int.casesOn with
   | ofNat m=>obtain rfl:=B9 h;exact .inr rfl
   | negSucc=>exact nsm h
theorem UU{lo hi:Option Int}{n a b:Nat}(h1:ZE 0 lo=some a)(h2:ZE n hi=some b)(hab:a<=b)(hb:b<=n):Builtin.Slice.sliceAdjust lo hi 1 (n:Int)=((a:Int),(b:Int)):=by
 unfold Builtin.Slice.sliceAdjust;have g1:¬ ((1:Int)<0):=by decide
 have ng:∀ a:Nat,¬ ((a:Int)<0):=λ a=>Bg.mpr (Bb a);have mn:∀ a:Nat,a<=n->min (a:Int) (n:Int)=a:=λ a q=>Int.min_eq_left (Bv.mpr q);simp only[g1,if_false];rcases QS h1 with ⟨rfl,rfl⟩ | rfl <;> rcases QS h2 with ⟨rfl,rfl⟩ | rfl
 ·simp
 ·simp only[ng,if_false];exact Bo _ (mn b hb)
 ·simp only[ng,if_false];exact Bo (Prod.mk · _) (mn a hab)
 ·simp only[ng,if_false];rw[mn a (BF hab hb),mn b hb]
theorem WF{a b:Nat}(hab:a<=b):Builtin.Slice.slicePlaces (a:Int) (b:Int) 1=b-a:=by
 unfold Builtin.Slice.slicePlaces;have h1:(1:Int) > 0:=by decide
 simp only[h1,if_true,Int.ediv_one];split
 ·rw[De];exact Int.toNat_sub b a
 ·rename_i q;exact(Nat.sub_eq_zero_of_le (Bv.mp (Bg.mp q))).symm
theorem pick_any(xs:Array Value)(a c:Nat):((List.range c).filterMap λ(k:Nat)=>xs[((a:Int)+(k:Int)*1).toNat]?)=(xs.toList.drop a).take c:=by
 have e:(λ(k:Nat)=>xs[((a:Int)+(k:Int)*1).toNat]?)=λ k=>xs[a+k]?:=by
  funext k;have:((a:Int)+(k:Int)*1).toNat=a+k:=by rw[Int.mul_one];rfl
  rw[this]
 rw[e];have:=pick_run xs a c;rw[List.filterMap_map] at this;exact this
theorem vW{t sl:Addr}{items:Array Value}{vl vu:Value}{lo hi:Option Int}{a b:Nat}{Q:Value->Shared->Prop}(ht:IsTup s.heap t items)(hs:s.heap.IsSliceOf sl vl vu .none)(pl:IsPart vl lo)(pu:IsPart vu hi)
  (h1:ZE 0 lo=some a) (h2:ZE items.size hi=some b) (hab:a<=b) (hb:b<=items.size) (hne:b-a≠items.size)
  (h:Q (.ref s.heap.objs.size) { s with heap:=s.heap.push { cls:=.type "tuple",data:=.seq ((items.toList.drop a).take (b-a)).toArray } })
  (hsz:items.size<=sizeLine):wpAny (model prog w) A (getItem (.ref t) (.ref sl)) Q E s:=by
 have hdrop:sizeOk (.seq ((items.toList.drop a).take (b-a)).toArray):=by
  show((items.toList.drop a).take (b-a)).toArray.size<=sizeLine;rw[DM,DC,Ca,BQ];exact BF (Nat.min_le_right _ _) (BF (Nat.sub_le _ _) hsz)
 obtain⟨os,hos,hcs,hds⟩:=id hs;have hTs:s.TypeIs (.ref sl) "slice":=⟨os,hos,hcs⟩;have sap:∀{Q:Int×Int×Nat->Shared->Prop} {A:Around},Q ((a:Int),1,b-a) s->wpAny (model prog w) A (Builtin.Slice.sliceApplied (.ref sl) (pure (items.size:Int))) Q E s:=by
  intro Q A h;unfold Builtin.Slice.sliceApplied Builtin.Slice.sliceFields;refine B0 (B0 (wpAny_field hos hds (x:=vl) rfl (B0 (wpAny_field hos hds (x:=vu) rfl (B0 (wpAny_field hos hds (x:=.none) rfl (BC ?_)))))));refine B0 (slicePart_none ?_);show wpAny _ _ (if((1:Int) == 0)=true then _ else _) _ _ s;rw[BE (by decide)];refine B0 (wp pl (B0 (wp pu (B0 (BC ?_)))));show wpAny _ _ (match Builtin.Slice.sliceAdjust lo hi 1 (items.size:Int) with | (lo,hi)=>pure (lo,(1:Int),Builtin.Slice.slicePlaces lo hi 1)) _ _ s;rw[UU h1 h2 hab hb];show wpAny _ _ (pure ((a:Int),(1:Int),Builtin.Slice.slicePlaces (a:Int) (b:Int) 1)) _ _ s;rw[WF hab];exact BC h
 unfold getItem
 try with_reducible refine Bu ?_
 first | refine B0 (BC ?_) | skip
 refine B0 (wpAny_sequenceKey ht.typeIs (by decide) ?_)
 refine B0 (wpAny_callSpecial?_slot (name:=Str.ofString "__getitem__") ht.typeIs slot_tuple_getitem
  (Dh slot_tuple_getitem ht.typeIs entry_tuple_getitem ?_ (args_tuple_getitem _ _)))
 show wpAny _ _ (Builtin.Tuple.tupleItemsOf (.ref t) >>= _) _ _ s;refine B0 (tupleItemsOf_ ht ?_);refine B0 (wpAny_typeOf hTs ?_);rw[BJ (by decide)];refine B0 (sap ?_);have hno:¬ (((a:Int) == 0&&(1:Int) == 1&&(b-a) == items.size)=true):=by
  rw[show((b-a) == items.size)=false from Bh.mpr hne];simp
 show wpAny _ _ (if((a:Int) == 0&&(1:Int) == 1&&(b-a) == items.size)=true then _ else _) _ _ s;rw[BE hno,pick_any items a (b-a)]
 first
  | exact B0 (m:=Builtin.Tuple.tupleExact _) (CT (BC ⟨_,rfl,BC h⟩) hdrop)
  | exact B0 (m:=Builtin.Tuple.tupleExact _) (CT (B0 (BC (BC ⟨_,rfl,BC h⟩))) hdrop)
  | exact B0 (B0 (m:=Builtin.Tuple.tupleExact _) (CT (BC (BC ⟨_,rfl,BC h⟩)) hdrop))
  | exact B0 (B0 (m:=Builtin.Tuple.tupleExact _) (CT (BC ⟨_,rfl,BC h⟩) hdrop))
end
section
variable{X:Run}{r:Nat}{self:jK->Prop}{A:Around}{fr:List Env}{d:Lay}{env:Env}{s:Shared}{st:St}{Q:Value->Shared->Prop}{E:Value->Shared->Prop}{k:K}{kx:KX}
theorem den_slice(l:Loc X d env fr st s){a:V}{lo hi:Option V}{va vl vu:Value}{sl:Addr}(ha:VV d (jA st.mem) a va)(hlo:uZ d (jA st.mem) lo vl)
  (hhi:uZ d (jA st.mem) hi vu) (hs:s.heap.IsSliceOf sl vl vu .none) (h:vF a lo hi st k) (q:PE X d (jA st.mem) env fr k Q) :
  GetI X A va (.ref sl) Q E s:=by
 induction ha using Do with
 | p ha=>
   obtain⟨l',e1,h⟩:=jV (o:=oInt lo) h;obtain⟨h',e2,h⟩:=jV (o:=oInt hi) h;have pl:=QW e1 hlo;have pu:=QW e2 hhi;induction ha using Dn with
   | @lst ts x items n z r=>
     obtain⟨h0,h⟩:=h;have hz:=l.core.zin _ _ z;have hl:=jk r;refine uo hz (wpAny_getItem_list_slice ⟨_,hz,rfl,_,rfl⟩ hs pl pu .none (by simp) ?_ (by rw[CE];lia));refine q.push l (o:=jS (slicePick items l' h' none) 0) h rfl λ d' x z=>.p (.lst z ?_);rw[kms_pick_eq,CI];have:=(XY r l' h').mono x.z;rwa [wS items.toList] at this
   | @tup ts x items n z r=>
     have hz:=l.core.zin _ _ z;have hl:=jk r;obtain⟨a,g1,h⟩:=jV (o:=ZE 0 l') h;obtain⟨b,g2,h⟩:=jV (o:=ZE ts.length h') h;obtain⟨e,h0,h⟩:=jn h;obtain⟨e,g5⟩:=BD.mp e;obtain⟨g3,g4⟩:=BD.mp e;have g3:=Nat.ble_eq.mp g3;have g4:=Nat.ble_eq.mp g4;have g5:b-a≠ts.length:=λ e=>by rw[Nat.beq_eq.mpr e] at g5;exact nomatch g5
     rw[<- hl] at g2 g4 g5;refine⟨vW ⟨_,hz,rfl,_,rfl⟩ hs pl pu g1 g2 g3 g4 g5 ?_ (by rw[CE];lia),"tuple",_,⟨_,hz,rfl⟩,slot_tuple_getitem.lookup⟩;exact q.push l (o:=yH ((items.toList.drop a).take (b-a)).toArray 0) h rfl λ d' x z=>.p (.tup z (by rw[CI];exact(Zl (Zn r a) (b-a)).mono x.z))
   | bytes b t=>
     obtain⟨h0,h⟩:=h;have hbs:b.size=b.toList.length:=by simp
     have hz:(KBy.picked b l' h').size<=sizeLine:=by
      refine BF (KBc.size_picked_le b l' h') ?_;rw[CE];lia
     refine⟨getItem_meets (typeIs_bytes _ _ _) (by decide) FB.slot_bytes_getitem FB.entry_bytes_getitem (FB.args_bytes_getitem_2 _ _) (KBc.meets_slice2 b t _ pl pu) ⟨hs,hz,λ t' tk=>?_⟩,"bytes",_,typeIs_bytes s b t,FB.slot_bytes_getitem.lookup⟩;refine q.toks l h (.p ?_);have e:=KBc.picked_eq b l' h';have e2:(KBy.picked b l' h').toList=jG b.toList l' h':=by
      rw[e,CI,wS,lim_lo,lim_hi,BQ];cases l' <;> cases h' <;> simp only[Option.elim,lim_clip]
     rw[<- e2];exact .bytes _ _
   | _=>exact fe h
 | _=>exact fe h
end
noncomputable abbrev wO (ds:Array DictEntry) (ep:Nat):Obj:={ cls:=.type "dict",dict:=none,data:=.dict ds ep,slots:=#[] }
section
variable{prog:Program}{w:World}{A:Around}{E:Value->Shared->Prop}{s:Shared}
theorem vH{d:Addr}{ds:Array DictEntry}{ep:Nat}{Q:Value->Shared->Prop}(hd:(d == sysModules)=false)(ho:s.heap.get? d=some (wO ds ep))
  (hQ:Q (.ref s.heap.objs.size) { s with heap:=s.heap.push { cls:=.type "dict_keyiterator",data:=.fields #[.ref d,.int 0 0,.int ds.size 0,.int ep 0] } }) :
  wpAny (model prog w) A (pyIter (.ref d)) Q E s:=by
 have hT:s.TypeIs (.ref d) "dict":=⟨_,ho,rfl⟩;refine wpAny_pyIter_slot hT PySem.F.slot_dict_iter (Dh PySem.F.slot_dict_iter hT PySem.F.entry_dict_iter ?_ (PySem.F.args_dict_iter_1 _));unfold Builtin.«dict.__iter__»;refine B0 ?_;unfold Builtin.Dict.dictSlotNone;refine B0 (wpAny_notOrdered_dict hT ?_);show wpAny _ _ (pure (Value.ref d)) _ _ s;refine BC ?_;show wpAny _ _ (Builtin.Dict.showsAll d >>= _) _ _ s;unfold Builtin.Dict.showsAll;rw[BE (by rw[hd];exact Bool.false_ne_true)];refine B0 (BC ?_);refine B0 (wpAny_dictEntries ho rfl ?_);refine B0 (wpAny_dictEpoch ho rfl ?_);refine B0 (CT (BC ⟨_,rfl,"dict_keyiterator",_,⟨_,BR _ rfl,rfl⟩,Ce.lookup,?_⟩))
 simpa [rawInt] using hQ
theorem yG{it d:Addr}{i ep:Nat}{ds:Array DictEntry}{e:DictEntry}{Q:Option Value->Shared->Prop}(hit:s.heap.IsKeyIter it d i ds.size ep)
  (hm:s.heap.get? d=some (wO ds ep)) (hx:ds[i]?=some e)
  (hQ:∀ h',h'.IsKeyIter it d (i+1) ds.size ep->Heap.SameBut it s.heap h'->Q (some e.key) { s with heap:=h' }) :
  wpAny (model prog w) A (pyNext (.ref it)) Q E s:=by
 obtain⟨o,ho,hc,hd⟩:=id hit;unfold pyNext
 refine B0 (wpAny_attempt (wpAny_callSpecial?_slot (name:=Str.ofString "__next__") hit.typeIs Ce
  (Dh Ce hit.typeIs PySem.F.entry_dict_keyiterator_next ?_ (PySem.F.args_dict_keyiterator_next_1 _))))
 refine B0 (BC ?_);refine B0 ?_;refine B0 ?_
 first | refine B0 (Dk hit.typeIs (BC ?_)) | refine B0 (wpAny_typeNameOf_keyiter hit.typeIs (BC ?_))
 refine B0 (wpAny_fieldsOf ho hd ?_);have hown:Builtin.Dict_items.ownsTuple "dict_keyiterator"=false:=by decide
 rw[hown,BE Bool.false_ne_true];show wpAny _ _ (if(Value.ref d == Value.none)=true then _ else _) _ _ s;rw[BE (show ¬ ((Value.ref d == Value.none)=true) from Bool.false_ne_true)];refine B0 (BC ?_);refine B0 (wpAny_dictEntries hm rfl ?_);rw[BE (by simp)];refine B0 (BC ?_);refine B0 (wpAny_dictEpoch hm rfl ?_);rw[BE (by simp)];refine BC ?_;simp only[show ¬ ((i:Int)<0) from Bg.mpr (Bb i),if_false,Int.toNat_natCast,hx];refine B0 ?_
 first | refine B0 (Dk hit.typeIs (BC ?_)) | refine B0 (wpAny_typeNameOf_keyiter hit.typeIs (BC ?_))
 refine B0 (wpAny_isOneOf_keyiter hit.typeIs ?_);show wpAny _ _ (setField (.ref it) 1 (rawInt ((i:Int)+1)) >>= _) _ _ s;refine B0 (wpAny_setField ho hd (by simp) ?_);have hit':(s.heap.update it (Obj.mapFields (·.setIfInBounds 1 (rawInt ((i:Int)+1))))).IsKeyIter it d (i+1) ds.size ep:=
  ⟨_,CX _ ho (Obj.isFreed_of_fields (Obj.data_mapFields hd _)),(Obj.cls_mapFields ..).trans hc,by rw[Obj.data_mapFields hd];simp[rawInt]⟩
 refine B0 (Bu ?_);refine B0 (wpAny_isOneOf_keyiter (s:={ s with heap:=s.heap.update it (Obj.mapFields (·.setIfInBounds 1 (rawInt ((i:Int)+1)))) }) hit'.typeIs ?_);show wpAny _ _ (pure e.key) _ _ _;exact BC (BC ⟨_,rfl,BC (hQ _ hit' (Dg ..))⟩)
theorem yW{it d:Addr}{i ep:Nat}{ds:Array DictEntry}{Q:Option Value->Shared->Prop}(hh:A.handled=none)(hit:s.heap.IsKeyIter it d i ds.size ep)
  (hm:s.heap.get? d=some (wO ds ep)) (hx:ds[i]?=none)
  (hQ:∀ h',Heap.ExtBut it s.heap h'->Q none { s with heap:=h' }):wpAny (model prog w) A (pyNext (.ref it)) Q E s:=by
 obtain⟨o,ho,hc,hd⟩:=id hit;unfold pyNext
 refine B0 (wpAny_attempt (wpAny_callSpecial?_slot (name:=Str.ofString "__next__") hit.typeIs Ce
  (Dh Ce hit.typeIs PySem.F.entry_dict_keyiterator_next ?_ (PySem.F.args_dict_keyiterator_next_1 _))))
 refine B0 (BC ?_);refine B0 ?_;refine B0 ?_
 first | refine B0 (Dk hit.typeIs (BC ?_)) | refine B0 (wpAny_typeNameOf_keyiter hit.typeIs (BC ?_))
 refine B0 (wpAny_fieldsOf ho hd ?_);have hown:Builtin.Dict_items.ownsTuple "dict_keyiterator"=false:=by decide
 rw[hown,BE Bool.false_ne_true];show wpAny _ _ (if(Value.ref d == Value.none)=true then _ else _) _ _ s;rw[BE (show ¬ ((Value.ref d == Value.none)=true) from Bool.false_ne_true)];refine B0 (BC ?_);refine B0 (wpAny_dictEntries hm rfl ?_);rw[BE (by simp)];refine B0 (BC ?_);refine B0 (wpAny_dictEpoch hm rfl ?_);rw[BE (by simp)];refine BC ?_;simp only[show ¬ ((i:Int)<0) from Bg.mpr (Bb i),if_false,Int.toNat_natCast,hx];refine B0 ?_
 first | refine B0 (Dk hit.typeIs (BC ?_)) | refine B0 (wpAny_typeNameOf_keyiter hit.typeIs (BC ?_))
 show wpAny _ _ (setField (.ref it) 0 .none >>= _) _ _ s;refine B0 (wpAny_setField ho hd (by simp) ?_);show wpAny _ _ (newExc (.type "StopIteration") [] >>= _) _ _ _;refine B0 ?_;simp only[newExc,newTuple];refine B0 (CT ?_ (by size_fits));refine B0 (m:=firstArgMember _ _) (Cm (a:=Value.none) (by first | rfl | (simp only[firstArgMember];rfl)) ?_);refine CT ?_ (by size_fits);simp only[raiseNew];refine B0 (wpAny_handled ?_);rw[show A.in1.handled=none from hh];refine B0 (BC (wpAny_throw ?_));refine B0 (wpAny_isInstance (T:="StopIteration") (b:=true) ⟨_,BR _ rfl,rfl⟩ isSubtype_stop ?_);exact BC (hQ _ (((Dg ..).extBut.push _).push _))
end
section
variable{prog:Program}{w:World}{A:Around}{E:Value->Shared->Prop}{s:Shared}
theorem pop_dict{d a a0:Addr}{k:List Int}{v:Value}{Q:Value->Shared->Prop}(hu:A.units+1<cLine)(hkey:(tupleKind (intKind prog w)).is s.heap k a)(hm:s.heap.DictOfH (tupleKind (intKind prog w)) d [(k,a0,v)])
  (hq:∀ ep tk h',h'.get? d=some (wO #[] ep)->Heap.SameBut d s.heap h'->Q v { s with heap:=h',toks:=tk }):wpAny (model prog w) A (call (.builtin "dict.pop") [.ref d,.ref a]) Q E s:=by
 refine Dh PySem.F.slot_dict_pop hm.typeIs PySem.F.entry_dict_pop ?_ (PySem.F.args_dict_pop_2 _ _);have hT:=hm.typeIs (s:=s);obtain⟨o,es,ep,ho,hc,hd,he,his,hn⟩:=hm;unfold Builtin.«dict.pop»;refine B0 ?_;unfold Builtin.Dict.keyAndDefault;refine B0 (wpAny_notOrdered_dict hT ?_);show wpAny _ _ (pure (d,Value.ref a,none)) _ _ s;refine BC ?_;dsimp only;rw[BE (show ¬ (keyPart (Value.ref a)).isSome=true from by simp[keyPart])];refine B0 (wpAny_dictEntries ho hd (B0 (BC ?_)));have hes:es.toList=[entryOfKey (tupleKind (intKind prog w)) (k,a0,v)]:=he;have hs1:es=#[entryOfKey (tupleKind (intKind prog w)) (k,a0,v)]:=by rw[<- Array.toList_inj,hes]
 subst hs1;rw[show(#[entryOfKey (tupleKind (intKind prog w)) (k,a0,v)]:Array DictEntry).isEmpty=false from rfl,BE (show ¬ false=true from nofun)];refine B0 ?_;unfold Builtin.Dict.takeOut
 try with_reducible refine Bu ?_
 refine B0 ((tupleKind (intKind prog w)).pyHash (show A.in1.units<cLine from hu) hkey ?_);refine B0 (wpAny_dictFind_heap (s:={ s with toks:=s.toks+(tupleKind (intKind prog w)).draws k }) (show A.in1.units<cLine from hu) hkey ho hd he his hn (λ hno=>absurd rfl (hno 0 (a0,v))) (λ j p hj=>?_));have hj0:j=0:=by
  induction j using CD with
  | zero=>rfl
  | succ j=>cases j <;> exact nsm hj
 subst hj0;refine B0 (wpAny_dictEntries (s:={ s with toks:=s.toks+(tupleKind (intKind prog w)).draws k }) ho hd ?_);show wpAny _ _ (updateDictKeys d (·.eraseIdxIfInBounds 0) _ >>= _) _ _ _;refine B0 (wpAny_updateDictKeys (hz:=by rw[CE];exact(show 1<=16777216 from by decide)) (s:={ s with toks:=s.toks+(tupleKind (intKind prog w)).draws k }) ho hd (BC ?_));have hfin:(s.heap.update d (Obj.mapDictKeys (·.eraseIdxIfInBounds 0))).get? d=some (wO #[] (ep+1)):=by
  rw[CX _ ho (Obj.isFreed_of_dict (Obj.data_mapDictKeys hd _))];have e1:=hc.mapDictKeys (λ x:Array DictEntry=>x.eraseIdxIfInBounds 0);have e2:=Obj.data_mapDictKeys hd (λ x:Array DictEntry=>x.eraseIdxIfInBounds 0);generalize Obj.mapDictKeys (λ x:Array DictEntry=>x.eraseIdxIfInBounds 0) o=oo at e1 e2 ⊢;obtain⟨c,dd,dt,sl⟩:=oo;obtain⟨h1,h2,h3⟩:=e1;dsimp only at h1 h2 h3 e2;subst h1 h2 h3 e2;have e3:(#[entryOfKey (tupleKind (intKind prog w)) (k,a0,v)]:Array DictEntry).eraseIdxIfInBounds 0=#[]:=by simp[Array.eraseIdxIfInBounds]
  rw[e3]
 show wpAny _ _ (letGo [_] [_] >>= _) _ _ _;exact B0 (wpAny_letGo (BC ⟨_,rfl,hq (ep+1) _ _ hfin (Dg ..)⟩))
theorem zip_snd{vs:List Value}(h2:vs.length<2):(vs.toArray.zip vs.toArray).map (·.2)=vs.toArray:=by
 induction vs using BA with
 | nil=>simp
 | cons v r=>induction r using BA with
   | nil=>simp
   | cons=>exact absurd (CA (CA h2)) (DI _)
theorem uf{a:Addr}{vs:List Value}{n:Nat}{P:PySem.Fin->Shared->Prop}(ho:s.heap.get? a=some (seqObj "list" vs.toArray n))(h2:vs.length<2)
  (h:P (.done (.ret .none)) { s with heap:=sortedHeap s.heap a vs vs.toArray }) :
  wpAny (model prog w) A (Builtin.«list.sort» ⟨[.ref a],[]⟩) P E s:=by
 rw[list_sort_plain];have ha:a<s.heap.objs.size:=Be ho;refine B0 (listItems_at ho rfl ?_);refine B0 (listUpdate_at ho rfl ?_ (hsz:=by rw[DM,CE];omega));obtain⟨e1,ho1⟩:∃ e1,(s.heap.update a (Obj.mapSeq λ _=>#[])).get? a=some (seqObj "list" #[] e1):=⟨_,get?_update_seq ho (λ _=>#[])⟩;refine B0 (seqEpoch_at ho1 rfl ?_);refine B0 (wpAny_newTuple ?_);refine B0 (wpAny_newList ?_);refine Bu ?_;have ho6:(((s.heap.update a (Obj.mapSeq λ _=>#[])).push (seqObj "tuple" vs.toArray 0)).push (seqObj "list" #[] 0)).get? a=some (seqObj "list" #[] e1):=by
  rw[Heap.get?_push_ne _ _ _ (by rw[size_push',Heap.size_update];exact Ba (Bx ha)),Heap.get?_push_ne _ _ _ (by rw[Heap.size_update];exact Ba ha)];exact ho1
 show wpAny (model prog w) A _ P E { s with heap:=((s.heap.update a (Obj.mapSeq λ _=>#[])).push (seqObj "tuple" vs.toArray 0)).push (seqObj "list" #[] 0) };dsimp only;have hsz:vs.toArray.size<2:=by rw[DM];exact h2
 rw[BJ hsz,BJ hsz];refine B0 (BC ?_);rw[StateT.run_pure];refine B0 (BC ?_);dsimp only;have hout:(arrOf (SortSt.mk' general' (vs.toArray.zip vs.toArray) #[] 7 none)).map (·.2)=vs.toArray:=by
  show(vs.toArray.zip vs.toArray).map (·.2)=vs.toArray;exact zip_snd h2
 rw[hout];refine B0 (seqEpoch_at ho6 rfl ?_);refine B0 (listUpdate_at ho6 rfl ?_ (hsz2:=by show vs.toArray.size<=_;rw[CE];omega));simp only[bne_self_eq_false,Bool.false_eq_true,if_false];exact BC h
theorem Qy{l:Addr}{vs:List Value}{Q:Value->Shared->Prop}(hl:s.heap.IsList l vs.toArray)(h2:vs.length<2)
  (h:∀ h' k,(∀ b o,s.heap.get? b=some o->h'.get? b=some o)->s.heap.get? (s.heap.objs.size+1)=none->h'.get? (s.heap.objs.size+1)=some (jS vs.toArray k)->Q (.ref (s.heap.objs.size+1)) { s with heap:=h' }) :
  wpAny (model prog w) A (call (.builtin "sorted") [.ref l]) Q E s:=by
 refine Calls.call_function_entry kind_sorted plain_sorted entry_sorted (args_sorted1 _) ?_;unfold Builtin.«sorted»;refine B0 (m:=checkCount "sorted" 1 1 _) (BC ?_);refine B0 (collect_list hl ?_ (hsz:=by rw[CE];omega));refine B0 (wpAny_newList ?_);have hsz:((s.heap.push (seqObj "list" #[] 0)).update s.heap.objs.size (Obj.mapSeq (·++vs.toArray))).objs.size=s.heap.objs.size+1:=by
  rw[Heap.size_update,size_push']
 have hoL:(((s.heap.push (seqObj "list" #[] 0)).update s.heap.objs.size (Obj.mapSeq (·++vs.toArray))).push (seqObj "list" vs.toArray 0)).get? (s.heap.objs.size+1)=some (seqObj "list" vs.toArray 0):=by
  rw[<- hsz];exact BR _ rfl
 show wpAny _ _ _ _ _ { s with heap:=((s.heap.push (seqObj "list" #[] 0)).update s.heap.objs.size (Obj.mapSeq (·++vs.toArray))).push (seqObj "list" vs.toArray 0) };rw[hsz];refine B0 (Bu (Dh slot_list_sort ⟨_,hoL,rfl⟩ entry_list_sort (uf hoL h2 ⟨_,rfl,?_⟩) (args_list_sort _)));refine BC ⟨_,rfl,?_⟩;have keep:∀ b o,s.heap.get? b=some o->(((s.heap.push (seqObj "list" #[] 0)).update s.heap.objs.size (Obj.mapSeq (·++vs.toArray))).push (seqObj "list" vs.toArray 0)).get? b=some o:=λ b o e=>
  BH _ ((By _ _ (Nat.ne_of_gt (Be e))).trans (BH _ e))
 have hlt:=Be hoL;obtain⟨k,hk⟩:∃ k,(sortedHeap (((s.heap.push (seqObj "list" #[] 0)).update s.heap.objs.size (Obj.mapSeq (·++vs.toArray))).push (seqObj "list" vs.toArray 0)) (s.heap.objs.size+1) vs vs.toArray).get? (s.heap.objs.size+1)=some (seqObj "list" vs.toArray k):=by
  unfold sortedHeap;obtain⟨e1,ho1⟩:∃ e1,((((s.heap.push (seqObj "list" #[] 0)).update s.heap.objs.size (Obj.mapSeq (·++vs.toArray))).push (seqObj "list" vs.toArray 0)).update (s.heap.objs.size+1) (Obj.mapSeq λ _=>#[])).get? (s.heap.objs.size+1)=some (seqObj "list" #[] e1):=⟨_,get?_update_seq hoL (λ _=>#[])⟩;exact⟨_,get?_update_seq (BH _ (BH _ ho1)) (λ _=>vs.toArray)⟩
 refine h _ k (λ b o e=>?_) (CU (BW _)) hk;have hb:s.heap.objs.size+1≠b:=Nat.ne_of_gt (Bx (Be e));unfold sortedHeap;exact(By _ _ hb).trans (BH _ (BH _ ((By _ _ hb).trans (keep b o e))))
theorem hint_dict{d:Addr}{o:Obj}{Q:Bool->Shared->Prop}(ho:s.heap.get? d=some o)(hc:o.cls=.type "dict")(h:Q false s):wpAny (model prog w) A (Builtin.List.listLengthHint (.ref d)) Q E s:=by
 unfold Builtin.List.listLengthHint;refine B0 (wpAny_specialOf ⟨_,ho,hc⟩ PySem.F.slot_dict_len.lookup ?_);generalize hid:("dict.__len__":String)=id0
 wp_delta
 rw[show splitId id0=some ("dict","__len__") from by subst hid;decide +kernel];subst hid;refine B0 (wpAny_isInstance (T:="dict") (b:=true) ⟨_,ho,hc⟩ (by rw[isSubtype_type];kernel_rfl) ?_);refine wpAny_ite_split (λ hab=>absurd hab (by decide)) (λ _=>?_);refine wpAny_ite_split (λ _=>?_) (λ hab=>absurd (by decide +kernel) hab);refine B0 (wpAny_typeOf ⟨_,ho,hc⟩ ?_);exact BC h
theorem uD{R:Result->Shared->Prop}{S I d:Addr}{ds:Array DictEntry}{ep:Nat}(hh:A.handled=none)(hSI:S≠I)(hSd:S≠d)(hdI:d≠I) :
  ∀(n i c:Nat) (s':Shared) (acc:Array Value),ds.size-i=n->i<=ds.size->ds.size<=1->s'.heap.IsKeyIter I d i ds.size ep->s'.heap.get? d=some (wO ds ep)->s'.heap.get? S=some { cls:=.type "list",data:=.seq acc c }->acc.toList=(ds.toList.take i).map (·.key)->
    (∀ h' acc' c',(∀ b o,b≠S->b≠I->s'.heap.get? b=some o->h'.get? b=some o)->h'.get? S=some { cls:=.type "list",data:=.seq acc' c' }->acc'.toList=ds.toList.map (·.key)->R (.ok (.ret .none)) { s' with heap:=h' })->
    codeAny (model prog w) A (.builtin "list.extend.loop" ⟨[.ref S,.ref I,.none],[]⟩) R s':=by
 intro n;induction n with
 | zero=>
   intro i c s' acc hn hi h1 hit hd hS hacc hR;have e:i=ds.size:=Nat.le_antisymm hi (Nat.le_of_sub_eq_zero hn);refine codeAny_builtin PySem.F.entry_extend_loop ?_;rw[Around.under_plainId PySem.F.plain_extend_loop _];show wpAny _ A.in1 (pyNext (.ref I) >>= _) _ _ s';refine B0 (yW (A:=A.in1) hh hit hd (DA (D7 e.symm)) λ h' he=>?_);refine BC (hR h' acc c (λ b o h1 h2 g=>he b o h2 g) (he S _ hSI hS) ?_);rw[hacc,e,List.take_of_length_le (by simp)]
 | succ n ih=>
   intro i c s' acc hn hi h1 hit hd hS hacc hR;have hlt:i<ds.size:=Nat.lt_of_sub_eq_succ hn;refine codeAny_builtin PySem.F.entry_extend_loop ?_;rw[Around.under_plainId PySem.F.plain_extend_loop _];show wpAny _ A.in1 (pyNext (.ref I) >>= _) _ _ s';refine B0 (yG hit hd (Array.getElem?_eq_getElem hlt) λ h' hit' hs=>?_);have hS':h'.get? S=some { cls:=.type "list",data:=.seq acc c }:=(hs.2 S hSI).trans hS;show wpAny _ A.in1 (updateSeq S (·.push ds[i].key) >>= _) _ _ _;have hal:acc.size<=1:=by
    have:=Bo List.length hacc;rw[BQ,BB,DC,BQ] at this;exact this▸BF (Nat.min_le_right _ _) h1
   refine B0 (wpAny_updateSeq hS' rfl (hz:=by rw[CE];exact BF hal (by decide)) (_hz':=by rw[Array.size_push,CE];exact BF (DB hal) (by decide)) ?_);obtain⟨c2,hc2⟩:∃ c2,(h'.update S (Obj.mapSeq (·.push ds[i].key))).get? S=some { cls:=.type "list",data:=.seq (acc.push ds[i].key) c2 }:=⟨_,get?_update_seq (c:="list") hS' _⟩;have oth:∀ b o,b≠S->h'.get? b=some o->(h'.update S (Obj.mapSeq (·.push ds[i].key))).get? b=some o:=λ b o hb g=>(By _ _ (DF hb)).trans g;obtain⟨oi,gi,ri⟩:=hit';refine BC ⟨plainId_quiet PySem.F.plain_extend_loop _,ih (i+1) c2 { s' with heap:=h'.update S (Obj.mapSeq (·.push ds[i].key)) } _ (Bo Nat.pred hn) hlt h1 ⟨oi,oth _ _ (DF hSI) gi,ri⟩ (oth _ _ (DF hSd) ((hs.2 d hdI).trans hd)) hc2 ?_ λ h2 acc' c' k g e=>?_⟩
   ·rw[Array.toList_push,hacc,List.take_succ_eq_append_getElem (by rw[BQ];exact hlt),D4];simp
   ·exact hR h2 acc' c' (λ b o hb1 hb2 z=>k b o hb1 hb2 (oth b o hb1 ((hs.2 b hb2).trans z))) g e
theorem X8{d:Addr}{ds:Array DictEntry}{ep:Nat}{Q:Value->Shared->Prop}(hh:A.handled=none)(hd:(d == sysModules)=false)(ho:s.heap.get? d=some (wO ds ep))(hsz:ds.size<=1)
  (h:∀ h' acc k,(∀ b o,s.heap.get? b=some o->h'.get? b=some o)->h'.get? s.heap.objs.size=some (jS acc k)->acc.toList=ds.toList.map (·.key)->Q (.ref s.heap.objs.size) { s with heap:=h' }) :
  wpAny (model prog w) A (call (.type "list") [.ref d]) Q E s:=by
 have hdS:d≠s.heap.objs.size:=Ba (Be ho);refine callType_codes (Q₁:=λ obj s₁=>obj=.ref s.heap.objs.size/\s₁={ s with heap:=s.heap.push { cls:=.type "list",data:=.seq #[] } }) PySem.F.called_list (PySem.F.typeCall_list_1 _) PySem.F.entry_list_init
  (code_list_new _ ⟨rfl,rfl⟩) λ obj s₁ h₁=>?_
 obtain⟨rfl,rfl⟩:=h₁;have hS:(s.heap.push { cls:=.type "list",data:=.seq #[] }).get? s.heap.objs.size=some { cls:=.type "list",data:=.seq #[] }:=BR _ rfl;refine⟨⟨_,hS,rfl⟩,PySem.F.args_list_init_2 _ _,?_⟩;generalize hSe:s.heap.objs.size=S at hS hdS h ⊢;show wpAny _ A.in1.in1 (do let old <- Builtin.List.listItems (.ref S);Builtin.List.listUpdate (.ref S) (λ _=>#[]);letGo old.toList.reverse;Builtin.List.listExtendWith (.ref S) (.ref d) .none) _ _ _;refine B0 ?_;unfold Builtin.List.listItems;refine B0 (wpAny_seqItems hS rfl (BC ?_));show wpAny _ A.in1.in1 (updateSeq S (λ _=>#[]) >>= λ _=>letGo (#[]:Array Value).toList.reverse >>= λ _=>Builtin.List.listExtendWith (.ref S) (.ref d) .none) _ _ _;refine B0 (wpAny_updateSeq hS rfl ?_);have hS₂:=CX (Obj.mapSeq (λ _=>(#[]:Array Value))) hS rfl;refine B0 (wpAny_letGo ?_);have ho2:((s.heap.push { cls:=.type "list",data:=.seq #[] }).update S (Obj.mapSeq (λ _=>(#[]:Array Value)))).get? d=some (wO ds ep):=(By _ _ (DF hdS)).trans (BH _ ho);have k2:∀ b o,s.heap.get? b=some o->((s.heap.push { cls:=.type "list",data:=.seq #[] }).update S (Obj.mapSeq (λ _=>(#[]:Array Value)))).get? b=some o:=λ b o e=>
  (By _ _ (by rw[<- hSe];exact Nat.ne_of_gt (Be e))).trans (BH _ e)
 generalize hH:(s.heap.push { cls:=.type "list",data:=.seq #[] }).update S (Obj.mapSeq (λ _=>(#[]:Array Value)))=H at hS₂ ho2 k2 ⊢;have hz:H.objs.size=S+1:=by rw[<- hH,Heap.size_update,Heap.size_push,hSe]
 unfold Builtin.List.listExtendWith;refine B0 (wpAny_typeOf ⟨_,ho2,rfl⟩ ?_);have h1:Builtin.List.listSameRef (.ref S) (.ref d)=false:=by simp[Builtin.List.listSameRef,DF hdS]
 have h2:(Value.type "dict" == Value.type "list")=false:=by decide
 have h3:(Value.type "dict" == Value.type "tuple")=false:=by decide
 simp only[h1,h2,h3,Bool.or_false,Bool.false_eq_true,if_false];refine B0 (vH hd ho2 ?_);refine B0 (Bu (hint_dict (BH _ ho2) rfl ?_))
 show wpAny _ A.in1.in1 (rule "list.extend.makes-room" >>= λ _=>Builtin.List.listTouch (.ref S) >>= λ _=>
  again (.builtin "list.extend.loop" ⟨[.ref S,.ref H.objs.size,.none],[]⟩)) _ _ _
 refine B0 (wpAny_rule ?_);refine B0 ?_;show wpAny _ A.in1.in1 (updateSeq S (·.push .none) >>= λ _=>updateSeq S (·.pop)) _ _ _;have hS₃:=BH { cls:=.type "dict_keyiterator",data:=.fields #[.ref d,.int 0 0,.int ds.size 0,.int ep 0] } hS₂;refine B0 (wpAny_updateSeq hS₃ rfl ?_);have hS₄:=CX (Obj.mapSeq (·.push Value.none)) hS₃ rfl;refine wpAny_updateSeq (hz:=by seq_fits) hS₄ rfl ?_;have hS₅:=CX (Obj.mapSeq (·.pop)) hS₄ rfl;have oth:∀ b o,b≠S->H.get? b=some o->((((H.push { cls:=.type "dict_keyiterator",data:=.fields #[.ref d,.int 0 0,.int ds.size 0,.int ep 0] }).update S (Obj.mapSeq (·.push Value.none))).update S (Obj.mapSeq (·.pop)))).get? b=some o:=
  λ b o hb e=>(By _ _ (DF hb)).trans ((By _ _ (DF hb)).trans (BH _ e))
 have hIS:H.objs.size≠S:=by rw[hz];exact Nat.succ_ne_self _
 have hdI:d≠H.objs.size:=Ba (Be ho2);have hit:((((H.push { cls:=.type "dict_keyiterator",data:=.fields #[.ref d,.int 0 0,.int ds.size 0,.int ep 0] }).update S (Obj.mapSeq (·.push Value.none))).update S (Obj.mapSeq (·.pop)))).IsKeyIter H.objs.size d 0 ds.size ep:=
  ⟨_,(By _ _ (DF hIS)).trans ((By _ _ (DF hIS)).trans (BR _ rfl)),rfl,rfl⟩
 refine BC ⟨plainId_quiet PySem.F.plain_extend_loop _,uD (A:=A.in1) hh (DF hIS) (DF hdS) hdI ds.size 0 _ _ #[] rfl (CN _) hsz hit (oth d _ hdS ho2) hS₅ (by simp) λ h' acc' c' k g e=>?_⟩;refine⟨rfl,h h' acc' c' (λ b o z=>?_) g e⟩;have n1:b≠S:=by rw[<- hSe];exact Ba (Be z)
 have n2:b≠H.objs.size:=by rw[hz,<- hSe];exact Ba (Bx (Be z))
 exact k b o n1 n2 (oth b o n1 (k2 b o z))
end
theorem ints_are{Z:FZ}{ns:List Int}{vs:List Value}(h:VRL Z (ns.map T.int) vs):IntsAre vs ns:=by
 induction ns generalizing vs with
 | nil=>cases h;exact .nil
 | cons n ns ih=>cases h with | cons a r=>cases a with | int _ t=>exact .cons n t (ih r)
theorem Q5(f:Nat->Int):∀ n,preSum f (n+1)=f 0+preSum (λ i=>f (i+1)) n:=by
 intro n;induction n with
 | zero=>
   simp[preSum]
 | succ n ih=>
   show preSum f (n+1)+f (n+1)=_;rw[ih,DV];rfl
theorem Zx:∀(ns:List Int),preSum (λ i=>ns.getD i 0) ns.length=ns.sum:=by
 intro ns;induction ns with
 | nil=>
   exact rfl
 | cons n ns ih=>
   rw[Bw,Q5,List.sum_cons];show n+preSum (λ i=>ns.getD i 0) ns.length=_;rw[ih]
theorem any_range(f:T->Bool):∀(ts:List T),(List.range ts.length).any (λ i=>(ts[i]?).any f)=ts.any f:=by
 intro ts;induction ts with
 | nil=>
   exact rfl
 | cons t ts ih=>
   rw[Bw,List.range_succ_eq_map,Cz,List.any_map,Cz,<- ih];rfl
section
variable{X:Run}{r:Nat}{self:jK->Prop}{A:Around}{fr:List Env}{d:Lay}{env:Env}{s:Shared}{st:St}{Q:Value->Shared->Prop}{E:Value->Shared->Prop}{k:K}{kx:KX}
theorem PE.grown(q:PE X d (jA st.mem) env fr k Q)(l:Loc X d env fr st s){v:V}{val:Value}{h':Heap}{t:Nat}(h:k v st)(kk:∀ b o,s.heap.get? b=some o->h'.get? b=some o)(hv:VV d (jA st.mem) v val):Q val { s with heap:=h',toks:=t }:=
 q v st _ _ _ h (l.core.ext_grow kk) (l.grow (s':={ s with heap:=h',toks:=t }) kk) (hv.mono (l.core.ext_grow kk))
theorem PE.pushT(q:PE X d (jA st.mem) env fr k Q)(l:Loc X d env fr st s){v:V}{o:Obj}{t:Nat}(h:k v st)(hf:o.isFreed=false)
  (hv:∀ d',Ext d (jA st.mem) d' (jA st.mem)->d'.Z s.heap.objs.size=some o->VV d' (jA st.mem) v (.ref s.heap.objs.size)):Q (.ref s.heap.objs.size) { s with heap:=s.heap.push o,toks:=t }:=
 q v st _ _ _ h (l.pushExt o) (l.grow (s':={ s with heap:=s.heap.push o,toks:=t }) λ b o' e=>BH _ e) (hv _ (l.pushExt o) (l.newZ hf))
theorem vC:typeLookup (.type "bytes") "__bytes__"=pure (some (.builtin "bytes.__bytes__")):=by rw[typeLookup_type,builtinLookup_eq_fast];kernel_rfl
theorem uA:typeLookup (.type "int") "__bytes__"=pure none:=by rw[typeLookup_type,builtinLookup_eq_fast];kernel_rfl
theorem uh{prog:Program}{w:World}{b:Array UInt8}{t:Tok}(h:Q (.bytes b t) s) :
  codeAny (model prog w) A (.call (.builtin "bytes.__new__") ⟨[.type "bytes",.bytes b t],[]⟩) (wants Q E) s:=by
 refine codeAny_of_tree ?_;show wpAny _ A.in1 (do checkBuiltinCall "bytes.__new__" ⟨[.type "bytes",.bytes b t],[]⟩;again (.builtin "bytes.__new__" ⟨[.type "bytes",.bytes b t],[]⟩)) _ _ s;refine B0 (Cm (PySem.F.bm_newCall _) (BC ⟨plainId_quiet PySem.F.bm_plain _,codeAny_builtin PySem.F.bm_entry ?_⟩));rw[Around.under_plainId PySem.F.bm_plain _];unfold Builtin.«bytes.__new__»;refine B0 (Cm (a:=true) rfl ?_);refine Dl rfl ?_;refine B0 (Cm PySem.F.bm_sub ?_);refine Dl rfl ?_;refine B0 (Cm (PySem.F.bm_bind _) ?_);refine B0 (Cm (a:=()) rfl ?_);refine B0 (Cm (a:=()) rfl ?_);refine Dl rfl ?_;refine B0 (wpAny_specialOf (typeIs_bytes s b t) vC ?_);refine B0 (wpAny_rule (B0 (wpAny_typeOf (typeIs_bytes s b t) ?_)));refine bm_if_true (by decide) ?_;exact BC h
theorem J6{prog:Program}{w:World}{n:Int}{t:Tok}(h0:0<=n)(h1:n<=1000)(h:∀ t' k,Q (.bytes (Array.replicate n.toNat 0) t') { s with toks:=k }) :
  codeAny (model prog w) A (.call (.builtin "bytes.__new__") ⟨[.type "bytes",.int n t],[]⟩) (wants Q E) s:=by
 refine codeAny_of_tree ?_;show wpAny _ A.in1 (do checkBuiltinCall "bytes.__new__" ⟨[.type "bytes",.int n t],[]⟩;again (.builtin "bytes.__new__" ⟨[.type "bytes",.int n t],[]⟩)) _ _ s;refine B0 (Cm (PySem.F.bm_newCall _) (BC ⟨plainId_quiet PySem.F.bm_plain _,codeAny_builtin PySem.F.bm_entry ?_⟩));rw[Around.under_plainId PySem.F.bm_plain _];unfold Builtin.«bytes.__new__»;refine B0 (Cm (a:=true) rfl ?_);refine Dl rfl ?_;refine B0 (Cm PySem.F.bm_sub ?_);refine Dl rfl ?_;refine B0 (Cm (PySem.F.bm_bind _) ?_);refine B0 (Cm (a:=()) rfl ?_);refine B0 (Cm (a:=()) rfl ?_);refine Dl rfl ?_;refine B0 (wpAny_specialOf (typeIs_int s n t) uA ?_);refine B0 (Cm (a:=false) rfl ?_);refine Dl rfl ?_;refine B0 (wpAny_specialOf (typeIs_int s n t) int_index ?_);refine Dl rfl ?_;refine B0 (wpAny_attempt (Cm (a:=n) rfl ?_));dsimp only;have f1:Builtin.Bytes.fitsIndex n=true:=by simp only[Builtin.Bytes.fitsIndex,Bn,decide_eq_true_eq];lia
 rw[f1];refine Dl rfl ?_;rw[BE (by lia),BE (by lia)];have this:¬ (n.toNat > sizeLine):=by rw[CE];lia
 refine Dl (by simp[Builtin.Bytes.tooLong,this]) ?_;refine B0 (wpAny_rule (B0 (wpAny_mkBytes ?_ ?_)))
 ·exact BC (h _ _)
 ·rw[Array.size_replicate,CE];lia
theorem wv{prog:Program}{w:World}{v:Value}(h:codeAny (model prog w) A.in1 (.call (.builtin "bytes.__new__") ⟨[.type "bytes",v],[]⟩) (wants (λ obj s₁=>s₁.TypeIs obj "bytes"/\Q obj s₁) E) s) :
  wpAny (model prog w) A (call (.type "bytes") [v]) Q E s:=
 callType_codes (Q₁:=λ obj s₁=>s₁.TypeIs obj "bytes"/\Q obj s₁) PySem.F.bm_called (PySem.F.bm_typeCall _) PySem.F.entry_object_init h λ obj s₁ h₁=>
  ⟨h₁.1,PySem.F.args_object_init_2 obj _,object_init_meets PySem.F.bm_called.init.lookup PySem.F.bm_called.made (by decide) prog w A.in1 _ s₁ ⟨h₁.1,rfl,h₁.2⟩⟩
theorem Up{f:Int->Prop}{v:V}{n:Nat}{val:Value}(hv:VV d n v val)(h:kI f v):Ex2 λ i t=>jT (v=.p (.int i)) (val=.int i t) (f i):=by
 induction v using Dr with
 | p v=>induction v using Dq with
   | int i=>obtain⟨t,rfl⟩:=hv.inv.inv;exact⟨i,t,rfl,rfl,h⟩
   | _=>exact fe h
 | _=>exact fe h
theorem Wz{f:List T->Prop}{v:V}{n:Nat}{val:Value}(hv:VV d n v val)(h:kTl f v):Ex4 λ ts x items m=>vj (v=.p (.lst ts)) (val=.ref x) (d.Z x=some (jS items m)) (VRL d.Z ts items.toList) (f ts):=by
 induction v using Dr with
 | p v=>induction v using Dq with
   | lst ts=>obtain⟨a,its,m,rfl,z,r⟩:=hv.inv.inv;exact⟨_,_,_,_,rfl,rfl,z,r,h⟩
   | _=>exact fe h
 | _=>exact fe h
theorem yF{n:Nat}{v:V}{vals:List Value}(h:VVL d n [v] vals):∃ val,vals=[val]/\VV d n v val:=by
 obtain⟨val,r,rfl,h1,h2⟩:=h.inv;rw[h2.inv0];exact⟨_,rfl,h1⟩
theorem ZN{x:Addr}{items:Array Value}{n m:Nat}(l:Loc X d env fr st s)(g:s.heap.get? x=some (jS items n))(e:items.size=m)(h:m<2^40/\k (.p (.int m)) st)(q:PE X d (jA st.mem) env fr k Q):wpAny (model X.prog X.w) A (call (.builtin "len") [.ref x]) Q E s:=by
 subst e;exact len_list ⟨_,g,rfl,_,rfl⟩ (by have:=h.1;omega) (q.toks l h.2 (.p (.int _ _)))
theorem den_len(l:Loc X d env fr st s){v:V}{val:Value}(hv:VV d (jA st.mem) v val)(h:lenK st k v)(q:PE X d (jA st.mem) env fr k Q):wpAny (model X.prog X.w) A (call (.builtin "len") [val]) Q E s:=by
 induction hv using Do with
 | p hv=>induction hv using Dn with
   | lst z r=>exact ZN l (l.core.zin _ _ z) (jk r) h q
   | tup z r=>
     obtain⟨h0,h⟩:=h;rw[<- jk r] at h0 h;exact PySem.P.len_tuple (l.core.zin _ _ z) (by lia) (q.toks l h (.p (.int _ _)))
   | bytes b t=>
     obtain⟨h0,h⟩:=h;rw[BQ] at h0 h;exact len_bytes (by lia) (q.toks l h (.p (.int _ _)))
   | _=>exact fe h
 | @m i hi=>
   have c:=l.core.mem _ hi
   have h:(match jC st.mem i with
    | .plst ts=>ts.length<2^40/\k (.p (.int ts.length)) st
    | .vlst vs=>vs.length<2^40/\k (.p (.int vs.length)) st
    | _=>False):=h
   generalize jC st.mem i=o at c h;induction o using jB.casesOn with
   | plst ts=>
     obtain⟨c1,items,n1,c2,r⟩:=c;exact ZN l c2 (jk r) h q
   | vlst ts=>
     obtain⟨c1,items,n1,c2,r⟩:=c;exact ZN l c2 ((BQ).symm.trans (z3 r)) h q
   | _=>exact fe h
 | lam=>exact fe h
theorem rngK_of{vs:List V}(h:rngK vs st k):(∃ a,vs=[a]/\kI (rng1 st k) a)\/Ex3 λ a b c=>vs=[.p (.int a),.p (.int b),c]/\kI (rng3 st k a b) c:=by
 induction vs using BA with
 | nil=>exact fe h
 | cons v1 r=>induction r using BA with
   | nil=>exact .inl ⟨v1,rfl,h⟩
   | cons v2 r=>induction r using BA with
     | nil=>exact fe h
     | cons v3 r=>induction r using BA with
       | nil=>induction v1 using Dr with
         | p v1=>induction v1 using Dq with
           | int a=>induction v2 using Dr with
             | p v2=>induction v2 using Dq with
               | int b=>exact .inr ⟨a,b,v3,rfl,h⟩
               | _=>exact fe h
             | _=>exact fe h
           | _=>exact fe h
         | _=>exact fe h
       | cons=>exact fe h
theorem den_range(ok:jo X)(l:Loc X d env fr st s)(a:AOk A fr r){vs:List V}{vals:List Value}(hv:VVL d (jA st.mem) vs vals)(h:rngK vs st k)(q:PE X d (jA st.mem) env fr k Q):wpAny (model X.prog X.w) A (call (.type "range") vals) Q E s:=by
 rcases rngK_of h with ⟨v,rfl,h⟩ | ⟨a1,a2,v,rfl,h⟩
 ·obtain⟨val,rfl,hx⟩:=yF hv;clear hv;obtain⟨n,t,rfl,rfl,h0,h⟩:=Up (f:=rng1 st k) hx h;exact call_range_1 (q.pushT l h rfl λ d' x z=>.p (.rng z ⟨⟨by decide,by decide⟩,h0,⟨by decide,by decide⟩,by decide⟩))
 ·obtain⟨w1,r1,rfl,v1,hv1⟩:=hv.inv;obtain⟨w2,r2,rfl,v2,hv2⟩:=hv1.inv;obtain⟨w3,rfl,v3⟩:=yF hv2;clear hv hv1 hv2;obtain⟨t1,rfl⟩:=v1.inv.inv;obtain⟨t2,rfl⟩:=v2.inv.inv;obtain⟨n,t,rfl,rfl,⟨h0,h1,h2,h3⟩,h⟩:=Up (f:=rng3 st k a1 a2) v3 h;exact PySem.call_range_3 (by omega) (q.pushT l h rfl λ d' x z=>.p (.rng z ⟨h0,h1,h2,h3⟩)) (.inr (l.room ok a))
theorem den_bytes(l:Loc X d env fr st s)(hh:A.handled=none){v:V}{val:Value}(hv:VV d (jA st.mem) v val)(h:bytK st k v)(q:PE X d (jA st.mem) env fr k Q):wpAny (model X.prog X.w) A (call (.type "bytes") [val]) Q E s:=by
 induction hv using Do with
 | p hv=>induction hv using Dn with
   | @lst ts x items n z r=>
     have h:(match T.ints ts with
      | .some ns=>(ns.length<=100000/\∀ i∈ns,0<=i/\i<256)/\k (.p (.bytes (ns.map λ i=>UInt8.ofNat i.toNat))) st
      | .none=>False):=h
     cases e:T.ints ts with
     | none=>rw[e] at h;exact h.elim
     | some ns=>
       rw[e] at h;rw[yk e] at r;obtain⟨⟨h0,h1⟩,h⟩:=h;have hl:=jP r;rw[BB] at hl;have hz:=l.core.zin _ _ z;refine call_bytes_ints (vs:=items.toList) ⟨_,hz,rfl,n,by simp[jS]⟩ (ints_are r) h1 (by rw[hl,CE];lia) hh λ h' t tk kk=>q.grown l h kk (.p ?_);have:=VR.bytes (Z:=d.Z) (byteArr ns) t;unfold byteArr at this;rwa [CI] at this
   | int n t=>
     obtain⟨⟨h0,h1⟩,h⟩:=h;refine wv (J6 h0 h1 λ t' tk=>⟨typeIs_bytes _ _ _,q.toks l h (.p ?_)⟩);have:=VR.bytes (Z:=d.Z) (Array.replicate n.toNat 0) t';rwa [Array.toList_replicate] at this
   | bytes b t=>exact wv (uh ⟨typeIs_bytes _ _ _,q.now l h (.p (.bytes b t))⟩)
   | _=>exact fe h
 | _=>exact fe h
theorem den_any(l:Loc X d env fr st s)(hh:A.handled=none){v:V}{val:Value}(hv:VV d (jA st.mem) v val)(h:kTl (anyK st k) v)(q:PE X d (jA st.mem) env fr k Q):wpAny (model X.prog X.w) A (call (.builtin "any") [val]) Q E s:=by
 obtain⟨ts,x,items,n,rfl,rfl,z,r,h0,h⟩:=Wz hv h;have hh1:A.in1.handled=none:=hh;have hz:=l.core.zin _ _ z;have hlist:s.heap.IsList x items:=⟨_,hz,rfl,_,rfl⟩;have hl:=jk r;have hne:x≠s.heap.objs.size:=Ba (Be hz);refine call_any_walk (wpAny_pyIter_list hlist ⟨s.heap.objs.size,[s.heap.objs.size,x],[s.heap.objs.size],items.size,_,_,λ i=>(ts[i]?).any Zo,rfl,Walks.list hh1 s.heap.objs.size x hne items,⟨⟨_,BR _ rfl,rfl,rfl⟩,hlist.push _⟩,?_,λ h' tk kk=>?_⟩)
 ·intro i v s' Q' E' hP hQ';have hi:i<ts.length:=by rw[<- hl];exact(Array.getElem?_eq_some_iff.mp hP).1
  have et:=BS hi;obtain⟨v',e1,hv'⟩:=qQ? r i _ et;rw[Bl,hP] at e1;obtain rfl:=B9 e1;have hb:=h0 _ (Cy hi);have hQ':Q' ((ts[i]?).any Zo) s':=hQ';rw[et] at hQ';generalize ts[i]=u at hv' hb hQ';induction hv' using Dn with
  | bool b=>exact Cv hQ'
  | _=>exact ff hb
 ·rw[hl,any_range Zo ts];refine q.grown l h (λ b o e=>kk b o ?_ (BH _ e)) (.p (.bool _));intro hm;rw[BG.mp hm] at e;exact Cl _ (Be e)
theorem den_sum(l:Loc X d env fr st s)(hh:A.handled=none){v:V}{val:Value}(hv:VV d (jA st.mem) v val)(h:kTl (sumK st k) v)(q:PE X d (jA st.mem) env fr k Q):wpAny (model X.prog X.w) A (call (.builtin "sum") [val]) Q E s:=by
 obtain⟨ts,x,items,n,rfl,rfl,z,r,h⟩:=Wz hv h;obtain⟨ns,e,h⟩:=jV h;rw[yk e] at r;have hh1:A.in1.handled=none:=hh;have hz:=l.core.zin _ _ z;have hlist:s.heap.IsList x items:=⟨_,hz,rfl,_,rfl⟩;have hl:=jk r;rw[BB] at hl;have hne:x≠s.heap.objs.size:=Ba (Be hz);refine call_sum_walkG (wpAny_pyIter_list hlist ⟨s.heap.objs.size,[s.heap.objs.size,x],[s.heap.objs.size],items.size,_,_,λ i=>ns.getD i 0,rfl,Walks.list hh1 s.heap.objs.size x hne items,⟨⟨_,BR _ rfl,rfl,rfl⟩,hlist.push _⟩,?_,?_,λ h' tk t' kk=>?_⟩)
 ·intro b hb;rw[Heap.size_push];rcases BO.mp hb with rfl | hb
  ·exact CK _
  ·rw[BG.mp hb];exact Bx (Be hz)
 ·intro i v hP;have hi:i<ns.length:=by rw[<- hl];exact(Array.getElem?_eq_some_iff.mp hP).1
  have et:(ns.map T.int)[i]?=some (.int (ns.getD i 0)):=by
   rw[Bq,BS hi,List.getD_eq_getElem?_getD,BS hi];rfl
  obtain⟨v',e1,hv'⟩:=qQ? r i _ et;rw[Bl,hP] at e1;obtain rfl:=B9 e1;cases hv';exact⟨_,rfl⟩
 ·rw[hl,Zx];refine q.grown l h (λ b o e=>kk b o ?_ (BH _ e)) (.p (.int _ _));intro hm;rw[BG.mp hm] at e;exact Cl _ (Be e)
theorem Ut{f:Int->Int->Prop}{n:Nat}{vs:List V}{vals:List Value}(hv:VVL d n vs vals)(h:YM f vs):Ex4 λ a b t u=>vals=[.int a t,.int b u]/\f a b:=by
 induction vs using BA with
 | nil=>exact fe h
 | cons v r=>induction v using Dr with
   | p v=>induction v using Dq with
     | int a=>
       obtain⟨w,rfl,h5⟩:=zf (f:=kI (f a)) h;obtain⟨w1,r,rfl,v1,hv2⟩:=hv.inv;obtain⟨val,rfl,v2⟩:=yF hv2;obtain⟨t,rfl⟩:=v1.inv.inv;obtain⟨b,u,_,rfl,h6⟩:=Up v2 h5;exact⟨a,b,t,u,rfl,h6⟩
     | _=>exact fe h
   | _=>exact fe h
theorem den_list(l:Loc X d env fr st s)(hh:A.handled=none){v:V}{val:Value}(hv:VV d (jA st.mem) v val)(h:lisK st k v)(q:PE X d (jA st.mem) env fr k Q):wpAny (model X.prog X.w) A (call (.type "list") [val]) Q E s:=by
 induction hv using Do with
 | @m i hi=>
   have c:=l.core.mem i hi;have h:Ex2 λ es ep=>jC st.mem i=.dict es ep/\k (.p (.lst (yN es))) st:=by
    have h:(match jC st.mem i with
     | .dict es _=>(match es with
       | []=>k (.p (.lst [])) st
       | e::r=>(match r with
         | []=>k (.p (.lst [e.1])) st
         | _::_=>False))
     | _=>False):=h
    generalize jC st.mem i=o at h;induction o using jB.casesOn with
    | dict es ep=>induction es using BA with
      | nil=>exact⟨_,_,rfl,h⟩
      | cons e r=>induction r using BA with
        | nil=>exact⟨_,_,rfl,h⟩
        | cons=>exact fe h
    | _=>exact fe h
   obtain⟨es,ep,e,hk⟩:=h;rw[e] at c;obtain⟨hro,ne,ds,g0,r⟩:=c;have hkeys:∀{dl:List DictEntry},DR d (jA st.mem) es dl->VRL d.Z (yN es) (dl.map (·.key))/\dl.length<=1:=by
    intro dl hr;induction hr using Dp with
    | nil=>exact⟨.nil,CN _⟩
    | one z u v=>exact⟨.cons (.tup z u) .nil,BN _⟩
   obtain⟨hv1,hl2⟩:=hkeys r;refine X8 hh (Bh.mpr ne) g0 (by rw[<- BQ];exact hl2) λ h' acc kk keep g' hacc=>?_;have x:=l.core.ext_grow keep (n:=jA st.mem);refine q _ st (d.grow h') _ _ hk x (l.grow (s':={ s with heap:=h' }) keep) (.p (.lst (items:=acc) (n:=kk) (Lay.grow_of (l.core.norole (CU (BN _))) g') ?_));rw[hacc];exact hv1.mono x.z
 | _=>exact fe h
theorem UF(l:Loc X d env fr st s){v:V}{val:Value}(hv:VV d (jA st.mem) v val)(h:sorK st k v)(q:PE X d (jA st.mem) env fr k Q):wpAny (model X.prog X.w) A (call (.builtin "sorted") [val]) Q E s:=by
 induction hv using Do with
 | @m i hi=>
   have c:=l.core.mem i hi;have h:∃ ts,jT (jC st.mem i=.plst ts) (ts.length<2) (k (.p (.lst ts)) st):=by
    have h:(match jC st.mem i with
     | .plst ts=>(match ts with
       | []=>k (.p (.lst [])) st
       | t::r=>(match r with
         | []=>k (.p (.lst [t])) st
         | _::_=>False))
     | _=>False):=h
    generalize jC st.mem i=o at h;induction o using jB.casesOn with
    | plst ts=>induction ts using BA with
      | nil=>exact⟨_,rfl,Nat.zero_lt_succ _,h⟩
      | cons e r=>induction r using BA with
        | nil=>exact⟨_,rfl,CK _,h⟩
        | cons=>exact fe h
    | _=>exact fe h
   obtain⟨ts,e,hl,hk⟩:=h;rw[e] at c;obtain⟨hro,items,kk,g0,r⟩:=c;refine Qy (vs:=items.toList) ⟨_,g0,rfl,kk,rfl⟩ (by rw[jP r];exact hl) λ h' k2 keep hf g'=>?_;have x:=l.core.ext_grow keep (n:=jA st.mem);exact q _ st (d.grow h') _ _ hk x (l.grow (s':={ s with heap:=h' }) keep) (.p (.lst (items:=items) (n:=k2) (Lay.grow_of (l.core.norole hf) g') (r.mono x.z)))
 | _=>exact fe h
theorem den_bcall(ok:jo X)(l:Loc X d env fr st s)(a:AOk A fr r)(hh:A.handled=none){b:BI}{vs:List V}{vals:List Value}(hv:VVL d (jA st.mem) vs vals)(h:bcall b vs st k)(q:PE X d (jA st.mem) env fr k Q) :
  wpAny (model X.prog X.w) A (call (biV b) vals) Q E s:=by
 have one:∀{f:V->Prop},zg vs f->Ex2 λ v val=>jT (vals=[val]) (VV d (jA st.mem) v val) (f v):=λ h=>by
  obtain⟨v,rfl,h⟩:=zf h;obtain⟨val,e,hv⟩:=yF hv;exact⟨v,val,e,hv,h⟩
 induction b using BI.casesOn with
 | len=>obtain⟨v,val,rfl,hw,h⟩:=one (f:=lenK st k) h;exact den_len l hw h q
 | range=>exact den_range ok l a hv h q
 | bytes=>obtain⟨v,val,rfl,hw,h⟩:=one (f:=bytK st k) h;exact den_bytes l hh hw h q
 | any=>obtain⟨v,val,rfl,hw,h⟩:=one (f:=kTl (anyK st k)) h;exact den_any l hh hw h q
 | sum=>obtain⟨v,val,rfl,hw,h⟩:=one (f:=kTl (sumK st k)) h;exact den_sum l hh hw h q
 | max=>
   obtain⟨a1,b1,t,u,rfl,h⟩:=Ut (f:=λ a b=>k (.p (.int (max a b))) st) hv h;refine max_two_ints hh λ h' tk kk=>?_;rw[Int.max_def] at h;by_cases c:b1 > a1
   ·rw[BJ (Bk c)] at h;rw[BJ c];exact q.grown l h kk (.p (.int _ _))
   ·rw[BE c];have:(if a1<=b1 then b1 else a1)=a1:=by split <;> lia
    rw[this] at h;exact q.grown l h kk (.p (.int _ _))
 | min=>
   obtain⟨a1,b1,t,u,rfl,h⟩:=Ut (f:=λ a b=>k (.p (.int (min a b))) st) hv h;refine min_two_ints hh λ h' tk kk=>?_;rw[Int.min_def] at h;by_cases c:b1<a1
   ·rw[BE (Int.not_le.mpr c)] at h;rw[BJ c];exact q.grown l h kk (.p (.int _ _))
   ·rw[BJ (Bg.mp c)] at h;rw[BE c];exact q.grown l h kk (.p (.int _ _))
 | str=>
   obtain⟨v,val,rfl,hw,h⟩:=one (f:=kI (strK st k)) h;obtain⟨n,t,rfl,rfl,h0,h⟩:=Up hw h;refine PySem.P.str_of_int ?_ (q.toks l h (.p (.str _ _)));have:=Q0 h0;by_cases c:n.natAbs=0
   ·rw[c];decide
   ·exact BY ((Nat.log2_lt c).mpr this) (by decide)
 | list=>obtain⟨v,val,rfl,hw,h⟩:=one (f:=lisK st k) h;exact den_list l hh hw h q
 | sorted=>obtain⟨v,val,rfl,hw,h⟩:=one (f:=sorK st k) h;exact UF l hw h q
 | enumerate=>exact fe h
end
section
variable{M:Model}{A:Around}{E:Value->Shared->Prop}{s:Shared}{env:Env}
theorem yf{o:Expr}{attr:Str}{whole:Sem Value}(h:nc0 o=true):attributeBase o attr env whole=whole:=by
 induction o using Bd with
 | Call f as ks p=>induction f using Bd with
   | Name n np=>induction as using BA with
     | nil=>induction ks using BA with
       | nil=>exact ff h
       | cons=>rfl
     | cons=>rfl
   | _=>rfl
 | _=>rfl
theorem Xa{e:Expr}{r:List Expr}(h:noStar (e::r)=true):starEach (e::r) env=(false,eval e env)::starEach r env/\noStar r=true:=by
 obtain⟨h1,h2⟩:=BD.mp h;refine⟨?_,h2⟩;induction e using Bd with
 | Starred=>exact ff h1
 | _=>rfl
theorem uz{xs:List Expr}(h:noStar xs=true):starEach xs env=xs.map λ e=>(false,eval e env):=by
 induction xs with
 | nil=>rfl
 | cons e r ih=>
   obtain⟨e1,h⟩:=Xa (env:=env) h;refine rwl e1 (rwl (ih h) ?_);rfl
theorem zL{pos:Pos}{xs:List Expr}(h:noStar xs=true):backTo pos (starEach xs env)=xs.map λ e=>(false,eval e env):=by
 refine rwl (uz h) ?_;unfold backTo;refine rwl CR ?_;rfl
theorem uH{xs:List Expr}:((xs.map λ e=>((false,eval e env):Bool×Sem Value)).any (·.1))=false:=by
 refine rwl List.any_map ?_;induction xs with
 | nil=>rfl
 | cons x xs ih=>refine rwl Cz (rwl ih ?_);rfl
theorem wL{f:Value}{pos:Pos}{xs:List Expr}{Q:Args->Shared->Prop}(hs:noStar xs=true)(h:wpAny M A (spliced (backTo pos (starEach xs env))) (λ vs s'=>Q ⟨vs,[]⟩ s') E s) :
  wpAny M A (evalArgs f true (backTo pos (starEach xs env)) []) Q E s:=by
 induction xs using BA with
 | nil=>
   unfold evalArgs;show wpAny M A (spliced [] >>= _) Q E s;refine B0 (CH (show wpAny M A (spliced []) _ E s from h) (λ vs s' h'=>B0 (BC ?_)) λ _ _ x=>x);refine Bu ?_;exact B0 (BC (B0 (BC (BC h'))))
 | cons x xs=>
   rw[zL hs] at h ⊢;exact Calls.evalArgs_plain h
theorem qf{pos:Pos}{f:Value}{first:List Value}{xs:List Expr}{Q:Value->Shared->Prop}(hs:noStar xs=true)
  (h:wpAny M A (spliced (backTo pos (starEach xs env))) (λ vs s'=>(∃ k,(k=Keeper.frame\/k=Keeper.machine\/k=Keeper.boundFrame)/\Looks M s'.heap (keeperOf f) k)/\wpAny M A (call f (first++vs)) Q E s') E s) :
  wpAny M A (callWith pos f first (backTo pos (starEach xs env)) []) Q E s:=by
 refine callWith_of (P:=λ h=>∃ k,(k=Keeper.frame\/k=Keeper.machine\/k=Keeper.boundFrame)/\Looks M h (keeperOf f) k) ?_ (λ h q=>q) (wL hs h);refine rwl (zL hs) (rwl uH ?_);rfl
theorem qF{pos:Pos}{id:String}{first:List Value}{xs:List Expr}{Q:Value->Shared->Prop}(hs:noStar xs=true)
  (h:wpAny M A (spliced (backTo pos (starEach xs env))) (λ vs s'=>wpAny M A (call (.builtin id) (first++vs)) Q E s') E s):wpAny M A (callWith pos (.builtin id) first (backTo pos (starEach xs env)) []) Q E s:=
 Calls.callWith_builtin (by exact rwl (zL hs) (rwl uH rfl)) (wL hs h)
theorem ze{pos:Pos}{T:String}{first:List Value}{xs:List Expr}{Q:Value->Shared->Prop}(hs:noStar xs=true)
  (h:wpAny M A (spliced (backTo pos (starEach xs env))) (λ vs s'=>wpAny M A (call (.type T) (first++vs)) Q E s') E s):wpAny M A (callWith pos (.type T) first (backTo pos (starEach xs env)) []) Q E s:=
 PyProof.Rows.callWith_type (by rw[zL hs,uH]) (wL hs h)
theorem vd{pos:Pos}{b:BI}{xs:List Expr}{Q:Value->Shared->Prop}(hs:noStar xs=true)
  (h:wpAny M A (spliced (backTo pos (starEach xs env))) (λ vs s'=>wpAny M A (call (biV b) vs) Q E s') E s):wpAny M A (callWith pos (biV b) [] (backTo pos (starEach xs env)) []) Q E s:=by
 induction b using BI.casesOn with
 | len=>exact qF (id:="len") (first:=[]) hs h
 | range=>exact ze (T:="range") (first:=[]) hs h
 | bytes=>exact ze (T:="bytes") (first:=[]) hs h
 | any=>exact qF (id:="any") (first:=[]) hs h
 | sum=>exact qF (id:="sum") (first:=[]) hs h
 | sorted=>exact qF (id:="sorted") (first:=[]) hs h
 | max=>exact qF (id:="max") (first:=[]) hs h
 | min=>exact qF (id:="min") (first:=[]) hs h
 | enumerate=>exact ze (T:="enumerate") (first:=[]) hs h
 | str=>exact ze (T:="str") (first:=[]) hs h
 | list=>exact ze (T:="list") (first:=[]) hs h
theorem Call_meth{o:Expr}{name:Str}{apos pos:Pos}{xs:List Expr}{Q:Value->Shared->Prop}(hb:nc0 o=true)(hs:noStar xs=true)(hl:xs.length<30)(hp:apos.endLine=pos.line)
  (h:wpAny M A (eval o env) (λ ov s₁=>wpAny M A (getMethod ov name (do return (<- importBound o env).getD true)) (λ fm s₂=>wpAny M A (callWith pos fm.1 fm.2 (backTo pos (starEach xs env)) []) Q E s₂) E s₁) E s) :
  wpAny M A (eval (.Call (.Attribute o name apos) xs [] pos) env) Q E s:=by
 rw[arm_eval_Call,yf hb];refine B0 (CH h (λ ov s₁ h₁=>B0 (CG ?_)) λ _ _ e=>e);have hf:methodCallForm (xs.length+([]:List Keyword).length) (backTo pos (starEach xs env)) (backToKw pos (keywordEach [] env))=true:=by
  unfold methodCallForm;refine rwl (zL hs) ?_;have e1:(xs.map λ e=>((false,eval e env):Bool×Sem Value)).all (λ x=>!x.1)=true:=by
   rw[List.all_map,CW];intro x _;rfl
  refine rwl e1 ?_;have:xs.length+([]:List Keyword).length+(if(backToKw pos (keywordEach [] env)).isEmpty then 0 else 1)<30:=by
   show xs.length+0+0<30;omega
  simp only[Bool.true_and];refine rwl (Bf this) ?_;rfl
 unfold methodCall;refine rwl hf ?_;have hpos:methodCallPos true o env apos pos=pure pos:=by
  unfold methodCallPos;refine rwl (beq_iff_eq.mpr hp) ?_;rfl
 refine B0 (Bu (CH h₁ (λ fm s₂ h₂=>?_) λ _ _ e=>e));refine rwl hpos ?_;exact B0 (BC h₂)
end
section
variable{X:Run}{r:Nat}{self:jK->Prop}{A:Around}{fr:List Env}{d:Lay}{env:Env}{s:Shared}{st:St}{Q:Value->Shared->Prop}{E:Value->Shared->Prop}{k:K}{kx:KX}
def qt(self:jK->Prop):Prop:=∀ x p st k kx,self (.e (.Starred x p) st k kx)->False
theorem den_es(ih:∀ t,self t->Den X r t)(hst:qt self){x:Expr}{xs:List Expr}{kl:List V->St->Prop}(h:self (.e x st (kE1 self xs kl kx) kx)) :
  Den X r (.es (x::xs) st kl kx):=by
 intro A fr d env s pos Q E l a hh q qx;have he:starEach (x::xs) env=(false,eval x env)::starEach xs env:=by
  induction x using Bd with
  | Starred=>exact(hst _ _ _ _ _ h).elim
  | _=>rfl
 refine spliced_more (ih _ h A fr d env s _ E l a ?_ (λ v st1 d1 val s1 h1 x1 l1 v1=>?_) qx) he
 ·rcases hh with hh | ⟨m,hm⟩
  ·exact .inl hh
  ·rw[DU,Bn] at hm;exact .inr ⟨m,by refine rwl DU (rwl hm.1 ?_);rfl⟩
 ·refine ih _ h1 A fr d1 env s1 pos _ E l1 a ?_ (λ vs st2 d2 vals s2 h2 x2 l2 v2=>?_) (qx.of x1)
  ·rcases hh with hh | ⟨m,hm⟩
   ·exact .inl hh
   ·rw[DU,Bn] at hm;exact .inr ⟨m,hm.2⟩
  ·exact q (v::vs) st2 d2 (val::vals) s2 h2 (x1.trans x2) l2 (.cons (v1.mono x2) v2)
end
theorem vQ(ops:List CmpOp)(cs:List Expr)(h:ZC cs=true):lastMarks ops cs=false:=by
 induction ops generalizing cs with
 | nil=>rfl
 | cons op r ih=>induction cs using BA with
   | nil=>cases r <;> rfl
   | cons e q=>
     obtain⟨h1,h2⟩:=BD.mp h;induction r using BA with
     | nil=>induction q using BA with
       | nil=>induction e using Bd with
         | Set=>exact ff h1
         | _=>rfl
       | cons=>rfl
     | cons o r=>induction q using BA with
       | nil=>cases r <;> rfl
       | cons=>exact ih _ h2
section
variable{X:Run}{r:Nat}{self:jK->Prop}{sp:Addr->Option zM}{A:Around}{fr:List Env}{d:Lay}{env:Env}{s:Shared}{st:St}{Q:Value->Shared->Prop}{E:Value->Shared->Prop}{k:K}{kx:KX}
theorem zA{x:Expr}(h:A.handled=none\/Smp [x])(hx:∀ m,smp m x=false):A.handled=none:=by
 rcases h with h | ⟨m,hm⟩
 ·exact h
 ·rw[DU,hx m] at hm;exact ff hm
theorem Qz{x y:Expr}(h:A.handled=none\/Smp [x])(hx:∀ m,smp m x=true->∃ m',smp m' y=true):A.handled=none\/Smp [y]:=by
 rcases h with h | ⟨m,hm⟩
 ·exact .inl h
 ·rw[DU,Bn] at hm;obtain⟨m',h'⟩:=hx m hm.1;exact .inr ⟨m',by rw[DU,h'];rfl⟩
theorem sub_get{value vF:Expr}{pos:Pos}{a b:Value}{Qv:Value->Shared->Prop}(hs:∀ x y p,vF≠.Slice x y none p)(hg:wpAny (model X.prog X.w) A (getItem a b) Qv E s/\Ex2 λ T id=>s.TypeIs a T/\typeLookup (.type T) "__getitem__"=pure (some (.builtin id))) :
  wpAny (model X.prog X.w) A (subscriptTail value vF a b) Qv E s:=by
 obtain⟨h,T,id,hT,hl⟩:=hg;refine tail_any (ops:=[a,b]) hT hl h ?_;induction vF using Bd with
 | Slice lo hi st p=>induction st using BU with
   | none=>exact absurd rfl (hs _ _ _)
   | some=>rfl
 | _=>rfl
theorem sub_cut{value:Expr}{lo hi:Option Expr}{p pos:Pos}{a b:Value}{Qv:Value->Shared->Prop}(hg:wpAny (model X.prog X.w) A (getItem a b) Qv E s/\Ex2 λ T id=>s.TypeIs a T/\typeLookup (.type T) "__getitem__"=pure (some (.builtin id))) :
  wpAny (model X.prog X.w) A (subscriptTail value (.Slice lo hi none p) a b) Qv E s:=by
 obtain⟨h,T,id,hT,hl⟩:=hg;exact tail_any (ops:=[b,a]) hT hl h rfl
variable(ok:jo X)(ih:∀ t,self t->Den X r t)(hst:qt self)(hsl:∀ a b c p st k kx,self (.e (.Slice a b c p) st k kx)->False)
include ok ih
theorem den_BinOp{l:Expr}{op:Operator}{rr:Expr}{p:Pos}(h:jl self sp (.BinOp l op rr p) st k kx):Den X (r+1) (.e (.BinOp l op rr p) st k kx):=by
 intro A fr d env s Q E l0 a hh q qx;have a':=a.le (BW r);have hn:=zA hh λ m=>by cases m <;> rfl
 refine wpAny_BinOp (ih _ h A fr d env s _ E l0 a' (.inl hn) (λ v st1 d1 va s1 h1 x1 l1 v1=>?_) qx);exact ih _ h1 A fr d1 env s1 _ E l1 a' (.inl hn) (λ u st2 d2 vb s2 h2 x2 l2 v2=>den_binop ok l2 a (v1.mono x2) v2 h2 (q.of (x1.trans x2))) (qx.of x1)
omit ok ih in
theorem kUn_of{op:UnaryOp}{v:V}{n:Nat}{val:Value}(hv:VV d n v val)(h:kUn op k v st):(op=.USub/\Ex2 λ i t=>val=.int i t/\k (.p (.int (-i))) st)\/(op=.Not/\∃ b,val=.bool b/\k (.p (.bool (!b))) st):=by
 induction op using UnaryOp.casesOn with
 | USub=>induction v using Dr with
   | p t=>induction t using Dq with
     | int i=>obtain⟨u,rfl⟩:=hv.inv.inv;exact .inl ⟨rfl,i,u,rfl,h⟩
     | _=>exact fe h
   | _=>exact fe h
 | Not=>induction v using Dr with
   | p t=>induction t using Dq with
     | bool i=>exact .inr ⟨rfl,i,hv.inv.inv,h⟩
     | _=>exact fe h
   | _=>exact fe h
 | _=>exact fe h
theorem Yj{op:UnaryOp}{y:Expr}{p:Pos}(h:jl self sp (.UnaryOp op y p) st k kx):Den X (r+1) (.e (.UnaryOp op y p) st k kx):=by
 intro A fr d env s Q E l0 a hh q qx;obtain⟨ho,h⟩:=jn h;refine UnaryOp_ (ih _ h A fr d env s _ E l0 (a.le (BW r)) (.inl (zA hh λ m=>by cases m <;> rfl)) (λ v st1 d1 va s1 h1 x1 l1 v1=>?_) qx);rcases kUn_of v1 h1 with ⟨rfl,i,t,rfl,h1⟩ | ⟨rfl,b,rfl,h1⟩
 ·exact PySem.P.neg_int ((q.of x1).int l1 h1)
 ·exact not_of (Cv ((q.of x1).bool l1 h1))
theorem Yk{l:Expr}{ops:List CmpOp}{cs:List Expr}{p:Pos}(h:jl self sp (.Compare l ops cs p) st k kx):Den X (r+1) (.e (.Compare l ops cs p) st k kx):=by
 intro A fr d env s Q E l0 a hh q qx;have a':=a.le (BW r);have hn:=zA hh λ m=>by cases m <;> rfl
 obtain⟨hs,h⟩:=jn h;rw[arm_eval_Compare,markedEach_of_false _ _ _ (vQ ops cs hs)];exact B0 (ih _ h A fr d env s _ E l0 a' (.inl hn) (λ v st1 d1 va s1 h1 x1 l1 v1=>ih _ h1 A fr d1 env s1 p va Q E l1 a' hn v1 (q.of x1) (qx.of x1)) qx)
theorem den_IfExp{t b o:Expr}{p:Pos}(h:jl self sp (.IfExp t b o p) st k kx):Den X (r+1) (.e (.IfExp t b o p) st k kx):=by
 intro A fr d env s Q E l0 a hh q qx;have a':=a.le (BW r);have hn:=zA hh λ m=>by cases m <;> rfl
 refine IfExp_ (ih _ h A fr d env s _ E l0 a' hn (λ c st1 d1 s1 h1 x1 l1=>?_) qx);induction c using CM with
 | true=>exact ih _ h1 A fr d1 env s1 Q E l1 a' (.inl hn) (q.of x1) (qx.of x1)
 | false=>exact ih _ h1 A fr d1 env s1 Q E l1 a' (.inl hn) (q.of x1) (qx.of x1)
theorem J2{o:Expr}{n:Str}{p:Pos}(h:jl self sp (.Attribute o n p) st k kx):Den X (r+1) (.e (.Attribute o n p) st k kx):=by
 intro A fr d env s Q E l0 a hh q qx;obtain⟨hs,h⟩:=jn h;rw[arm_eval_Attribute,yf hs];refine B0 (ih _ h A fr d env s _ E l0 (a.le (BW r)) (Qz hh λ m hm=>by induction m using CD with | zero=>exact ff hm | succ m=>exact⟨m,hm⟩) (λ v st1 d1 va s1 h1 x1 l1 v1=>?_) qx);refine B0 (CG (B0 (Bu (CH (Yg ok l1 v1 h1 (q.of x1)) (λ u s2 h2=>?_) λ _ _ e=>e))));exact B0 (wpAny_letTemporaryGo (BC h2))
omit ih in
theorem vm{o:Expr}{lo hi:Option Expr}{p pp:Pos}{va vl vu:Value}{av:V}{lv uv:Option V}(l:Loc X d env fr st s)(v1:VV d (jA st.mem) av va)(v2:uZ d (jA st.mem) lv vl)(v3:uZ d (jA st.mem) uv vu)
  (h:vF av lv uv st k) (q:PE X d (jA st.mem) env fr k Q):wpAny (model X.prog X.w) A (subscriptTail o (.Slice lo hi none pp) va (.ref s.heap.objs.size)) Q E { s with heap:=s.heap.push { cls:=.type "slice",data:=.fields #[vl,vu,.none] } }:=by
 have kk:∀ b o',s.heap.get? b=some o'->(s.heap.push { cls:=.type "slice",data:=.fields #[vl,vu,.none] }).get? b=some o':=λ b o' e=>BH _ e;have x4:=l.core.ext_grow kk (n:=jA st.mem);have pm:∀{v:Option V} {val:Value},uZ d (jA st.mem) v val->uZ (d.grow (s.heap.push { cls:=.type "slice",data:=.fields #[vl,vu,.none] })) (jA st.mem) v val:=by
  intro v val hp;induction v using BU with
  | none=>exact hp
  | some t=>exact VV.mono x4 hp
 exact sub_cut (p:=pp) (pos:=p) (den_slice (l.grow (s':={ s with heap:=s.heap.push { cls:=.type "slice",data:=.fields #[vl,vu,.none] } }) kk) (v1.mono x4) (pm v2) (pm v3) (Heap.IsSliceOf.new ..) h (q.of x4))
theorem den_Cut{o:Expr}{lo hi:Option Expr}{p pp:Pos}(h:self (.e o st (kSu self (.Slice lo hi none pp) k kx) kx)):Den X (r+1) (.e (.Subscript o (.Slice lo hi none pp) p) st k kx):=by
 intro A fr d env s Q E l0 a hh q qx;have a':=a.le (BW r);have hn:=zA hh λ m=>by
  induction m using CD with
  | zero=>rfl
  | succ m=>exact(Bo (smp m o&&·) (by cases m <;> rfl:smp m (.Slice lo hi none pp)=false)).trans (Bool.and_false _)
 refine Subscript_ (ih _ h A fr d env s _ E l0 a' (.inl hn) (λ v st1 d1 va s1 h1 x1 l1 v1=>wpAny_Slice ?_) qx);have hi2:∀{lv:Option V} {vl:Value} {st2:St} {d2:Lay} {s2:Shared} {h:Expr},self (.e h st2 (kSl2 v lv k) kx)->Ext d (jA st.mem) d2 (jA st2.mem)->Ext d1 (jA st1.mem) d2 (jA st2.mem)->Loc X d2 env fr st2 s2->uZ d2 (jA st2.mem) lv vl->
   wpAny (model X.prog X.w) A (eval h env) (λ vu s'=>wpAny (model X.prog X.w) A (subscriptTail o (.Slice lo (some h) none pp) va (.ref s'.heap.objs.size)) Q E { s' with heap:=s'.heap.push { cls:=.type "slice",data:=.fields #[vl,vu,.none] } }) E s2:=λ{lv vl st2 d2 s2 h} h2 x2 x12 l2 v2=>
  ih _ h2 A fr d2 env s2 _ E l2 a' (.inl hn) (λ w st3 d3 vu s3 h3 x3 l3 v3=>vm ok (p:=p) l3 (v1.mono (x12.trans x3)) (by induction lv using BU with
   | none=>exact v2
   | some t=>exact VV.mono x3 v2) (uv:=some w) v3 h3 (q.of (x2.trans x3))) (qx.of x2)
 induction lo using BU with
 | none=>
   induction hi using BU with
   | none=>exact BC (BC (BC (vm ok (p:=p) l1 v1 (lv:=none) (uv:=none) rfl rfl h1 (q.of x1))))
   | some hi=>
     refine BC ?_;rw[evalPart_some];exact CH (hi2 h1 x1 (.refl _ _) l1 rfl) (λ _ _ h=>BC h) λ _ _ e=>e
 | some lo=>
   rw[evalPart_some];refine ih _ h1 A fr d1 env s1 _ E l1 a' (.inl hn) (λ u st2 d2 vl s2 h2 x2 l2 v2=>?_) (qx.of x1);induction hi using BU with
   | none=>exact BC (BC (vm ok (p:=p) l2 (v1.mono x2) (lv:=some u) (uv:=none) v2 rfl h2 (q.of (x1.trans x2))))
   | some hi=>
     rw[evalPart_some];exact CH (hi2 h2 (x1.trans x2) x2 l2 (lv:=some u) v2) (λ _ _ h=>BC h) λ _ _ e=>e
theorem den_Item{o i:Expr}{p:Pos}(hi:∀ x y p,i≠.Slice x y none p)(h:self (.e o st (kSu self i k kx) kx)):Den X (r+1) (.e (.Subscript o i p) st k kx):=by
 intro A fr d env s Q E l0 a hh q qx;have a':=a.le (BW r)
 refine Subscript_ (ih _ h A fr d env s _ E l0 a' (Qz hh λ m hm=>by
  induction m using CD with
  | zero=>exact ff hm
  | succ m=>exact⟨m,(BD.mp hm).1⟩) (λ v st1 d1 va s1 h1 x1 l1 v1=>?_) qx)
 have h1:self (.e i st1 (kGi i v k) kx):=by
  induction i using Bd with
  | Slice lo hi2 stp pp=>
    induction stp using BU with
    | none=>exact absurd rfl (hi _ _ _)
    | some e=>exact h1
  | _=>exact h1
 exact ih _ h1 A fr d1 env s1 _ E l1 a' (Qz hh λ m hm=>by
  induction m using CD with
  | zero=>exact ff hm
  | succ m=>exact⟨m,(BD.mp hm).2⟩) (λ u st2 d2 vi s2 h2 x2 l2 v2=>sub_get (pos:=p) hi (Yf l2 a' (v1.mono x2) v2 h2 (q.of (x1.trans x2)))) (qx.of x1)
theorem J1{o i:Expr}{p:Pos}(h:jl self sp (.Subscript o i p) st k kx):Den X (r+1) (.e (.Subscript o i p) st k kx):=by
 by_cases hi:Ex3 λ lo hi pp=>i=.Slice lo hi none pp
 ·obtain⟨lo,hi,pp,rfl⟩:=hi;exact den_Cut ok ih h
 ·exact den_Item ok ih (λ x y p e=>hi ⟨x,y,p,e⟩) h
end
noncomputable def Lay.own (d:Lay) (n:Nat) (a dx:Addr):Lay:={ d with role:=λ b=>if b=a then some (.obj n) else if b=dx then some (.dct n) else d.role b,rho:=λ i=>if i=n then a else d.rho i }
section
variable{X:Run}{d:Lay}{mem:List jB}{fr:List Env}{s s':Shared}{env:Env}{st:St}{a dx:Addr}{mo:jB}
theorem jH.own_ext(c:jH X d mem fr s)(ha:s.heap.get? a=none)(hd:s.heap.get? dx=none):Ext d (jA mem) (d.own (jA mem) a dx) (jA mem+1):=
 ⟨λ b o e=>e,λ i hi=>BE (Ba hi),BW _,rfl⟩
theorem vJ{n:Nat}{b:Addr}(h1:b≠a)(h2:b≠dx):(d.own n a dx).role b=d.role b:=by
 show(if b=a then _ else if b=dx then _ else _)=_;rw[BE h1,BE h2]
theorem own_a{n:Nat}:(d.own n a dx).role a=some (.obj n):=BJ rfl
theorem own_dx{n:Nat}(h:dx≠a):(d.own n a dx).role dx=some (.dct n):=by
 show(if dx=a then _ else if dx=dx then _ else _)=_;rw[BE h,BJ rfl]
theorem jH.own(c:jH X d mem fr s)(k:∀ b o,s.heap.get? b=some o->s'.heap.get? b=some o)(ha:s.heap.get? a=none)(hd:s.heap.get? dx=none)(ha':∃ o,s'.heap.get? a=some o)(hd':∃ o,s'.heap.get? dx=some o)
  (hr:zN (d.own (jA mem) a dx) (jA mem+1) s'.heap (jA mem) mo) (hg:s'.gens=s.gens:=by rfl) (ho:s'.os=s.os:=by rfl):jH X (d.own (jA mem) a dx) (jU mem mo) fr s':=by
 have x0:=c.own_ext ha hd;have ne:∀ b o,s.heap.get? b=some o->b≠a/\b≠dx:=λ b o e=>⟨λ q=>(by rw[q,ha] at e;exact nsm e),λ q=>(by rw[q,hd] at e;exact nsm e)⟩;have rn:∀ b r,d.role b=some r->(d.own (jA mem) a dx).role b=some r:=λ b r e=>by
  obtain⟨o,h⟩:=c.rin b r e;rw[vJ (ne b o h).1 (ne b o h).2];exact e
 refine⟨hg.trans c.gens,ho.trans c.os,c.base,λ b o e=>k b o (c.zin b o e),λ b r e=>?_,λ b r e=>?_,λ b o e=>?_,λ i hi=>?_,c.tab.mono (λ _ _ e=>e) (rn qA _) (λ o e=>k _ o e),λ e he=>?_⟩
 ·show d.Z b=none;cases q:d.Z b with
  | none=>rfl
  | some o=>
    have:=ne b o (c.zin b o q);rw[vJ this.1 this.2,c.zrole q] at e;exact nsm e
 ·by_cases q:b=a
  ·rw[q];exact ha'
  ·by_cases q2:b=dx
   ·rw[q2];exact hd'
   ·rw[vJ q q2] at e;obtain⟨o,h⟩:=c.rin b r e;exact⟨o,k b o h⟩
 ·obtain⟨r,sl,h,hz⟩:=c.pin b o e;exact⟨rn b _ r,sl,k b _ h,hz⟩
 ·rw[jI] at hi ⊢;rw[jr];by_cases q:i=jA mem
  ·rw[BJ q,q];exact hr
  ·rw[BE q];have hi':i<jA mem:=by lia
   refine(c.mem i hi').mono x0 hi' (λ b h=>?_) λ b o _ e=>k b o e;rcases h with h | h <;> rw[rn b _ h,h]
 ·obtain⟨a',L,o,f,r,g,q⟩:=c.fr e he;exact⟨a',L,o,f,r.imp (rn L _) (rn L _),k L o g,q⟩
theorem Loc.own(l:Loc X d env fr st s)(k:∀ b o,s.heap.get? b=some o->s'.heap.get? b=some o)(ha:s.heap.get? a=none)(hd:s.heap.get? dx=none)(ha':∃ o,s'.heap.get? a=some o)(hd':∃ o,s'.heap.get? dx=some o)
  (hr:zN (d.own (jA st.mem) a dx) (jA st.mem+1) s'.heap (jA st.mem) mo) (hg:s'.gens=s.gens:=by rfl) (ho:s'.os=s.os:=by rfl):Loc X (d.own (jA st.mem) a dx) env fr (st.wm (jU st.mem mo)) s':=by
 have x0:=l.core.own_ext ha hd;have ne:∀ b o,s.heap.get? b=some o->b≠a/\b≠dx:=λ b o e=>⟨λ q=>(by rw[q,ha] at e;exact nsm e),λ q=>(by rw[q,hd] at e;exact nsm e)⟩;have rn:∀ b r,d.role b=some r->(d.own (jA st.mem) a dx).role b=some r:=λ b r e=>by
  obtain⟨o,h⟩:=l.core.rin b r e;rw[vJ (ne b o h).1 (ne b o h).2];exact e
 have x1:Ext d (jA st.mem) (d.own (jA st.mem) a dx) (jA (st.wm (jU st.mem mo)).mem):=by
  show Ext d _ _ (jA (jU st.mem mo));rw[jI];exact x0
 refine⟨l.core.own k ha hd ha' hd' hr hg ho,l.kind,l.sc,l.glob,l.blt,l.top,rn _ _ l.role,?_,λ y v h1 h2=>?_,λ y h1 h2=>?_⟩
 ·obtain⟨m,hm,h⟩:=l.ns;exact⟨m,hm.keeps k,λ y v h1 h2=>let ⟨val,e,z⟩:=h y v h1 h2;⟨val,e,z.mono x1⟩⟩
 ·obtain⟨c,val,o,g1,g2,g3,g4⟩:=l.cel y v h1 h2;exact⟨c,val,o,g1,g2,g3,g4.mono x1⟩
 ·obtain⟨c,o,g1,g2,g3,g4⟩:=l.ucel y h1 h2;exact⟨c,o,g1,k _ _ g2,g3,rn _ _ g4⟩
end
theorem QM{d:Lay}{n:Nat}{vs:List V}{vals:List Value}{ts:List T}(h:VVL d n vs vals)(e:Xn vs=some ts):VRL d.Z ts vals:=by
 induction h generalizing ts with
 | nil=>obtain rfl:=B9 e;exact .nil
 | @cons v _ vs _ a r ih=>induction v using Dr with
   | p t=>
     obtain⟨q,e2,rfl⟩:=yB (o:=Xn vs) e;exact .cons a.inv (ih e2)
   | _=>exact nsm e
theorem wz{d:Lay}{n:Nat}{vs:List V}{vals:List Value}(h:VVL d n vs vals)(e:y4 vs=true):sizeOk (.seq vals.toArray):=by
 have:vs.length<100:=Co.mp e;show vals.toArray.size<=sizeLine;rw[DM,CE,z3 h];lia
section
variable{X:Run}{r:Nat}{self:jK->Prop}{sp:Addr->Option zM}{A:Around}{fr:List Env}{d:Lay}{env:Env}{s:Shared}{st:St}{Q:Value->Shared->Prop}{E:Value->Shared->Prop}{k:K}{kx:KX}
theorem PE.newList(q:PE X d (jA st.mem) env fr k Q)(l:Loc X d env fr st s){mo:jB}{items:Array Value}(h:k (.m (jA st.mem)) (st.wm (jU st.mem mo)))
  (hr:∀ d',Ext d (jA st.mem) d' (jA st.mem+1)->d'.role (d'.rho (jA st.mem))=some (.obj (jA st.mem))->(s.heap.push (jS items 0)).get? (d'.rho (jA st.mem))=some (jS items 0)->zN d' (jA st.mem+1) (s.heap.push (jS items 0)) (jA st.mem) mo) :
  Q (.ref s.heap.objs.size) { s with heap:=s.heap.push (jS items 0) }:=by
 have ha:s.heap.get? s.heap.objs.size=none:=CU (BN _);have hn:(s.heap.push (jS items 0)).get? s.heap.objs.size=some (jS items 0):=BR _ rfl;have hrho:(d.own (jA st.mem) s.heap.objs.size s.heap.objs.size).rho (jA st.mem)=s.heap.objs.size:=BJ rfl;have x0:=l.core.own_ext ha ha;have l':=l.own (s':={ s with heap:=s.heap.push (jS items 0) }) (λ b o e=>BH _ e) ha ha ⟨_,hn⟩ ⟨_,hn⟩ (hr _ x0 (by rw[hrho];exact own_a) (by rw[hrho];exact hn));have x1:Ext d (jA st.mem) (d.own (jA st.mem) s.heap.objs.size s.heap.objs.size) (jA (st.wm (jU st.mem mo)).mem):=by
  show Ext d _ _ (jA (jU st.mem mo));rw[jI];exact x0
 refine q _ _ _ _ _ h x1 l' ?_;have:VV (d.own (jA st.mem) s.heap.objs.size s.heap.objs.size) (jA (st.wm (jU st.mem mo)).mem) (.m (jA st.mem)) (.ref ((d.own (jA st.mem) s.heap.objs.size s.heap.objs.size).rho (jA st.mem))):=
  .m (by show _<jA (jU st.mem mo);rw[jI];exact CK _)
 rwa [hrho] at this
variable(ok:jo X)(ih:∀ t,self t->Den X r t)(hst:qt self)
include ok ih
theorem smp_es{x:Expr}{xs:List Expr}(h:A.handled=none\/Smp [x])(hx:∀ m,smp m x=true->∃ m',xs.all (smp m')=true):A.handled=none\/Smp xs:=by
 rcases h with h | ⟨m,hm⟩
 ·exact .inl h
 ·rw[DU,Bn] at hm;obtain⟨m',h'⟩:=hx m hm.1;exact .inr ⟨m',h'⟩
omit ok ih in
theorem den_kLi{p:Pos}{vs:List V}{vals:List Value}(l:Loc X d env fr st s)(hv:VVL d (jA st.mem) vs vals)(h:kLi p k vs st)(q:PE X d (jA st.mem) env fr k Q):sizeOk (.seq vals.toArray)/\Q (.ref s.heap.objs.size) { s with heap:=s.heap.push (jS vals.toArray 0) }:=by
 unfold kLi at h;cases e1:y4 vs with
 | false=>rw[e1] at h;exact h.elim
 | true=>
   rw[e1] at h;refine⟨wz hv e1,?_⟩;cases e2:Xn vs with
   | none=>
     rw[e2] at h;exact q.newList l (items:=vals.toArray) h λ d' x hr hg=>⟨hr,vals.toArray,0,hg,by rw[CI];exact hv.mono x⟩
   | some ts=>
     rw[e2] at h;have hr:=QM hv e2;rw[<- CI (as:=vals)] at hr;cases e3:Uk p.line with
     | false=>rw[e3] at h;exact q.push l (o:=jS vals.toArray 0) h rfl λ d' x z=>.p (.lst z (hr.mono x.z))
     | true=>rw[e3] at h;exact q.newList l (items:=vals.toArray) h λ d' x hr' hg=>⟨hr',vals.toArray,0,hg,hr.mono x.z⟩
theorem den_List{es:List Expr}{p:Pos}(h:jl self sp (.List es p) st k kx):Den X (r+1) (.e (.List es p) st k kx):=by
 intro A fr d env s Q E l0 a hh q qx;induction es using BA with
 | nil=>
   have h:(match memN p.line WE with
    | true=>k (.p (.lst [])) st
    | false=>k (.m (jA st.mem)) (st.wm (jU st.mem (.plst [])))):=h
   refine List_ (spliced_none ?_);refine CT ?_ (CN _);cases e:memN p.line WE with
   | true=>rw[e] at h;exact q.push l0 (o:=jS #[] 0) h rfl λ d' x z=>.p (.lst z .nil)
   | false=>rw[e] at h;exact q.newList l0 (items:=#[]) h λ d' x hr hg=>⟨hr,#[],0,hg,.nil⟩
 | cons e es=>
   refine List_ (ih _ h A fr d env s p _ E l0 (a.le (BW r)) (smp_es ok ih hh λ m hm=>by induction m using CD with | zero=>exact ff hm | succ m=>exact⟨m,hm⟩) (λ vs st1 d1 vals s1 h1 x1 l1 v1=>?_) qx);obtain⟨hz,h1⟩:=den_kLi l1 v1 h1 (q.of x1);exact CT h1 hz
theorem den_Tuple{es:List Expr}{p:Pos}{c:Nat}(h:jl self sp (.Tuple es c p) st k kx):Den X (r+1) (.e (.Tuple es c p) st k kx):=by
 intro A fr d env s Q E l0 a hh q qx;refine Tuple_ (ih _ h A fr d env s p _ E l0 (a.le (BW r)) (smp_es ok ih hh λ m hm=>by induction m using CD with | zero=>exact ff hm | succ m=>exact⟨m,hm⟩) (λ vs st1 d1 vals s1 h1 x1 l1 v1=>?_) qx);obtain⟨e1,h1⟩:=jn h1;obtain⟨ts,e2,h1⟩:=jV h1;exact CT ((q.of x1).push l1 (o:=yH vals.toArray 0) h1 rfl λ d' x z=>.p (.tup z (by rw[CI];exact(QM v1 e2).mono x.z))) (wz v1 e1)
theorem UN{op:BoolOp}{xs:List Expr}{p:Pos}(h:jl self sp (.BoolOp op xs p) st k kx):Den X (r+1) (.e (.BoolOp op xs p) st k kx):=by
 intro A fr d env s Q E l0 a hh q qx;have a':=a.le (BW r);have hn:=zA hh λ m=>by cases m <;> rfl
 exact ih _ h A fr d env s p Q E l0 a' hn q qx
theorem uX{f:Addr}{vs:List V}{vals:List Value}(l:Loc X d env fr st s)(a:AOk A fr r)(hn:A.handled=none)(hv:VVL d (jA st.mem) vs vals)
  (h:self (.call f vs st.mem (kR k st) (kRx kx st))) (q:PE X d (jA st.mem) env fr k Q) (qx:PX X d (jA st.mem) env fr kx E) :
  wpAny (model X.prog X.w) A (call (.ref f) vals) Q E s:=by
 refine wpAny_call (ih _ h A fr (d.park s.heap) s vals _ l.core.park a hn (Zi hv) (λ v mem' d' val s' h1 x1 c1 v1=>?_) λ C mem' d' ea B a0 s' h1 x1 c1 e1=>?_)
 ·exact q v (st.wm mem') (d.unpark d') val s' h1 (wJ (d'':=d) x1) (l.unpark c1 x1) (yQ v1)
 ·refine qx C (st.wm mem') (d.unpark d') ea (some .none) B a0 s' h1 (wJ (d'':=d) x1) (l.unpark c1 x1) ?_ (.inr (.inl rfl));refine⟨e1.stays,λ b h2 h3=>e1.own b ?_ h3,e1.new,e1.ff,e1.tr⟩;rcases h2 with h2 | ⟨rr,h2⟩
  ·exact .inl h2
  ·right
   by_cases z:qJ (d.role b)=true
   ·cases w:d.role b with
    | none=>rw[w] at z;exact ff z
    | some r1=>
      obtain⟨o,ho⟩:=l.core.rin b r1 w;have:d'.P b=some o:=by rw[x1.P,wX z];exact ho
      exact⟨_,(c1.pin b o this).1⟩
   ·rw[qG z] at h2;exact⟨rr,h2⟩
end
theorem ux{d:Lay}{n:Nat}{a b:List V}{x y:List Value}(h:VVL d n a x)(h':VVL d n b y):VVL d n (a++b) (x++y):=by
 induction h with
 | nil=>exact h'
 | cons u _ ih=>exact .cons u ih
section
variable{X:Run}{r:Nat}{self:jK->Prop}{sp:Addr->Option zM}{A:Around}{fr:List Env}{d:Lay}{env:Env}{s:Shared}{st:St}{Q:Value->Shared->Prop}{E:Value->Shared->Prop}{k:K}{kx:KX}
theorem PE.append(q:PE X d (jA st.mem) env fr k Q)(l:Loc X d env fr st s){i:Nat}{items:Array Value}{n:Nat}{mo:jB}{val:Value}(hi:i<jA st.mem)(hr:d.role (d.rho i)=some (.obj i))(hg:s.heap.get? (d.rho i)=some (jS items n))(hsz:items.size<=200000)
  (h:k (.p .none) (st.wm (jp st.mem i mo))) (ho:∀ h' n',h'.get? (d.rho i)=some (jS (items.push val) n')->zN d (jA st.mem) h' i mo) :
  wpAny (model X.prog X.w) A (call (.builtin "list.append") [.ref (d.rho i),val]) Q E s:=by
 refine wpAny_list_append_plain ⟨n,hg⟩ (λ h' hp hs=>?_) (by refine rwl CE ?_;lia);obtain⟨n',hp⟩:=hp;have len:jA (st.wm (jp st.mem i mo)).mem=jA st.mem:=wT;refine q _ _ d _ _ h (rwl len (Ext.refl _ _)) (l.write (s':={ s with heap:=h' }) hi (.inl hr) hs ⟨_,hp⟩ (ho h' n' hp)) (.p .none)
theorem uC{a:Addr}{items:Array Value}{n:Nat}{pl:Sem Bool}{Qm:Value×List Value->Shared->Prop}(hg:s.heap.get? a=some (jS items n))(h:Qm (.builtin "list.append",[.ref a]) s) :
  wpAny (model X.prog X.w) A (getMethod (.ref a) n94 pl) Qm E s:=by
 refine rwl e94.symm ?_;exact getMethod_builtin ⟨_,hg,rfl⟩ PySem.F.plainAttrs_list slot_list_append PySem.F.type_list_append (λ a' e=>by cases e;exact⟨_,hg,rfl⟩) h
variable(ok:jo X)(ih:∀ t,self t->Den X r t)(hst:qt self)
include ok ih
omit ok ih in
theorem Zc{b c e:Bool}(h:bmIf b c=some e):b=true/\c=e:=by
 induction b using CM with
 | true=>obtain rfl:=B9 h;exact⟨rfl,rfl⟩
 | false=>exact nsm h
omit ok ih in
theorem bmOk_of{mem:List jB}{n:Str}{ov:V}{b:Bool}(h:bmOk mem n ov=some b):∃ i,ov=.m i/\
  ((jT (b=true) (n=n94) ((∃ ts,jC mem i=.plst ts)\/∃ vs,jC mem i=.vlst vs))\/(jT (b=false) (n=nPop) (Ex2 λ es ep=>jC mem i=.dict es ep))):=by
 induction ov using Dr with
 | m i=>
   refine⟨i,rfl,?_⟩;have h:bmO n (jC mem i)=some b:=h;cases e:jC mem i with
   | plst ts=>replace h:=e▸h;obtain⟨h1,h2⟩:=Zc (c:=true) h;exact .inl ⟨h2.symm,qc.mp h1,.inl ⟨ts,rfl⟩⟩
   | vlst ts=>replace h:=e▸h;obtain⟨h1,h2⟩:=Zc (c:=true) h;exact .inl ⟨h2.symm,qc.mp h1,.inr ⟨ts,rfl⟩⟩
   | dict es ep=>replace h:=e▸h;obtain⟨h1,h2⟩:=Zc (c:=false) h;exact .inr ⟨h2.symm,qc.mp h1,es,ep,rfl⟩
   | _=>replace h:=e▸h;exact nomatch h
 | _=>exact nsm h
omit ok ih in
theorem UK(l:Loc X d env fr st s){i:Nat}{vs:List V}{vals:List Value}(hi:i<jA st.mem)(hv:VVL d (jA st.mem) vs vals)(h:zg vs (appO (jC st.mem i) i st k))(q:PE X d (jA st.mem) env fr k Q) :
  wpAny (model X.prog X.w) A (call (.builtin "list.append") (.ref (d.rho i)::vals)) Q E s:=by
 obtain⟨x,rfl,h⟩:=zf h;obtain⟨val,rfl,hx⟩:=yF hv;have c:=l.core.mem i hi;generalize e:jC st.mem i=o at c h;induction o using jB.casesOn with
 | plst ts=>
   obtain⟨c1,items,n,c2,c3⟩:=c;have hl:=jk c3;induction x using Dr with
   | p t=>
     obtain⟨h0,h⟩:=h;exact q.append l hi c1 c2 (by lia) h λ h' n' hg=>⟨c1,_,n',hg,by refine rwl Array.toList_push ?_;exact z4 c3 (.cons hx.inv .nil)⟩
   | m j=>induction ts using BA with
     | nil=>
       refine q.append l hi c1 c2 (rwl hl (CN _)) h λ h' n' hg=>⟨c1,_,n',hg,?_⟩;cases c3':items with | mk il=>
       replace c3:=c3'▸c3;cases c3;exact .cons hx .nil
     | cons=>exact fe h
   | lam=>exact fe h
 | vlst vs=>
   obtain⟨c1,items,n,c2,c3⟩:=c;have hl:=z3 c3;replace hl:=BQ▸hl;obtain⟨h0,h⟩:=h;exact q.append l hi c1 c2 (by lia) h λ h' n' hg=>⟨c1,_,n',hg,by refine rwl Array.toList_push ?_;exact ux c3 (.cons hx .nil)⟩
 | _=>exact fe h
omit ok ih in
theorem popO_of{o:jB}{i:Nat}{x:V}(h:popO o i st k x):Ex4 λ key t u ep=>jj (x=.p (.tup key)) (o=.dict [(t,u)] ep) (T.eqB t (.tup key)=true) (∀ ep,k u (st.wm (jp st.mem i (.dict [] ep)))):=by
 induction x using Dr with
 | p t=>induction t using Dq with
   | tup key=>induction o using jB.casesOn with
     | dict es ep=>induction es using BA with
       | nil=>exact fe h
       | cons e r=>induction r using BA with
         | nil=>exact⟨key,e.1,e.2,ep,rfl,rfl,h.1,h.2⟩
         | cons=>exact fe h
     | _=>exact fe h
   | _=>exact fe h
 | _=>exact fe h
omit ok ih in
theorem den_pop(l:Loc X d env fr st s)(hu:A.units+1<cLine){i:Nat}{vs:List V}{vals:List Value}(hi:i<jA st.mem)(hv:VVL d (jA st.mem) vs vals)(h:zg vs (popO (jC st.mem i) i st k))(q:PE X d (jA st.mem) env fr k Q) :
  wpAny (model X.prog X.w) A (call (.builtin "dict.pop") (.ref (d.rho i)::vals)) Q E s:=by
 obtain⟨x,rfl,h⟩:=zf h;obtain⟨val,rfl,hx⟩:=yF hv;obtain⟨key,t,u,ep2,rfl,e3,h3,h4⟩:=popO_of h;obtain⟨a,items,m,rfl,z,zz⟩:=hx.inv.inv;obtain⟨hro,ne,xs,o,dx⟩:=ut (prog:=X.prog) (w:=X.w) l.core hi e3;cases dx with
 | @one ks a0 _ _ _ val _ _ hval=>
   have h3:=Qi ks _ h3;subst h3;refine pop_dict hu (xQ l.core.zin z zz) o λ ep3 tk h' g' hs'=>?_;have len:jA (st.wm (jp st.mem i (.dict [] ep3))).mem=jA st.mem:=wT;refine q _ _ d _ _ (h4 ep3) (rwl len (Ext.refl _ _)) (l.write (s':={ s with heap:=h',toks:=tk }) hi (.inl hro) hs' ⟨_,g'⟩ ⟨hro,Bh.mp ne,#[],g',.nil⟩) ?_;refine rwl len ?_;exact hval
theorem den_bm{n:Str}{p:Pos}{args:List Expr}{ov:V}{oval:Value}{pl:Sem Bool}{b:Bool}(hs:noStar args=true)(l:Loc X d env fr st s)(a:AOk A fr r)(hn:A.handled=none)
  (hv:VV d (jA st.mem) ov oval) (h:self (.es args st (kBm b ov k) kx)) (hb:bmOk st.mem n ov=some b) (q:PE X d (jA st.mem) env fr k Q) (qx:PX X d (jA st.mem) env fr kx E) :
  wpAny (model X.prog X.w) A (getMethod oval n pl) (λ fm s₂=>wpAny (model X.prog X.w) A (callWith p fm.1 fm.2 (backTo p (starEach args env)) []) Q E s₂) E s:=by
 obtain⟨i,rfl,hb2⟩:=bmOk_of hb;clear hb;obtain⟨hi,rfl⟩:=hv.inv;have c:=l.core.mem i hi;rcases hb2 with ⟨rfl,rfl,hb⟩ | ⟨rfl,rfl,es,ep,e⟩
 ·have:Ex2 λ items nn=>s.heap.get? (d.rho i)=some (jS items nn):=by
   rcases hb with ⟨ts,e⟩ | ⟨ts,e⟩ <;> (replace c:=e▸c;obtain⟨_,items,nn,g,_⟩:=c;exact⟨items,nn,g⟩)
  obtain⟨items,nn,hg⟩:=this;refine uC hg (qF hs (ih _ h A fr d env s p _ E l a (.inl hn) (λ vs st2 d2 vals s2 h2 x2 l2 v2=>?_) qx));have:=UK (A:=A) (E:=E) l2 (BY hi x2.n) v2 h2 (q.of x2);rwa [x2.rho i hi] at this
 ·refine rwl (show nPop=Str.ofString "pop" from by decide +kernel) ?_;replace c:=e▸c;obtain⟨_,_,ds0,g0,_⟩:=c;refine getMethod_builtin ⟨_,g0,rfl⟩ PySem.F.plainAttrs_dict PySem.F.slot_dict_pop PySem.F.type_dict_pop (λ a' e=>by cases e;exact⟨_,g0,rfl⟩) ?_;refine qF hs (ih _ h A fr d env s p _ E l a (.inl hn) (λ vs st2 d2 vals s2 h2 x2 l2 v2=>?_) qx);have:=den_pop (A:=A) (E:=E) l2 (by have:=a.uni;show A.units+1<9900;lia) (BY hi x2.n) v2 h2 (q.of x2);rwa [x2.rho i hi] at this
theorem keep_of{f:Addr}(hc:XH f=true)(k:∀ b o,X.base.get? b=some o->s.heap.get? b=some o):∃ kk,(kk=Keeper.frame\/kk=Keeper.machine\/kk=Keeper.boundFrame)/\Looks (model X.prog X.w) s.heap (keeperOf (.ref f)) kk:=by
 obtain⟨K,hK,_,_,hc'⟩:=ok.k;exact keeps_K (hc' f hc) s.heap (hK.keeps k)
theorem ZX{o:Expr}{n:Str}{apos p:Pos}{args:List Expr}(h:jl self sp (.Call (.Attribute o n apos) args [] p) st k kx):Den X (r+1) (.e (.Call (.Attribute o n apos) args [] p) st k kx):=by
 intro A fr d env s Q E l0 a hh q qx;have a':=a.le (BW r);have hn:=zA hh λ m=>by cases m <;> rfl
 obtain⟨e,h⟩:=jn h;obtain⟨e,e3⟩:=BD.mp e;obtain⟨e1,e2⟩:=BD.mp e;obtain⟨e3,e4⟩:=BD.mp e3;refine Call_meth e1 e2 (Nat.lt_trans (Co.mp e4) (by decide)) (Nat.beq_eq.mp e3) (ih _ h A fr d env s _ E l0 a' (.inl hn) (λ ov st1 d1 oval s1 h1 x1 l1 v1=>?_) qx);unfold kMe at h1;cases hc:clsV st1.mem n ov with
 | some C=>
   replace h1:=hc▸h1;obtain⟨f,hm,h1⟩:=jV h1;refine UH ok l1 v1 hc hm (qf e2 (ih _ h1 A fr d1 env s1 p _ E l1 a' (.inl hn) (λ vs st2 d2 vals s2 h2 x2 l2 v2=>⟨?_,uX ok ih l2 a' hn (.cons (v1.mono x2) v2) h2 (q.of (x1.trans x2)) (qx.of (x1.trans x2))⟩) (qx.of x1)));obtain⟨K,hK,_,hme,_⟩:=ok.k;exact keeps_K (hme C n f hm).4 s2.heap (hK.keeps l2.stays)
 | none=>
   replace h1:=hc▸h1;obtain⟨b,hb,h1⟩:=jV h1;exact den_bm ok ih e2 l1 a' hn v1 h1 hb (q.of x1) (qx.of x1)
end
section
variable{X:Run}{r:Nat}{self:jK->Prop}{sp:Addr->Option zM}{A:Around}{fr:List Env}{d:Lay}{env:Env}{s:Shared}{st:St}{Q:Value->Shared->Prop}{E:Value->Shared->Prop}{k:K}{kx:KX}
theorem lam_keep{a:Addr}{x:Expr}{sc:Scope}{cl:List (Str×Addr)}{Z:FZ}(kz:∀ b o,Z b=some o->s.heap.get? b=some o)(h:Qs Z a x sc cl):∃ kk,(kk=Keeper.frame\/kk=Keeper.machine\/kk=Keeper.boundFrame)/\Looks (model X.prog X.w) s.heap (keeperOf (.ref a)) kk:=by
 obtain⟨⟨oc',od,oda,osl⟩,fd,c,oc,vs,qq,t,h1,_,rfl,_⟩:=h;exact⟨.frame,.inl rfl,(Looks.ld (part:=none) (kz _ _ h1)).andThen .now⟩
def XQ(X:Run)(r:Nat)(self:jK->Prop):Prop:=∀(A:Around) (fr:List Env) (d:Lay) (s:Shared) (mem:List jB) (x:Expr) (sc:Scope) (loc:List (Str×V)) (a:Addr) (k:KM) (kx:KXM) (R:Result->Shared->Prop),
 yO (jF sc)=true->uu (jF sc) loc=true->self (.e x ⟨loc,mem,jF sc⟩ (λ v st=>k v st.mem) (λ C st=>kx C st.mem))->jH X d mem fr s->AOk A fr (r+1)->A.handled=none->VV d (jA mem) (.lam x sc loc) (.ref a)->
 (∀ v mem' d' val s',k v mem'->Ext d (jA mem) d' (jA mem')->jH X d' mem' fr s'->VV d' (jA mem') v val->R (.ok (.ret val)) s')->
 (∀ C mem' d' ea B a0 s',kx C mem'->Ext d (jA mem) d' (jA mem')->jH X d' mem' fr s'->Exc d' fr C ea (some .none) B a0 s'->R (.error (.ref ea)) s')->
 codeAny (model X.prog X.w) A (.call (.ref a) ⟨[],[]⟩) R s
variable(ok:jo X)(ih:∀ t,self t->Den X r t)(hst:qt self)(hlam:XQ X r self)
include ok ih hlam
theorem Qr{mem':List jB}{d':Lay}{s':Shared}(l:Loc X d env fr st s)(x1:Ext (d.park s.heap) (jA st.mem) d' (jA mem'))(c1:jH X d' mem' fr s'):Loc X (d.unpark d') env fr (st.wm mem') s'/\Ext d (jA st.mem) (d.unpark d') (jA mem'):=
 ⟨l.unpark c1 x1,wJ (d'':=d) x1⟩
theorem back_exc{mem':List jB}{d':Lay}{s':Shared}{C ea:Addr}{B:Heap}{a0:Value}{fl:Option Value}(l:Loc X d env fr st s)(x1:Ext (d.park s.heap) (jA st.mem) d' (jA mem'))(c1:jH X d' mem' fr s')(e1:Exc d' fr C ea fl B a0 s'):Exc (d.unpark d') fr C ea fl B a0 s':=by
 refine⟨e1.stays,λ b h2 h3=>e1.own b ?_ h3,e1.new,e1.ff,e1.tr⟩;rcases h2 with h2 | ⟨rr,h2⟩
 ·exact .inl h2
 ·right
  by_cases z:qJ (d.role b)=true
  ·cases w:d.role b with
   | none=>replace z:=w▸z;exact ff z
   | some r1=>
     obtain⟨o,ho⟩:=l.core.rin b r1 w;have:d'.P b=some o:=by refine rwl x1.P (rwl (wX z) ?_);exact ho
     exact⟨_,(c1.pin b o this).1⟩
  ·replace h2:=(qG z)▸h2;exact⟨rr,h2⟩
theorem ZW{f:Str}{fp p:Pos}{args:List Expr}(h:jl self sp (.Call (.Name f fp) args [] p) st k kx):Den X (r+1) (.e (.Call (.Name f fp) args [] p) st k kx):=by
 intro A fr d env s Q E l0 a hh q qx;have a':=a.le (BW r);have hn:=zA hh λ m=>by cases m <;> rfl
 obtain⟨e2,h⟩:=jn h;refine Call_ (ih _ h A fr d env s _ E l0 a' (.inl hn) (λ fv st1 d1 fval s1 h1 x1 l1 v1=>?_) qx);have qq:=λ{d2 n2} (x2:Ext d1 (jA st1.mem) d2 n2)=>q.of (x1.trans x2);have qqx:=λ{d2 n2} (x2:Ext d1 (jA st1.mem) d2 n2)=>qx.of (x1.trans x2);induction fv using Dr with
 | p t=>induction t using Dq with
   | bi b=>
     have e:fval=biV b:=v1.inv.inv;subst e;exact vd e2 (ih _ h1 A fr d1 env s1 p _ E l1 a' (.inl hn) (λ vs st2 d2 vals s2 h2 x2 l2 v2=>den_bcall ok l2 a' hn v2 h2 (qq x2)) (qx.of x1))
   | ref g=>
     have e:fval=.ref g:=v1.inv.inv;subst e;refine qf e2 (ih _ h1 A fr d1 env s1 p _ E l1 a' (.inl hn) (λ vs st2 d2 vals s2 h2 x2 l2 v2=>?_) (qx.of x1));obtain⟨ec,h2⟩:=jn h2;exact⟨keep_of ok ih ec l2.stays,uX ok ih l2 a' hn v2 h2 (qq x2) (qqx x2)⟩
   | _=>exact qf e2 (ih _ h1 A fr d1 env s1 p _ E l1 a' (.inl hn) (λ vs st2 d2 vals s2 h2 x2 l2 v2=>(show False from h2).elim) (qx.of x1))
 | m i=>exact qf e2 (ih _ h1 A fr d1 env s1 p _ E l1 a' (.inl hn) (λ vs st2 d2 vals s2 h2 x2 l2 v2=>(show False from h2).elim) (qx.of x1))
 | lam x sc loc=>
   obtain⟨fa,cl,rfl,hl,hc⟩:=v1.inv;refine qf e2 (ih _ h1 A fr d1 env s1 p _ E l1 a' (.inl hn) (λ vs st2 d2 vals s2 h2 x2 l2 v2=>?_) (qx.of x1));induction vs using BA with
   | cons=>exact(show False from h2).elim
   | nil=>
     have e:=v2.inv0;subst e;obtain⟨q1,h2⟩:=jn h2;obtain⟨q1,q2⟩:=BD.mp q1;have hl:=hl.mono x2.z;refine⟨lam_keep l2.core.zin hl,wpAny_call (hlam A fr (d2.park s2.heap) s2 st2.mem x sc loc _ (kR k st2) (kRx kx st2) _ q1 q2 h2 l2.core.park a hn (.lam hl (Zk (hc.mono x2))) (λ v mem' d' val s' h3 x3 c3 v3=>?_) λ C mem' d' ea B a0 s' h3 x3 c3 e3=>?_)⟩
     ·have b:=Qr ok ih hlam l2 x3 c3;exact qq x2 v (st2.wm mem') (d2.unpark d') val s' h3 b.2 b.1 (yQ v3)
     ·have b:=Qr ok ih hlam l2 x3 c3;exact qqx x2 C (st2.wm mem') (d2.unpark d') ea (some .none) B a0 s' h3 b.2 b.1 (back_exc ok ih hlam l2 x3 c3 e3) (.inr (.inl rfl))
end
section
variable{X:Run}{r:Nat}{self:jK->Prop}{sp:Addr->Option zM}{A:Around}{fr:List Env}{d:Lay}{env:Env}{s:Shared}{st:St}{Q:Value->Shared->Prop}{E:Value->Shared->Prop}{k:K}{kx:KX}{kb:Bool->St->Prop}
variable(ok:jo X)(ih:∀ t,self t->Den X r t)
include ok ih
theorem den_cmp{va:V}{ops:List CmpOp}{cs:List Expr}(h:JA sp self (.cmp va ops cs st k kx)):Den X (r+1) (.cmp va ops cs st k kx):=by
 intro A fr d env s pos val Q E l a hn hv q qx;have a':=a.le (BW r);induction ops using BA with
 | nil=>exact fe h
 | cons op ops=>induction cs using BA with
   | nil=>exact fe h
   | cons c cs=>induction ops using BA with
     | nil=>induction cs using BA with
       | nil=>exact chain_last (ih _ h A fr d env s _ E l a' (.inl hn) (λ b st1 d1 vb s1 h1 x1 l1 v1=>wh l1 a (hv.mono x1) v1 h1 λ b t hb=>(q.of x1).toks l1 hb (.p (.bool _))) qx)
       | cons=>exact fe h
     | cons op2 ops=>induction cs using BA with
       | nil=>exact fe h
       | cons c2 cs=>
         refine chain_link (ih _ h A fr d env s _ E l a' (.inl hn) (λ b st1 d1 vb s1 h1 x1 l1 v1=>wh l1 a (hv.mono x1) v1 h1 λ b t hb=>Cv ?_) qx);induction b using CM with
         | false=>exact(q.of x1).toks l1 hb (.p (.bool _))
         | true=>exact ih _ hb A fr d1 env _ pos vb Q E (l1.toks rfl) a' hn v1 (q.of x1) (qx.of x1)
theorem den_tc{va:V}{ops:List CmpOp}{cs:List Expr}(h:JA sp self (.tc va ops cs st kb kx)):Den X (r+1) (.tc va ops cs st kb kx):=by
 intro A fr d env s pos val Q E l a hn hv q qx;have a':=a.le (BW r);induction ops using BA with
 | nil=>exact fe h
 | cons op ops=>induction cs using BA with
   | nil=>exact fe h
   | cons c cs=>induction ops using BA with
     | nil=>induction cs using BA with
       | nil=>exact test_last (ih _ h A fr d env s _ E l a' (.inl hn) (λ b st1 d1 vb s1 h1 x1 l1 v1=>wh l1 a (hv.mono x1) v1 h1 λ b t hb=>Cv (q b st1 d1 _ hb x1 (l1.toks rfl))) qx)
       | cons=>exact fe h
     | cons op2 ops=>induction cs using BA with
       | nil=>exact fe h
       | cons c2 cs=>
         refine test_link (ih _ h A fr d env s _ E l a' (.inl hn) (λ b st1 d1 vb s1 h1 x1 l1 v1=>wh l1 a (hv.mono x1) v1 h1 λ b t hb=>Cv ?_) qx);induction b using CM with
         | false=>exact q false st1 d1 _ hb x1 (l1.toks rfl)
         | true=>exact ih _ hb A fr d1 env _ pos vb Q E (l1.toks rfl) a' hn v1 (q.of x1) (qx.of x1)
omit ok ih in
theorem kBo_of{op:BoolOp}{xs:List Expr}{v:V}{n:Nat}{val:Value}(hv:VV d n v val)(h:kBo self op xs k kx v st):∃ b,val=.bool b/\(match(generalizing:=false) op with
  | .And=>Br b (self (.bo .And xs st k kx)) (k (.p (.bool false)) st)
  | .Or=>Br b (k (.p (.bool true)) st) (self (.bo .Or xs st k kx))):=by
 induction v using Dr with
 | p t=>induction t using Dq with
   | bool b=>exact⟨b,hv.inv.inv,h⟩
   | _=>exact fe h
 | _=>exact fe h
theorem den_bo{op:BoolOp}{xs:List Expr}(h:JA sp self (.bo op xs st k kx)):Den X (r+1) (.bo op xs st k kx):=by
 intro A fr d env s pos Q E l a hn q qx;have a':=a.le (BW r);induction xs using BA with
 | nil=>exact fe h
 | cons x xs=>induction xs using BA with
   | nil=>exact BoolOp_one (ih _ h A fr d env s _ E l a' (.inl hn) q qx)
   | cons y xs=>induction op using BoolOp.casesOn with
     | And=>
       refine BoolOp_and (ih _ h A fr d env s _ E l a' (.inl hn) (λ v st1 d1 va s1 h1 x1 l1 v1=>?_) qx);obtain⟨b,rfl,h1⟩:=kBo_of v1 h1;refine Cv ?_;induction b using CM with
       | false=>exact(q.of x1).bool l1 h1
       | true=>exact ih _ h1 A fr d1 env s1 pos Q E l1 a' hn (q.of x1) (qx.of x1)
     | Or=>
       refine BoolOp_or (ih _ h A fr d env s _ E l a' (.inl hn) (λ v st1 d1 va s1 h1 x1 l1 v1=>?_) qx);obtain⟨b,rfl,h1⟩:=kBo_of v1 h1;refine Cv ?_;induction b using CM with
       | true=>exact(q.of x1).bool l1 h1
       | false=>exact ih _ h1 A fr d1 env s1 pos Q E l1 a' hn (q.of x1) (qx.of x1)
theorem den_ts{op:BoolOp}{xs:List Expr}(h:JA sp self (.ts op xs st kb kx)):Den X (r+1) (.ts op xs st kb kx):=by
 intro A fr d env s Q E l a hn q qx;have a':=a.le (BW r);induction xs using BA with
 | nil=>induction op using BoolOp.casesOn with
   | And=>exact wpAny_allTrue_And_nil (q true st d s h (.refl _ _) l)
   | Or=>exact wpAny_allTrue_Or_nil (q false st d s h (.refl _ _) l)
 | cons x xs=>induction op using BoolOp.casesOn with
   | And=>
     refine wpAny_allTrue_And_cons (ih _ h A fr d env s _ E l a' hn (λ b st1 d1 s1 h1 x1 l1=>?_) qx);induction b using CM with
     | false=>exact q false st1 d1 s1 h1 x1 l1
     | true=>exact ih _ h1 A fr d1 env s1 Q E l1 a' hn (q.of x1) (qx.of x1)
   | Or=>
     refine wpAny_allTrue_Or_cons (ih _ h A fr d env s _ E l a' hn (λ b st1 d1 s1 h1 x1 l1=>?_) qx);induction b using CM with
     | true=>exact q true st1 d1 s1 h1 x1 l1
     | false=>exact ih _ h1 A fr d1 env s1 Q E l1 a' hn (q.of x1) (qx.of x1)
theorem uW{x:Expr}(h:self (.e x st (kTb kb) kx))(l:Loc X d env fr st s)(a:AOk A fr r)(hn:A.handled=none){Q:Bool->Shared->Prop}(q:PB X d (jA st.mem) env fr kb Q)(qx:PX X d (jA st.mem) env fr kx E) :
  wpAny (model X.prog X.w) A (eval x env) (λ v s₁=>wpAny (model X.prog X.w) A (truthy v) Q E s₁) E s:=by
 refine ih _ h A fr d env s _ E l a (.inl hn) (λ v st1 d1 va s1 h1 x1 l1 v1=>?_) qx;induction v using Dr with
 | p t=>induction t using Dq with
   | bool b=>
     have e:va=.bool b:=v1.inv.inv;subst e;exact Cv (q b st1 d1 s1 h1 x1 l1)
   | _=>exfalso;exact h1
 | _=>exfalso;exact h1
theorem den_t{x:Expr}(h:JA sp self (.t x st kb kx)):Den X (r+1) (.t x st kb kx):=by
 intro A fr d env s Q E l a hn q qx;have a':=a.le (BW r);induction x using Bd with
 | UnaryOp op y p=>
   induction op using UnaryOp.casesOn with
   | Not=>exact isTrue_not (ih _ h A fr d env s _ E l a' hn (λ b st1 d1 s1 h1 x1 l1=>q (!b) st1 d1 s1 h1 x1 l1) qx)
   | _=>exact isTrue_plain (uW ok ih h l a' hn q qx)
 | BoolOp op vs p=>exact wpAny_isTrue_BoolOp (ih _ h A fr d env s _ E l a' hn q qx)
 | IfExp t b o p=>
   refine isTrue_IfExp (ih _ h A fr d env s _ E l a' hn (λ c st1 d1 s1 h1 x1 l1=>?_) qx);induction c using CM with
   | true=>exact ih _ h1 A fr d1 env s1 Q E l1 a' hn (q.of x1) (qx.of x1)
   | false=>exact ih _ h1 A fr d1 env s1 Q E l1 a' hn (q.of x1) (qx.of x1)
 | Compare left ops cs p=>
   obtain⟨hs,h⟩:=jn h;show wpAny (model X.prog X.w) A (do testChain p (<- eval left env) ops (markedEach ops cs (evalEach cs env))) Q E s;refine rwl (markedEach_of_false _ _ _ (vQ ops cs hs)) ?_;exact B0 (ih _ h A fr d env s _ E l a' (.inl hn) (λ v st1 d1 va s1 h1 x1 l1 v1=>ih _ h1 A fr d1 env s1 p va Q E l1 a' hn v1 (q.of x1) (qx.of x1)) qx)
 | _=>exact isTrue_plain (uW ok ih h l a' hn q qx)
end
theorem vrl_set{Z:FZ}{t:T}{v:Value}(hv:VR Z t v){ts:List T}{xs:List Value}(h:VRL Z ts xs):∀ j:Nat,VRL Z (ts.set j t) (xs.set j v):=by
 induction h using VRL.ind with
 | h0=>exact λ _=>.nil
 | h1 a r ih=>intro j;induction j using CD with
   | zero=>exact .cons hv r
   | succ j=>exact .cons a (ih j)
theorem wR{env:Env}(ts:List Expr):(assignEach ts env).length=ts.length:=by
 induction ts with
 | nil=>rfl
 | cons t ts ih=>induction t using Bd with
   | _=>exact Bo Nat.succ ih
theorem uN{t:Expr}{ts:List Expr}(h:noStar (t::ts)=true):noStar ts=true:=(BD.mp h).2
theorem wQ{env:Env}{t:Expr}{ts:List Expr}(h:noStar (t::ts)=true):assignEach (t::ts) env=(false,assign t env)::assignEach ts env:=by
 induction t using Bd with
 | Starred=>exact ff (BD.mp h).1
 | _=>rfl
theorem yu{env:Env}(ts:List Expr)(h:noStar ts=true):(assignEach ts env).findIdx? (·.1)=none:=by
 induction ts with
 | nil=>rfl
 | cons t ts ih=>refine rwl (wQ h) (rwl (List.findIdx?_cons) (rwl (ih (uN h)) ?_));rfl
theorem ui{env:Env}{t:Expr}{ts:List Expr}(h:noStar (t::ts)=true):(assignEach (t::ts) env).map (·.2)=assign t env::(assignEach ts env).map (·.2):=by
 refine rwl (wQ h) ?_;rfl
theorem vrl_vvl{d:Lay}{n:Nat}{us:List T}{vs:List Value}(h:VRL d.Z us vs):VVL d n (us.map V.p) vs:=by
 induction h using VRL.ind with
 | h0=>exact .nil
 | h1 a _ ih=>exact .cons (.p a) ih
theorem xZ(h:Heap):h.get? h.objs.size=none:=by
 cases e:h.get? h.objs.size with
 | none=>rfl
 | some o=>exact absurd (Be e) (Cl _)
section
variable{prog:Program}{w:World}{A:Around}{E:Value->Shared->Prop}{s:Shared}
theorem JB{l:Addr}{items:Array Value}{n j:Nat}{k:Int}{t:Tok}{v:Value}{Q:Unit->Shared->Prop}(hl:s.heap.get? l=some (jS items n))(hk:k=(j:Int))(hfit:j<1000)(hn:j<items.size)
  (hQ:∀ h' n',h'.get? l=some (jS (items.setIfInBounds j v) n')->Heap.SameBut l s.heap h'->Q () { s with heap:=h' }) :
  wpAny (model prog w) A (setItem (.ref l) (.int k t) v) Q E s:=by
 have hT:s.heap.IsList l items:=⟨_,hl,rfl,_,rfl⟩;have hd:(jS items n).data=.seq items n:=rfl;unfold setItem
 try with_reducible refine Bu ?_
 first | refine B0 (BC ?_) | skip
 refine B0 (wpAny_sequenceKey hT.typeIs (by decide) ?_)
 refine B0 (wpAny_callSpecial?_slot (name:=Str.ofString "__setitem__") hT.typeIs slot_list_setitem
  (Dh slot_list_setitem hT.typeIs entry_list_setitem ?_ (args_list_setitem _ _ _)))
 show wpAny _ _ (Builtin.List.listSubscript? (.int k t) >>= _) _ _ s;refine B0 (wpAny_listSubscript_int (fitsIndex_of (by lia) (by lia)) ?_);clear hfit;subst hk;have hx':items[j]?=some items[j]:=Array.getElem?_eq_getElem hn;show wpAny _ _ ((seqItemAt l j >>= λ r=>pure (r.map (j,·))) >>= _) _ _ s;refine B0 (B0 (wpAny_seqItemAt hl hd (BC ?_)));refine rwl hx' ?_;show wpAny _ _ (setSeqItemAt l j v >>= _) _ _ s;obtain⟨n',hd'⟩:=Obj.data_mapSeq hd (·.setIfInBounds j v);have hfin:(s.heap.update l (Obj.mapSeq (·.setIfInBounds j v))).get? l=some (jS (items.setIfInBounds j v) n'):=by
  refine rwl (CX _ hl (Obj.isFreed_of_seq hd')) ?_;have e:Obj.mapSeq (·.setIfInBounds j v) (jS items n)={ jS items n with data:=(Obj.mapSeq (·.setIfInBounds j v) (jS items n)).data }:=rfl;refine rwl e (rwl hd' ?_);rfl
 refine B0 (wpAny_setSeqItemAt hl hd ?_)
 first
  | exact B0 (BC (BC ⟨.none,rfl,BC (hQ _ _ hfin (Dg ..))⟩))
  | exact BC ⟨.none,rfl,BC (hQ _ _ hfin (Dg ..))⟩
end
section
variable{X:Run}{r:Nat}{self:jK->Prop}{sp:Addr->Option zM}{A:Around}{fr:List Env}{d:Lay}{env:Env}{s:Shared}{st:St}{E:Value->Shared->Prop}{kx:KX}{ku:St->Prop}{Q:Unit->Shared->Prop}
theorem setL_of{n j:Nat}{t:T}{o:jB}(h:setL n j t st ku o):∃ ts,jj (o=.plst ts) (j<ts.length) (j<1000) (ku (st.wm (jp st.mem n (.plst (ts.set j t))))):=by
 induction o using jB.casesOn with
 | plst ts=>
   obtain⟨e,h⟩:=jn h;obtain⟨e1,e2⟩:=BD.mp e;exact⟨ts,rfl,Co.mp e1,Co.mp e2,h⟩
 | _=>exact fe h
theorem setD_of{n:Nat}{key:List T}{v:V}{o:jB}(h:setD n key v st ku o):Ex2 λ ep ns=>jT (o=.dict [] ep) (T.ints key=some ns) (∀ ep,ku (st.wm (jp st.mem n (.dict [(.tup key,v)] ep)))):=by
 induction o using jB.casesOn with
 | dict es ep=>induction es using BA with
   | nil=>
     obtain⟨ns,e,h⟩:=jV h;exact⟨ep,ns,rfl,e,h⟩
   | cons=>exact fe h
 | _=>exact fe h
theorem Yd(l:Loc X d env fr st s)(ak:AOk A fr r){a i u:V}{va vi vu:Value}(ha:VV d (jA st.mem) a va)(hi:VV d (jA st.mem) i vi)(hu:VV d (jA st.mem) u vu)(h:Uc a i u st ku)(q:PU X d (jA st.mem) env fr ku Q) :
  wpAny (model X.prog X.w) A (setItem va vi vu) Q E s:=by
 induction a using Dr with
 | m n=>
   obtain⟨hn,rfl⟩:=ha.inv;induction i using Dr with
   | p i=>induction i using Dq with
     | int j=>induction j using Int.casesOn with
       | ofNat j=>induction u using Dr with
         | p t=>
           obtain⟨ts,e,hj1,hj2,h⟩:=setL_of (n:=n) (t:=t) h;obtain⟨u,rfl⟩:=hi.inv.inv;have c0:=l.core.mem n hn;replace c0:=e▸c0;obtain⟨ro,items,kk,g,v⟩:=c0;refine JB g rfl hj2 (rwl (jk v) hj1) λ h' n' hh hs=>?_;refine q _ d _ h (by have:=Ext.refl d (jA st.mem);rwa [show jA (st.wm (jp st.mem n (.plst (ts.set j t)))).mem=jA st.mem from wT]) (l.write (s':={ s with heap:=h' }) hn (.inl ro) hs ⟨_,hh⟩ ⟨ro,items.setIfInBounds j vu,n',hh,?_⟩);refine rwl Array.toList_setIfInBounds ?_;exact vrl_set hu.inv v j
         | _=>exact fe h
       | negSucc=>exact fe h
     | tup key=>
       obtain⟨ep,ns,e1,e2,h⟩:=setD_of (n:=n) (v:=u) h;obtain⟨a2,items,kk,rfl,z,zz⟩:=hi.inv.inv;obtain⟨hro,ne,xs,o,dx⟩:=ut (prog:=X.prog) (w:=X.w) l.core hn e1;rw[yk e2] at zz h;cases dx;have hus:A.units+1<cLine:=by have:=ak.uni;show A.units+1<9900;lia
       refine wpAny_setItem_heap (show A.in1.units<cLine from hus) (xQ l.core.zin z zz) o (λ h' hm' hs'=>?_) (CN _);rw[storedH_new rfl,DK] at hm';obtain⟨ep2,ds,g',dr⟩:=dict_back (d':=d) hm' (DX.one z zz hu);have len:jA (st.wm (jp st.mem n (.dict [(.tup (ns.map T.int),u)] ep2))).mem=jA st.mem:=wT;exact q _ d _ (h ep2) (rwl len (Ext.refl _ _)) (l.write (s':={ s with heap:=h',toks:=_ }) hn (.inl hro) hs' ⟨_,g'⟩ ⟨hro,Bh.mp ne,ds,g',dr⟩)
     | _=>exact fe h
   | _=>exact fe h
 | _=>exact fe h
theorem asgN_of(l:Loc X d env fr st s){n:Str}{v:V}(h:asgN n v st ku (lk n st.sc)):ku (st.set n v)/\(env.kindOf n=some .local\/(jT (env.kindOf n=some .cell) (lk n st.sc=some .cell) (lk n st.loc=none))):=by
 cases hk:lk n st.sc with
 | none=>replace h:=hk▸h;exact fe h
 | some kd=>
   have hs:=l.sc n _ hk;replace h:=hk▸h;induction kd using Cp with
   | «local»=>exact⟨h,.inl (hs.resolve_right (λ e=>nomatch e.1))⟩
   | cell=>
     obtain⟨e,h⟩:=jn h;exact⟨h,.inr ⟨hs.resolve_right (λ e=>nomatch e.1),rfl,Option.isNone_iff_eq_none.mp e⟩⟩
   | _=>exact fe h
theorem asgU_of{ts:List Expr}{v:V}(h:asgU self ts v st ku kx):∃ us,jj (v=.p (.tup us)) (ts.length=us.length) (noStar ts=true) (self (.asgs ts (us.map V.p) st ku kx)):=by
 induction v using Dr with
 | p t=>induction t using Dq with
   | tup us=>
     obtain⟨e,h⟩:=jn h;obtain⟨e1,e2⟩:=BD.mp e;exact⟨us,rfl,Di e1,e2,h⟩
   | _=>exact fe h
 | _=>exact fe h
variable(ok:jo X)(ih:∀ t,self t->Den X r t)
include ok ih
theorem den_asg{tgt:Expr}{v:V}(h:JA sp self (.asg tgt v st ku kx)):Den X (r+1) (.asg tgt v st ku kx):=by
 intro A fr d env s val Q E l a hn hv q qx;have a':=a.le (BW r);induction tgt using Bd with
 | Name n p=>
   refine wpAny_assign_Name ?_;obtain⟨h,hs | ⟨hs,hk,hu⟩⟩:=asgN_of l h
   ·obtain⟨m,hm,hl⟩:=l.ns;exact wpAny_storeName_local hs hm (λ h' hn' hs'=>q _ d _ h (.refl _ _) (l.bind (s':={ s with heap:=h',toks:=s.toks+1 }) hs hv hm hn' hs')) (by refine rwl l.kind ?_;rfl)
   ·obtain⟨c,o,h1,h2,h3,h4⟩:=l.ucel n hu hk;refine wpAny_storeName_cell l.kind hs h1 ⟨o,h2,h3⟩ λ h' hn' hs'=>?_;obtain⟨l',x'⟩:=l.fill (s':={ s with heap:=h' }) hk hv h4 h1 hn' hs';exact q _ _ _ h x' l'
 | Tuple ts c p=>
   replace h:=asgU_of h;obtain⟨us,rfl,e1,e2,h⟩:=h;obtain⟨ad,items,kk,rfl,z,rr⟩:=hv.inv.inv;have hz:=l.core.zin _ _ z;refine assign_Tuple_tuple hn ⟨_,hz,rfl,_,rfl⟩ (by rw[wR,e1,jk rr]) (yu ts e2) λ h' he=>?_;have k:∀ b o,s.heap.get? b=some o->h'.get? b=some o:=QV he (xZ s.heap);have x1:=l.core.ext_grow k (n:=jA st.mem);exact ih _ h A fr _ env { s with heap:=h' } _ Q E (l.grow (s':={ s with heap:=h' }) k) a' hn (vrl_vvl (rr.mono x1.z)) e2 (q.of x1) (qx.of x1)
 | Attribute o n p=>
   obtain⟨_,h⟩:=jn h;rw[arm_assign_Attribute];refine B0 (Bu (ih _ h A fr d env s _ E l a' (.inl hn) (λ u st1 d1 vu s1 h1 x1 l1 v1=>?_) qx));exact B0 (CG (B0 (Bu (CH (Ye ok l1 v1 (hv.mono x1) h1 (q.of x1)) (λ _ s2 h2=>wpAny_release' h2) λ _ _ e=>e))))
 | Subscript o i p=>
   rw[arm_assign_Subscript];refine B0 (Bu (ih _ h A fr d env s _ E l a' (.inl hn) (λ u st1 d1 vu s1 h1 x1 l1 v1=>?_) qx));refine B0 (Bu (ih _ h1 A fr d1 env s1 _ E l1 a' (.inl hn) (λ w st2 d2 vw s2 h2 x2 l2 v2=>?_) (qx.of x1)));exact B0 (CG (B0 (Bu (CH (Yd l2 a' (v1.mono x2) v2 (hv.mono (x1.trans x2)) h2 (q.of (x1.trans x2))) (λ _ s2 h2=>wpAny_release' h2) λ _ _ e=>e))))
 | _=>exact fe h
noncomputable def Ds:=@VVL.casesOn
theorem den_asgs{ts:List Expr}{vs:List V}(h:JA sp self (.asgs ts vs st ku kx)):Den X (r+1) (.asgs ts vs st ku kx):=by
 intro A fr d env s vals Q E l a hn hv hns q qx;have a':=a.le (BW r);induction hv using Ds with
 | nil=>induction ts using BA with
   | nil=>exact assignInOrder_nil (q st d s h (.refl _ _) l)
   | cons=>exact fe h
 | cons hv hvs=>induction ts using BA with
   | nil=>exact fe h
   | cons t ts=>
     refine rwl (ui hns) ?_;exact assignInOrder_cons (ih _ h A fr d env s _ _ E l a' hn hv (λ st1 d1 s1 h1 x1 l1=>ih _ h1 A fr d1 env s1 _ Q E l1 a' hn (hvs.mono x1) (uN hns) (q.of x1) (qx.of x1)) qx)
end
theorem wy{e:Expr}{t:Option Expr}{n:Nat}{env:Env}(h:Q9 e=true):swapsWith e t n env=pure false:=by
 induction e using Bd with
 | ListComp=>exact ff h
 | SetComp=>exact ff h
 | DictComp=>exact ff h
 | _=>rfl
section
variable{X:Run}{r:Nat}{self:jK->Prop}{sp:Addr->Option zM}{A:Around}{fr:List Env}{d:Lay}{env:Env}{s:Shared}{st:St}{E:Value->Shared->Prop}{kx:KX}{kf:Fl->St->Prop}{Q:Flow->Shared->Prop}
theorem PS.next(q:PS X d (jA st.mem) env fr kf Q):PU X d (jA st.mem) env fr (λ st'=>kf .next st') (λ _ s=>Q .next s):=
 λ st' d' s' h x l=>q .next st' d' .next s' h x l .next
theorem PS.ret(q:PS X d (jA st.mem) env fr kf Q):PE X d (jA st.mem) env fr (λ v st'=>kf (.ret v) st') (λ v s=>Q (.ret v) s):=
 λ v st' d' val s' h x l hv=>q (.ret v) st' d' (.ret val) s' h x l (.ret hv)
variable(ok:jo X)(ih:∀ t,self t->Den X r t)
include ok ih
theorem UL{o:Option Expr}{p:Pos}(h:yS self (.Return o p) st kf kx):Den X (r+1) (.s (.Return o p) st kf kx):=by
 intro A fr d env s Q E l a hn hf q qx;have a':=a.le (BW r);rw[arm_exec_Return];refine B0 (CG ?_);induction o using BU with
 | none=>exact BC (q _ st d _ s h (.refl _ _) l (.ret (.p .none)))
 | some e=>exact B0 (ih _ h A fr d env s _ E l a' (.inl hn) (λ v st1 d1 va s1 h1 x1 l1 v1=>BC (q _ st1 d1 _ s1 h1 x1 l1 (.ret v1))) qx)
theorem den_If{t:Expr}{b o:List Stmt}{p:Pos}(h:yS self (.If t b o p) st kf kx):Den X (r+1) (.s (.If t b o p) st kf kx):=by
 intro A fr d env s Q E l a hn hf q qx;have a':=a.le (BW r);refine wpAny_If (ih _ h A fr d env s _ E l a' hn (λ c st1 d1 s1 h1 x1 l1=>?_) qx);induction c using CM with
 | true=>exact ih _ h1 A fr d1 env s1 Q E l1 a' hn hf (q.of x1) (qx.of x1)
 | false=>exact ih _ h1 A fr d1 env s1 Q E l1 a' hn hf (q.of x1) (qx.of x1)
theorem den_Expr{e:Expr}{p:Pos}(h:yS self (.Expr e p) st kf kx):Den X (r+1) (.s (.Expr e p) st kf kx):=by
 intro A fr d env s Q E l a hn hf q qx;have a':=a.le (BW r);obtain⟨hs,h⟩:=jn h;refine wpAny_Expr_any (ih _ h A fr d env s _ E l a' (.inl hn) (λ v st1 d1 va s1 h1 x1 l1 v1=>q _ st1 d1 _ s1 h1 x1 l1 .next) qx) ?_ (wy hs);show(env.scope.kind == .module&&_)=false;refine rwl l.kind ?_;rfl
omit ok ih in
theorem kAu_of{n:Str}{x y:V}(h:kAu n x kf y st):Ex2 λ i j=>jT (x=.p (.int i)) (y=.p (.int j)) (kf .next (st.set n (.p (.int (i+j))))):=by
 induction x using Dr with
 | p x=>induction x using Dq with
   | int i=>induction y using Dr with
     | p y=>induction y using Dq with
       | int j=>exact⟨i,j,rfl,rfl,h⟩
       | _=>exact fe h
     | _=>exact fe h
   | _=>exact fe h
 | _=>exact fe h
omit ok ih in
theorem YL{o:Option NameKind}{P:Prop}(h:isLoc o P):o=some .local/\P:=by
 induction o using BU with
 | none=>exact fe h
 | some k=>induction k using Cp with
   | «local»=>exact⟨rfl,h⟩
   | _=>exact fe h
omit ok ih in
theorem Loc.isLocal(l:Loc X d env fr st s){n:Str}(hk:lk n st.sc=some .local):env.kindOf n=some .local:=(l.sc n _ hk).resolve_right λ e=>nomatch e.1
theorem den_Aug{n:Str}{np p:Pos}{e:Expr}(h:yS self (.AugAssign (.Name n np) .Add e p) st kf kx):Den X (r+1) (.s (.AugAssign (.Name n np) .Add e p) st kf kx):=by
 intro A fr d env s Q E l a hn hf q qx;obtain⟨hk,h⟩:=YL h;obtain⟨v,hg,h⟩:=jV h;have hs:=l.isLocal hk;rw[arm_exec_AugAssign];refine B0 (CG (B0 ?_));refine(qw ok l hg λ val hv=>?_).1;refine B0 (Bu (ih _ h A fr d env s _ E l (a.le (BW r)) (.inl hn) (λ u st1 d1 vu s1 h1 x1 l1 v1=>?_) qx));obtain⟨x,y,rfl,rfl,h1⟩:=kAu_of h1;obtain⟨t,rfl⟩:=hv.inv.inv;obtain⟨t2,rfl⟩:=v1.inv.inv;refine B0 (CG (B0 (wpAny_operate' (AutoIntOps.iadd_0 ?_))));refine B0 (CG (B0 (wpAny_bindName ?_)));obtain⟨m,hm,_⟩:=l1.ns;refine wpAny_storeName_local hs (by exact hm) (λ h' hn' hs'=>BC ?_) (by refine rwl l.kind ?_;rfl);exact q _ _ d1 _ _ h1 x1 (l1.bind (s':={ s1 with heap:=h',toks:=s1.toks+1+1 }) hs (.p (.int _ s1.toks)) hm hn' hs') .next
end
inductive Fa2{α β:Type}(R:α->β->Prop):List α->List β->Prop
 | nil:Fa2 R [] []
 | cons {a:α} {b:β} {as:List α} {bs:List β}:R a b->Fa2 R as bs->Fa2 R (a::as) (b::bs)
theorem Fa2.append{α β:Type}{R:α->β->Prop}{as as':List α}{bs bs':List β}(h:Fa2 R as bs)(h':Fa2 R as' bs'):Fa2 R (as++as') (bs++bs'):=by
 induction h with
 | nil=>exact h'
 | cons a _ ih=>exact .cons a ih
theorem w8{α β:Type}[BEq α][LawfulBEq α]{x:α}{u:β}{l:List (α×β)}(h:l.lookup x=some u):(x,u)∈l:=by
 induction l with
 | nil=>exact nomatch h
 | cons p r ih=>
   rw[show p=(p.1,p.2) from rfl,Bc] at h;cases e:x == p.1 with
   | true=>rw[e] at h;obtain rfl:=B9 h;rw[eq_of_beq e];exact .head _
   | false=>rw[e] at h;exact .tail _ (ih h)
theorem vP{α β:Type}[BEq α][LawfulBEq α]{x:α}{u:β}{l:List (α×β)}(hn:(l.map (·.1)).Nodup)(h:(x,u)∈l):l.lookup x=some u:=by
 induction l with
 | nil=>exact nomatch h
 | cons p r ih=>
   rw[BZ,D3] at hn;rw[show p=(p.1,p.2) from rfl,Bc];rcases BO.mp h with e | h
   ·rw[<- e,Cg]
   ·cases e:x == p.1 with
    | true=>rw[eq_of_beq e] at h;exact absurd (DO.mpr ⟨_,h,rfl⟩) hn.1
    | false=>exact ih hn.2 h
theorem QP{α:Type}{l:List α}(h:l.Nodup):l.reverse.Nodup:=List.pairwise_reverse.mpr (h.imp λ q=>DF q)
theorem xO{α β:Type}[BEq α][LawfulBEq α]{l:List (α×β)}(hn:(l.map (·.1)).Nodup)(x:α):l.reverse.lookup x=l.lookup x:=by
 have hn':(l.reverse.map (·.1)).Nodup:=by rw[List.map_reverse];exact QP hn
 cases e:l.lookup x with
 | some u=>exact vP hn' (List.mem_reverse.mpr (w8 e))
 | none=>
   cases e':l.reverse.lookup x with
   | none=>rfl
   | some u=>rw[vP hn (List.mem_reverse.mp (w8 e'))] at e;exact snm e
section
variable{X:Run}{r:Nat}{self:jK->Prop}{sp:Addr->Option zM}{A:Around}{fr:List Env}{d:Lay}{env:Env}{s:Shared}{st:St}{E:Value->Shared->Prop}{kx:KX}{kf:Fl->St->Prop}{Q:Flow->Shared->Prop}
theorem Loc.congr{l1 l2:List (Str×V)}{mem:List jB}{sc:List (Str×NameKind)}(l:Loc X d env fr ⟨l1,mem,sc⟩ s)(e:∀ x,lk x l2=lk x l1):Loc X d env fr ⟨l2,mem,sc⟩ s where
 core:=l.core
 kind:=l.kind
 sc:=l.sc
 glob:=l.glob
 blt:=l.blt
 top:=l.top
 role:=l.role
 ns:=let ⟨m,hm,h⟩:=l.ns;⟨m,hm,λ x v a b=>h x v ((e x).symm.trans a) b⟩
 cel:=λ x v a b=>l.cel x v ((e x).symm.trans a) b
 ucel:=λ x a b=>l.ucel x ((e x).symm.trans a) b
theorem xB(ns:List Str)(vs:List V)(st:St):(yJ ns vs st).mem=st.mem/\(yJ ns vs st).sc=st.sc:=by
 induction ns generalizing vs st with
 | nil=>exact⟨rfl,rfl⟩
 | cons n ns ih=>induction vs using BA with
   | nil=>exact⟨rfl,rfl⟩
   | cons v vs=>exact ih vs (st.set n v)
theorem XK{ns:List Str}:∀{vs:List V} {vals:List Value} {fs:List (Value->Sem Unit)} {st:St} {s:Shared} {Q:Unit->Shared->Prop},Loc X d env fr st s->VVL d (jA st.mem) vs vals->ns.length=vs.length->
  (∀ n∈ns,env.kindOf n=some .local)->(Fa2 (λ(n:Str) (f:Value->Sem Unit)=>∀ v (Q:Unit->Shared->Prop) E s,wpAny (model X.prog X.w) A (storeName env n v) Q E s->wpAny (model X.prog X.w) A (f v) Q E s) ns fs)->
  (∀ s',Loc X d env fr (yJ ns vs st) s'->Q () s')->wpAny (model X.prog X.w) A (assignInOrder fs vals) Q E s:=by
 induction ns with
 | nil=>
   intro vs vals fs st s Q l hv hlen hk hf q;cases hf;induction hv using Ds with
   | nil=>exact assignInOrder_nil (q s l)
   | cons=>exact nomatch hlen
 | cons n ns ih=>
   intro vs vals fs st s Q l hv hlen hk hf q;induction hv using Ds with
   | nil=>exact nomatch hlen
   | cons hv hvs=>
     cases hf with
     | cons hf hfs=>
       obtain⟨m,hm,_⟩:=l.ns;refine assignInOrder_cons (hf _ _ _ _ (wpAny_storeName_local (hk n (.head _)) hm (λ h' hn' hs'=>?_) (by rw[l.kind];rfl)));exact ih (l.bind (s':={ s with heap:=h',toks:=s.toks+1 }) (hk n (.head _)) hv hm hn' hs') hvs (Nat.succ.inj hlen) (λ x hx=>hk x (.tail _ hx)) hfs q
noncomputable def orLk (o:Option V) (x:Str) (l:List (Str×V)):Option V:=match o with
 | some v=>some v
 | none=>lk x l
theorem QT{ns:List Str}{vs:List V}{st:St}{x:Str}(hn:ns.Nodup)(hl:ns.length=vs.length):lk x (yJ ns vs st).loc=orLk ((ns.zip vs).lookup x) x st.loc:=by
 induction ns generalizing vs st with
 | nil=>rfl
 | cons n ns ih=>induction vs using BA with
   | nil=>exact nomatch hl
   | cons v vs=>
     show lk x (yJ ns vs (st.set n v)).loc=_;rw[ih (D3.mp hn).2 (Nat.succ.inj hl),DD,Bc];show orLk _ x (put n v st.loc)=_;by_cases e:x=n
     ·subst e;rw[Cg];have:(ns.zip vs).lookup x=none:=by
       cases z:(ns.zip vs).lookup x with
       | none=>rfl
       | some u=>exact absurd (List.of_mem_zip (w8 z)).1 (D3.mp hn).1
      rw[this];show lk x (put x v st.loc)=some v;rw[yj,BJ rfl]
     ·rw[Bh.mpr e];show _=orLk ((ns.zip vs).lookup x) x st.loc;unfold orLk;rw[yj,BE e]
theorem zip_rev{α β:Type}(a:List α)(b:List β)(h:a.length=b.length):a.reverse.zip b.reverse=(a.zip b).reverse:=by
 induction a generalizing b with
 | nil=>rfl
 | cons x a ih=>induction b using BA with
   | nil=>exact nomatch h
   | cons y b=>
     have h:a.length=b.length:=Nat.succ.inj h;rw[DN,DN,List.zip_append (by rw[DZ,DZ];exact h),ih b h];exact(DN ..).symm
theorem xA{ns:List Str}{vs:List V}{st:St}(hn:ns.Nodup)(hl:ns.length=vs.length)(x:Str):lk x (yJ ns.reverse vs.reverse st).loc=lk x (yJ ns vs st).loc:=by
 rw[QT hn hl,QT (QP hn) (by rw[DZ,DZ];exact hl)];have e:ns.reverse.zip vs.reverse=(ns.zip vs).reverse:=zip_rev _ _ hl;rw[e,xO];rw[List.map_fst_zip (D7 hl)];exact hn
end
theorem XD{e:Expr}(h:dynE e=true):foldedForSure 8 e=false/\constantsAlone 8 e=false:=by
 induction e using Bd with
 | Name n p=>exact⟨rfl,(yY h).1⟩
 | Call=>exact⟨rfl,rfl⟩
 | Attribute=>exact⟨rfl,rfl⟩
 | IfExp=>exact⟨rfl,rfl⟩
 | Compare=>exact⟨rfl,rfl⟩
 | List=>exact⟨rfl,rfl⟩
 | _=>exact ff h
noncomputable def ub (env:Env) (line:Nat):Expr->Option Str
 | .Name id pos=>if env.kindOf id == some .local&&pos.line == line then some id else none
 | _=>none
set_option tactic.hygienic true in
theorem xy{ts es:List Expr}{c c':Nat}{p p':Pos}{env:Env}(hd:es.any dynE=true) :
  swappedStores [.Tuple ts c p] (.Tuple es c' p') env=pure none\/Ex2 λ names line=>jT (swappedStores [.Tuple ts c p] (.Tuple es c' p') env=pure (some names)) (names=ts.filterMap (ub env line)) (names.length=ts.length):=by
 obtain⟨e,he,hde⟩:=List.any_eq_true.mp hd;have h1:es.all (foldedForSure 8)=false:=List.all_eq_false.mpr ⟨e,he,by refine rwl ((XD hde).1) ?_;nofun⟩;have h2:es.all (constantsAlone 8)=false:=List.all_eq_false.mpr ⟨e,he,by refine rwl ((XD hde).2) ?_;nofun⟩;unfold swappedStores;dsimp only;split
 ·exact .inl rfl
 ·split
  ·exact .inl rfl
  ·split
   ·exact .inl rfl
   ·rename_i h3;refine rwl h1 (rwl h2 ?_);refine .inr ⟨_,(ts.head?.map (·.pos.line)).getD 0,rfl,?_,?_⟩
    ·refine Bo (λ f=>ts.filterMap f) (funext λ e=>?_);cases e <;> rfl
    ·rw[Bool.or_eq_true,not_or] at h3;have:=h3.1;rw[Bool.not_eq_true,bne_eq_false_iff_eq] at this;exact this
theorem X5{n:Str}{l:List Str}(h:uO n l=false):n∉l:=by
 induction l with
 | nil=>exact nofun
 | cons y l ih=>
   obtain⟨e1,e2⟩:=Bool.or_eq_false_iff.mp (show(seq n y||uO n l)=false from h);intro hm;rcases BO.mp hm with e | hm
   ·exact yU.mp e1 e
   ·exact ih e2 hm
theorem Jx{sc:List (Str×NameKind)}{t:Expr}{r:List Expr}{ns:List Str}(h:zH sc (t::r)=some ns):Ex3 λ n p ns'=>vj (t=.Name n p) (lk n sc=some .local) (zH sc r=some ns') (uO n ns'=false) (ns=n::ns'):=by
 induction t using Bd with
 | Name n p=>
   have h:lnIf (lk n sc) (zH sc r) n=some ns:=h;cases e2:zH sc r with
   | none=>replace h:=e2▸h;cases e1:lk n sc with
     | none=>replace h:=e1▸h;exact nomatch h
     | some k=>replace h:=e1▸h;cases k <;> exact nomatch h
   | some ns'=>
     replace h:=e2▸h;cases e1:lk n sc with
     | none=>replace h:=e1▸h;exact nomatch h
     | some k=>replace h:=e1▸h;induction k using Cp with
       | «local»=>cases e3:uO n ns' with
         | true=>have h:(match uO n ns' with | true=>none | false=>some (n::ns'))=some ns:=h;replace h:=e3▸h;exact nomatch h
         | false=>have h:(match uO n ns' with | true=>none | false=>some (n::ns'))=some ns:=h;replace h:=e3▸h;obtain rfl:=B9 h;exact⟨n,p,ns',rfl,e1,rfl,e3,rfl⟩
       | _=>exact nomatch h
 | _=>exact nsm h
theorem Jw{sc:List (Str×NameKind)}{ts:List Expr}{ns:List Str}(h:zH sc ts=some ns):jj ns.Nodup (ns.length=ts.length) (∀ n∈ns,lk n sc=some .local) (∃ ps:List Pos,ts=(ns.zip ps).map (λ x=>Expr.Name x.1 x.2)/\ps.length=ns.length):=by
 induction ts generalizing ns with
 | nil=>obtain rfl:=B9 h;exact⟨List.nodup_nil,rfl,nofun,[],rfl,rfl⟩
 | cons t r ih=>
   obtain⟨n,p,ns',rfl,e1,e2,e3,rfl⟩:=Jx h;obtain⟨h1,h2,h3,ps,h4,h5⟩:=ih e2;refine⟨D3.mpr ⟨X5 e3,h1⟩,Bo Nat.succ h2,λ x hx=>?_,p::ps,by refine rwl h4 ?_;rfl,Bo Nat.succ h5⟩;rcases BO.mp hx with e | hx
   ·refine rwl e ?_;exact e1
   ·exact h3 x hx
section
variable{X:Run}{r:Nat}{self:jK->Prop}{sp:Addr->Option zM}{A:Around}{fr:List Env}{d:Lay}{env:Env}{s:Shared}{st:St}{E:Value->Shared->Prop}{kx:KX}{kf:Fl->St->Prop}{Q:Flow->Shared->Prop}
variable(ok:jo X)(ih:∀ t,self t->Den X r t)
include ok ih
omit ok ih in
theorem Xb{t e:Expr}(ht:tgtOk t=true)(he:(tin 2 2 t&&tin 2 2 e)=false):swappedStores [t] e env=pure none:=by
 induction t using Bd with
 | Tuple ts c p=>induction e using Bd with
   | Tuple=>exact ff he.symm
   | _=>rfl
 | Name=>rfl
 | Attribute=>rfl
 | Subscript=>rfl
 | _=>exact ff ht
theorem Ym{t e:Expr}{p:Pos}(he:(tin 2 2 t&&tin 2 2 e)=false)(h:as1 self t e st kf kx):Den X (r+1) (.s (.Assign [t] e p) st kf kx):=by
 intro A fr d env s Q E l a hn hf q qx;have a':=a.le (BW r);obtain⟨ht,h⟩:=jn h;obtain⟨ht,hc⟩:=BD.mp ht;rw[arm_exec_Assign];refine B0 (CG ?_);refine rwl (show swapsWithSole [t] e p.line env=pure false from wy hc) ?_;refine B0 (BC ?_);refine rwl (BE (by decide)) ?_;refine B0 (ih _ h A fr d env s _ E l a' (.inl hn) (λ v st1 d1 va s1 h1 x1 l1 v1=>?_) qx);refine rwl (Xb ht he) ?_;refine B0 (BC ?_);have e1:(assignEach [t] env).map (·.2)=[assign t env]:=by induction t using Bd with
  | Starred=>exact ff ht
  | _=>rfl
 refine rwl e1 ?_;show wpAny (model X.prog X.w) A (do assignAll va [assign t env];pure .next) Q E s1;exact B0 (ih _ h1 A fr d1 env s1 va _ E l1 a' hn v1 (λ st2 d2 s2 h2 x2 l2=>BC (q _ _ _ _ _ h2 (x1.trans x2) l2 .next)) (qx.of x1))
end
theorem st_eta{a:St}{m:List jB}{sc:List (Str×NameKind)}(h1:a.mem=m)(h2:a.sc=sc):a=⟨a.loc,m,sc⟩:=by subst h1 h2;rfl
section
variable{X:Run}{r:Nat}{self:jK->Prop}{sp:Addr->Option zM}{A:Around}{fr:List Env}{d:Lay}{env:Env}{s:Shared}{st:St}{E:Value->Shared->Prop}{kx:KX}{kf:Fl->St->Prop}{Q:Flow->Shared->Prop}
theorem Xv{n m:Str}{p:Pos}{line:Nat}(e:ub env line (.Name n p)=some m):m=n:=by
 have e:(if env.kindOf n == some .local&&p.line == line then some n else none)=some m:=e;split at e
 ·obtain rfl:=B9 e;rfl
 ·exact nomatch e
theorem Xw{ns:List Str}{ps:List Pos}{line:Nat}(hl:ps.length=ns.length)(hf:(((ns.zip ps).map (λ x=>Expr.Name x.1 x.2)).filterMap (ub env line)).length=((ns.zip ps).map (λ x=>Expr.Name x.1 x.2)).length):((ns.zip ps).map (λ x=>Expr.Name x.1 x.2)).filterMap (ub env line)=ns:=by
 induction ns generalizing ps with
 | nil=>rfl
 | cons n ns ih=>
   induction ps using BA with
   | nil=>exact nomatch hl
   | cons p ps=>
     rw[DD,BZ,List.filterMap_cons] at hf ⊢;cases e:ub env line (.Name n p) with
     | none=>
       rw[e] at hf;have:=List.length_filterMap_le (ub env line) ((ns.zip ps).map (λ x=>Expr.Name x.1 x.2));dsimp only at hf;rw[hf] at this;exact absurd this (Nat.not_succ_le_self _)
     | some m=>
       rw[e] at hf;dsimp only at hf ⊢;rw[ih (Nat.succ.inj hl) (Nat.succ.inj hf),Xv e]
theorem fm_lt{α β:Type}{f:α->Option β}{l:List α}{t:α}(h:t∈l)(e:f t=none):(l.filterMap f).length<l.length:=by
 induction l with
 | nil=>exact nomatch h
 | cons x l ih=>
   rw[List.filterMap_cons];rcases BO.mp h with rfl | h
   ·rw[e];exact Nat.lt_succ_of_le (List.length_filterMap_le f l)
   ·cases z:f x with
    | none=>exact Nat.lt_succ_of_le (List.length_filterMap_le f l)
    | some y=>exact Nat.succ_lt_succ (ih h)
theorem Xu(l:Loc X d env fr st s){t:Expr}{line:Nat}(h:notLoc st.sc t=true):ub env line t=none:=by
 induction t using Bd with
 | Name n p=>
   have h:(match lk n st.sc with | .some .cell=>true | _=>false)=true:=h;cases e:lk n st.sc with
   | none=>rw[e] at h;exact ff h
   | some k=>rw[e] at h;induction k using Cp with
     | cell=>
       have hs:=(l.sc n _ e).resolve_right λ e=>nomatch e.1;show(if env.kindOf n == some .local&&p.line == line then some n else none)=none;rw[hs];exact BE (by nofun)
     | _=>exact ff h
 | _=>rfl
theorem YA{M:Model}{ns:List Str}:∀{ps:List Pos},ps.length=ns.length->Fa2 (λ(n:Str) (f:Value->Sem Unit)=>∀ v (Q:Unit->Shared->Prop) E s,wpAny M A (storeName env n v) Q E s->wpAny M A (f v) Q E s) ns ((assignEach ((ns.zip ps).map (λ x=>Expr.Name x.1 x.2)) env).map (·.2)):=by
 induction ns with
 | nil=>intro ps h;exact .nil
 | cons n ns ih=>
   intro ps h;induction ps using BA with
   | nil=>exact nomatch h
   | cons p ps=>exact .cons (λ v Q E s h=>wpAny_assign_Name h) (ih (Nat.succ.inj h))
theorem Yu{M:Model}(ns:List Str):Fa2 (λ(n:Str) (f:Value->Sem Unit)=>∀ v (Q:Unit->Shared->Prop) E s,wpAny M A (storeName env n v) Q E s->wpAny M A (f v) Q E s) ns (ns.map λ n=>bindName env n):=by
 induction ns with
 | nil=>exact .nil
 | cons n ns ih=>exact .cons (λ v Q E s h=>wpAny_bindName h) ih
theorem vvl_rev{n:Nat}{a:List V}{x:List Value}(h:VVL d n a x):VVL d n a.reverse x.reverse:=by
 induction h with
 | nil=>exact .nil
 | cons a _ ih=>rw[DN,DN];exact ux ih (.cons a .nil)
variable(ok:jo X)(ih:∀ t,self t->Den X r t)
include ok ih
def Stores(X:Run)(A:Around)(env:Env)(ts:List Expr)(vals:List Value)(Q:Flow->Shared->Prop)(E:Value->Shared->Prop)(s:Shared):Prop:=
 wpAny (model X.prog X.w) A (assignInOrder ((assignEach ts env).map (·.2)) vals) (λ _ s=>Q .next s) E s/\
 ∀ line,(ts.filterMap (ub env line)).length=ts.length->wpAny (model X.prog X.w) A (assignInOrder ((ts.filterMap (ub env line)).reverse.map λ n=>bindName env n) vals.reverse) (λ _ s=>Q .next s) E s
theorem asT_two{ts es:List Expr}(a:AOk A fr r)(hn:A.handled=none)(l:Loc X d env fr st s)(hns:noStar ts=true)(h:asT2 self ts es st kf kx (zH st.sc ts))(q:PS X d (jA st.mem) env fr kf Q)(qx:PX X d (jA st.mem) env fr kx E) :
  ∃ KK,self (.es es st KK kx)/\∀ vs st1 d1 s1 vals,KK vs st1->Ext d (jA st.mem) d1 (jA st1.mem)->Loc X d1 env fr st1 s1->VVL d1 (jA st1.mem) vs vals->jT (y4 vs=true) (ts.length=vs.length) (∀ d3 s3,Ext d1 (jA st1.mem) d3 (jA st1.mem)->Loc X d3 env fr st1 s3->Stores X A env ts vals Q E s3):=by
 cases hl:zH st.sc ts with
 | some ns=>
   rw[hl] at h;refine⟨_,h,λ vs st1 d1 s1 vals h1 x1 l1 v1=>?_⟩;obtain⟨e,h1⟩:=jn h1;obtain⟨e1,e2⟩:=BD.mp e;obtain⟨hnd,hlen',hloc,ps,rfl,hpl⟩:=Jw hl;have hvl:ns.length=vs.length:=yb.mp e2;refine⟨e1,hlen'.symm.trans hvl,λ d3 s3 x3 l3=>?_⟩;have hlk:∀ n∈ns,env.kindOf n=some .local:=λ n hm=>l.isLocal (hloc n hm);have sm:=xB ns vs st1;have x4:Ext d (jA st.mem) d3 (jA (yJ ns vs st1).mem):=by rw[sm.1];exact x1.trans x3
   refine⟨XK l3 (v1.mono x3) hvl hlk (YA hpl) λ s' l4=>q _ _ _ _ s' h1 x4 l4 .next,λ line hnl=>?_⟩;rw[Xw hpl hnl];have sr:=xB ns.reverse vs.reverse st1;refine XK l3 (vvl_rev (v1.mono x3)) (by rw[DZ,DZ];exact hvl) (λ n hm=>hlk n (List.mem_reverse.mp hm)) (Yu _) λ s' l4=>q _ _ _ _ s' h1 x4 ?_ .next
   rw[st_eta sr.1 sr.2] at l4;rw[st_eta sm.1 sm.2];exact l4.congr λ x=>(xA hnd hvl x).symm
 | none=>
   rw[hl] at h;obtain⟨hnl,h⟩:=jn h;refine⟨_,h,λ vs st1 d1 s1 vals h1 x1 l1 v1=>?_⟩;obtain⟨e,h1⟩:=jn h1;obtain⟨e1,e2⟩:=BD.mp e;refine⟨e1,yb.mp e2,λ d3 s3 x3 l3=>⟨ih _ h1 A fr _ env s3 _ _ E l3 a hn (v1.mono x3) hns (λ st2 d2 s2 h2 x5 l5=>q _ _ _ _ _ h2 ((x1.trans x3).trans x5) l5 .next) (qx.of (x1.trans x3)),λ line hc=>?_⟩⟩;obtain⟨t,ht,hn2⟩:=List.any_eq_true.mp hnl;have:=fm_lt ht (Xu (line:=line) l hn2);rw[hc] at this;exact absurd this (Cl _)
theorem Yl{ts es:List Expr}{c c':Nat}{p p' p'':Pos}(h:asT self ts es st kf kx):Den X (r+1) (.s (.Assign [.Tuple ts c p] (.Tuple es c' p') p'') st kf kx):=by
 intro A fr d env s Q E l a hn hf q qx;have a':=a.le (BW r);obtain⟨e0,h⟩:=jn h;obtain⟨hdy,hns⟩:=BD.mp e0;obtain⟨KK,h,hK⟩:=asT_two ok ih a' hn l hns h q qx;rw[arm_exec_Assign];refine B0 (CG ?_);rw[show swapsWithSole [.Tuple ts c p] (.Tuple es c' p') p''.line env=pure false from rfl];refine B0 (BC ?_);rw[BE (by decide)];refine B0 (Tuple_ (ih _ h A fr d env s _ _ E l a' (.inl hn) (λ vs st1 d1 vals s1 h1 x1 l1 v1=>?_) qx));obtain⟨e1,hvl,hS⟩:=hK vs st1 d1 s1 vals h1 x1 l1 v1;have hlen:=z3 v1;refine CT ?_ (wz v1 e1);have kk:∀ b o',s1.heap.get? b=some o'->(s1.heap.push (yH vals.toArray 0)).get? b=some o':=λ b o' e=>BH _ e;have x2:=l1.core.ext_grow kk (n:=jA st1.mem);have l2:=l1.grow (s':={ s1 with heap:=s1.heap.push (yH vals.toArray 0) }) kk;have hT:(s1.heap.push (yH vals.toArray 0)).get? s1.heap.objs.size=some (yH vals.toArray 0):=BR _ rfl;have hSt:∀ h':Heap,Heap.ExtBut _ _ h'->Stores X A env ts vals Q E { s1 with heap:=h' }:=λ h' he=>by
  have k3:∀ b o,(s1.heap.push (yH vals.toArray 0)).get? b=some o->h'.get? b=some o:=QV he (xZ _);exact hS _ _ (x2.trans (l2.core.ext_grow k3 (n:=jA st1.mem))) (l2.grow (s':={ s1 with heap:=h' }) k3)
 rcases xy (ts:=ts) (c:=c) (c':=c') (p:=p) (p':=p') (env:=env) hdy with e | ⟨names,line,e,hna,hnl⟩
 ·rw[e];refine B0 (BC ?_);rw[show(assignEach [Expr.Tuple ts c p] env).map (·.2)=[assign (.Tuple ts c p) env] from rfl];show wpAny (model X.prog X.w) A (do assignAll (.ref s1.heap.objs.size) [assign (.Tuple ts c p) env];pure .next) Q E _;exact B0 (assign_Tuple_tuple hn ⟨_,hT,rfl,_,rfl⟩ (by rw[wR,DM,hvl,hlen]) (yu ts hns) λ h' he=>CH (hSt h' he).1 (λ _ _ h=>BC h) λ _ _ e=>e)
 ·rw[e];refine B0 (BC ?_);subst hna;have e4:(ts.filterMap (ub env line)).length=vals.toArray.size:=by rw[DM,hnl,hvl,hlen]
  show wpAny (model X.prog X.w) A (do rule "assign.swapped-stores";let items <- unpackItems (.ref s1.heap.objs.size) (ts.filterMap (ub env line)).length none;assignInOrder ((ts.filterMap (ub env line)).reverse.map λ n=>bindName env n) items.reverse;pure .next) Q E _;rw[e4];exact B0 (wpAny_rule (B0 (unpackItems_tuple hn ⟨_,hT,rfl,_,rfl⟩ λ h' he=>B0 (CH ((hSt h' he).2 line hnl) (λ _ _ h=>BC h) λ _ _ e=>e))))
end
section
variable{X:Run}{r:Nat}{self:jK->Prop}{sp:Addr->Option zM}{A:Around}{fr:List Env}{d:Lay}{env:Env}{s:Shared}{st:St}{E:Value->Shared->Prop}{kx:KX}{kf:Fl->St->Prop}{Q:Flow->Shared->Prop}{n:Nat}
theorem PX.loop(qx:PX X d n env fr kx E)(hf:Y0 env fr)(hA:A.frames=some fr):PX X d n env fr kx (notedBy (model X.prog X.w) A env (cameBackBy (model X.prog X.w) A env E)):=by
 intro C st' d' ea fl B a0 s' hk x l xc hfl;obtain⟨⟨outer,rfl⟩,hfr,_⟩:=hf;unfold notedBy
 refine xc.note l.core hA hfr (L:=env.locals) (by
  rcases hfl with q | q | ⟨L,e1,e2⟩
  ·exact .inl q
  ·exact .inr (.inl q)
  ·replace e1:=hfr▸e1;obtain rfl:=B9 e1;exact .inr (.inr e2)) λ h₁ x₁ k₁ u₁=>?_
 have l₁:=l.slots (s':={ s' with heap:=h₁ }) xc.own k₁ u₁
 show wpAny (model X.prog X.w) A (do
  if(<- field (.ref ea) 1) == .none then unsupported "frame.own-activation:exception-without-traceback"
  setFlight (.ref ea) env.frame) _ E _
 obtain⟨oe,vs,T,oT,ts,he,⟨hcls,h0⟩,hd,h1,hnT,hTe,hT,hdT,h3⟩:=id x₁.tr;refine B0 (wpAny_field he hd h1 ?_);refine rwl (BE (show ¬ (Value.ref T == Value.none)=true from by simp)) ?_;refine rwl hfr ?_;refine x₁.flight l₁.core nofun (some env.locals) rfl λ h₂ x₂ k₂ u₂=>?_;exact qx C st' d' ea (some (rawInt env.locals)) B a0 _ hk x (l₁.slots (s':={ s' with heap:=h₂ }) x₁.own k₂ u₂) x₂ (.inr (.inr ⟨env.locals,hfr,rfl⟩))
variable(ok:jo X)(ih:∀ t,self t->Den X r t)
include ok ih
theorem den_Pass{p:Pos}(h:kf .next st):Den X (r+1) (.s (.Pass p) st kf kx):=by
 intro A fr d env s Q E l a hn hf q qx;exact wpAny_Pass (q _ st d _ s h (.refl _ _) l .next)
theorem den_Break{p:Pos}(h:kf .brk st):Den X (r+1) (.s (.Break p) st kf kx):=by
 intro A fr d env s Q E l a hn hf q qx;exact wpAny_Break (q _ st d _ s h (.refl _ _) l .brk)
theorem ZV{p:Pos}(h:kf .cont st):Den X (r+1) (.s (.Continue p) st kf kx):=by
 intro A fr d env s Q E l a hn hf q qx;exact wpAny_Continue (q _ st d _ s h (.refl _ _) l .cont)
theorem den_ss{xs:List Stmt}(h:JA sp self (.ss xs st kf kx)):Den X (r+1) (.ss xs st kf kx):=by
 intro A fr d env s Q E l a hn hf q qx;have a':=a.le (BW r);induction xs using BA with
 | nil=>exact wpAny_execs_nil (q _ st d _ s h (.refl _ _) l .next)
 | cons x xs=>
   refine wpAny_execs_cons (ih _ h A fr d env s _ E l a' hn hf (λ fl st1 d1 f s1 h1 x1 l1 v1=>?_) qx);induction v1 using FlR.casesOn with
   | next=>exact ih _ h1 A fr d1 env s1 Q E l1 a' hn hf (q.of x1) (qx.of x1)
   | brk=>exact q _ st1 d1 _ s1 h1 x1 l1 .brk
   | cont=>exact q _ st1 d1 _ s1 h1 x1 l1 .cont
   | ret v=>exact q _ st1 d1 _ s1 h1 x1 l1 (.ret v)
theorem den_While{c:Expr}{body:List Stmt}{p:Pos}(h:qV self c body 70000 st kf kx):Den X (r+1) (.s (.While c body [] p) st kf kx):=by
 intro A fr d env s Q E l a hn hf q qx;have a':=a.le (BW r);have ex:=qx.loop hf a.fr;refine wpAny_While (codeAny_whileLoop (λ m s1=>Ex2 λ st1 d1=>jT (qV self c body m st1 kf kx) (Ext d (jA st.mem) d1 (jA st1.mem)) (Loc X d1 env fr st1 s1)) ?_ 70000 ⟨st,d,h,.refl _ _,l⟩);rintro m s1 ⟨st1,d1,h1,x1,l1⟩;induction m using CD with
 | zero=>replace h1:=Zh▸h1;exact h1.elim
 | succ m=>
   replace h1:=ww▸h1;refine ih _ h1 A fr d1 env s1 _ _ l1 a' hn (λ b st2 d2 s2 h2 x2 l2=>?_) (ex.of x1);have x02:=x1.trans x2;induction b using CM with
   | false=>exact wpAny_execs_nil (q _ st2 d2 _ s2 h2 x02 l2 .next)
   | true=>
     refine ih _ h2 A fr d2 env s2 _ _ l2 a' hn hf (λ fl st3 d3 f s3 h3 x3 l3 v3=>?_) (ex.of x02);have x03:=x02.trans x3;induction v3 using FlR.casesOn with
     | next=>exact⟨m,CK _,st3,d3,h3,x03,l3⟩
     | cont=>exact⟨m,CK _,st3,d3,h3,x03,l3⟩
     | brk=>exact q _ st3 d3 _ s3 h3 x03 l3 .next
     | ret v=>exact q _ st3 d3 _ s3 h3 x03 l3 (.ret v)
end
theorem yw{Z:FZ}{r r':Addr->Option j9}{rho:Nat->Addr}{P P':FZ}{n:Nat}{t:V}{v:Value}(h:VV ⟨Z,r,rho,P⟩ n t v):VV ⟨Z,r',rho,P'⟩ n t v:=
 VV.rec (d:=⟨Z,r,rho,P⟩) (n:=n) (motive_1:=λ t v _=>VV ⟨Z,r',rho,P'⟩ n t v) (motive_2:=λ c t _=>VVC ⟨Z,r',rho,P'⟩ n c t) (λ h=>.p h) (λ h=>.m h) (λ h _ r=>.lam h r) .nil (λ a b c _ _ v r=>.cons a b c v r) h
theorem XW{Z:FZ}{r r':Addr->Option j9}{rho:Nat->Addr}{P P':FZ}{n:Nat}{cl:List (Str×Addr)}{t:List (Str×V)}(h:VVC ⟨Z,r,rho,P⟩ n cl t):VVC ⟨Z,r',rho,P'⟩ n cl t:=by
 induction h using VVC.ind with
 | h0=>exact .nil
 | h1 a b c u _ ih=>exact .cons a b c (yw u) ih
theorem QB{Z:FZ}{r r':Addr->Option j9}{rho:Nat->Addr}{P P':FZ}{n:Nat}{t:List V}{v:List Value}(h:VVL ⟨Z,r,rho,P⟩ n t v):VVL ⟨Z,r',rho,P'⟩ n t v:=by
 induction h with
 | nil=>exact .nil
 | cons a _ ih=>exact .cons (yw a) ih
theorem XU{Z:FZ}{r r':Addr->Option j9}{rho:Nat->Addr}{P P':FZ}{n:Nat}{t:List (Str×V)}{v:List DictEntry}(h:VVF ⟨Z,r,rho,P⟩ n t v):VVF ⟨Z,r',rho,P'⟩ n t v:=by
 induction h with
 | nil=>exact .nil
 | cons a _ ih=>exact .cons (yw a) ih
theorem dr_congr{Z:FZ}{r r':Addr->Option j9}{rho:Nat->Addr}{P P':FZ}{n:Nat}{t:List (T×V)}{v:List DictEntry}(h:DR ⟨Z,r,rho,P⟩ n t v):DR ⟨Z,r',rho,P'⟩ n t v:=by
 induction h using Dp with
 | nil=>exact .nil
 | one a b c=>exact .one a b (yw c)
theorem xG{Z:FZ}{r r':Addr->Option j9}{rho:Nat->Addr}{P P':FZ}{n:Nat}{h:Heap}{i:Nat}(hr:∀ b,r b=some (.obj i)\/r b=some (.dct i)->r' b=r b):∀{o:jB},zN ⟨Z,r,rho,P⟩ n h i o->zN ⟨Z,r',rho,P'⟩ n h i o:=by
 intro o;induction o using jB.casesOn with
 | plst ts=>rintro⟨q,items,k,g,v⟩;exact⟨(hr _ (.inl q)).trans q,items,k,g,v⟩
 | vlst ts=>rintro⟨q,items,k,g,v⟩;exact⟨(hr _ (.inl q)).trans q,items,k,g,QB v⟩
 | inst C fs=>rintro⟨q,dx,sl,es,k,g,rd,gd,v⟩;exact⟨(hr _ (.inl q)).trans q,dx,sl,es,k,g,(hr _ (.inr rd)).trans rd,gd,XU v⟩
 | dict es ep=>rintro⟨q,ne,ds,g,v⟩;exact⟨(hr _ (.inl q)).trans q,ne,ds,g,dr_congr v⟩
 | gone=>exact λ _=>trivial
noncomputable def Lay.owns (d:Lay) (r:Addr->Option j9) (P:FZ):Lay:=⟨d.Z,r,d.rho,P⟩
theorem VV.owns{d:Lay}{r:Addr->Option j9}{P:FZ}{n:Nat}{t:V}{v:Value}(h:VV d n t v):VV (d.owns r P) n t v:=yw h
theorem VVL.owns{d:Lay}{r:Addr->Option j9}{P:FZ}{n:Nat}{t:List V}{v:List Value}(h:VVL d n t v):VVL (d.owns r P) n t v:=QB h
structure Ex0(d:Lay)(n:Nat)(d':Lay)(n':Nat):Prop where
 z:∀ b o,d.Z b=some o->d'.Z b=some o
 rho:∀ i,i<n->d'.rho i=d.rho i
 n:n<=n'
theorem Ext.ex0{d d':Lay}{n n':Nat}(x:Ext d n d' n'):Ex0 d n d' n':=⟨x.z,x.rho,x.n⟩
theorem Ex0.trans{d d' d'':Lay}{n n' n'':Nat}(x:Ex0 d n d' n')(y:Ex0 d' n' d'' n''):Ex0 d n d'' n'':=
 ⟨λ b o e=>y.z b o (x.z b o e),λ i h=>(y.rho i (BY h x.n)).trans (x.rho i h),BF x.n y.n⟩
theorem Ex0.ext{d d':Lay}{n n':Nat}(x:Ex0 d n d' n')(h:d'.P=d.P):Ext d n d' n':=⟨x.z,x.rho,x.n,h⟩
theorem VV.mono0{d d':Lay}{n n':Nat}(x:Ex0 d n d' n'){t:V}{v:Value}(h:VV d n t v):VV d' n' t v:=
 VV.owns (d:={ d' with P:=d.P }) (r:=d'.role) (P:=d'.P) (h.mono (d':={ d' with P:=d.P }) ⟨x.z,x.rho,x.n,rfl⟩)
theorem zN.mono0{d d':Lay}{n n':Nat}{h h':Heap}{i:Nat}(x:Ex0 d n d' n')(hi:i<n)
  (hr:∀ b,d.role b=some (.obj i)\/d.role b=some (.dct i)->d'.role b=d.role b)
  (hk:∀ b o,d.role b=some (.obj i)\/d.role b=some (.dct i)->h.get? b=some o->h'.get? b=some o) {o:jB} (q:zN d n h i o):zN d' n' h' i o:=
 xG (r:=d'.role) (λ _ _=>rfl) (zN.mono (d':={ d' with P:=d.P }) ⟨x.z,x.rho,x.n,rfl⟩ hi hr hk q)
structure qP(d:Lay)(wr:List Addr)(d1:Lay)(h:Heap):Prop where
 role:∀ b∈wr,d1.role b=some .priv
 obj:∀ b∈wr,∃ o,h.get? b=some o/\zP o
 P:∀ b∈wr,d1.P b=h.get? b
 out:∀ b,b∉wr->d1.P b=d.P b
noncomputable def Lay.pins (d:Lay) (wr:List Addr) (h:Heap):Lay where
 Z:=λ b=>if b∈wr then none else match d.role b with | some _=>none | none=>h.get? b
 role:=λ b=>if b∈wr then some .priv else d.role b
 rho:=d.rho
 P:=λ b=>if b∈wr then h.get? b else d.P b
noncomputable def Lay.unpins (d:Lay) (wr:List Addr) (d2:Lay):Lay:=d2.owns (λ b=>if b∈wr then none else d2.role b) d.P
section
variable{X:Run}{d d1 d2:Lay}{mem:List jB}{wr:List Addr}{env:Env}{fr:List Env}{st st2:St}{s s':Shared}{n n1 n2:Nat}{h:Heap}
theorem qP.ext{h1:Heap}(p:qP d wr d1 h1)(x:Ext d1 n1 d2 n2)(c:jH X d2 mem fr s):qP d wr d2 s.heap/\∀ b∈wr,s.heap.get? b=h1.get? b:=by
 have key:∀ b∈wr,∃ o,vj (h1.get? b=some o) (zP o) (d2.role b=some .priv) (s.heap.get? b=some o) (d2.P b=some o):=λ b hb=>by
  obtain⟨o,h2,h3⟩:=p.obj b hb;have e:d2.P b=some o:=by rw[x.P,p.P b hb,h2]
  obtain⟨r,sl,g,hz⟩:=c.pin b o e;have:=hz (.inl h3);subst this;exact⟨o,h2,h3,r,g,e⟩
 refine⟨⟨λ b hb=>?_,λ b hb=>?_,λ b hb=>?_,λ b hb=>by rw[x.P];exact p.out b hb⟩,λ b hb=>?_⟩
 ·obtain⟨o,h2,h3,r,g,e⟩:=key b hb;exact r
 ·obtain⟨o,h2,h3,r,g,e⟩:=key b hb;exact⟨o,g,h3⟩
 ·obtain⟨o,h2,h3,r,g,e⟩:=key b hb;rw[e,g]
 ·obtain⟨o,h2,h3,r,g,e⟩:=key b hb;rw[h2,g]
theorem j3(c:jH X d mem fr s)(hw:∀ b∈wr,d.Z b=none)(k:∀ b o,b∉wr->s.heap.get? b=some o->h.get? b=some o):Ex0 d n (d.pins wr h) n:=by
 refine⟨λ b o e=>?_,λ _ _=>rfl,BN _⟩;have q:b∉wr:=λ q=>by rw[hw b q] at e;exact nsm e
 show(if b∈wr then none else match d.role b with | some _=>none | none=>h.get? b)=_;rw[BE q,c.zrole e];exact k b o q (c.zin b o e)
theorem jH.pins(c:jH X d mem fr s)(hw:∀ b∈wr,d.Z b=none/\(d.role b=none\/d.role b=some .priv))(hfr:∀ e∈fr,∀ b∈wr,e.frame≠some b)
  (hx:∀ b∈wr,∃ o,s'.heap.get? b=some o/\zP o) (k:∀ b o,b∉wr->s.heap.get? b=some o->s'.heap.get? b=some o)
  (hg:s'.gens=s.gens:=by rfl) (ho:s'.os=s.os:=by rfl):jH X (d.pins wr s'.heap) mem fr s':=by
 have x0:Ex0 d (jA mem) (d.pins wr s'.heap) (jA mem):=j3 c (λ b q=>(hw b q).1) k;have rn:∀ b,b∉wr->(d.pins wr s'.heap).role b=d.role b:=λ b q=>BE q;have out:∀ b r,d.role b=some r->r≠.priv->b∉wr:=λ b r e hr q=>by
  rcases(hw b q).2 with z | z <;> rw[z] at e <;> cases e;exact hr rfl
 refine⟨hg.trans c.gens,ho.trans c.os,λ b o e=>x0.z b o (c.base b o e),λ b o e=>?_,λ b r e=>?_,λ b r e=>?_,λ b o e=>?_,λ i hi=>?_,c.tab.mono x0.z (λ r=>(rn qA (out qA _ r nofun)).trans r) (λ o e=>k _ o (out qA _ c.tab.1 nofun) e),λ e he=>?_⟩
 ·have e:(if b∈wr then none else match d.role b with | some _=>none | none=>s'.heap.get? b)=some o:=e;by_cases q:b∈wr
  ·rw[BJ q] at e;exact nsm e
  ·rw[BE q] at e;cases z:d.role b with
   | none=>rw[z] at e;exact e
   | some r=>rw[z] at e;exact nsm e
 ·show(if b∈wr then none else match d.role b with | some _=>none | none=>s'.heap.get? b)=none;by_cases q:b∈wr
  ·rw[BJ q]
  ·rw[rn b q] at e;rw[BE q,e]
 ·by_cases q:b∈wr
  ·obtain⟨o,g,_⟩:=hx b q;exact⟨o,g⟩
  ·rw[rn b q] at e;obtain⟨o,g⟩:=c.rin b r e;exact⟨o,k b o q g⟩
 ·have e:(if b∈wr then s'.heap.get? b else d.P b)=some o:=e;by_cases q:b∈wr
  ·rw[BJ q] at e;exact⟨BJ q,o.slots,e,λ _=>rfl⟩
  ·rw[BE q] at e;obtain⟨r,sl,g,hz⟩:=c.pin b o e;exact⟨(rn b q).trans r,sl,k b _ q g,hz⟩
 ·refine(c.mem i hi).mono0 x0 hi (λ b h=>rn b ?_) λ b o h e=>k b o ?_ e
  ·rcases h with h | h <;> exact out b _ h nofun
  ·rcases h with h | h <;> exact out b _ h nofun
 ·obtain⟨a,L,o,f,r,g,q⟩:=c.fr e he;have z:L∉wr:=λ z=>hfr e he L z f;exact⟨a,L,o,f,by rw[rn L z];exact r,k L o z g,q⟩
theorem Loc.pins(l:Loc X d env fr st s)(hw:∀ b∈wr,d.Z b=none/\(d.role b=none\/d.role b=some .priv))(hfr:∀ e∈fr,∀ b∈wr,e.frame≠some b)
  (hx:∀ b∈wr,∃ o,s'.heap.get? b=some o/\zP o) (k:∀ b o,b∉wr->s.heap.get? b=some o->s'.heap.get? b=some o)
  (hg:s'.gens=s.gens:=by rfl) (ho:s'.os=s.os:=by rfl):Loc X (d.pins wr s'.heap) env fr st s':=by
 have x0:Ex0 d (jA st.mem) (d.pins wr s'.heap) (jA st.mem):=j3 l.core (λ b q=>(hw b q).1) k;have rn:∀ b,b∉wr->(d.pins wr s'.heap).role b=d.role b:=λ b q=>BE q;have out:∀ b r,d.role b=some r->r≠.priv->b∉wr:=λ b r e hr q=>by
  rcases(hw b q).2 with z | z <;> rw[z] at e <;> cases e;exact hr rfl
 have oL:=out _ _ l.role nofun
 refine⟨l.core.pins hw hfr hx k hg ho,l.kind,l.sc,l.glob,l.blt,l.top,(rn _ oL).trans l.role,?_,λ x v a b=>?_,λ x a b=>?_⟩
 ·obtain⟨m,⟨o,es,ep,g,hr⟩,h⟩:=l.ns;exact⟨m,⟨o,es,ep,k _ _ oL g,hr⟩,λ x v a b=>let ⟨val,e,q⟩:=h x v a b;⟨val,e,q.mono0 x0⟩⟩
 ·obtain⟨c,val,o,h1,h2,h3,h4⟩:=l.cel x v a b;exact⟨c,val,o,h1,x0.z _ _ h2,h3,h4.mono0 x0⟩
 ·obtain⟨c,o,h1,h2,h3,h4⟩:=l.ucel x a b;have q:=out _ _ h4 nofun
  exact⟨c,o,h1,k _ _ q h2,h3,(rn c q).trans h4⟩
theorem y7(hx:∀ b∈wr,∃ o,h.get? b=some o/\zP o)(ho:∀ b,b∉wr->d1.P b=d.P b):qP d wr (d1.pins wr h) h:=
 ⟨λ b q=>BJ q,hx,λ b q=>BJ q,λ b q=>(BE q).trans (ho b q)⟩
theorem jH.unpins(c:jH X d2 mem fr s)(p:qP d wr d2 s.heap)(hfr:∀ e∈fr,∀ b∈wr,e.frame≠some b)(hd:∀ b∈wr,d.P b=none):jH X (d.unpins wr d2) mem fr s:=by
 have rn:∀ b,b∉wr->(d.unpins wr d2).role b=d2.role b:=λ b q=>BE q;have out:∀ b r,d2.role b=some r->r≠.priv->b∉wr:=λ b r e hr q=>by
  rw[p.role b q] at e;obtain rfl:=B9 e;exact hr rfl
 have ro:∀ b r,(d.unpins wr d2).role b=some r->b∉wr/\d2.role b=some r:=λ b r e=>by
  have e:(if b∈wr then none else d2.role b)=some r:=e;by_cases q:b∈wr
  ·rw[BJ q] at e;exact nsm e
  ·rw[BE q] at e;exact⟨q,e⟩
 refine⟨c.gens,c.os,c.base,c.zin,λ b r e=>c.zr b r (ro b r e).2,λ b r e=>c.rin b r (ro b r e).2,λ b o e=>?_,λ i hi=>?_,c.tab.mono (λ _ _ e=>e) (λ r=>(rn qA (out qA _ r nofun)).trans r) (λ _ e=>e),λ e he=>?_⟩
 ·have e:d.P b=some o:=e;have q:b∉wr:=λ q=>by rw[hd b q] at e;exact nsm e
  obtain⟨r,g⟩:=c.pin b o (by rw[p.out b q];exact e);exact⟨(rn b q).trans r,g⟩
 ·refine zN.mono0 (d:=d2) (d':=d.unpins wr d2) ⟨λ _ _ e=>e,λ _ _=>rfl,BN _⟩ hi (λ b h=>rn b ?_) (λ _ _ _ e=>e) (c.mem i hi);rcases h with h | h <;> exact out b _ h nofun
 ·obtain⟨a,L,o,f,r,g,q⟩:=c.fr e he;have z:L∉wr:=λ z=>hfr e he L z f;exact⟨a,L,o,f,by rw[rn L z];exact r,g,q⟩
theorem Loc.unpins(l:Loc X d2 env fr st2 s)(p:qP d wr d2 s.heap)(hfr:∀ e∈fr,∀ b∈wr,e.frame≠some b)(hd:∀ b∈wr,d.P b=none):Loc X (d.unpins wr d2) env fr st2 s:=by
 have rn:∀ b,b∉wr->(d.unpins wr d2).role b=d2.role b:=λ b q=>BE q;have out:∀ b r,d2.role b=some r->r≠.priv->b∉wr:=λ b r e hr q=>by
  rw[p.role b q] at e;obtain rfl:=B9 e;exact hr rfl
 refine⟨l.core.unpins p hfr hd,l.kind,l.sc,l.glob,l.blt,l.top,(rn _ (out _ _ l.role nofun)).trans l.role,?_,λ x v a b=>?_,λ x a b=>?_⟩
 ·obtain⟨m,hm,h⟩:=l.ns;exact⟨m,hm,λ x v a b=>let ⟨val,e,q⟩:=h x v a b;⟨val,e,q.owns⟩⟩
 ·obtain⟨c,val,o,h1,h2,h3,h4⟩:=l.cel x v a b;exact⟨c,val,o,h1,h2,h3,h4.owns⟩
 ·obtain⟨c,o,h1,h2,h3,h4⟩:=l.ucel x a b;exact⟨c,o,h1,h2,h3,(rn c (out _ _ h4 nofun)).trans h4⟩
theorem yg(x:Ex0 d n d2 n2):Ext d n (d.unpins wr d2) n2:=⟨x.z,x.rho,x.n,rfl⟩
theorem Exc.unpins{C ea:Addr}{fl:Option Value}{B:Heap}{a0:Value}(x:Exc d2 fr C ea fl B a0 s):Exc (d.unpins wr d2) fr C ea fl B a0 s where
 stays:=x.stays
 own:=λ b h1 h2=>x.own b (by
  rcases h1 with h1 | ⟨r,e⟩
  ·exact .inl h1
  ·have e:(if b∈wr then none else d2.role b)=some r:=e;by_cases q:b∈wr
   ·rw[BJ q] at e;exact nsm e
   ·rw[BE q] at e;exact .inr ⟨r,e⟩) h2
 new:=x.new
 ff:=x.ff
 tr:=x.tr
theorem PX.unpins{E:Value->Shared->Prop}{kx:KX}(qx:PX X d n env fr kx E)(x:Ex0 d n d1 n1)(p:qP d wr d1 h)(hfr:∀ e∈fr,∀ b∈wr,e.frame≠some b)(hd:∀ b∈wr,d.P b=none):PX X d1 n1 env fr kx E:=by
 intro C st' d' ea fl B a0 s' hk x1 l xc hfl;obtain⟨p',_⟩:=p.ext x1 l.core;exact qx C st' (d.unpins wr d') ea fl B a0 s' hk (yg (x.trans x1.ex0)) (l.unpins p' hfr hd) xc.unpins hfl
end
def J8(src:Src)(us:List T)(mem:List jB):Prop:=xR src us mem True
theorem wF{src:Src}{us:List T}{mem:List jB}{P:Prop}:xR src us mem P↔J8 src us mem/\P:=by
 unfold J8 xR;induction src using Src.casesOn with
 | fix=>simp
 | plst i=>dsimp only;cases jC mem i <;> simp
 | dict i ep=>dsimp only;cases jC mem i <;> simp
structure yC(X:Run)(A:Around)(tgt:Expr)(src:Src)(us ts:List T)(I:Addr)(wr:List Addr)(St:Nat->Lay->List jB->Heap->Prop):Prop where
 frame:∀{i:Nat} {d d':Lay} {mem mem':List jB} {h h':Heap},St i d mem h->Ex0 d (jA mem) d' (jA mem')->(∀ b∈wr,h'.get? b=h.get? b)->St i d' mem' h'
 item:∀{i:Nat} {d:Lay} {mem:List jB} {fr:List Env} {s:Shared} {Q:Value->Shared->Prop} {E:Value->Shared->Prop} {t:T},ts[i]?=some t->St i d mem s.heap->jH X d mem fr s->J8 src us mem->(∀ b∈wr,d.role b=some .priv)->
  (∀ v h' tk,(∀ b o,b∉wr->s.heap.get? b=some o->h'.get? b=some o)->(∀ b∈wr,∃ o,h'.get? b=some o/\zP o)->VR (d.pins wr h').Z t v->St (i+1) (d.pins wr h') mem h'->Q v { s with heap:=h',toks:=tk })->
  wpAny (model X.prog X.w) A (pyNext (.ref I)) (λ r s1=>∃ v,r=some v/\wpAny (model X.prog X.w) A (letOwnedTupleGo tgt (.ref I) v) (λ _ s2=>Q v s2) E s1) E s
 done:∀{d:Lay} {mem:List jB} {fr:List Env} {s:Shared} {Q:Option Value->Shared->Prop} {E:Value->Shared->Prop},St ts.length d mem s.heap->jH X d mem fr s->J8 src us mem->(∀ b∈wr,d.role b=some .priv)->
  (∀ h' tk,(∀ b o,b∉wr->s.heap.get? b=some o->h'.get? b=some o)->Q none { s with heap:=h',toks:=tk })->wpAny (model X.prog X.w) A (pyNext (.ref I)) Q E s
 self:∀{i:Nat} {d:Lay} {mem:List jB} {s:Shared} {Q:Value->Shared->Prop} {E:Value->Shared->Prop},St i d mem s.heap->Q (.ref I) s->wpAny (model X.prog X.w) A (pyIter (.ref I)) Q E s
set_option backward.match.sparseCases true in
theorem wH{M:Model}{A:Around}{E:Value->Shared->Prop}{s:Shared}{tgt:Expr}{I:Addr}{v:Value}{o:Obj}{T:String}{Q:Unit->Shared->Prop}(ho:s.heap.get? I=some o)(hc:o.cls=.type T)
  (hT:(["enumerate","zip","dict_itemiterator","dict_reverseitemiterator","odict_iterator","itertools.zip_longest","itertools.pairwise"]:List String).contains T=false) (h:Q () s) :
  wpAny M A (letOwnedTupleGo tgt (.ref I) v) Q E s:=by
 have main:wpAny M A (do
   let (.ref r,.ref a):=(Value.ref I,v) | return
   let o <- load r
   match o.cls,o.data with
   | .type n,.fields vs=>
     if(["enumerate","zip","dict_itemiterator","dict_reverseitemiterator","odict_iterator","itertools.zip_longest","itertools.pairwise"]:List String).contains n&&vs[0]? == some (rawInt a) then
      rule "for.unpacks-the-owned-tuple"
      updateField r 0 .none
   | _,_=>pure ()) Q E s:=by
  induction v using Value.casesOn with
  | ref a=>
    refine B0 (wpAny_load ho ?_);refine rwl hc ?_;cases o.data with
    | fields vs=>
      show wpAny M A (if(_&&_)=true then _ else _) Q E s;rw[hT,Bool.false_and];exact BC h
    | _=>exact BC h
  | _=>exact BC h
 unfold letOwnedTupleGo;cases tgt <;> first | exact main | exact BC h
theorem qr{h h':Heap}{I l:Addr}{i:Nat}(x:h.IsListIter I l i)(e:h'.get? I=h.get? I):h'.IsListIter I l i:=let ⟨o,g,r⟩:=x;⟨o,e.trans g,r⟩
theorem v8{h h':Heap}{I l:Addr}{i:Nat}(x:h.IsTupleIter I l i)(e:h'.get? I=h.get? I):h'.IsTupleIter I l i:=let ⟨o,g,r⟩:=x;⟨o,e.trans g,r⟩
section
variable{X:Run}{A:Around}{tgt:Expr}{src:Src}{us:List T}
theorem zI{h h':Heap}{I:Addr}(hs:Heap.SameBut I h h'):∀ b o,b∉[I]->h.get? b=some o->h'.get? b=some o:=λ b o hb e=>(hs.2 b (by simpa using hb)).trans e
theorem wG{h h':Heap}{I:Addr}(hs:Heap.ExtBut I h h'):∀ b o,b∉[I]->h.get? b=some o->h'.get? b=some o:=λ b o hb e=>hs b o (by simpa using hb) e
theorem z7{h:Heap}{I:Addr}{o:Obj}{vs:Array Value}(g:h.get? I=some o)(e:o.data=.fields vs):∀ b∈[I],∃ o,h.get? b=some o/\zP o:=λ b hb=>by
 refine rwl (BG.mp hb) ?_;exact⟨o,g,.inl ⟨vs,e⟩⟩
theorem w4{d:Lay}{mem:List jB}{fr:List Env}{s:Shared}{wr:List Addr}(c:jH X d mem fr s)(hr:∀ b∈wr,d.role b=some .priv):∀ b∈wr,d.Z b=none:=λ b hb=>c.zr b _ (hr b hb)
theorem yC.list(hh:A.handled=none){l I:Addr}{items:Array Value}{n:Nat}{ts:List T} :
  yC X A tgt src us ts I [I] (λ i d mem h=>jT (d.Z l=some (jS items n)) (VRL d.Z ts items.toList) (h.IsListIter I l i)) where
 frame:=λ⟨h1,h2,h3⟩ x k=>⟨x.z _ _ h1,h2.mono x.z,qr h3 (k I (by simp))⟩
 item:=λ{i d mem fr s Q E t} ht ⟨h1,h2,h3⟩ c hk hr q=>by
  obtain⟨v,e,hv⟩:=qQ? h2 i t ht;refine wpAny_pyNext_list_item h3 ⟨_,c.zin _ _ h1,rfl,_,rfl⟩ (by refine rwl (Bl).symm ?_;exact e) λ h' h4 hs=>⟨v,rfl,?_⟩;obtain⟨o,g,hc,hd⟩:=id h4;have k:=zI hs;have x0:=j3 (n:=jA mem) c (w4 c hr) k;refine wH g hc (by decide) (q v h' s.toks k (z7 g hd) (hv.mono x0.z) ⟨x0.z _ _ h1,h2.mono x0.z,h4⟩)
 done:=λ{d mem fr s Q E} ⟨h1,h2,h3⟩ c hk hr q=>by
  have hl:=jP h2;replace hl:=BQ▸hl;exact wpAny_pyNext_list_end hh h3 ⟨_,c.zin _ _ h1,rfl,_,rfl⟩ (DA (by lia)) λ h' he=>q h' s.toks (wG he)
 self:=λ st q=>wpAny_pyIter_listiter st.3 q
theorem yC.tuple(hh:A.handled=none){l I:Addr}{items:Array Value}{n:Nat}{ts:List T} :
  yC X A tgt src us ts I [I] (λ i d mem h=>jT (d.Z l=some (yH items n)) (VRL d.Z ts items.toList) (h.IsTupleIter I l i)) where
 frame:=λ⟨h1,h2,h3⟩ x k=>⟨x.z _ _ h1,h2.mono x.z,v8 h3 (k I (by simp))⟩
 item:=λ{i d mem fr s Q E t} ht ⟨h1,h2,h3⟩ c hk hr q=>by
  obtain⟨v,e,hv⟩:=qQ? h2 i t ht;refine wpAny_pyNext_tuple_item h3 ⟨_,c.zin _ _ h1,rfl,_,rfl⟩ (by refine rwl (Bl).symm ?_;exact e) λ h' h4 hs=>⟨v,rfl,?_⟩;obtain⟨o,g,hc,hd⟩:=id h4;have k:=zI hs;have x0:=j3 (n:=jA mem) c (w4 c hr) k;refine wH g hc (by decide) (q v h' s.toks k (z7 g hd) (hv.mono x0.z) ⟨x0.z _ _ h1,h2.mono x0.z,h4⟩)
 done:=λ{d mem fr s Q E} ⟨h1,h2,h3⟩ c hk hr q=>by
  have hl:=jP h2;replace hl:=BQ▸hl;exact wpAny_pyNext_tuple_end hh h3 ⟨_,c.zin _ _ h1,rfl,_,rfl⟩ (DA (by lia)) λ h' he=>q h' s.toks (wG he)
 self:=λ st q=>wpAny_pyIter_tupleiter st.3 q
set_option tactic.hygienic true in
theorem yC.mlist(hh:A.handled=none){j:Nat}{I:Addr}{ts:List T} :
  yC X A tgt (.plst j) ts ts I [I] (λ i d mem h=>j<jA mem/\h.IsListIter I (d.rho j) i) where
 frame:=λ{i d d' mem mem' h h'} ⟨h1,h2⟩ x k=>⟨BY h1 x.n,by refine rwl (x.rho j h1) ?_;exact qr h2 (k I (by simp))⟩
 item:=λ{i d mem fr s Q E t} ht ⟨h1,h3⟩ c hk hr q=>by
  have o:=c.mem j h1;have hk:(match jC mem j with | .plst us=>us=ts/\True | _=>False):=hk;split at hk
  ·rename_i us e0;replace o:=e0▸o;obtain⟨rfl,_⟩:=hk;obtain⟨hro,items,n,g0,r⟩:=o;obtain⟨v,e,hv⟩:=qQ? r i t ht;refine wpAny_pyNext_list_item h3 ⟨_,g0,rfl,_,rfl⟩ (by refine rwl (Bl).symm ?_;exact e) λ h' h4 hs=>⟨v,rfl,?_⟩;obtain⟨o,g,hc,hd⟩:=id h4;have k:=zI hs;have x0:=j3 (n:=jA mem) c (w4 c hr) k;exact wH g hc (by decide) (q v h' s.toks k (z7 g hd) (hv.mono x0.z) ⟨h1,h4⟩)
  ·exact hk.elim
 done:=λ{d mem fr s Q E} ⟨h1,h3⟩ c hk hr q=>by
  have o:=c.mem j h1;have hk:(match jC mem j with | .plst us=>us=ts/\True | _=>False):=hk;split at hk
  ·rename_i us e0;replace o:=e0▸o;obtain⟨rfl,_⟩:=hk;obtain⟨hro,items,n,g0,r⟩:=o;have hl:=jP r;rw[BQ] at hl;exact wpAny_pyNext_list_end hh h3 ⟨_,g0,rfl,_,rfl⟩ (DA (by lia)) λ h' he=>q h' s.toks (wG he)
  ·exact hk.elim
 self:=λ st q=>wpAny_pyIter_listiter st.2 q
theorem rngL_get{a b c:Int}{i:Nat}{t:T}(h:((z6 a b c).map T.int)[i]?=some t):i<(z6 a b c).length/\t=.int (a+c*i):=by
 replace h:=(Bq)▸h;unfold z6 at h ⊢;replace h:=(Bq)▸h;have hi:i<((b-a+c-1).fdiv c).toNat:=by
  rcases Nat.lt_or_ge i ((b-a+c-1).fdiv c).toNat with q | q
  ·exact q
  ·rw[List.getElem?_eq_none (by rw[List.length_range];exact q)] at h;exact nsm h
 rw[List.getElem?_range hi] at h;refine⟨by rw[BB,List.length_range];exact hi,?_⟩
 simpa using h.symm
theorem yC.rng(hh:A.handled=none){a b c:Int}{I:Addr} :
  yC X A tgt .fix us ((z6 a b c).map T.int) I [I] (λ i d mem h=>IsRangeIter h I (a+c*i) (((z6 a b c).length:Int)-i) c) where
 frame:=λ h x k=>(k _ (by simp)).trans h
 item:=λ{i d mem fr s Q E t} ht h3 c0 hk hr q=>by
  obtain⟨hi,rfl⟩:=rngL_get ht;refine wpAny_pyNext_range_item h3 (by lia) λ h' h4 hs=>⟨_,rfl,?_⟩;have k:=zI hs;have x0:=j3 (n:=jA mem) c0 (w4 c0 hr) k;refine wH h4 rfl (by decide) (q _ h' _ k (z7 h4 rfl) (.int _ _) ?_);rw[show a+c*((i+1:Nat):Int)=a+c*(i:Int)+c from by rw[Int.natCast_add,Dc];lia,show((z6 a b c).length:Int)-((i+1:Nat):Int)=((z6 a b c).length:Int)-(i:Int)-1 from by lia];exact h4
 done:=λ{d mem fr s Q E} h3 c0 hk hr q=>by
  rw[BB] at h3;exact wpAny_pyNext_range_end hh h3 (by lia) λ h' he=>q h' s.toks (wG he)
 self:=λ st q=>wpAny_pyIter_rangeiter st q
theorem idxT_get{ts:List T}{m i:Nat}{t:T}(h:(YO m ts)[i]?=some t):∃ u,ts[i]?=some u/\t=.tup [.int ((m+i:Nat):Int),u]:=by
 induction ts generalizing m i with
 | nil=>exact nsm h
 | cons u ts ih=>induction i using CD with
   | zero=>obtain rfl:=B9 h;exact⟨u,rfl,rfl⟩
   | succ i=>
     obtain⟨v,h1,h2⟩:=ih (m:=m+1) (i:=i) h;exact⟨v,h1,by exact rwl h2 (rwl (show m+1+i=m+(i+1) from by lia) rfl)⟩
theorem YN(ts:List T)(m:Nat):(YO m ts).length=ts.length:=by
 induction ts generalizing m with
 | nil=>rfl
 | cons _ ts ih=>exact Bo Nat.succ (ih (m+1))
theorem yC.enum(hh:A.handled=none){l e it:Addr}{items:Array Value}{n:Nat}{ts:List T}{el:List Expr}{cx}{p:Pos}(hne:e≠it) :
  yC X A (.Tuple el cx p) .fix us (YO 0 ts) e [e,it] (λ i d mem h=>jj (d.Z l=some (jS items n)) (VRL d.Z ts items.toList) (∃ old,IsEnum h e it (i:Int) old) (h.IsListIter it l i)) where
 frame:=λ⟨h1,h2,⟨old,h3⟩,h4⟩ x k=>⟨x.z _ _ h1,h2.mono x.z,⟨old,(k e (by simp)).trans h3⟩,qr h4 (k it (by simp))⟩
 item:=λ{i d mem fr s Q E t} ht ⟨h1,h2,⟨old,h3⟩,h4⟩ c hk hr q=>by
  obtain⟨u,hu,rfl⟩:=idxT_get ht;obtain⟨v,e1,hv⟩:=qQ? h2 i u hu;refine wpAny_pyNext_enum_item h3 h4 ⟨_,c.zin _ _ h1,rfl,_,rfl⟩ (by refine rwl (Bl).symm ?_;exact e1) hne λ h' ho hit hT hsz k=>⟨_,rfl,?_⟩;refine wpAny_letOwnedTupleGo_enum ho λ h2' he' hs'=>?_;have k2:∀ b o,b∉[e,it]->s.heap.get? b=some o->h2'.get? b=some o:=λ b o hb g=>by
   have hb1:b≠e:=λ z=>hb (by simp[z]);have hb2:b≠it:=λ z=>hb (by simp[z]);exact(hs'.2 b hb1).trans (k b o hb1 hb2 g)
  have x0:=j3 (n:=jA mem) c (w4 c hr) k2;have hit2:h2'.IsListIter it l (i+1):=qr hit (hs'.2 it (DF hne));obtain⟨oi,gi,hci,hdi⟩:=id hit2;have hfresh:s.heap.get? s.heap.objs.size=none:=by
   cases z:s.heap.get? s.heap.objs.size with
   | none=>rfl
   | some o=>exact absurd (Be z) (Cl _)
  have hTw:s.heap.objs.size∉[e,it]:=λ hb=>by
   obtain⟨o,vs,g⟩:=(show ∃ o,∃ vs:Nat,s.heap.get? s.heap.objs.size=some o from by
    rcases BO.mp hb with z | z
    ·refine rwl z ?_;exact⟨_,0,h3⟩
    ·refine rwl (BG.mp z) ?_;obtain⟨o,g,_⟩:=h4;exact⟨o,0,g⟩)
   replace g:=hfresh▸g;exact nsm g
  have hTZ:(d.pins [e,it] h2').Z s.heap.objs.size=some (yH #[.int (i:Int) s.toks,v] 0):=by
   show(if _∈_ then none else match d.role _ with | some _=>none | none=>h2'.get? _)=_;refine rwl (BE hTw) (rwl (c.norole hfresh) ?_);exact(hs'.2 _ λ z=>hTw (by refine rwl z ?_;simp)).trans hT
  refine q _ h2' _ k2 (λ b hb=>?_) (.tup hTZ ?_) ⟨x0.z _ _ h1,h2.mono x0.z,⟨v,by rw[Int.natCast_add];exact he'⟩,hit2⟩
  ·rcases BO.mp hb with z | z
   ·refine rwl z ?_;exact⟨_,he',.inl ⟨_,rfl⟩⟩
   ·refine rwl (BG.mp z) ?_;exact⟨_,gi,.inl ⟨_,hdi⟩⟩
  ·rw[D6];exact .cons (.int _ _) (.cons (hv.mono x0.z) .nil)
 done:=λ{d mem fr s Q E} ⟨h1,h2,⟨old,h3⟩,h4⟩ c hk hr q=>by
  have hl:=jP h2;replace hl:=BQ▸hl;rw[YN] at h3 h4;exact wpAny_pyNext_enum_end hh h3 h4 ⟨_,c.zin _ _ h1,rfl,_,rfl⟩ (DA (by lia)) λ h' he=>q h' s.toks λ b o hb g=>he b o (λ z=>hb (by simp[z])) g
 self:=λ st q=>let ⟨_,_,⟨_,h⟩,_⟩:=st;wpAny_pyIter_enum h q
end
theorem xU{h h':Heap}{I l:Addr}{i n ep:Nat}(x:h.IsKeyIter I l i n ep)(e:h'.get? I=h.get? I):h'.IsKeyIter I l i n ep:=let ⟨o,g,r⟩:=x;⟨o,e.trans g,r⟩
theorem ZS{d:Lay}{n:Nat}{es:List (T×V)}{dl:List DictEntry}(h:DR d n es dl):(yN es).length=dl.length/\∀(i:Nat) (t:T),(yN es)[i]?=some t->∃ e:DictEntry,dl[i]?=some e/\VR d.Z t e.key:=by
 induction h using Dp with
 | nil=>exact⟨rfl,λ i t e=>by cases i <;> exact nsm e⟩
 | one z u v=>
   refine⟨rfl,λ i t e=>?_⟩;induction i using CD with
   | zero=>obtain rfl:=B9 e;exact⟨_,rfl,.tup z u⟩
   | succ i=>cases i <;> exact nsm e
section
variable{X:Run}{A:Around}{tgt:Expr}{us:List T}
set_option tactic.hygienic true in
theorem yC.dict(hh:A.handled=none){j ep:Nat}{I:Addr}{ts:List T} :
  yC X A tgt (.dict j ep) ts ts I [I] (λ i d mem h=>j<jA mem/\h.IsKeyIter I (d.rho j) i ts.length ep) where
 frame:=λ{i d d' mem mem' h h'} ⟨h1,h2⟩ x k=>⟨BY h1 x.n,by rw[x.rho j h1];exact xU h2 (k I (by simp))⟩
 item:=λ{i d mem fr s Q E t} ht ⟨h1,h3⟩ c hk hr q=>by
  have o:=c.mem j h1;have hk:(match jC mem j with | .dict es ep'=>(yN es=ts/\ep'=ep)/\True | _=>False):=hk;split at hk
  ·rename_i es ep' e0;rw[e0] at o;obtain⟨⟨rfl,rfl⟩,_⟩:=hk;obtain⟨hro,ne,ds,g0,r⟩:=o;obtain⟨hl,hg⟩:=ZS r;obtain⟨e,he,hv⟩:=hg i t ht;rw[hl,BQ] at h3;refine yG h3 g0 (by rw[<- Bl];exact he) λ h' h4 hs=>⟨_,rfl,?_⟩;obtain⟨o,g,hc,hd⟩:=id h4;have k:=zI hs;have x0:=j3 (n:=jA mem) c (w4 c hr) k;exact wH g hc (by decide) (q e.key h' s.toks k (z7 g hd) (hv.mono x0.z) ⟨h1,by rw[hl,BQ];exact h4⟩)
  ·exact hk.elim
 done:=λ{d mem fr s Q E} ⟨h1,h3⟩ c hk hr q=>by
  have o:=c.mem j h1;have hk:(match jC mem j with | .dict es ep'=>(yN es=ts/\ep'=ep)/\True | _=>False):=hk;split at hk
  ·rename_i es ep' e0;rw[e0] at o;obtain⟨⟨rfl,rfl⟩,_⟩:=hk;obtain⟨hro,ne,ds,g0,r⟩:=o;obtain⟨hl,hg⟩:=ZS r;rw[hl,BQ] at h3;exact yW hh h3 g0 (DA (BN _)) λ h' he=>q h' s.toks (wG he)
  ·exact hk.elim
 self:=λ st q=>wpAny_pyIter_keyiter st.2 q
theorem WC{a b c:Int}(h:jj (sm2 a) (sm2 b) (sm2 c) (0<c)):Builtin.Range.small a b c=true/\Builtin.Range.rangeSize a b c=(z6 a b c).length:=by
 obtain⟨⟨a1,a2⟩,⟨b1,b2⟩,⟨c1,c2⟩,c0⟩:=h;have hs:Builtin.Range.rangeSize a b c=if a<b then(b-a-1)/c+1 else 0:=by
  unfold Builtin.Range.rangeSize;rw[BJ c0]
 have hq:a<b->0<=(b-a-1)/c/\(b-a-1)/c<=b-a-1:=λ h=>
  ⟨CZ (CB (Int.sub_pos_of_lt h)) (Bk c0),Int.ediv_le_self _ (CB (Int.sub_pos_of_lt h))⟩
 have hlen:Builtin.Range.rangeSize a b c=(z6 a b c).length:=by
  unfold z6;rw[BB,List.length_range,hs,Int.fdiv_eq_ediv_of_nonneg _ (Bk c0)];by_cases h:a<b
  ·rw[BJ h];have e:b-a+c-1=(b-a-1)+1*c:=rwl (Int.one_mul c) (by rw[Int.sub_eq_add_neg,Int.add_right_comm];rfl);rw[e,Int.add_mul_ediv_right _ _ (Cd c0)];exact(Da (Int.le_add_one (hq h).1)).symm
  ·rw[BE h];have:(b-a+c-1)/c<=0:=by
    rcases Int.lt_or_le (b-a+c-1) 0 with q | q
    ·exact Bk (Int.ediv_neg_of_neg_of_pos q c0)
    ·rw[Df q (rwl (DP (b-a) c 1) (rwl (CS (b-a) _) (Bm (Int.add_le_of_le_sub_left (BM (Int.sub_nonpos_of_le (Bg.mp h)) (D8 (Int.sub_self (c-1)).symm))) (Int.sub_lt_self c (by decide)))))];exact Int.le_refl _
   rw[Int.toNat_eq_zero.mpr this];rfl
 refine⟨?_,hlen⟩;unfold Builtin.Range.small Builtin.Range.rangeFitsLong;have hb:0<=Builtin.Range.rangeSize a b c/\Builtin.Range.rangeSize a b c<2^63:=by
  rw[hs];by_cases h:a<b
  ·rw[BJ h];exact⟨Int.le_add_one (hq h).1,Bm (DQ (BM (hq h).2 (Int.sub_le_sub_right (Int.sub_le_sub (Bk b2) (Bk a1)) 1)) 1) (by decide)⟩
  ·rw[BE h];decide
 rw[BJ c0];have w0:∀ x:Int,-(2^61)<x->-(2^63)<=x:=λ x q=>BM (by decide) (Bk q);have w1:∀ x:Int,x<2^61->x<2^63:=λ x q=>Bj q (by decide);have e1:-(2^63)<=a/\a<2^63:=⟨w0 a a1,w1 a a2⟩;have e2:-(2^63)<=b/\b<2^63:=⟨w0 b b1,w1 b b2⟩;have e3:-(2^63)<=c/\c<2^63:=⟨w0 c c1,w1 c c2⟩;have e4:-(2^63)<=b+(c-1)/\b+(c-1)<2^63:=⟨BM e2.1 (Int.le_add_of_nonneg_right (CB c0)),Bj (Int.add_lt_add b2 (Bz (Int.sub_lt_self c (by decide)) (Bk c2))) (by decide)⟩;simp only[Bn,decide_eq_true_eq,Bool.or_eq_true];exact⟨⟨⟨⟨e1,e2⟩,e3⟩,BM (by decide) hb.1,hb.2⟩,.inr e4⟩
set_option tactic.hygienic true in
theorem xT{d:Lay}{mem:List jB}{fr:List Env}{s:Shared}{v:V}{val:Value}{ts:List T}(c:jH X d mem fr s)(hh:A.handled=none)(hv:VV d (jA mem) v val)(h:listOf? mem v=some ts){Q:Value->Shared->Prop}{E:Value->Shared->Prop}
  (q:∀ I St h',yC X A tgt (QE mem v) ts ts I [I] St->s.heap.get? I=none->(∀ b o,s.heap.get? b=some o->h'.get? b=some o)->(∃ o,h'.get? I=some o/\zP o)->St 0 (d.pins [I] h') mem h'->Q (.ref I) { s with heap:=h' }) :
  wpAny (model X.prog X.w) A (pyIter val) Q E s:=by
 have hfresh:s.heap.get? s.heap.objs.size=none:=by
  cases z:s.heap.get? s.heap.objs.size with
  | none=>rfl
  | some o=>exact absurd (Be z) (Cl _)
 have nz:∀ b∈[s.heap.objs.size],d.Z b=none:=λ b hb=>by
  rw[BG.mp hb];cases z:d.Z s.heap.objs.size with
  | none=>rfl
  | some o=>rw[c.zin _ _ z] at hfresh;exact snm hfresh
 have kk:∀(o:Obj) b o',s.heap.get? b=some o'->(s.heap.push o).get? b=some o':=λ o b o' e=>BH _ e;have x0:∀ o,Ex0 d (jA mem) (d.pins [s.heap.objs.size] (s.heap.push o)) (jA mem):=λ o=>j3 c nz λ b o' _ e=>kk o b o' e;induction v using Dr with
 | lam=>exact nsm h
 | p t=>
   cases hv with | p hv=>
   induction t using Dq with
   | lst us=>
     obtain rfl:=B9 h;cases hv with | lst z r=>
     refine wpAny_pyIter_list ⟨_,c.zin _ _ z,rfl,_,rfl⟩ (q _ _ _ (yC.list hh) hfresh (kk _) ⟨_,BR _ rfl,.inl ⟨_,rfl⟩⟩ ⟨(x0 _).z _ _ z,r.mono (x0 _).z,_,BR _ rfl,rfl,rfl⟩)
   | tup us=>
     obtain rfl:=B9 h;cases hv with | tup z r=>
     refine wpAny_pyIter_tuple ⟨_,c.zin _ _ z,rfl,_,rfl⟩ (q _ _ _ (yC.tuple hh) hfresh (kk _) ⟨_,BR _ rfl,.inl ⟨_,rfl⟩⟩ ⟨(x0 _).z _ _ z,r.mono (x0 _).z,_,BR _ rfl,rfl,rfl⟩)
   | rng a b c1=>
     obtain rfl:=B9 h;cases hv with | rng z hs=>
     obtain⟨h1,h2⟩:=WC hs;refine wpAny_pyIter_range (c.zin _ _ z) h1 ?_;refine q _ _ _ (yC.rng (us:=(z6 a b c1).map T.int) hh) hfresh (kk _) ⟨_,BR _ rfl,.inl ⟨_,rfl⟩⟩ ?_;rw[h2];have:=BR s.heap (o:={ cls:=.type "range_iterator",data:=.fields #[rawInt a,rawInt (z6 a b c1).length,rawInt c1] }) rfl;show IsRangeIter _ _ (a+c1*((0:Nat):Int)) (((z6 a b c1).length:Int)-((0:Nat):Int)) c1;rw[show a+c1*((0:Nat):Int)=a from by simp,show((z6 a b c1).length:Int)-((0:Nat):Int)=((z6 a b c1).length:Int) from by simp];exact this
   | _=>exact nsm h
 | m j=>
   cases hv with | m hj=>
   have o:=c.mem j hj;have h:(match jC mem j with | .plst ts=>some ts | .dict es _=>some (yN es) | _=>none)=some ts:=h;have hs:QE mem (.m j)=(match jC mem j with | .dict _ ep=>.dict j ep | _=>.plst j):=rfl;rw[hs] at q;split at h
   ·rename_i us e0;rw[e0] at o q;obtain rfl:=B9 h;obtain⟨hro,items,n,g0,r⟩:=o;exact wpAny_pyIter_list ⟨_,g0,rfl,_,rfl⟩ (q _ _ _ (yC.mlist hh) hfresh (kk _) ⟨_,BR _ rfl,.inl ⟨_,rfl⟩⟩ ⟨hj,_,BR _ rfl,rfl,rfl⟩)
   ·rename_i es ep e0;rw[e0] at o q;obtain rfl:=B9 h;obtain⟨hro,ne,ds,g0,r⟩:=o;obtain⟨hl,hg⟩:=ZS r;refine vH (Bh.mpr ne) g0 (q _ _ _ (yC.dict hh) hfresh (kk _) ⟨_,BR _ rfl,.inl ⟨_,rfl⟩⟩ ⟨hj,_,BR _ rfl,rfl,?_⟩);rw[hl,BQ];rfl
   ·exact nsm h
end
section
variable{X:Run}{d d1 d2:Lay}{mem:List jB}{wr:List Addr}{env:Env}{fr:List Env}{st st1 st2:St}{s s1 s':Shared}{n n1 n2:Nat}{h:Heap}
theorem jH.loose(c:jH X d mem fr s)(hw:∀ b∈wr,d.Z b=none/\d.role b=none)(k:∀ b o,b∉wr->s.heap.get? b=some o->s'.heap.get? b=some o)
  (hg:s'.gens=s.gens:=by rfl) (ho:s'.os=s.os:=by rfl):jH X d mem fr s':=by
 have out:∀ b r,d.role b=some r->b∉wr:=λ b r e q=>by rw[(hw b q).2] at e;exact nsm e
 have outz:∀ b o,d.Z b=some o->b∉wr:=λ b r e q=>by rw[(hw b q).1] at e;exact nsm e
 refine⟨hg.trans c.gens,ho.trans c.os,c.base,λ b o e=>k b o (outz b o e) (c.zin b o e),c.zr,λ b r e=>?_,λ b o e=>?_,λ i hi=>?_,c.tab.mono (λ _ _ e=>e) (λ r=>r) (λ o e=>k _ o (out qA _ c.tab.1) e),λ e he=>?_⟩
 ·obtain⟨o,g⟩:=c.rin b r e;exact⟨o,k b o (out b r e) g⟩
 ·obtain⟨r,sl,g,hz⟩:=c.pin b o e;exact⟨r,sl,k b _ (out b _ r) g,hz⟩
 ·refine(c.mem i hi).mono (Ext.refl _ _) hi (λ _ _=>rfl) λ b o h e=>k b o ?_ e;rcases h with h | h <;> exact out b _ h
 ·obtain⟨a,L,o,f,r,g,q⟩:=c.fr e he;exact⟨a,L,o,f,r,k L o (by rcases r with r | r <;> exact out L _ r) g,q⟩
theorem Loc.loose(l:Loc X d env fr st s)(hw:∀ b∈wr,d.Z b=none/\d.role b=none)(k:∀ b o,b∉wr->s.heap.get? b=some o->s'.heap.get? b=some o)
  (hg:s'.gens=s.gens:=by rfl) (ho:s'.os=s.os:=by rfl):Loc X d env fr st s':=by
 have out:∀ b r,d.role b=some r->b∉wr:=λ b r e q=>by rw[(hw b q).2] at e;exact nsm e
 refine⟨l.core.loose hw k hg ho,l.kind,l.sc,l.glob,l.blt,l.top,l.role,?_,l.cel,λ x a b=>?_⟩
 ·obtain⟨m,⟨o,es,ep,g,hr⟩,h⟩:=l.ns;exact⟨m,⟨o,es,ep,k _ _ (out _ _ l.role) g,hr⟩,h⟩
 ·obtain⟨c,o,h1,h2,h3,h4⟩:=l.ucel x a b;exact⟨c,o,h1,k _ _ (out _ _ h4) h2,h3,h4⟩
theorem uI(c:jH X d2 mem fr s)(p:qP d wr d2 s.heap):∀ b∈wr,(d.unpins wr d2).Z b=none/\(d.unpins wr d2).role b=none:=λ b q=>⟨c.zr b _ (p.role b q),BJ q⟩
theorem wI(c:jH X d mem fr s)(hw:∀ b∈wr,s.heap.get? b=none):jT (∀ b∈wr,d.Z b=none/\d.role b=none) (∀ e∈fr,∀ b∈wr,e.frame≠some b) (∀ b∈wr,d.P b=none):=by
 refine⟨λ b q=>⟨?_,c.norole (hw b q)⟩,λ e he b q z=>?_,λ b q=>?_⟩
 ·cases z:d.Z b with
  | none=>rfl
  | some o=>have:=hw b q;rw[c.zin _ _ z] at this;exact snm this
 ·obtain⟨_,L,o,f,_,g,_⟩:=c.fr e he;rw[z] at f;obtain rfl:=B9 f;rw[hw b q] at g;exact nsm g
 ·cases z:d.P b with
  | none=>rfl
  | some o=>
    obtain⟨r,_⟩:=c.pin b o z;rw[c.norole (hw b q)] at r;exact nsm r
end
theorem yC.item2{X:Run}{A:Around}{tgt:Expr}{src:Src}{us ts:List T}{I:Addr}{wr:List Addr}{St:Nat->Lay->List jB->Heap->Prop}(IT:yC X A tgt src us ts I wr St){Q:Value->Shared->Prop}{G:Option Value->Shared->Prop}{E:Value->Shared->Prop}
  {i:Nat} {d:Lay} {mem:List jB} {fr:List Env} {s:Shared} {t:T} (hG:∀ v s1,wpAny (model X.prog X.w) A (letOwnedTupleGo tgt (.ref I) v) (λ _ s2=>Q v s2) E s1->G (some v) s1)
  (ht:ts[i]?=some t) (h0:St i d mem s.heap) (c:jH X d mem fr s) (hk:J8 src us mem) (hr:∀ b∈wr,d.role b=some .priv)
  (q:∀ v h' tk,(∀ b o,b∉wr->s.heap.get? b=some o->h'.get? b=some o)->(∀ b∈wr,∃ o,h'.get? b=some o/\zP o)->VR (d.pins wr h').Z t v->St (i+1) (d.pins wr h') mem h'->Q v { s with heap:=h',toks:=tk }) :
  wpAny (model X.prog X.w) A (pyNext (.ref I)) G E s:=
 CH (IT.item ht h0 c hk hr q) (λ r s1 ⟨v,e,h⟩=>by subst e;exact hG v s1 h) λ _ _ e=>e
section
variable{X:Run}{r:Nat}{self:jK->Prop}{sp:Addr->Option zM}{A:Around}{fr:List Env}{d:Lay}{env:Env}{s:Shared}{st:St}{E:Value->Shared->Prop}{kx:KX}{kf:Fl->St->Prop}{Q:Flow->Shared->Prop}{n:Nat}
variable(ok:jo X)(ih:∀ t,self t->Den X r t)
include ok ih
theorem YW{tgt:Expr}{src:Src}{us ts:List T}{I:Addr}{wr:List Addr}{St:Nat->Lay->List jB->Heap->Prop}{body:List Stmt}{h2:Heap}(IT:yC X A tgt src us ts I wr St)
  (l:Loc X d env fr st s) (a:AOk A fr r) (hn:A.handled=none) (hf:Y0 env fr) (hw:∀ b∈wr,s.heap.get? b=none) (k:∀ b o,s.heap.get? b=some o->h2.get? b=some o) (hx:∀ b∈wr,∃ o,h2.get? b=some o/\zP o)
  (h0:St 0 (d.pins wr h2) st.mem h2) (hk:J8 src us st.mem) (h:zm self tgt body src us ts st kf kx) (q:PS X d (jA st.mem) env fr kf Q) (qx:PX X d (jA st.mem) env fr kx E) :
  codeAny (model X.prog X.w) A (.forLoop tgt (.ref I) body [] env) (λ r s'=>match r with | .ok f=>Q f s' | .error e=>cameBackBy (model X.prog X.w) A env E e s') { s with heap:=h2 }:=by
 obtain⟨fz,hfr,hd⟩:=wI l.core hw;have ex:=qx.loop hf a.fr;have l2:Loc X (d.pins wr h2) env fr st { s with heap:=h2 }:=l.pins (s':={ s with heap:=h2 }) (λ b hb=>⟨(fz b hb).1,.inl (fz b hb).2⟩) hfr hx (λ b o _ e=>k b o e);have x2:Ex0 d (jA st.mem) (d.pins wr h2) (jA st.mem):=j3 l.core (λ b hb=>(fz b hb).1) (λ b o _ e=>k b o e);have p2:qP d wr (d.pins wr h2) h2:=y7 hx λ _ _=>rfl;refine codeAny_forLoop_any (λ m s=>Ex3 λ i st2 d2=>And8 (m=ts.length-i) (i<=ts.length) (zm self tgt body src us (ts.drop i) st2 kf kx) (J8 src us st2.mem) (Ex0 d (jA st.mem) d2 (jA st2.mem)) (qP d wr d2 s.heap) (Loc X d2 env fr st2 s) (St i d2 st2.mem s.heap))
  ?_ ts.length ⟨0,st,d.pins wr h2,rfl,CN _,h,hk,x2,p2,l2,h0⟩
 clear h0 hk h l2 x2 p2;rintro m s2 ⟨i,st2,d2,rfl,hi,h1,hk,x2,p2,l2,h0⟩;rcases Nat.lt_or_ge i ts.length with hlt | hge
 ·have ht:ts[i]?=some ts[i]:=BS hlt;rw[DH hlt] at h1;refine IT.item2 (λ v s1 hv=>hv) ht h0 l2.core hk p2.role λ v h' tk k' hx' hv h3=>?_;have zw:∀ b∈wr,d2.Z b=none:=w4 l2.core p2.role;have l3:Loc X (d2.pins wr h') env fr st2 { s2 with heap:=h',toks:=tk }:=l2.pins (s':={ s2 with heap:=h',toks:=tk }) (λ b hb=>⟨zw b hb,.inr (p2.role b hb)⟩) hfr hx' k';have x3:Ex0 d (jA st.mem) (d2.pins wr h') (jA st2.mem):=x2.trans (j3 l2.core zw k');have p3:qP d wr (d2.pins wr h') h':=y7 hx' p2.out;refine ih _ h1 A fr (d2.pins wr h') env _ v _ _ l3 a hn (.p hv) (λ st4 d4 s4 h4 x4 l4=>?_) (ex.unpins x3 p3 hfr hd);obtain⟨p4,e4⟩:=p3.ext x4 l4.core;have x04:=x3.trans x4.ex0;refine ih _ h4 A fr d4 env s4 _ _ l4 a hn hf (λ fl st5 d5 f s5 h5 x5 l5 v5=>?_) (ex.unpins x04 p4 hfr hd);obtain⟨p5,e5⟩:=p4.ext x5 l5.core;have x05:=x04.trans x5.ex0;have again:xR src us st5.mem (zm self tgt body src us (ts.drop (i+1)) st5 kf kx)->∃ m,m<ts.length-i/\Ex3 λ i st2 d2=>And8 (m=ts.length-i) (i<=ts.length) (zm self tgt body src us (ts.drop i) st2 kf kx) (J8 src us st2.mem) (Ex0 d (jA st.mem) d2 (jA st2.mem)) (qP d wr d2 s5.heap) (Loc X d2 env fr st2 s5) (St i d2 st2.mem s5.heap):=λ h5=>by
   obtain⟨h6,h7⟩:=wF.mp h5;exact⟨ts.length-(i+1),Nat.sub_succ_lt_self _ _ hlt,i+1,st5,d5,rfl,hlt,h7,h6,x05,p5,l5,IT.frame h3 (x4.ex0.trans x5.ex0) λ b hb=>(e5 b hb).trans (e4 b hb)⟩
  have l6:Loc X (d.unpins wr d5) env fr st5 s5:=l5.unpins p5 hfr hd;induction v5 using FlR.casesOn with
  | next=>exact again h5
  | cont=>exact again h5
  | brk=>exact q _ st5 _ _ s5 h5 (yg x05) l6 .next
  | ret v=>exact q _ st5 _ _ s5 h5 (yg x05) l6 (.ret v.owns)
 ·have e:i=ts.length:=by lia
  subst e;rw[List.drop_length] at h1;have h1:kf .next st2:=h1
  refine IT.done h0 l2.core hk p2.role λ h' tk k'=>?_;have l3:Loc X (d.unpins wr d2) env fr st2 s2:=l2.unpins p2 hfr hd;exact wpAny_execs_nil (q _ st2 _ _ _ h1 (yg x2) (l3.loose (s':={ s2 with heap:=h',toks:=tk }) (uI l2.core p2) k') .next)
omit ok ih in
theorem uM{it:Expr}(h:wA it=true)(env:Env)(x):foldedSetIterable it env x=pure x:=by
 induction it using Bd with
 | Set=>exact ff h
 | _=>rfl
theorem den_kFo{tgt:Expr}{body:List Stmt}{v:V}{val:Value}(l:Loc X d env fr st s)(a:AOk A fr r)(hn:A.handled=none)(hf:Y0 env fr)(hv:VV d (jA st.mem) v val)(h:kFo self tgt body kf kx v st)(q:PS X d (jA st.mem) env fr kf Q)(qx:PX X d (jA st.mem) env fr kx E) :
  wpAny (model X.prog X.w) A (pyIter val) (λ it s'=>codeAny (model X.prog X.w) A (.forLoop tgt it body [] env) (λ r s'=>match r with | .ok f=>Q f s' | .error e=>cameBackBy (model X.prog X.w) A env E e s') s') E s:=by
 unfold kFo at h;cases hl:listOf? st.mem v with
 | none=>rw[hl] at h;exact h.elim
 | some ts=>
   rw[hl] at h;obtain⟨h2,h3,h4⟩:=wF.mp h;refine xT (tgt:=tgt) l.core hn hv hl λ I St h' IT hI k hx h0=>?_;exact YW ok ih IT l a hn hf (λ b hb=>by rw[BG.mp hb];exact hI) k (λ b hb=>by rw[BG.mp hb];exact hx) h0 h2 h4 q qx
omit ok ih in
theorem Yb{it x:Expr}{n:Str}(h:ZR it=some (n,x)):Ex2 λ np cp=>it=.Call (.Name n np) [x] [] cp:=by
 unfold ZR at h;cases e:uE it with
 | none=>rw[e] at h;exact nsm h
 | some p=>
   obtain⟨f,as,ks⟩:=p;rw[e] at h;induction as using BA with
   | nil=>exact nsm h
   | cons y r=>induction r using BA with
     | cons=>exact nsm h
     | nil=>induction ks using BA with
       | cons=>exact nsm h
       | nil=>
         have h:(match zi f with | .some n=>some (n,y) | .none=>none)=some (n,x):=h;cases e2:zi f with
         | none=>rw[e2] at h;exact nsm h
         | some m=>
           rw[e2] at h;cases h;obtain⟨cp,rfl⟩:=uY e;obtain⟨np,rfl⟩:=wC e2;exact⟨np,cp,rfl⟩
omit ok ih in
theorem UD{it x:Expr}(h:ur st it=some x):Ex3 λ n np cp=>it=.Call (.Name n np) [x] [] cp/\vV st n=some (.p (.bi .enumerate)):=by
 unfold ur at h;cases e0:ZR it with
 | none=>rw[e0] at h;exact nsm h
 | some p=>
   obtain⟨n,y⟩:=p;rw[e0] at h;have h:(match vV st n with | some (.p (.bi .enumerate))=>some y | _=>none)=some x:=h;obtain⟨np,cp,rfl⟩:=Yb e0;generalize e:vV st n=g at h;induction g using BU with
   | none=>exact nsm h
   | some v=>induction v using Dr with
     | p t=>induction t using Dq with
       | bi b=>induction b using BI.casesOn with
         | enumerate=>obtain rfl:=B9 h;exact⟨n,np,cp,rfl,e⟩
         | _=>exact nsm h
       | _=>exact nsm h
     | _=>exact nsm h
theorem den_kEn{tgt:Expr}{body:List Stmt}{vs:List V}{vals:List Value}(l:Loc X d env fr st s)(a:AOk A fr r)(hn:A.handled=none)(hf:Y0 env fr)(hv:VVL d (jA st.mem) vs vals)(h:kEn self tgt body kf kx vs st)(q:PS X d (jA st.mem) env fr kf Q)(qx:PX X d (jA st.mem) env fr kx E) :
  wpAny (model X.prog X.w) A (call (.type "enumerate") vals) (λ v s'=>wpAny (model X.prog X.w) A (pyIter v) (λ it s'=>codeAny (model X.prog X.w) A (.forLoop tgt it body [] env) (λ r s'=>match r with | .ok f=>Q f s' | .error e=>cameBackBy (model X.prog X.w) A env E e s') s') E s') E s:=by
 obtain⟨e,h⟩:=jn h;obtain⟨v,rfl,h⟩:=zf h;obtain⟨val,rfl,hx⟩:=yF hv;clear hv;obtain⟨ts,la,items,ln,rfl,rfl,z,rl,h2,h3⟩:=Wz hx h;induction tgt using Bd with
 | Tuple el cx tp=>
   refine call_enumerate_1 (l.core.zin _ _ z) λ h' he hit hsz k=>?_;have hne:s.heap.objs.size+1≠s.heap.objs.size:=Nat.succ_ne_self _;have fresh:∀ b,s.heap.objs.size<=b->s.heap.get? b=none:=λ b hb=>CU hb;have hw:∀ b∈[s.heap.objs.size+1,s.heap.objs.size],s.heap.get? b=none:=λ b hb=>by
    rcases BO.mp hb with q | q
    ·exact fresh b (by rw[q];exact BW _)
    ·exact fresh b (by rw[BG.mp q];exact BN _)
   have x0:Ex0 d (jA st.mem) (d.pins [s.heap.objs.size+1,s.heap.objs.size] h') (jA st.mem):=j3 l.core (λ b hb=>((wI l.core hw).1 b hb).1) λ b o _ e=>k b o e;refine wpAny_pyIter_enum he ?_;refine YW ok ih (yC.enum hn hne (l:=la) (items:=items) (n:=ln) (us:=ts)) l a hn hf hw k (λ b hb=>?_) ⟨x0.z _ _ z,rl.mono x0.z,⟨_,he⟩,hit⟩ trivial h3 q qx;rcases BO.mp hb with q | q
   ·rw[q];exact⟨_,he,.inl ⟨_,rfl⟩⟩
   ·rw[BG.mp q];obtain⟨o,g,hc,hd⟩:=id hit;exact⟨o,g,.inl ⟨_,hd⟩⟩
 | _=>exact ff e
theorem den_For{tgt it:Expr}{body:List Stmt}{p:Pos}(h:foS self tgt it body st kf kx):Den X (r+1) (.s (.For tgt it body [] p) st kf kx):=by
 intro A fr d env s Q E l a hn hf q qx;have a':=a.le (BW r);obtain⟨e,h⟩:=jn h;have hi:=uM (BD.mp e).1 env;cases en:ur st it with
 | none=>
   rw[en] at h;exact wpAny_For (ih _ h A fr d env s _ E l a' (.inl hn) (λ v st1 d1 val s1 h1 x1 l1 v1=>den_kFo ok ih l1 a' hn hf v1 h1 (q.of x1) (qx.of x1)) qx) hi
 | some x=>
   rw[en] at h;obtain⟨hs,h5⟩:=jn (show on (noStar [x]) (self (.es [x] st (kEn self tgt body kf kx) kx)) from h);obtain⟨n,np,cp,rfl,hg⟩:=UD en;refine wpAny_For (Call_ (wpAny_Name (qw ok l hg λ val hv=>?_).1 (qw (A:=A) (E:=E) (Q:=λ _ _=>True) ok l hg λ _ _=>trivial).2)) hi;have e:val=biV .enumerate:=hv.inv.inv;subst e;exact vd hs (ih _ h5 A fr d env s cp _ E l a' (.inl hn) (λ vs st1 d1 vals s1 h1 x1 l1 v1=>den_kEn ok ih l1 a' hn hf v1 h1 (q.of x1) (qx.of x1)) qx)
end
theorem Y3{d:Lay}{n m:Nat}{v:V}{val:Value}(h:VV d m v val)(e:yD n v=true):VV d n v val:=by
 induction h using Do with
 | p h=>exact .p h
 | m h=>exact .m (Co.mp e)
 | lam=>exact ff e
theorem UY{d:Lay}{n m:Nat}{vs:List V}{vals:List Value}(h:VVL d m vs vals):j8 n vs=true->VVL d n vs vals:=by
 induction h with
 | nil=>exact λ _=>.nil
 | cons a _ ih=>
   intro e;obtain⟨e1,e2⟩:=BD.mp e;exact .cons (Y3 a e1) (ih e2)
theorem vvf_old{d:Lay}{n m:Nat}{vs:List (Str×V)}{vals:List DictEntry}(h:VVF d m vs vals):wi n vs=true->VVF d n vs vals:=by
 induction h with
 | nil=>exact λ _=>.nil
 | cons a _ ih=>
   intro e;obtain⟨e1,e2⟩:=BD.mp e;exact .cons (Y3 a e1) (ih e2)
theorem Z2{d:Lay}{n m:Nat}{h:Heap}{i:Nat}:∀{o:jB},zN d m h i o->WH n o=true->zN d n h i o:=by
 intro o;induction o using jB.casesOn with
 | plst ts=>exact λ x _=>x
 | vlst vs=>rintro⟨q,items,k,g,v⟩ e;exact⟨q,items,k,g,UY v e⟩
 | inst C fs=>rintro⟨q,dx,sl,es,k,g,rd,gd,v⟩ e;exact⟨q,dx,sl,es,k,g,rd,gd,vvf_old v e⟩
 | dict es ep=>
   rintro⟨q,ne,ds,g,v⟩ e;refine⟨q,ne,ds,g,?_⟩;clear g;generalize ds.toList=dl at v ⊢;induction v using Dp with
   | nil=>exact .nil
   | one a b c=>
     exact .one a b (Y3 c (BD.mp e).1)
 | gone=>exact λ _ _=>trivial
theorem z8{n:Nat}{l:List jB}(h:qi n l=true)(i:Nat):WH n (jC l i)=true:=by
 induction l generalizing i with
 | nil=>cases i <;> rfl
 | cons o r ih=>
   obtain⟨h1,h2⟩:=BD.mp h;induction i using CD with
   | zero=>exact h1
   | succ i=>exact ih h2 i
noncomputable def wY (n:Nat):Option j9->Option j9
 | some (.obj j)=>if j<n then some (.obj j) else none
 | some (.dct j)=>if j<n then some (.dct j) else none
 | r=>r
theorem vL{n:Nat}{r:Option j9}{q:j9}(h:wY n r=some q):r=some q:=by
 induction r using BU with
 | none=>exact nsm h
 | some r=>
   induction r using j9.casesOn with
   | obj j=>have h:(if j<n then some (j9.obj j) else none)=some q:=h;split at h;exact h;exact nomatch h
   | dct j=>have h:(if j<n then some (j9.dct j) else none)=some q:=h;split at h;exact h;exact nomatch h
   | _=>exact h
theorem Q7{n:Nat}{r:j9}(h:∀ j,r=.obj j\/r=.dct j->j<n):wY n (some r)=some r:=by
 induction r using j9.casesOn with
 | obj j=>exact BJ (h j (.inl rfl))
 | dct j=>exact BJ (h j (.inr rfl))
 | _=>rfl
noncomputable def Lay.forget (d:Lay) (n:Nat):Lay:={ d with role:=λ b=>wY n (d.role b) }
section
variable{X:Run}{d d':Lay}{mem:List jB}{fr:List Env}{s:Shared}{n:Nat}
theorem jH.forget0(c:jH X d mem fr s)(hn:n<=jA mem)(ho:qi n (jZ n mem)=true):jH X (d.forget n) (jZ n mem) fr s/\Ext d n (d.forget n) n:=by
 have ht:jA (jZ n mem)=n:=qZ n mem hn;have x0:Ext d n (d.forget n) n:=⟨λ _ _ e=>e,λ _ _=>rfl,BN _,rfl⟩;have rk:∀ b r,d.role b=some r->(∀ j,r=.obj j\/r=.dct j->j<n)->(d.forget n).role b=some r:=λ b r e h=>by
  show wY n (d.role b)=_;refine rwl e ?_;exact Q7 h
 have ro:∀ b r,(d.forget n).role b=some r->d.role b=some r:=λ b r e=>vL e;have c1:jH X (d.forget n) (jZ n mem) fr s:=by
  refine⟨c.gens,c.os,c.base,c.zin,λ b r e=>c.zr b r (ro b r e),λ b r e=>c.rin b r (ro b r e),λ b o e=>?_,λ i hi=>?_,c.tab.mono (λ _ _ e=>e) (λ r=>rk qA _ r (λ j h=>by rcases h with h | h <;> cases h)) (λ _ e=>e),λ e he=>?_⟩
  ·obtain⟨r,q⟩:=c.pin b o e;exact⟨rk b _ r (λ j h=>by rcases h with h | h <;> cases h),q⟩
  ·rw[ht] at hi ⊢;refine rwl (qC n mem i hi) ?_;have o:=z8 ho i;replace o:=(qC n mem i hi)▸o;refine zN.mono x0 hi (λ b h=>?_) (λ _ _ _ e=>e) (Z2 (c.mem i (BY hi hn)) o);rcases h with h | h
   ·refine rwl h ?_;exact rk b _ h λ j q=>by rcases q with q | q <;> cases q;exact hi
   ·refine rwl h ?_;exact rk b _ h λ j q=>by rcases q with q | q <;> cases q;exact hi
  ·obtain⟨a,L,o,f,r,g,q⟩:=c.fr e he;exact⟨a,L,o,f,r.imp (λ r=>rk L _ r λ j h=>by rcases h with h | h <;> cases h) (λ r=>rk L _ r λ j h=>by rcases h with h | h <;> cases h),g,q⟩
 exact⟨c1,x0⟩
theorem jH.forget(c:jH X d mem fr s)(hn:n<=jA mem)(ho:qi n (jZ n mem)=true):jH X ((d.forget n).grow s.heap) (jZ n mem) fr s/\Ext d n ((d.forget n).grow s.heap) n:=by
 obtain⟨c1,x0⟩:=c.forget0 hn ho;exact⟨c1.grow (s':=s) λ _ _ e=>e,x0.trans (c1.ext_grow (n:=n) λ _ _ e=>e)⟩
theorem Exc.forget{C ea:Addr}{fl:Option Value}{B:Heap}{a0:Value}(x:Exc d fr C ea fl B a0 s):Exc (d.forget n) fr C ea fl B a0 s where
 stays:=x.stays
 own:=λ b h1 h2=>x.own b (h1.imp id λ⟨r,e⟩=>⟨r,vL e⟩) h2
 new:=x.new
 ff:=x.ff
 tr:=x.tr
theorem xa(c:jH X d mem fr s){b:Addr}{o:Obj}{r:j9}(hr:d.role b=some r)(h:wY n (some r)=none)(g:s.heap.get? b=some o):((d.forget n).grow s.heap).Z b=some o:=
 Lay.grow_of (by show wY n (d.role b)=none;refine rwl hr ?_;exact h) g
theorem WG{d:Lay}{m:Nat}{Z:FZ}(k:∀ b o,d.Z b=some o->Z b=some o){fs:List (Str×V)}{es:List DictEntry}{l:List (Str×T)}(h:VVF d m fs es)(e:Zy fs=some l):VRF Z l es:=by
 induction h generalizing l with
 | nil=>obtain rfl:=B9 e;exact .nil
 | @cons x _ _ v _ fs es a r ih=>induction v using Dr with
   | p t=>
     obtain⟨q,e2,rfl⟩:=yB (o:=Zy fs) e;exact .cons (a.inv.mono k) (ih e2)
   | _=>exact nsm e
theorem fin_ok{k:KM}{keepsM:Bool}{v:V}{val:Value}{R:Value->Shared->Prop}(c:jH X d mem fr s)(hn:n<=jA mem)(hv:VV d (jA mem) v val)(h:fin keepsM n v mem k)
  (q:∀ v' mem' d',k v' mem'->Ext d n d' (jA mem')->jH X d' mem' fr s->VV d' (jA mem') v' val->R val s):R val s:=by
 have stay:k v mem->R val s:=λ h=>q v mem d h ⟨λ _ _ e=>e,λ _ _=>rfl,hn,rfl⟩ c hv;unfold fin at h;cases e:qi n (jZ n mem)&&!keepsM with
 | false=>replace h:=e▸h;exact stay h
 | true=>
   replace h:=e▸h;obtain⟨c1,x1⟩:=c.forget hn (BD.mp e).1;have hl:jA (jZ n mem)=n:=qZ n mem hn;have x2:Ext d n ((d.forget n).grow s.heap) (jA (jZ n mem)):=by refine rwl hl ?_;exact x1
   induction v using Dr with
   | p t=>exact q _ _ _ h x2 c1 (.p (hv.inv.mono x1.z))
   | m i=>
     obtain⟨hi,rfl⟩:=hv.inv;have h:(match Nat.blt i n with | true=>k (.m i) (jZ n mem) | false=>finM n (.m i) mem k (jC mem i)):=h;cases e1:Nat.blt i n with
     | true=>
       replace h:=e1▸h;have hlt:=Co.mp e1;refine q _ _ _ h x2 c1 ?_;refine rwl (x1.rho i hlt).symm (rwl hl ?_);exact .m hlt
     | false=>
       replace h:=e1▸h;have o:=c.mem i hi;cases e2:jC mem i with
       | plst ts=>
         rw[e2] at h o;obtain⟨r,items,kk,g,vv⟩:=o;refine q _ _ _ h x2 c1 (.p (.lst (xa c r (BE λ z=>?_) g) (vv.mono x1.z)));replace e1:=(Co.mpr z)▸e1;exact nomatch e1
       | _=>replace h:=e2▸h;exact stay h
   | lam=>exact fe h
theorem finC_ok{k:KM}{R:Shared->Prop}(c:jH X d mem fr s)(hn:n<jA mem)(h:J0 n mem k)
  (q:∀ v' mem' d',k v' mem'->Ext d n d' (jA mem')->jH X d' mem' fr s->VV d' (jA mem') v' (.ref (d.rho n))->R s):R s:=by
 have stay:k (.m n) mem->R s:=λ h=>q _ _ _ h ⟨λ _ _ e=>e,λ _ _=>rfl,Nat.le_of_lt hn,rfl⟩ c (.m hn);obtain⟨C,fs,e,h⟩:=xY h;unfold finI at h;cases e1:mutCls C with
 | true=>replace h:=e1▸h;exact stay h
 | false=>
   replace h:=e1▸h;cases e2:Zy fs with
   | none=>replace h:=e2▸h;exact stay h
   | some l=>
     replace h:=e2▸h;cases e3:qi n (jZ n mem) with
     | false=>replace h:=e3▸h;exact stay h
     | true=>
       replace h:=e3▸h;obtain⟨c1,x1⟩:=c.forget (Nat.le_of_lt hn) e3;have hl:jA (jZ n mem)=n:=qZ n mem (Nat.le_of_lt hn);have o:=c.mem n hn;replace o:=e▸o;obtain⟨r,dx,sl,es,kk,g,rd,gd,v⟩:=o;exact q _ _ _ h (rwl hl x1) c1 (.p (.inst (xa c r (BE (Cl _)) g) (xa c rd (BE (Cl _)) gd) (WG x1.z v e2)))
end
structure FnOk(X:Run)(f:Addr)(s:Stmt)(ds:List T):Prop where
 ex:Ex3 λ o fd D=>And12 (X.base.get? f=some o) (o.data=.func fd) (fd.params=qY s) (fd.body=.stmts (wP s)) (fd.scope=je s) (fd.globals=mainGlobals) (fd.closure=[]) (fd.builtins=builtinsNs) (X.base.CodeRec fd.code fd.qualname) (VRL X.base.get? ds D) (D=[]/\fd.defaults=.none\/Ex2 λ t n=>jT (fd.defaults=.ref t) (D≠[]) (X.base.get? t=some (yH D.toArray n))) (jF (je s)=vK->fd.code=.ref Ql)
 plain:y6 (qY s)=true
 nodup:(js (qY s).args).Nodup
 kind:jT ((je s).kind=.function) ((je s).isCoroutine=false) ((je s).isGenerator=false)
 names:∀ x∈js (qY s).args,lk x (jF (je s))=some .local\/lk x (jF (je s))=some .cell
 dlen:ds.length<=(qY s).args.length
structure UV(X:Run):Prop where
 fn:∀ f s ds,lkN f fnT=some (s,ds)->FnOk X f s ds
 cl:∀ C i,lkN C clT=some i->∃ K:Frag,jj (K.In X.base) (makesIn K C=true) (findIn K (.ref C) "__init__"=some (some (.ref i))) (typeIn K (.ref i)=some (.type "function"))
theorem zv(l:List Arg):js l=l.map (·.arg):=by
 induction l with
 | nil=>rfl
 | cons a r ih=>exact Bo (a.arg::·) ih
theorem bindP_BL{d:Lay}{n:Nat}{ds:List T}{D:List Value}(hD:VRL d.Z ds D){xs:List Str}{vs:List V}{vals:List Value}{loc:List (Str×V)}(hv:VVL d n vs vals)(h:ve xs vs ds=some loc) :
  BL d n loc (xs.zip (vals++D.drop (D.length-(xs.length-vals.length))))/\vals.length<=xs.length/\xs.length<=vals.length+D.length:=by
 induction xs generalizing vs vals loc with
 | nil=>induction hv using Ds with
   | nil=>obtain rfl:=B9 h;exact⟨.nil,CN _,CN _⟩
   | cons=>exact nsm h
 | cons x xs ih=>induction hv using Ds with
   | @cons v val vs vals a r=>
     obtain⟨l,e,rfl⟩:=yB (o:=ve xs vs ds) h;obtain⟨h1,h2,h3⟩:=ih r e;refine⟨?_,DB h2,show xs.length+1<=vals.length+1+D.length from rwl (Cf vals.length 1 D.length) (DB h3)⟩;refine rwl (show(x::xs).length-(val::vals).length=xs.length-vals.length from Nat.add_sub_add_right ..) ?_;exact .cons a h1
   | nil=>
     have hl:=jP hD;have h:(match Nat.ble (xs.length+1) ds.length with | true=>bindD x (ds.drop (ds.length-(xs.length+1))) (ve xs [] ds) | false=>none)=some loc:=h;cases e1:Nat.ble (xs.length+1) ds.length with
     | false=>replace h:=e1▸h;exact nomatch h
     | true=>
       replace h:=e1▸h;have e1:=Nat.ble_eq.mp e1;cases e2:ds.drop (ds.length-(xs.length+1)) with
       | nil=>replace h:=e2▸h;exact nsm h
       | cons t tr=>
         replace h:=e2▸h;obtain⟨l,e3,rfl⟩:=yB (o:=ve xs [] ds) h;obtain⟨h1,h2,h3⟩:=ih .nil e3;have e1:xs.length<D.length:=rwl hl e1;have hdl:D.length-((x::xs).length-([]:List Value).length)<D.length:=Nat.sub_lt (Nat.zero_lt_of_lt e1) (Nat.succ_pos _);refine⟨?_,CN _,show xs.length+1<=0+D.length from rwl (D6 D.length) e1⟩;rw[DK] at h1 ⊢;refine rwl (DH hdl) ?_;have ei:D.length-((x::xs).length-([]:List Value).length)+1=D.length-(xs.length-([]:List Value).length):=Nat.sub_add_cancel (Nat.sub_pos_of_lt e1);refine rwl ei ?_
         obtain⟨v,g1,g2⟩:=qQ? hD (D.length-(xs.length+1)) t (by
          have:=Bo (λ l=>l[0]?) e2;replace this:=(List.getElem?_drop)▸this;refine rwl hl ?_
          exact this)
         have g3:D[D.length-((x::xs).length-([]:List Value).length)]=v:=B9 ((BS hdl).symm.trans g1);refine rwl g3 ?_;exact .cons (.p g2) h1
theorem vrl_base{X:Run}{d:Lay}{mem:List jB}{fr:List Env}{s:Shared}(c:jH X d mem fr s){ds:List T}{D:List Value}(h:VRL X.base.get? ds D):VRL d.Z ds D:=h.mono c.base
theorem Yc{d:Lay}{n:Nat}(L:Addr):Ext d n (d.drop L) n:=⟨λ _ _ e=>e,λ _ _=>rfl,BN _,rfl⟩
theorem Den.mono{X:Run}{r r':Nat}(h:r<=r'):∀{t:jK},Den X r t->Den X r' t:=by
 intro t;induction t using jK.casesOn with
 | e x st k kx=>exact λ H A fr d env s Q E l a=>H A fr d env s Q E l (a.le h)
 | es x st k kx=>exact λ H A fr d env s pos Q E l a=>H A fr d env s pos Q E l (a.le h)
 | cmp v ops cs st k kx=>exact λ H A fr d env s pos va Q E l a=>H A fr d env s pos va Q E l (a.le h)
 | tc v ops cs st k kx=>exact λ H A fr d env s pos va Q E l a=>H A fr d env s pos va Q E l (a.le h)
 | bo op xs st k kx=>exact λ H A fr d env s pos Q E l a=>H A fr d env s pos Q E l (a.le h)
 | t x st k kx=>exact λ H A fr d env s Q E l a=>H A fr d env s Q E l (a.le h)
 | ts op xs st k kx=>exact λ H A fr d env s Q E l a=>H A fr d env s Q E l (a.le h)
 | asg tgt v st k kx=>exact λ H A fr d env s val Q E l a=>H A fr d env s val Q E l (a.le h)
 | asgs ts vs st k kx=>exact λ H A fr d env s vals Q E l a=>H A fr d env s vals Q E l (a.le h)
 | s x st k kx=>exact λ H A fr d env s Q E l a=>H A fr d env s Q E l (a.le h)
 | ss x st k kx=>exact λ H A fr d env s Q E l a=>H A fr d env s Q E l (a.le h)
 | call f args mem k kx=>exact λ H A fr d s vals R c a=>H A fr d s vals R c (a.le h)
section
variable{X:Run}{r:Nat}{self:jK->Prop}{sp:Addr->Option zM}{A:Around}{fr:List Env}{d:Lay}{s:Shared}{k:KM}{kx:KXM}{mem:List jB}{f:Addr}{args:List V}
variable(ok:jo X)(ok2:UV X)(ih:∀ t,self t->Den X r t)
include ok ok2 ih
theorem UJ{sm:Stmt}{ds:List T}{loc:List (Str×V)}(hf:lkN f fnT=some (sm,ds))(hb:ve (js (qY sm).args) args ds=some loc)
  (h:self (.ss (wP sm) ⟨loc,mem,jF (je sm)⟩ (kRf f (jA mem) k) (kXf (jA mem) kx))):Den X (r+1) (.call f args mem k kx):=by
 intro A fr d s vals R c a hn hv hR hE;have F:=ok2.fn f sm ds hf;obtain⟨o,fd,D,ho,hd,e1,e2,e3,e4,e5,e6,hcd,hD,hdf,hcode⟩:=F.ex;have hDl:ds.length=D.length:=(jP hD).symm;obtain⟨hbl,hl1,hl2⟩:=bindP_BL (vrl_base c hD) hv hb;have stays:=c.stays;refine codeAny_call_function a.room (stays _ _ ho) hd (rwl e3 F.kind.2) (rwl e3 F.kind.3) e2 (hcd.keeps stays) ?_;have hlen:fd.params.args.length=(js (qY sm).args).length:=by rw[e1,zv,BB]
 have hnames:fd.params.args.map (·.arg)=js (qY sm).args:=by rw[e1,zv]
 refine xq (D:=D) (rwl e1 F.plain) (rwl hnames F.nodup) (λ E' Q' hQ'=>?_) (rwl hlen hl1) (rwl hlen hl2) (by refine rwl e1 (rwl hDl.symm ?_);exact F.dlen) ?_
 ·rcases hdf with ⟨rfl,e⟩ | ⟨t,n,e,hne,ht⟩
  ·refine rwl e ?_;exact BC hQ'
  ·refine rwl e ?_;refine wpAny_seqItems (stays _ _ ht) rfl ?_;have:D.isEmpty=false:=by induction D using BA with | nil=>exact absurd rfl hne | cons=>rfl
   replace hQ':=this▸hQ';exact hQ'
 refine rwl hnames (rwl hlen ?_);generalize hbd:(js (qY sm).args).zip (vals++D.drop (D.length-((js (qY sm).args).length-vals.length)))=binds at hbl ⊢;have hbn:binds.map (·.1)=js (qY sm).args:=by rw[<- hbd];exact vY _ _ (by rw[BV,Ca];exact bo_le hl1 hl2)
 have hk2:∀ y∈binds,(je sm).names.lookup y.1=some .local\/(je sm).names.lookup y.1=some .cell:=λ y hy=>by
  have:=F.names y.1 (by refine rwl hbn.symm ?_;exact DO.mpr ⟨y,hy,rfl⟩);rw[qK] at this;exact this
 refine rwl e3 (rwl e4 (rwl e5 (rwl e6 ?_)));refine wpAny_newFunctionEnv_cells F.kind.1 (λ y hy=>(hk2 y hy).imp id λ q=>⟨q,Mine.cellsFrom_some _ _ _ (.inr q)⟩) λ env henv s1 x=>?_;refine⟨?_,codeAny_func ?_⟩
 ·obtain⟨h',tk,rfl,kk⟩:=x.done;exact ok.lim.keeps λ b o e=>kk b o (stays b o e)
 subst henv;obtain⟨d',l',x',hnf⟩:=c.enter x hbl (rwl hbn F.nodup) (λ y hy=>hk2 y hy) rfl F.kind.1 rfl rfl rfl F.kind.2 F.kind.3 hcode;have a':=a.deeper (newEnv (je sm) s.heap.objs.size mainGlobals (cellsFrom (s.heap.objs.size+1) (je sm).names []) (fd.qualname++".<locals>.") (some f) fd.code none builtinsNs);have hx:∀{d1:Lay} {n1:Nat} {L:Addr},Ext d' (jA mem) d1 n1->Ext d (jA mem) (d1.drop L) (jA mem):=λ x1=>⟨λ b o e=>x1.z b o (x'.z b o e),λ i hi=>(x1.rho i hi).trans (x'.rho i hi),BN _,x1.P.trans x'.P⟩;refine ih _ h _ _ d' _ s1 _ _ l' a' hn ⟨⟨fr,rfl⟩,rfl,rfl⟩ (λ fl st1 d1 fw s2 h1 x1 l1 v1=>?_) (λ C st1 d1 ea fl B a0 s2 h1 x1 l1 xc hfl=>?_)
 ·have c1:=l1.core.drop l1.role hnf rfl;have xx:=hx (L:=s.heap.objs.size) x1;have done:∀{v:V} {val:Value},VV d1 (jA st1.mem) v val->fin (xS f) (jA mem) v st1.mem k->R (.ok (.ret val)) s2:=λ vv hfin=>
   fin_ok (R:=λ val s2=>R (.ok (.ret val)) s2) c1 x1.n (VV.mono (Yc _) vv) hfin λ v' mem' d2 hk x2 c2 v2=>hR v' mem' d2 _ s2 hk (xx.trans x2) c2 v2
  induction v1 using FlR.casesOn with
  | next=>exact done (.p .none) h1
  | ret v=>exact done v h1
  | brk=>exact h1.elim
  | cont=>exact h1.elim
 ·refine xc.leave l1.core a'.fr rfl (by
   rcases hfl with q | q | ⟨L,q1,q2⟩
   ·exact .inl q
   ·exact .inr (.inl q)
   ·obtain rfl:=B9 q1;exact .inr (.inr q2)) λ h' x3 c3 _ _=>?_
  have c4:=c3.drop l1.role hnf rfl;have x4:=x3.drop c3 l1.role rfl;have xx:=hx (L:=s.heap.objs.size) x1;have h1:finX (jA mem) C st1.mem kx:=h1;unfold finX at h1;cases hm:qi (jA mem) (jZ (jA mem) st1.mem) with
  | true=>
    replace h1:=hm▸h1;obtain⟨c5,x5⟩:=c4.forget0 x1.n hm;refine hE C _ _ ea B a0 _ h1 ?_ c5 x4.forget;refine rwl (qZ _ _ x1.n) ?_;exact xx.trans x5
  | false=>
    replace h1:=hm▸h1;exact hE C _ _ ea B a0 _ h1 ⟨xx.z,xx.rho,x1.n,xx.P⟩ c4 x4
end
theorem AOk.make{A:Around}{fr:List Env}{r:Nat}(a:AOk A fr (r+1))(C:Addr)(vals:List Value):AOk (A.under (.builtin "type.__call__" ⟨.ref C::vals,[]⟩)) fr r:=
 ⟨a.fr,a.gd,rwl (Cf A.depth 1 r) a.dep,BF (rwl (Cf A.units 1 (4*r)) (Cs (show 4*r+1<=4*(r+1) from Cs (by decide) (4*r)) A.units)) a.uni⟩
section
variable{X:Run}{r:Nat}{self:jK->Prop}{sp:Addr->Option zM}{A:Around}{fr:List Env}{d:Lay}{s:Shared}{k:KM}{kx:KXM}{mem:List jB}{f:Addr}{args:List V}
variable(ok:jo X)(ok2:UV X)(ih:∀ t,self t->Den X r t)
include ok ok2 ih
theorem Yi{C i:Addr}(hf:lkN C clT=some i)
  (h:self (.call i (.m (jA mem)::args) (jU mem (.inst C [])) (kCl (jA mem) k) kx)):Den X (r+1) (.call C args mem k kx):=by
 intro A fr d s vals R c a hn hv hR hE;obtain⟨K,hK,hm,hi,hty⟩:=ok2.cl C i hf;have stays:=c.stays;have X1:K.In s.heap:=hK.keeps stays;obtain⟨hh,g,dr,t,os⟩:=s;refine make_core (makes_of X1 hm) (looks_findIn X1 hi) (λ self=>bind_fn X1 self hty) (.inl rfl) ?_;have k2:∀ b o,hh.get? b=some o->((hh.push emptyDict).push (instObj C hh.objs.size)).get? b=some o:=λ b o e=>BH _ (BH _ e);have gx:((hh.push emptyDict).push (instObj C hh.objs.size)).get? (hh.objs.size+1)=some (instObj C hh.objs.size):=by heap_get
 have gd:((hh.push emptyDict).push (instObj C hh.objs.size)).get? hh.objs.size=some (dictOf [] 0):=by heap_get
 have fresh:∀ b,hh.objs.size<=b->hh.get? b=none:=λ b hb=>CU hb;have ha:=fresh (hh.objs.size+1) (BW _);have hd:=fresh hh.objs.size (BN _);have hne:hh.objs.size≠hh.objs.size+1:=(Nat.succ_ne_self _).symm;have x0:=c.own_ext (a:=hh.objs.size+1) (dx:=hh.objs.size) ha hd;have rho:(d.own (jA mem) (hh.objs.size+1) hh.objs.size).rho (jA mem)=hh.objs.size+1:=BJ rfl;have c1:jH X (d.own (jA mem) (hh.objs.size+1) hh.objs.size) (jU mem (.inst C [])) fr ⟨(hh.push emptyDict).push (instObj C hh.objs.size),g,dr,t,os⟩:=
  c.own (s':=⟨(hh.push emptyDict).push (instObj C hh.objs.size),g,dr,t,os⟩) k2 ha hd ⟨_,gx⟩ ⟨_,gd⟩ (by
   refine⟨rwl rho own_a,hh.objs.size,#[],[],0,rwl rho gx,own_dx hne,gd,.nil⟩)
 have hlen:jA (jU mem (.inst C []))=jA mem+1:=jI _ _;have a':=a.make C vals;have hv0:VV (d.own (jA mem) (hh.objs.size+1) hh.objs.size) (jA (jU mem (.inst C []))) (.m (jA mem)) (.ref (hh.objs.size+1)):=by
  have:=VV.m (d:=d.own (jA mem) (hh.objs.size+1) hh.objs.size) (n:=jA (jU mem (.inst C []))) (i:=jA mem) (rwl hlen (CK _));replace this:=rho▸this;exact this
 have x1:Ext d (jA mem) (d.own (jA mem) (hh.objs.size+1) hh.objs.size) (jA (jU mem (.inst C []))):=by refine rwl hlen ?_;exact x0
 refine ih _ h _ fr _ ⟨(hh.push emptyDict).push (instObj C hh.objs.size),g,dr,t,os⟩ _ _ c1 a' hn (.cons hv0 (hv.mono x1)) (λ v mem' d' val s' h2 x2 c2 v2=>?_) (λ C' mem' d' ea B a0 s' h2 x2 c2 e2=>?_)
 ·induction v using Dr with
  | p t=>
    induction t using Dq with
    | none=>
      have h2:J0 (jA mem) mem' k:=h2;have ev:val=.none:=v2.inv.inv;subst ev;have hlt:jA mem<jA mem':=by have:=x2.n;replace this:=hlen▸this;exact this
      refine⟨rfl,finC_ok (R:=λ s'=>R (.ok (.ret (.ref (hh.objs.size+1)))) s') c2 hlt h2 λ v' mem2 d2 hk x3 c3 v3=>?_⟩;have e:d'.rho (jA mem)=hh.objs.size+1:=(x2.rho (jA mem) (rwl hlen (CK _))).trans rho;replace v3:=e▸v3;refine hR v' mem2 d2 _ s' hk ⟨λ b o q=>x3.z b o (x2.z b o (x1.z b o q)),λ i hi=>?_,x3.n,x3.P.trans (x2.P.trans x1.P)⟩ c3 v3;exact(x3.rho i hi).trans ((x2.rho i (rwl hlen (Bx hi))).trans (x1.rho i hi))
    | _=>exfalso;exact h2
  | _=>exfalso;exact h2
 ·exact hE C' mem' d' ea B a0 s' h2 (x1.trans x2) c2 e2
theorem den_call(hsp:∀ f F,sp f=some F->∀ args mem k kx,F args mem k kx->Den X (r+1) (.call f args mem k kx))(h:xm self sp f args mem k kx):Den X (r+1) (.call f args mem k kx):=by
 unfold xm at h;cases e:sp f with
 | some F=>replace h:=e▸h;exact hsp f F e args mem k kx h
 | none=>
   replace h:=e▸h;dsimp only at h;cases e1:lkN f fnT with
   | some p=>
     obtain⟨sm,ds⟩:=p;replace h:=e1▸h;dsimp only at h;cases e2:ve (js (qY sm).args) args ds with
     | none=>replace h:=e2▸h;exact h.elim
     | some loc=>
       replace h:=e2▸h;exact UJ ok ok2 ih e1 e2 h
   | none=>
     replace h:=e1▸h;dsimp only at h;cases e2:lkN f clT with
     | none=>replace h:=e2▸h;exact h.elim
     | some i=>
       replace h:=e2▸h;exact Yi ok ok2 ih e2 h
end
structure RunOk3(X:Run):Prop where
 exm:∃ K:Frag,K.In X.base/\∀ C D,(zW D&&zW C)=true->exmOne K (.ref C) (.ref D)=some (Nat.beq C D)
section
variable{X:Run}{r:Nat}{self:jK->Prop}{sp:Addr->Option zM}{A:Around}{fr:List Env}{d:Lay}{env:Env}{s:Shared}{st:St}{E:Value->Shared->Prop}{kx:KX}{kf:Fl->St->Prop}{Q:Flow->Shared->Prop}{n:Nat}
theorem Exc.cls{C ea:Addr}{fl:Option Value}{B:Heap}{a0:Value}(x:Exc d fr C ea fl B a0 s):∃ o,s.heap.get? ea=some o/\o.cls=.ref C:=by
 induction fl using BU with
 | none=>obtain⟨oe,vs,he,hc,_⟩:=x.tr;exact⟨oe,he,hc⟩
 | some f=>obtain⟨oe,vs,T,oT,ts,he,⟨hc,_⟩,_⟩:=x.tr;exact⟨oe,he,hc⟩
variable(ok:jo X)(ok3:RunOk3 X)(ih:∀ t,self t->Den X r t)
include ok ok3 ih
omit ok ok3 ih in
theorem UG{C ea:Addr}{B:Heap}{a0:Value}(hf:Y0 env fr)(qx:PX X d n env fr kx E){st1:St}{d1:Lay}{s1:Shared}(h:kx C st1)(x1:Ext d n d1 (jA st1.mem))(l1:Loc X d1 env fr st1 s1)(xc:Exc d1 fr C ea (some .none) B a0 s1) :
  wpAny (model X.prog X.w) A (handleBy (.ref ea) env []) Q E s1:=by
 refine wpAny_handleBy_nil ?_;unfold PySem.passOn;obtain⟨⟨outer,efr⟩,hfr,_⟩:=hf;have xc':Exc d1 (env::outer) C ea (some .none) B a0 s1:=efr▸xc;have c':jH X d1 st1.mem (env::outer) s1:=efr▸l1.core;obtain⟨oe,vs,T,oT,ts,he,⟨hcls,h0⟩,hd,h1,hnT,hTe,hT,hdT,h3⟩:=id xc.tr;refine B0 (wpAny_field he hd h1 ?_);rw[BE (show ¬ (Value.ref T == Value.none)=true from by simp)];rw[hfr];refine B0 (xc'.flight c' nofun (some env.locals) rfl λ h₂ x₂ k₂ u₂=>wpAny_throw ?_);exact qx C st1 d1 ea (some (rawInt env.locals)) B a0 _ h x1 (l1.slots (s':={ s1 with heap:=h₂ }) xc.own k₂ u₂) (efr▸x₂) (.inr (.inr ⟨env.locals,hfr,rfl⟩))
omit ok ok3 ih in
theorem ZP{C:Addr}{hd:ExceptHandler}{rest:List ExceptHandler}{st1:St}(h:vU self C (hd::rest) st1 kf kx):Ex5 λ x np e rp hp=>hd=.ExceptHandler (some (.Name x np)) none [.Return (some e) rp] hp/\hdlS self C x e st1 kf (vU self C rest st1 kf kx):=by
 induction hd using ExceptHandler.casesOn with | ExceptHandler ty nm body hp=>induction ty using BU with
  | none=>exact fe h
  | some t=>induction nm using BU with
    | some=>exact fe h
    | none=>induction body using BA with
      | nil=>exact fe h
      | cons b r=>induction r using BA with
        | cons=>exact fe h
        | nil=>
          obtain⟨x,h1,h⟩:=jV (o:=zi t) h;obtain⟨e,h2,h⟩:=jV (o:=retOf b) h;obtain⟨np,rfl⟩:=wC h1;induction b using Stmt.casesOn with
          | Return o rp=>
            have h2:o=some e:=h2;subst h2;exact⟨_,_,_,_,_,rfl,h⟩
          | _=>exact nsm h2
omit ok ok3 ih in
theorem hdlS_of{C:Addr}{x:Str}{e:Expr}{st1:St}{go:Prop}(h:hdlS self C x e st1 kf go):∃ D,jT (vV st1 x=some (.p (.ref D))) ((zW D&&zW C)=true) ((jT (Nat.beq C D=true) (smp 10 e=true) (self (.e e st1 (kRt kf) kNo)))\/(Nat.beq C D=false/\go)):=by
 unfold hdlS at h;generalize vV st1 x=g at h;induction g using BU with
 | none=>exact fe h
 | some v=>induction v using Dr with
   | p t=>induction t using Dq with
     | ref D=>
       obtain⟨e1,h⟩:=jn h;refine⟨D,rfl,e1,?_⟩;cases e2:Nat.beq C D with
       | true=>
         rw[e2] at h;obtain⟨e3,h⟩:=jn h;exact .inl ⟨rfl,e3,h⟩
       | false=>rw[e2] at h;exact .inr ⟨rfl,h⟩
     | _=>exact fe h
   | _=>exact fe h
theorem UI{C ea:Addr}{B:Heap}{a0:Value}(a:AOk A fr r)(hf:Y0 env fr)(q:PS X d n env fr kf Q)(qx:PX X d n env fr kx E)(hs:List ExceptHandler){st1:St}{d1:Lay}{s1:Shared}
  (h:vU self C hs st1 kf kx) (x1:Ext d n d1 (jA st1.mem)) (l1:Loc X d1 env fr st1 s1) (xc:Exc d1 fr C ea (some .none) B a0 s1):wpAny (model X.prog X.w) A (handleBy (.ref ea) env hs) Q E s1:=by
 induction hs with
 | nil=>exact UG hf qx h x1 l1 xc
 | cons hd rest ih2=>
   obtain⟨x,np,e,rp,hp,rfl,h⟩:=ZP h;obtain⟨D,hg,e1,h⟩:=hdlS_of h;refine wpAny_handleBy_cons (codeAny_handlers_test ?_) (by intro q;cases q);obtain⟨K,hK,hx⟩:=ok3.exm;obtain⟨oe,he,hc⟩:=xc.cls;have LT:Looks (model X.prog X.w) s1.heap (typeOf (.ref ea)) (.ref C):=by
    have:=(Looks.ld (M:=model X.prog X.w) (part:=none) he);exact hc▸this.andThen .now
   refine wpAny_Name (qw ok l1 hg λ val hv=>?_).1 (qw (A:=A) (E:=E) (Q:=λ _ _=>True) ok l1 hg λ _ _=>trivial).2;have ev:val=.ref D:=hv.inv.inv;subst ev;have M:=exm_one (M:=model X.prog X.w) (hK.keeps l1.stays) LT (hx C D e1);rcases h with ⟨e2,e3,h⟩ | ⟨e2,h⟩
   ·rw[e2] at M;refine M.here ?_;show codeAny (model X.prog X.w) (A.mark (some (.ref ea))) (.handlers (.ref ea) [.ExceptHandler none none [.Return (some e) rp] hp] env) _ s1;obtain⟨⟨outer,efr⟩,hfr,_⟩:=hf;have xc':Exc d1 (env::outer) C ea (some .none) B a0 s1:=efr▸xc;have c':jH X d1 st1.mem (env::outer) s1:=efr▸l1.core;refine codeAny_handlers_suite (xc'.flight c' nofun none rfl λ h₂ x₂ k₂ u₂=>?_);have l2:=l1.slots (s':={ s1 with heap:=h₂ }) xc.own k₂ u₂;refine wpAny_execs_cons (wpAny_Return_some (ih _ h _ fr d1 env _ _ _ l2 (a.mark _) (.inr ⟨10,by rw[DU,e3];rfl⟩) (λ v st2 d2 va s2 h2 x2 l3 v2=>?_) (λ _ _ _ _ _ _ _ _ h2=>(show False from h2).elim)));exact q (.ret v) st2 d2 (.ret va) s2 h2 (x1.trans x2) l3 (.ret v2)
   ·rw[e2] at M;exact M.here (ih2 h)
theorem den_Try{body:List Stmt}{h0:ExceptHandler}{hs:List ExceptHandler}{p:Pos}(h:self (.ss body st kf (kTr self (h0::hs) kf kx))):Den X (r+1) (.s (.Try body (h0::hs) [] [] p) st kf kx):=by
 intro A fr d env s Q E l a hn hf q qx;have a':=a.le (BW r);refine wpAny_Try_except (ih _ h A fr d env s _ _ l a' hn hf (λ fl st1 d1 f s1 h1 x1 l1 v1=>?_) (λ C st1 d1 ea fl B a0 s1 h1 x1 l1 xc hfl=>?_))
 ·have Z:=q fl st1 d1 f s1 h1 x1 l1 v1;induction f using Flow.casesOn with
  | next=>exact wpAny_execs_nil Z
  | _=>exact Z
 ·have hf':=hf;obtain⟨⟨outer,rfl⟩,hfr,_⟩:=hf
  refine xc.note l1.core a'.fr hfr (L:=env.locals) (by
   rcases hfl with q | q | ⟨L,e1,e2⟩
   ·exact .inl q
   ·exact .inr (.inl q)
   ·rw[hfr] at e1;obtain rfl:=B9 e1;exact .inr (.inr e2)) λ h₁ x₁ k₁ u₁=>?_
  have l2:=l1.slots (s':={ s1 with heap:=h₁ }) xc.own k₁ u₁;refine x₁.flight l2.core nofun none rfl λ h₂ x₂ k₂ u₂=>?_;exact UI ok ok3 ih a' hf' q qx (h0::hs) h1 x1 (l2.slots (s':={ s1 with heap:=h₂ }) x₁.own k₂ u₂) x₂
end
section
variable{prog:Program}{w:World}{A:Around}{E:Value->Shared->Prop}{h:Heap}{g:Array GenState}{d:Drawn}{t:Nat}{os:OsState}
variable{nm q:Str}{C N:Addr}{bs bm bmB:List Value}{hdct:Bool}{sn:List Str}{sub:List Value}{ab:Bool}{col:Option Bool}{dd:Option Addr}{k0 k1 k2 k3 k5:Option Value}{B newId initId:String}
def Over(bmB bm:List Value):Prop:=∀(T:String) (b:Bool),bmB.contains (.type T)=b->bm.contains (.type T)=b
theorem J5{M:Model}(F:ExcBaseFacts B newId initId bmB)(T:Over bmB bm){rest:List Value}{Q:Unit->Shared->Prop}(hC:h.get? C=some (excClassObj nm q C N bs bm hdct sn sub ab col dd k0 k1 k2 k3 k5 newId))
  (hq:Q () ⟨h,g,d,t,os⟩):wpAny M A (checkBuiltinCall newId ⟨.ref C::rest,[]⟩) Q E ⟨h,g,d,t,os⟩:=by
 have hcont:(Value.ref C::bm).contains (.type B)=true:=by rw[Dd,T _ _ F.hasB,Bool.or_true]
 have hstar:=F.noStar;unfold checkBuiltinCall;rw[F.newKind,F.newSplit];dsimp only;rw[F.newRow];dsimp only
 repeat (first | refine Db hC ?_ | (refine wpAny_isSubtype_exc hC ?_;refine rwl hcont ?_) | refine wpAny_staticBase_exc hC ?_ | refine wpAny_madeBy_exc hC ?_ | simp only[bne_self_eq_false,Bool.false_eq_true,if_false] | wp_step)
 exact hq
theorem YX{R:Result->Shared->Prop}(F:ExcBaseFacts B newId initId bmB)(T:Over bmB bm){rest:List Value}(hC:h.get? C=some (excClassObj nm q C N bs bm hdct sn sub ab col dd k0 k1 k2 k3 k5 newId))
  (hq:R (.ok (.ret (.ref (h.objs.size+1)))) ⟨(h.push { cls:=.type "tuple",data:=.seq rest.toArray }).push
   { cls:=.ref C,data:=.fields #[.ref h.objs.size,.none,.none,.none,.bool false,.none] },g,d,t,os⟩) (hrest:rest.length<=sizeLine) :
  codeAny (model prog w) A (.builtin newId ⟨.ref C::rest,[]⟩) R ⟨h,g,d,t,os⟩:=by
 have hends:=F.ends;have hcB:(Value.ref C::bm).contains (.type B)=true:=by rw[Dd,T _ _ F.hasB,Bool.or_true]
 have hcA:(Value.ref C::bm).contains (.type "AttributeError")=false:=by refine rwl Dd (rwl (T _ _ F.noAttr) ?_);rfl
 have hcN:(Value.ref C::bm).contains (.type "NameError")=false:=by refine rwl Dd (rwl (T _ _ F.noName) ?_);rfl
 refine codeAny_builtinAt F.entry ?_;unfold Builtin.«BaseException.__new__»;refine PySem.wpAt_bind ?_;show PySem.wpAt _ _ _ (stack >>= _) _ _ _;refine PySem.wpAt_bind (PySem.wpAt_stack λ p below=>PySem.wpAt_of_wpAny ?_)
 wp_walk
 refine PySem.wpAt_of_wpAny ?_;refine rwl F.owner ?_
 repeat (first | with_reducible refine wpAny_madeHere_exc F.canon hC ?_ | with_reducible refine Db hC ?_ | (with_reducible refine wpAny_isSubtype_exc hC ?_;first | rw[hcB] | rw[hcA] | rw[hcN]) | wp_step)
 show R _ _;rw[Heap.size_push];exact hq
theorem xw{K:Frag}(X:K.In h)(F:ExcBaseFacts B newId initId bmB)(T:Over bmB bm){rest:List Value}{fI:Addr}{Q:Fin->Shared->Prop}
  (hC:h.get? C=some (excClassObj nm q C N bs bm hdct sn sub ab col dd k0 k1 k2 k3 k5 newId)) (hi:findIn K (.ref C) "__init__"=some (some (.ref fI))) (hf:typeIn K (.ref fI)=some (.type "function"))
  (hq:∀ h' e,Heap.MadeExcOf h h' e (.ref C) rest->
   wpAny (model prog w) A (call (.ref fI) (.ref e::rest)) (λ r s'=>r=.none/\Q (.done (.ret (.ref e))) s') E ⟨h',g,d,t,os⟩) (hrest:rest.length<=sizeLine) :
  wpAny (model prog w) A (Builtin.«type.__call__» ⟨.ref C::rest,[]⟩) Q E ⟨h,g,d,t,os⟩:=by
 repeat (first | with_reducible refine Db hC ?_ | with_reducible refine wpAny_madeBy_exc hC ?_ | wp_step)
 refine codeAny_call_builtin_code (Code.quiet_builtin _ F.quiet) (J5 F T hC ?_);refine YX F T hC ?_ hrest;show wpAny _ _ _ _ _ _;have kk:∀ b o,h.get? b=some o->((h.push { cls:=.type "tuple",data:=.seq rest.toArray }).push { cls:=.ref C,data:=.fields #[.ref h.objs.size,.none,.none,.none,.bool false,.none] }).get? b=some o:=
  λ b o e=>BH _ (BH _ e)
 have hC₁:=BH { cls:=.ref C,data:=.fields #[.ref h.objs.size,.none,.none,.none,.bool false,.none] }
  (BH { cls:=.type "tuple",data:=.seq rest.toArray } hC)
 have hget:((h.push { cls:=.type "tuple",data:=.seq rest.toArray }).push
   { cls:=.ref C,data:=.fields #[.ref h.objs.size,.none,.none,.none,.bool false,.none] }).get? (h.objs.size+1)=some
   { cls:=.ref C,data:=.fields #[.ref h.objs.size,.none,.none,.none,.bool false,.none] }:=by heap_get
 have hcC:(Value.ref C::bm).contains (.ref C)=true:=by simp
 unfold isInstance
 repeat (first | with_reducible refine Db hget ?_ | (with_reducible refine wpAny_isSubtype_exc hC₁ ?_;refine rwl hcC ?_) | wp_step)
 show wpAny _ _ (typeLookup (.ref C) _) _ _ _;refine((looks_findIn X hi).keeps kk).here ?_;refine Bu (B0 ?_);refine((bind_fn X (.ref (h.objs.size+1)) hf).keeps kk).here ?_;refine B0 (CH (hq _ (h.objs.size+1) ⟨kk,CU (BW _),h.objs.size,hget,CU (BN _),BH _ (Heap.get?_push_at rfl rfl)⟩) (λ r s' hr=>?_) λ _ _ y=>y);obtain⟨rfl,hQ⟩:=hr
 wp_walk
 exact hQ
theorem Zb{K:Frag}(X:K.In h)(F:ExcBaseFacts B newId initId bmB)(T:Over bmB bm){rest:List Value}{fI:Addr}{Q:Value->Shared->Prop}
  (hC:h.get? C=some (excClassObj nm q C N bs bm hdct sn sub ab col dd k0 k1 k2 k3 k5 newId)) (hi:findIn K (.ref C) "__init__"=some (some (.ref fI))) (hf:typeIn K (.ref fI)=some (.type "function"))
  (hq:∀ h' e,Heap.MadeExcOf h h' e (.ref C) rest->
   wpAny (model prog w) (A.under (.builtin "type.__call__" ⟨.ref C::rest,[]⟩)) (call (.ref fI) (.ref e::rest)) (λ r s'=>r=.none/\Q (.ref e) s') E ⟨h',g,d,t,os⟩) (hrest:rest.length<=sizeLine) :
  wpAny (model prog w) A (call (.ref C) rest) Q E ⟨h,g,d,t,os⟩:=by
 have f1:=tc_lookup;have f2:=tc_bind (.ref C);have hT:(⟨h,g,d,t,os⟩:Shared).TypeIs (.ref C) "type":=⟨_,hC,rfl⟩;refine wpAny_call (codeAny_of_tree ?_);show wpAny _ _ (callAny (.ref C) _) _ _ _
 repeat (any_goals (first | assumption | with_reducible refine Db hC ?_ | wp_step))
 refine⟨rfl,?_⟩;refine codeAny_call_builtin_at (Code.quiet_builtin _ (by decide +kernel)) entry_typeCall (wpAny_check_type_call_sub hC (xw X F T hC hi hf (λ h' e hm=>?_) hrest));exact hq h' e hm
end
section
open Builtin Builtin.ObjectAttr
section
variable{prog:Program}{w:World}{A:Around}{E:Value->Shared->Prop}{s:Shared}
set_option backward.match.sparseCases true in
theorem exc_osa{K:Frag}{x C:Addr}{vs:Array Value}{name:Str}{tk:Tok}{v:Value}{cd:ClassData}{Q:Unit->Shared->Prop}(X:K.In s.heap)(he:s.heap.get? x=some { cls:=.ref C,data:=.fields vs })
  (hc:clsIn K C=some cd) (hpass:refuseLoop (.ref x) "__setattr__" cd.mro=pure ()) (hob:mroIn K C (.type "object")=some true)
  (ha:findIn K (.ref C) name=some none) (hd:cd.hasDict=true)
  (hq:∀ h' tk dx,(∀ b o,b≠x->s.heap.get? b=some o->h'.get? b=some o)->h'.get? x=some { cls:=.ref C,dict:=some dx,data:=.fields vs }->Q () { s with heap:=h',toks:=tk }) :
  codeAny (model prog w) A (.call (.builtin "object.__setattr__") ⟨[.ref x,.str name tk,v],[]⟩) (λ r s'=>match r with | .ok (.ret _)=>Q () s' | .ok _=>False | .error e=>E e s') s:=by
 have I:InstAt s.heap x { cls:=.ref C,data:=.fields vs } C none:=⟨he,rfl,rfl,trivial⟩;have SF:=PySem.F.store_object;have sub:Looks (model prog w) s.heap (isInstance (.ref x) (.type "object")) true:=I.type.andThen (looks_mroIn X hob);refine codeAny_call_builtin SF.slot.plain SF.entry (@check_slot (model prog w) _ _ _ "object.__setattr__" "object" "__setattr__" (.ref x) [.str name tk,v] [] _ SF.kind SF.split sub (SF.args (.ref x) (.str name tk) v) ?_);have hm:Looks (model prog w) s.heap (mroOf (.ref C)) cd.mro:=(looks_clsIn X hc).andThen .now;rw[osa_eq,refuse_eq];refine B0 (B0 (I.type.here (B0 (hm.here ?_))));refine rwl hpass ?_;refine BC (B0 (I.type.here (B0 ((looks_findIn X ha).here (B0 (BC ?_))))));dsimp only;show wpAny (model prog w) A.in1 (storeInOwnDict (.ref x) (.ref C) (.str name tk) name v false) _ _ s;have L9:=looks_clsIn (M:=model prog w) X hc;obtain⟨h,g,d,t,os⟩:=s;dsimp only at he X I L9 ⊢;refine B0 (BC (B0 (B0 (wpAny_loadPart he (B0 (L9.here ?_))))));refine rwl hd ?_;have hx₁:(h.push { cls:=.type "dict",data:=.dict #[] }).get? x=some { cls:=.ref C,data:=.fields vs }:=BH _ he;have hxs:x≠h.objs.size:=Ba (Be he);refine B0 (wpAny_alloc' ?_);refine B0 (wpAny_update' hx₁ ?_);refine BC ?_;have hgd:((h.push { cls:=.type "dict",data:=.dict #[] }).update x λ o=>{ cls:=o.cls,dict:=some h.objs.size,data:=o.data,slots:=o.slots }).get? h.objs.size
   = some { cls:=.type "dict",data:=.dict #[] }:=
  (Heap.get?_update_ne _ _ _ _ hxs.symm).trans (Heap.get?_push_at rfl rfl)
 have hnd:((h.push { cls:=.type "dict",data:=.dict #[] }).update x λ o=>{ cls:=o.cls,dict:=some h.objs.size,data:=o.data,slots:=o.slots }).Ns h.objs.size (λ _=>none):=
  ⟨_,#[],_,hgd,rfl,λ e he=>absurd he (by simp),λ _=>rfl⟩
 show wpAny _ _ (storeInDict h.objs.size (.str name tk) name v) _ _ _;unfold storeInDict newKeyGuard;refine B0 (BC (B0 (wpAny_nsSet1 (Heap.Ns1.of_empty hnd) λ h' hn' hs=>?_)));obtain⟨oD,esD,epD,hoD,hdD,hcD⟩:=hn'.count (Within.cons name v Within.nil);refine B0 (wpAny_lookBehind hoD (by refine rwl hdD ?_;exact pastItsLine_dict (BF hcD (by refine rwl Bw (rwl List.length_nil (rwl CE ?_));lia))) ?_);refine BC (hq h' _ h.objs.size (λ b ob hbx hb=>?_) ?_)
 ·exact(hs.2 b (Ba (Be hb))).trans ((Heap.get?_update_ne _ _ _ _ hbx).trans (BH _ hb))
 ·refine(hs.2 x hxs).trans (CX _ hx₁ rfl)
theorem exc_set{K:Frag}{x C:Addr}{vs:Array Value}{name:Str}{v:Value}{cd:ClassData}{Q:Unit->Shared->Prop}(X:K.In s.heap)(he:s.heap.get? x=some { cls:=.ref C,data:=.fields vs })
  (hs:findIn K (.ref C) "__setattr__"=some (some (.builtin "object.__setattr__"))) (hc:clsIn K C=some cd) (hpass:refuseLoop (.ref x) "__setattr__" cd.mro=pure ()) (hob:mroIn K C (.type "object")=some true)
  (ha:findIn K (.ref C) name=some none) (hd:cd.hasDict=true)
  (hq:∀ h' tk dx,(∀ b o,b≠x->s.heap.get? b=some o->h'.get? b=some o)->h'.get? x=some { cls:=.ref C,dict:=some dx,data:=.fields vs }->Q () { s with heap:=h',toks:=tk }) :
  wpAny (model prog w) A (setAttr (.ref x) name v) Q E s:=
 set_plain X (⟨he,rfl,rfl,trivial⟩:InstAt s.heap x { cls:=.ref C,data:=.fields vs } C none) hs (exc_osa (s:={ s with toks:=s.toks+1 }) X he hc hpass hob ha hd hq)
end
end
structure UX(X:Run)(fI:Addr)(m:Str):Prop where
 ex:Ex7 λ sm a b p1 p2 p3 p4=>And9 (FnOk X fI sm []) (wP sm=[.Assign [.Attribute (.Name a p1) m p2] (.Name b p3) p4]) (js (qY sm).args=[a,b]) (∀ x∈(je sm).names,x.2≠.cell) ((je sm).names.lookup a=some .local) ((je sm).names.lookup b=some .local) (a≠b) (y9 a=true) (y9 b=true)
structure XR(X:Run)(C fI:Addr)(m:Str):Prop where
 ex:∃(K:Frag) (cd:ClassData) (nm q:Str) (N:Addr) (bs bm:List Value) (hdct:Bool) (sn:List Str) (sub:List Value) (ab:Bool) (col:Option Bool) (dd:Option Addr) (k0 k1 k2 k3 k5:Option Value),And12 (K.In X.base) (X.base.get? C=some (excClassObj nm q C N bs bm hdct sn sub ab col dd k0 k1 k2 k3 k5 "Exception.__new__")) (Over [.type "Exception",.type "BaseException",.type "object"] bm) (findIn K (.ref C) "__init__"=some (some (.ref fI))) (typeIn K (.ref fI)=some (.type "function")) (findIn K (.ref C) "__setattr__"=some (some (.builtin "object.__setattr__"))) (clsIn K C=some cd) (∀ x,refuseLoop (.ref x) "__setattr__" cd.mro=pure ()) (mroIn K C (.type "object")=some true) (findIn K (.ref C) m=some none) (cd.hasDict=true) (keepIn K (.ref C)=true)
section
variable{X:Run}{A:Around}{E:Value->Shared->Prop}{s:Shared}
theorem init_run(ok:jo X){fI:Addr}{m:Str}(I:UX X fI m){C e:Addr}{vs:Array Value}(EX:XR X C fI m){v:Value}{G:Shared->Prop}(stays:∀ b o,X.base.get? b=some o->s.heap.get? b=some o)(hroom:A.depth<recursionLimit)
  (he:s.heap.get? e=some { cls:=.ref C,data:=.fields vs }) (hb:X.base.get? e=none)
  (hq:∀ h' tk dx,(∀ b o,b≠e->s.heap.get? b=some o->h'.get? b=some o)->h'.get? e=some { cls:=.ref C,dict:=some dx,data:=.fields vs }->G { s with heap:=h',toks:=tk }) :
  wpAny (model X.prog X.w) A (call (.ref fI) [.ref e,v]) (λ r s'=>r=.none/\G s') E s:=by
 obtain⟨sm,a,b,p1,p2,p3,p4,F,hbody,hargs,hcell,hka,hkb,hab,oka,okb⟩:=I.ex;obtain⟨o,fd,D,ho,hd,e1,e2,e3,e4,e5,e6,hcd,hD,hdf,_⟩:=F.ex;obtain⟨K,cd,nm,q,N,bs,bm,hdct,sn,sub,ab,col,dd,k0,k1,k2,k3,k5,hK,hC,hov,hi,hty,hset,hcl,hpass,hob,hna,hhd,hkeep⟩:=EX.ex;have hD0:D=[]:=by cases hD;rfl
 subst hD0;have hdn:fd.defaults=.none:=by
  rcases hdf with ⟨_,z⟩ | ⟨t,n,z,hne,_⟩
  ·exact z
  ·exact absurd rfl hne
 have hlen:fd.params.args.length=2:=by rw[e1];have:=Bo List.length hargs;rw[zv,BB] at this;exact this
 have hnames:fd.params.args.map (·.arg)=[a,b]:=by rw[e1,<- zv];exact hargs
 refine wpAny_call (codeAny_call_function hroom (stays _ _ ho) hd (rwl e3 F.kind.2) (rwl e3 F.kind.3) e2 (hcd.keeps stays) ?_);refine xq (D:=[]) (rwl e1 F.plain) (by refine rwl hnames ?_;simp[hab]) (λ E' Q' hQ'=>by refine rwl hdn ?_;exact BC hQ') (rwl hlen (BN _)) (rwl hlen (BN _)) (CN _) ?_;refine rwl hnames ?_;show wpAny (model X.prog X.w) A.in1 (newFunctionEnv fd.scope fd.globals fd.closure [(a,Value.ref e),(b,v)] _ _ _ _ _) _ _ s;refine rwl e3 (rwl e5 ?_)
 refine wpAny_newFunctionEnv hcell (by
  intro x hx;rcases BO.mp hx with rfl | hx
  ·exact hka
  ·rcases BO.mp hx with rfl | hx
   ·exact hkb
   ·cases hx) (λ h1 hn1 hs1=>?_) F.kind.1
 generalize henv:newEnv (je sm) s.heap.objs.size fd.globals [] (fd.qualname++".<locals>.") (some fI) fd.code none fd.builtins=env;have el:env.locals=s.heap.objs.size:=by refine rwl henv.symm ?_;rfl
 have ek:∀ x,env.kindOf x=(je sm).names.lookup x:=λ x=>by refine rwl henv.symm ?_;rfl
 have es:env.scope.kind=.function:=by refine rwl henv.symm ?_;exact F.kind.1
 have keep1:∀ b o,s.heap.get? b=some o->h1.get? b=some o:=λ b o z=>(hs1.2 b (Ba (Be z))).trans (BH _ z);replace hn1:=el.symm▸hn1;refine⟨ok.lim.keeps λ b o z=>keep1 b o (stays b o z),codeAny_func ?_⟩;refine rwl hbody ?_;refine wpAny_execs_cons ?_;rw[arm_exec_Assign];refine B0 (CG ?_);refine rwl (show swapsWithSole [Expr.Attribute (.Name a p1) m p2] (.Name b p3) p4.line env=pure false from wy (e:=.Name b p3) (t:=some (Expr.Attribute (.Name a p1) m p2)) (n:=p4.line) (env:=env) rfl) ?_;refine B0 (BC ?_);refine rwl (BE (by decide)) ?_;have lb:([(a,Value.ref e),(b,v)].reverse.lookup b)=some v:=by simp[Bc]
 have la:([(a,Value.ref e),(b,v)].reverse.lookup a)=some (.ref e):=by simp[Bc,Bh.mpr hab]
 refine B0 (wpAny_Name (wpAny_loadName_local es ((ek b).trans hkb) hn1 lb ?_) (yY okb).1);refine B0 (BC ?_);show wpAny (model X.prog X.w) _ (do assignAll v [assign (Expr.Attribute (.Name a p1) m p2) env];pure Flow.next) _ _ _;refine B0 ?_;show wpAny (model X.prog X.w) _ (assign (Expr.Attribute (.Name a p1) m p2) env v) _ _ _;rw[arm_assign_Attribute];refine B0 (Bu (wpAny_Name (wpAny_loadName_local es ((ek a).trans hka) hn1 la ?_) (yY oka).1));refine B0 (CG (B0 (Bu ?_)));refine exc_set (hK.keeps λ b o z=>keep1 b o (stays b o z)) (keep1 _ _ he) hset hcl (hpass e) hob hna hhd λ h2 tk dx hk2 he2=>?_;refine PyProof.Rows.wpAny_release' (BC (wpAny_execs_nil ?_));exact⟨rfl,hq h2 tk dx (λ b o hb z=>hk2 b o hb (keep1 b o z)) he2⟩
end
structure RunOk4(X:Run):Prop where
 exc:Ex2 λ fI m=>UX X fI m/\∀ C,zW C=true->XR X C fI m
section
variable{M:Model}{A:Around}{E:Value->Shared->Prop}{s:Shared}{env:Env}
variable{nm q:Str}{C N:Addr}{bs bm:List Value}{hdct:Bool}{sn:List Str}{sub:List Value}{ab:Bool}{col:Option Bool}{dd:Option Addr}{k0 k1 k2 k3 k5:Option Value}{newId:String}
theorem WD{x:Sem Value}{Q:Flow->Shared->Prop}(hbase:bm.contains (.type "BaseException")=true)(hh:A.handled=none)
  (h:wpAny M A x (λ v s₁=>Ex3 λ e dx vs=>vj (v=.ref e) (s₁.heap.get? C=some (excClassObj nm q C N bs bm hdct sn sub ab col dd k0 k1 k2 k3 k5 newId)) (s₁.heap.get? e=some { cls:=.ref C,dict:=some dx,data:=.fields vs }) (vs[1]?=some .none) (E (.ref e) s₁)) E s) :
  wpAny M A (raiseStmt env (some x) none) Q E s:=by
 have hcB:(Value.ref C::bm).contains (.type "BaseException")=true:=by rw[Dd,hbase,Bool.or_true]
 unfold raiseStmt;refine B0 (CH h (λ v s₁ h₁=>?_) λ _ _ x=>x);obtain⟨e,dx,vs,rfl,hC,he,h1,hE⟩:=h₁;obtain⟨hp,g,d,tk,os⟩:=s₁
 repeat (first | with_reducible refine Db he ?_ | with_reducible refine Db hC ?_ | (with_reducible refine wpAny_isSubtype_exc hC ?_;refine rwl hcB ?_) | wp_step)
 refine rwl h1 ?_;refine BC ?_;refine rwl (BE (show ¬ (Value.none != Value.none)=true from by decide)) ?_;exact BC (wpAny_raiseNew_none hh hE)
end
theorem Exc.made{X:Run}{d:Lay}{mem:List jB}{fr:List Env}{s:Shared}{h':Heap}{tk:Nat}{C e dx:Addr}{vs:Array Value}{a0:Value}(c:jH X d mem fr s)(k:∀ b o,s.heap.get? b=some o->h'.get? b=some o)(hn:s.heap.get? e=none)
  (he:h'.get? e=some { cls:=.ref C,dict:=some dx,data:=.fields vs }) (h0:vs[0]?=some a0) (h1:vs[1]?=some .none):Exc d fr C e none (hideAll s.heap (jh fr)) a0 { s with heap:=h',toks:=tk } where
 stays:=λ b o q=>k b o (of_hideAll _ q)
 own:=λ b h1 h2=>by
  have:∃ o,s.heap.get? b=some o:=by
   rcases h1 with ⟨o,e⟩ | ⟨r,e⟩
   ·exact⟨o,c.zin b o e⟩
   ·exact c.rin b r e
  obtain⟨o,e⟩:=this;refine rwl (hideAll_get _ e h2) ?_;exact(k b o e).symm
 new:=by
  cases q:(hideAll s.heap (jh fr)).get? e with
  | none=>rfl
  | some o=>replace hn:=(of_hideAll _ q)▸hn;exact snm hn
 ff:=by
  have main:∀ l:List Env,(∀ x∈l,x∈fr)->h'.FunFrames (hideAll s.heap (jh fr)) l:=by
   intro l;induction l with
   | nil=>exact λ _=>trivial
   | cons x r ih=>
     intro hx;have hxm:=hx x (.head _);obtain⟨a,L,o,f,r',g,q⟩:=c.fr x hxm;exact⟨a.1,⟨L,o,f,hideAll_none _ (Cw.mpr ⟨x,hxm,f⟩),k _ _ g,λ vs e=>q (.inl ⟨vs,e⟩)⟩,ih λ y hy=>hx y (.tail _ hy)⟩
  exact main fr λ _ h=>h
 tr:=⟨_,vs,he,rfl,rfl,h0,h1⟩
section
variable{X:Run}{r:Nat}{self:jK->Prop}{sp:Addr->Option zM}{A:Around}{fr:List Env}{d:Lay}{env:Env}{s:Shared}{st:St}{E:Value->Shared->Prop}{kx:KX}{kf:Fl->St->Prop}{Q:Flow->Shared->Prop}{n:Nat}
variable(ok:jo X)(ok4:RunOk4 X)(ih:∀ t,self t->Den X r t)
include ok ok4 ih
omit ok ok4 ih in
theorem kRa_of{C:Addr}{vs:List V}(h:kRa C kx vs st):∃ msg,vs=[.p (.str msg)]/\kx C st:=by
 induction vs using BA with
 | nil=>exact fe h
 | cons v r=>induction v using Dr with
   | p t=>induction t using Dq with
     | str m=>induction r using BA with
       | nil=>exact⟨m,rfl,h⟩
       | cons=>exact fe h
     | _=>exact fe h
   | _=>exact fe h
omit ok ok4 ih in
theorem raN_of{x:Str}{args:List Expr}(h:raN self x args st kx):∃ C,jj (vV st x=some (.p (.ref C))) (zW C=true) (noStar args=true) (self (.es args st (kRa C kx) kx)):=by
 unfold raN at h;generalize vV st x=g at h;induction g using BU with
 | none=>exact fe h
 | some v=>induction v using Dr with
   | p t=>induction t using Dq with
     | ref C=>
       obtain⟨e,h⟩:=jn h;obtain⟨e1,e2⟩:=BD.mp e;exact⟨C,rfl,e1,e2,h⟩
     | _=>exact fe h
   | _=>exact fe h
theorem den_Raise{x:Str}{np cpos p:Pos}{args:List Expr}(h:raN self x args st kx):Den X (r+1) (.s (.Raise (some (.Call (.Name x np) args [] cpos)) none p) st kf kx):=by
 intro A fr d env s Q E l a hn hf q qx;have a':=a.le (BW r);obtain⟨C,hg,ec,es,h⟩:=raN_of h;obtain⟨fI,m,I,EX⟩:=ok4.exc;have EC:=EX C ec;obtain⟨K,cd,nm,qq,N,bs,bm,hdct,sn,sub,ab,col,dd,k0,k1,k2,k3,k5,hK,hC,hov,hi,hty,hset,hcl,hpass,hob,hna,hhd,hkeep⟩:=EC.ex;have hbase:bm.contains (.type "BaseException")=true:=hov "BaseException" true (by simp);rw[arm_exec_Raise];refine B0 (CG (WD (C:=C) (nm:=nm) (q:=qq) (N:=N) (bs:=bs) (bm:=bm) (hdct:=hdct) (sn:=sn) (sub:=sub) (ab:=ab) (col:=col) (dd:=dd) (k0:=k0) (k1:=k1) (k2:=k2) (k3:=k3) (k5:=k5) (newId:="Exception.__new__") hbase hn (B0 (CH ?_ (λ v s₃ h₃=>B0 (CG (BC h₃))) λ _ _ x=>x))));refine Call_ (wpAny_Name (qw ok l hg λ val hv=>?_).1 (qw (A:=A) (E:=E) (Q:=λ _ _=>True) ok l hg λ _ _=>trivial).2);have ev:val=.ref C:=hv.inv.inv;subst ev;refine qf es (ih _ h A fr d env s cpos _ E l a' (.inl hn) (λ vs st1 d1 vals s1 h1 x1 l1 v1=>⟨keeps_K hkeep s1.heap (hK.keeps l1.stays),?_⟩) qx);obtain⟨msg,rfl,h1⟩:=kRa_of h1;obtain⟨v,rfl,v1⟩:=yF v1;have X1:K.In s1.heap:=hK.keeps l1.stays;have stays1:=l1.stays;obtain⟨hh,g,dr,t,os⟩:=s1;refine Zb X1 PySem.F.excBase_Exception hov (stays1 _ _ hC) hi hty (λ h' e hm=>?_) (by refine rwl CE ?_;exact Nat.succ_le_of_lt (by show 0<_;decide));obtain⟨tt,he,ht0,ht⟩:=hm.there
 refine init_run (s:=⟨h',g,dr,t,os⟩) ok I EC (λ b o z=>hm.keeps b o (stays1 b o z)) (show A.depth+1<recursionLimit from CC (BF (Cs (Nat.le_add_left 1 r) A.depth) a.dep) (show 880<1000 by decide)) he (by
  cases z:X.base.get? e with
  | none=>rfl
  | some o=>have:=stays1 _ _ z;replace this:=hm.new▸this;exact nomatch this) λ h2 tk2 dx hk2 he2=>?_
 have k:∀ b o,hh.get? b=some o->h2.get? b=some o:=λ b o z=>hk2 b o (λ q=>by(replace z:=q▸z;replace z:=hm.new▸z);exact nomatch z) (hm.keeps b o z);refine⟨e,dx,_,rfl,k _ _ (stays1 _ _ hC),he2,rfl,?_⟩;have xc:=Exc.made (tk:=tk2) (a0:=.ref tt) l1.core k hm.new he2 rfl rfl;exact qx C st1 d1 e none _ _ _ h1 x1 (l1.loose (wr:=[]) (s':=⟨h2,g,dr,tk2,os⟩) (λ b hb=>nomatch hb) (λ b o _ z=>k b o z)) xc (.inl rfl)
end
theorem cellOf_of{env:Env}{x:Str}{c:Addr}(h:env.cells.lookup x=some c):cellOf env x=pure c:=by unfold cellOf;rw[h]
theorem Za{env:Env}:∀(names:List (Str×NameKind)) (acc:List (Str×Addr)),(∀ x,(x,NameKind.free)∈names->∃ c,env.cells.lookup x=some c)->(∀ y c,(y,c)∈acc->env.cells.lookup y=some c)->
  ∃ cl,jT ((forIn names acc λ x (cs:List (Str×Addr))=>match x with | (name,kind)=>if(kind == .free)=true then do let c <- cellOf env name;pure (ForInStep.yield ((name,c)::cs)) else pure (ForInStep.yield cs):Sem (List (Str×Addr)))=pure cl) (∀ y c,(y,c)∈cl->env.cells.lookup y=some c) (∀ x,((x,NameKind.free)∈names\/x∈acc.map (·.1))->x∈cl.map (·.1)):=by
 intro names;induction names with
 | nil=>
   intro acc h ha;exact⟨acc,rfl,ha,λ x q=>by rcases q with q | q;cases q;exact q⟩
 | cons qp r ih=>
   obtain⟨n,k⟩:=qp;intro acc h ha;by_cases hk:k=.free
   ·subst hk;obtain⟨c,hc⟩:=h n (.head _)
    obtain⟨cl,e,h1,h2⟩:=ih ((n,c)::acc) (λ x q=>h x (.tail _ q)) (λ y c' q=>by
     rcases BO.mp q with q | q
     ·cases q;exact hc
     ·exact ha y c' q)
    refine⟨cl,?_,h1,λ x q=>h2 x ?_⟩
    ·rw[List.forIn_cons];dsimp only;rw[BJ (by rfl),cellOf_of hc];simp only[pure_bind];exact e
    ·rcases q with q | q
     ·rcases BO.mp q with q | q
      ·cases q;exact .inr (by simp)
      ·exact .inl q
     ·exact .inr (by simp at q ⊢;exact .inr q)
   ·obtain⟨cl,e,h1,h2⟩:=ih acc (λ x q=>h x (.tail _ q)) ha;refine⟨cl,?_,h1,λ x q=>h2 x ?_⟩
    ·rw[List.forIn_cons];dsimp only;rw[BE (by simpa using hk)];simp only[pure_bind];exact e
    ·rcases q with q | q
     ·rcases BO.mp q with q | q
      ·cases q;exact absurd rfl hk
      ·exact .inl q
     ·exact .inr q
theorem J4{sc:Scope}{env:Env}(h:∀ x,(x,NameKind.free)∈sc.names->∃ c,env.cells.lookup x=some c):∃ cl,closureFor sc env=pure cl/\∀ x,(x,NameKind.free)∈sc.names->cl.lookup x=env.cells.lookup x:=by
 obtain⟨cl,e,h1,h2⟩:=Za (env:=env) sc.names [] h (λ _ _ q=>by cases q);refine⟨cl,?_,λ x hx=>?_⟩
 ·unfold closureFor
  show((forIn sc.names ([]:List (Str×Addr)) λ x (cs:List (Str×Addr))=>match x with
   | (name,kind)=>if(kind == .free)=true then do let c <- cellOf env name;pure (ForInStep.yield ((name,c)::cs)) else pure (ForInStep.yield cs):Sem (List (Str×Addr))) >>= λ cs=>pure cs)=pure cl
  rw[e];rfl
 ·have hm:=h2 x (.inl hx);cases q:cl.lookup x with
  | none=>
    exfalso;obtain⟨⟨y,c⟩,hy,rfl⟩:=DO.mp hm;have:∀ l:List (Str×Addr),l.lookup y=none->(y,c)∉l:=by
     intro l;induction l with
     | nil=>intro _ z;cases z
     | cons p r ih=>
       obtain⟨n,v⟩:=p;intro e z;rw[Bc] at e;cases b:y == n with
       | true=>rw[b] at e;exact snm e
       | false=>
         rw[b] at e;rcases BO.mp z with z | z
         ·cases z;simp at b
         ·exact ih e z
    exact this cl q hy
  | some c=>exact(h1 x c (mem_of_lookup q)).symm
theorem jg(sc:Scope):jF sc=sc.names:=by cases sc;rfl
theorem vn{sc:Scope}(h:scFn sc=true):jT (sc.kind=.function) (sc.isCoroutine=false) (sc.isGenerator=false):=by
 obtain⟨k,n,a,b,c⟩:=sc;induction k using ScopeKind.casesOn with
 | function=>induction a using CM with
   | false=>induction b using CM with
     | false=>exact⟨rfl,rfl,rfl⟩
     | true=>exact ff h
   | true=>exact ff h
 | _=>exact ff h
theorem scK_of{k:NameKind}(h:scK k=true):k=.local\/k=.free\/k=.globalImplicit:=by
 induction k using Cp with
 | «local»=>exact .inl rfl
 | free=>exact .inr (.inl rfl)
 | globalImplicit=>exact .inr (.inr rfl)
 | _=>exact ff h
theorem vB{l:List (Str×NameKind)}(h:yO l=true)(x:Str×NameKind)(hx:x∈l):x.2=.local\/x.2=.free\/x.2=.globalImplicit:=by
 induction l with
 | nil=>exact nomatch hx
 | cons y r ih=>
   obtain⟨h1,h2⟩:=BD.mp h;rcases BO.mp hx with rfl | hx
   ·exact scK_of h1
   ·exact ih h2 hx
theorem Xr:yO vK=false:=by decide +kernel
theorem UQ{l:List (Str×NameKind)}(h:yO l=true):l≠vK:=λ e=>by rw[e,Xr] at h;exact ff h
set_option tactic.hygienic true in
theorem ZM{α:Type}{x:Str}{v:α}{l:List (Str×α)}(h:lk x l=some v):(x,v)∈l:=by
 induction l with
 | nil=>exact nsm h
 | cons p r ih=>
   have h:lk x ((p.1,p.2)::r)=some v:=h;rw[j7] at h;split at h
   ·rename_i q;obtain rfl:=B9 h;rw[q];exact .head _
   ·exact .tail _ (ih h)
theorem Ur{o:Option NameKind}(h:isFr o=true):o=some .free:=by
 induction o using BU with
 | none=>exact ff h
 | some k=>induction k using Cp with
   | free=>rfl
   | _=>exact ff h
theorem isLo_of{o:Option NameKind}(h:isLo o=true):o=some .local:=by
 induction o using BU with
 | none=>exact ff h
 | some k=>induction k using Cp with
   | «local»=>rfl
   | _=>exact ff h
theorem isCF_of{o:Option NameKind}(h:isCF o=true):o=some .cell\/o=some .free:=by
 induction o using BU with
 | none=>exact ff h
 | some k=>induction k using Cp with
   | cell=>exact .inl rfl
   | free=>exact .inr rfl
   | _=>exact ff h
theorem uQ{st:St}{sc l:List (Str×NameKind)}(h:zt st sc l=true){x:Str×NameKind}(hx:x∈l):frO st sc x.1 x.2=true:=by
 induction l with
 | nil=>exact nomatch hx
 | cons y r ih=>
   obtain⟨h1,h2⟩:=BD.mp h;rcases BO.mp hx with rfl | hx
   ·exact h1
   ·exact ih h2 hx
theorem zs{st:St}{sc l:List (Str×NameKind)}(h:zt st sc l=true) :
  (∀ x,(x,NameKind.free)∈l->jT (lk x sc=some .free) (∃ v,lk x st.loc=some v) (lk x st.sc=some .cell\/lk x st.sc=some .free))/\∀ x,(x,NameKind.local)∈l->lk x sc=some .local:=by
 refine⟨λ x hx=>?_,λ x hx=>isLo_of (uQ h hx)⟩;obtain⟨h1,h2⟩:=BD.mp (show(isFr (lk x sc)&&((lk x st.loc).isSome&&isCF (lk x st.sc)))=true from uQ h hx);obtain⟨h2,h3⟩:=BD.mp h2;exact⟨Ur h1,DS.mp h2,isCF_of h3⟩
set_option tactic.hygienic true in
theorem W5{loc:List (Str×V)}{l:List (Str×NameKind)}{x:Str}{v:V}(h:lk x (qT l loc)=some v):(x,NameKind.free)∈l/\lk x loc=some v:=by
 induction l with
 | nil=>exact nsm h
 | cons p r ih=>
   obtain⟨n,k⟩:=p;have other:lk x (qT r loc)=some v->(x,NameKind.free)∈(n,k)::r/\lk x loc=some v:=λ h=>⟨.tail _ (ih h).1,(ih h).2⟩;induction k using Cp with
   | free=>
     have h:lk x (W6 n (lk n loc) (qT r loc))=some v:=h;cases e:lk n loc with
     | none=>rw[e] at h;exact other h
     | some u=>
       rw[e] at h;have h:lk x ((n,u)::qT r loc)=some v:=h;rw[j7] at h;split at h
       ·rename_i q;obtain rfl:=B9 h;rw[q];exact⟨.head _,e⟩
       ·exact other h
   | _=>exact other h
section
variable{X:Run}{d:Lay}{mem:List jB}{env:Env}{fr:List Env}{st:St}{s s1:Shared}
theorem Loc.frees2(l:Loc X d env fr st s){sc:Scope}(h:zt st (jF sc) (jF sc)=true){cl:List (Str×Addr)}(hcl:∀ x,(x,NameKind.free)∈sc.names->cl.lookup x=env.cells.lookup x):VVC d (jA st.mem) cl (qT (jF sc) st.loc):=by
 obtain⟨h1,h2⟩:=zs h;have cel:∀ x,(x,NameKind.free)∈sc.names->∀ v,lk x st.loc=some v->Ex3 λ c val o=>jj (env.cells.lookup x=some c) (d.Z c=some o) (o.data=.cell (some val)) (VV d (jA st.mem) v val):=λ x hx v hv=>by
  rw[<- jg] at hx;exact l.cel x v hv (h1 x hx).3
 have main:∀ l:List (Str×NameKind),(∀ x,(x,NameKind.free)∈l->(x,NameKind.free)∈sc.names)->VVC d (jA st.mem) cl (qT l st.loc):=by
  intro l;induction l with
  | nil=>exact λ _=>.nil
  | cons p r ih=>
    obtain⟨n,k⟩:=p;intro hm;have ih:=ih λ x hx=>hm x (.tail _ hx);induction k using Cp with
    | free=>
      show VVC d (jA st.mem) cl (W6 n (lk n st.loc) (qT r st.loc));cases q:lk n st.loc with
      | none=>exact ih
      | some v=>
        have hn:=hm n (.head _);obtain⟨c,val,o,a1,a2,a3,a4⟩:=cel n hn v q;exact .cons ((hcl n hn).trans a1) a2 a3 a4 ih
    | _=>exact ih
 rw[jg];exact main sc.names λ _ q=>q
theorem Loc.frees(l:Loc X d env fr st s){sc:Scope}(h:zt st (jF sc) (jF sc)=true):∃ cl,jT (closureFor sc env=pure cl) (∀ x,(x,NameKind.free)∈sc.names->cl.lookup x=env.cells.lookup x) (VVC d (jA st.mem) cl (qT (jF sc) st.loc)):=by
 obtain⟨h1,h2⟩:=zs h;have cel:∀ x,(x,NameKind.free)∈sc.names->∀ v,lk x st.loc=some v->Ex3 λ c val o=>jj (env.cells.lookup x=some c) (d.Z c=some o) (o.data=.cell (some val)) (VV d (jA st.mem) v val):=λ x hx v hv=>by
  rw[<- jg] at hx;exact l.cel x v hv (h1 x hx).3
 obtain⟨cl,e,hcl⟩:=J4 (sc:=sc) (env:=env) λ x hx=>by
  have:=h1 x (by rw[jg];exact hx);obtain⟨v,hv⟩:=this.2;obtain⟨c,_,_,q,_⟩:=cel x hx v hv;exact⟨c,q⟩
 exact⟨cl,e,hcl,l.frees2 h hcl⟩
noncomputable def Lay.block (d:Lay) (L:Addr) (h:Heap):Lay:=({ d with role:=λ b=>if b=L then some .loc else d.role b }).grow h
set_option tactic.hygienic true in
theorem vvc_find{n:Nat}{cl:List (Str×Addr)}{loc:List (Str×V)}(hv:VVC d n cl loc){x:Str}{v:V}(h:lk x loc=some v):Ex3 λ c val o=>jj (cl.lookup x=some c) (d.Z c=some o) (o.data=.cell (some val)) (VV d n v val):=by
 induction hv using VVC.ind with
 | h0=>exact nsm h
 | h1 a b c w q ih=>
   rw[j7] at h;split at h
   ·rename_i z;obtain rfl:=B9 h;rw[z];exact⟨_,_,_,a,b,c,w⟩
   ·exact ih h
theorem jH.block(c:jH X d mem fr s)(k:∀ b o,s.heap.get? b=some o->s1.heap.get? b=some o){L:Addr}(hL:s.heap.get? L=none)(hn:s1.heap.Ns L (λ _=>none))(hl:env.locals=L)(hkind:env.scope.kind=.function)
  {sc:List (Str×NameKind)} {loc:List (Str×V)} {cl:List (Str×Addr)} (hsc:∀ x k,lk x sc=some k->env.kindOf x=some k\/(k=.free/\env.kindOf x=some .cell)) (hgl:env.globals=mainGlobals) (hbl:env.builtins=builtinsNs)
  (hcells:env.cells=cl) (hv:VVC d (jA mem) cl loc) (hloc:∀ x v,lk x loc=some v->lk x sc=some .free) (hnc:yO sc=true) {fr':List Env} (hfr:(fr'=fr/\fr≠[])\/(jT (fr'=env::fr) (env.frame=some L) (FrOk env)))
  (hg:s1.gens=s.gens:=by rfl) (ho:s1.os=s.os:=by rfl):Loc X (d.block L s1.heap) env fr' ⟨loc,mem,sc⟩ s1/\Ext d (jA mem) (d.block L s1.heap) (jA mem):=by
 have rL:d.role L=none:=c.norole hL;have rn:∀ b r,d.role b=some r->(if b=L then some j9.loc else d.role b)=some r:=λ b r e=>by
  rw[BE λ q=>by rw[q,rL] at e;exact nsm e];exact e
 have rz:∀ b o,d.Z b=some o->(if b=L then some j9.loc else d.role b)=none:=λ b o e=>by
  rw[BE λ q=>by have:=c.zin b o e;rw[q,hL] at this;exact nsm this];exact c.zrole e
 have rr:(d.block L s1.heap).role=λ b=>if b=L then some .loc else d.role b:=rfl
 have x0:Ext d (jA mem) (d.block L s1.heap) (jA mem):=⟨λ b o e=>Lay.grow_of (d:={ d with role:=λ b=>if b=L then some .loc else d.role b }) (rz b o e) (k b o (c.zin b o e)),λ _ _=>rfl,BN _,rfl⟩;obtain⟨oL,es,ep,gL,dL,_⟩:=id hn;refine⟨⟨⟨hg.trans c.gens,ho.trans c.os,λ b o e=>x0.z b o (c.base b o e),λ b o e=>(Lay.of_grow e).2,λ b r e=>?_,λ b r e=>?_,λ b o e=>?_,λ i hi=>?_,c.tab.mono x0.z (λ r=>rn qA _ r) (λ o e=>k _ o e),λ e he=>?_⟩,hkind,hsc,hgl,hbl,⟨?_,λ q=>absurd q (UQ hnc)⟩,?_,?_,?_,?_⟩,x0⟩
 ·show(match(if b=L then some j9.loc else d.role b) with | some _=>none | none=>s1.heap.get? b)=none;have e:(if b=L then some j9.loc else d.role b)=some r:=e;rw[e]
 ·have e:(if b=L then some j9.loc else d.role b)=some r:=e;by_cases q:b=L
  ·rw[q];exact⟨oL,gL⟩
  ·rw[BE q] at e;obtain⟨o,g⟩:=c.rin b r e;exact⟨o,k b o g⟩
 ·obtain⟨r,sl,g,hz⟩:=c.pin b o e
  exact⟨rn b _ r,sl,k b _ g,λ z=>hz (z.imp id λ z y=>z (by
   rcases hfr with ⟨rfl,_⟩ | ⟨rfl,_⟩
   ·exact y
   ·exact wq y))⟩
 ·refine(c.mem i hi).mono x0 hi (λ b h=>?_) λ b o _ e=>k b o e;rcases h with h | h
  ·rw[h];exact rn b _ h
  ·rw[h];exact rn b _ h
 ·have old:∀ e∈fr,FrOk e/\Ex2 λ L' o=>jj (e.frame=some L') ((d.block L s1.heap).role L'=some .loc\/(d.block L s1.heap).role L'=some .priv) (s1.heap.get? L'=some o) (¬ zP o):=λ e he=>by
   obtain⟨a,L',o,f,r,g,q⟩:=c.fr e he;exact⟨a,L',o,f,r.imp (rn L' _) (rn L' _),k _ _ g,q⟩
  rcases hfr with ⟨rfl,_⟩ | ⟨rfl,hf,hok⟩
  ·exact old e he
  ·rcases BO.mp he with rfl | he
   ·exact⟨hok,L,oL,hf,.inl (BJ rfl),gL,wB dL⟩
   ·exact old e he
 ·rcases hfr with ⟨rfl,h⟩ | ⟨rfl,_⟩
  ·exact h
  ·nofun
 ·rw[hl];exact BJ rfl
 ·rw[hl];refine⟨_,hn,λ x v a b=>?_⟩;rw[show lk x sc=some .free from hloc x v a] at b;cases b
 ·intro x v a b;obtain⟨c',val,o,h1,h2,h3,h4⟩:=vvc_find hv a;exact⟨c',val,o,by rw[hcells];exact h1,x0.z _ _ h2,h3,h4.mono x0⟩
 ·intro x a b;have:=vB hnc (x,.cell) (ZM b);rcases this with z | z | z <;> cases z
end
structure RunOk5(X:Run):Prop where
 bat:X.base.BuiltinsAt X.mg qA
 hd:CodeHd X.base Ql qA
set_option tactic.hygienic true in
theorem J3{pos:Pos}{a b:Int}{c v:Value}:∀(l:List Value),TriplesOk l->codeAmong pos (l++[rawInt a,rawInt b,c])=some v->codeAmong pos l=some v\/v=c:=by
 intro l h e
 fun_induction TriplesOk l with
 | case1=>
   right
   rw[DK] at e;unfold codeAmong at e;simp only[rawInt] at e;split at e
   ·exact(B9 e).symm
   ·simp[codeAmong] at e
 | case2 i t j u w rest ih=>
   simp only[List.cons_append] at e;unfold codeAmong at e ⊢;split at e
   ·left;rename_i q;rw[BJ q];exact e
   ·rename_i q;rw[BE q];exact ih h e
 | case3=>exact h.elim
section
variable{X:Run}{r:Nat}{self:jK->Prop}{sp:Addr->Option zM}{A:Around}{fr:List Env}{d:Lay}{mem:List jB}{env:Env}{s s':Shared}{st:St}{Q:Value->Shared->Prop}{E:Value->Shared->Prop}{k:K}{kx:KX}
theorem Loc.growTab(l:Loc X d env fr st s)(k:∀ b o,b≠qA->s.heap.get? b=some o->s'.heap.get? b=some o)(ht:TabR (d.grow s'.heap) s'.heap)(hg:s'.gens=s.gens:=by rfl)(ho:s'.os=s.os:=by rfl) :
  Loc X (d.grow s'.heap) env fr st s'/\Ext d (jA st.mem) (d.grow s'.heap) (jA st.mem):=by
 have c:=l.core;have nt:∀ b r,d.role b=some r->r≠.tab->b≠qA:=λ b r e hr q=>by rw[q,c.tab.1] at e;obtain rfl:=B9 e;exact hr rfl
 have nz:∀ b o,d.Z b=some o->b≠qA:=λ b o e q=>by rw[q,c.zr _ _ c.tab.1] at e;exact nsm e
 have x0:Ext d (jA st.mem) (d.grow s'.heap) (jA st.mem):=⟨λ b o e=>Lay.grow_of (c.zrole e) (k b o (nz b o e) (c.zin b o e)),λ _ _=>rfl,BN _,rfl⟩;have htab:=ht;obtain⟨_,ps',gP',_⟩:=ht;refine⟨⟨⟨hg.trans c.gens,ho.trans c.os,λ b o e=>x0.z b o (c.base b o e),λ b o e=>(Lay.of_grow e).2,λ b r e=>?_,λ b r e=>?_,λ b o e=>?_,λ i hi=>?_,htab,λ e he=>?_⟩,l.kind,l.sc,l.glob,l.blt,l.top,l.role,?_,λ x v a b=>?_,λ x a b=>?_⟩,x0⟩
 ·show(match d.role b with | some _=>none | none=>s'.heap.get? b)=none;have e:d.role b=some r:=e;rw[e]
 ·have e:d.role b=some r:=e;by_cases q:b=qA
  ·rw[q];exact⟨_,gP'⟩
  ·obtain⟨o,g⟩:=c.rin b r e;exact⟨o,k b o q g⟩
 ·obtain⟨r,sl,g,hz⟩:=c.pin b o e;exact⟨r,sl,k b _ (nt b _ r nofun) g,hz⟩
 ·refine(c.mem i hi).mono x0 hi (λ _ _=>rfl) λ b o h e=>k b o ?_ e;rcases h with h | h <;> exact nt b _ h nofun
 ·obtain⟨a,L,o,f,r,g,q⟩:=c.fr e he;exact⟨a,L,o,f,r,k L o (by rcases r with r | r <;> exact nt L _ r nofun) g,q⟩
 ·obtain⟨m,⟨o,es,ep,g,hr⟩,h⟩:=l.ns;exact⟨m,⟨o,es,ep,k _ _ (nt _ _ l.role nofun) g,hr⟩,λ x v a b=>let ⟨val,e,q⟩:=h x v a b;⟨val,e,q.mono x0⟩⟩
 ·obtain⟨c',val,o,h1,h2,h3,h4⟩:=l.cel x v a b;exact⟨c',val,o,h1,x0.z _ _ h2,h3,h4.mono x0⟩
 ·obtain⟨c',o,h1,h2,h3,h4⟩:=l.ucel x a b;exact⟨c',o,h1,k _ _ (nt _ _ h4 nofun) h2,h3,h4⟩
variable(ok:jo X)(ok5:RunOk5 X)(ih:∀ t,self t->Den X r t)
include ok ok5 ih
theorem UM{args:Arguments}{body:Expr}{sc:Scope}{p:Pos}(h:jl self sp (.Lambda args body sc p) st k kx):Den X (r+1) (.e (.Lambda args body sc p) st k kx):=by
 intro A fr d env s Q E l a hh q qx;obtain⟨e,hs,h⟩:=jn h;obtain⟨e1,e⟩:=BD.mp e;obtain⟨e2,e3⟩:=BD.mp e;have e2:=BD.mp e2;obtain⟨k1,k2,k3⟩:=vn e2.2;obtain⟨cl,hcl,_,hv⟩:=l.frees e3;have hcode:=l.top.2 hs;have hdef:defaultsOf args env=([],[]):=by
  obtain⟨pa,ar,va,ko,kd,kw,de⟩:=args;simp only[Ui,Bn,List.isEmpty_iff] at e1;obtain⟨⟨_,rfl⟩,rfl⟩:=e1;rfl
 refine kla_eval hdef ?_;obtain⟨rt,ps,gP,ht,hcodes⟩:=id l.core.tab;have hg:s.heap.Ns mainGlobals X.mg:=ok.g.keeps l.stays;have C:CodeHd s.heap Ql qA:=ok5.hd.keeps l.stays;have hb:=ok5.bat.keeps l.stays;have mk:∀(H:Heap) (tk:Nat) (f c':Addr) (nm qual:Str) (pm ctv:Value) (ps':Array Value),(∀ b o,b≠qA->s.heap.get? b=some o->H.get? b=some o)->s.heap.get? f=none->H.get? f=some (kla_obj nm qual args body sc cl pm c' ctv)->
   H.get? qA=some (tabObj ps')->TriplesOk ps'.toList->(∀ pos c,codeAmong pos ps'.toList=some c->codeAmong pos ps.toList=some c\/c=.ref c')->(Ex4 λ o vs q t=>jT ((d.grow H).Z c'=some o) (o.data=.fields vs) (vs[1]?=some (.str q t)))->
   Q (.ref f) { s with heap:=H,toks:=tk }:=λ H tk f c' nm qual pm ctv ps' kk hf hF hT hO hA hc'=>by
  have hz:∀ b o,d.Z b=some o->(d.grow H).Z b=some o:=λ b o e=>Lay.grow_of (l.core.zrole e) (kk b o (λ z=>by rw[z,l.core.zr _ _ rt] at e;exact nsm e) (l.core.zin b o e))
  obtain⟨l',x'⟩:=l.growTab (s':={ s with heap:=H,toks:=tk }) kk ⟨rt,ps',hT,hO,λ pos c e=>by
   rcases hA pos c e with z | z
   ·obtain⟨c1,oc,vs,q,t,a1,a2,a3,a4⟩:=hcodes pos c z;exact⟨c1,oc,vs,q,t,a1,hz _ _ a2,a3,a4⟩
   ·obtain⟨o,vs,q,t,a1,a2,a3⟩:=hc'
    exact⟨c',o,vs,q,t,z,a1,a2,a3⟩⟩
  obtain⟨oc,vs,q1,t,a1,a2,a3⟩:=hc';exact q _ st _ _ _ h x' l' (.lam ⟨_,_,c',oc,vs,q1,t,Lay.grow_of (l.core.norole hf) hF,a1,rfl,e1,rfl,rfl,rfl,rfl,rfl,rfl,rfl,a2,a3,k2,k3,k1⟩ (hv.mono x'))
 have fresh:∀ b,s.heap.objs.size<=b->s.heap.get? b=none:=λ b hb=>CU hb;cases hca:codeAmong p ps.toList with
 | none=>
   refine kla_makeFunction hcl l.glob hg hcode C gP ht hca (by decide) hb λ c' ctv h' tk hx hge hlt hrec htb=>?_;obtain⟨c1,oc,vs,t,ec,g1,d1,v1⟩:=hrec;cases ec;have fc:=fresh c' hge;refine mk _ tk _ c' _ _ _ ctv _ (λ b o hb e=>BH _ (hx b o hb e)) (fresh _ (BF hge (Nat.le_of_lt hlt))) (BR _ rfl) (BH _ htb) ?_ ?_ ⟨oc,vs,_,t,?_,d1,v1⟩
   ·rw[Array.toList_append];exact TriplesOk_snoc _ _ _ _ ht
   ·intro pos c e;rw[Array.toList_append] at e;exact J3 _ ht e
   ·exact Lay.grow_of (l.core.norole fc) (BH _ g1)
 | some cv=>
   obtain⟨c1,oc,vs,q1,t,rfl,a2,a3,a4⟩:=hcodes p cv hca;refine kla_makeFunctionHit hcl l.glob hg hcode C gP ht hca hb λ ctv h' tk hk hsz=>?_;refine mk _ tk _ c1 _ _ _ ctv ps (λ b o hb e=>BH _ (hk b o e)) (fresh _ hsz) (BR _ rfl) (BH _ (hk _ _ gP)) ht (λ pos c e=>.inl e) ⟨oc,vs,q1,t,?_,a3,a4⟩;exact Lay.grow_of (l.core.zrole a2) (BH _ (hk _ _ (l.core.zin _ _ a2)))
end
section
variable{prog:Program}{w:World}{A:Around}{R:Result->Shared->Prop}{s:Shared}
theorem callFunE{a:Addr}{args:Args}{o:Obj}{fd:FuncData}{body:Expr}{c:Addr}{oc:Obj}{vs:Array Value}{qq:Str}{tq:Tok}(hroom:A.depth<recursionLimit)(ho:s.heap.get? a=some o)
  (hd':o.data=.func fd) (hco:fd.scope.isCoroutine=false) (hgen:fd.scope.isGenerator=false) (hbody:fd.body=.expr body) (hc:fd.code=.ref c) (hoc:s.heap.get? c=some oc) (hdc:oc.data=.fields vs) (hq:vs[1]?=some (.str qq tq))
  (h:wpAny (model prog w) A.in1 (bindArgs fd args) (λ binds s₁=>
   wpAny (model prog w) A.in1 (newFunctionEnv fd.scope fd.globals fd.closure binds (qq++".<locals>.") (some a) fd.code none fd.builtins)
    (λ env s₂=>s₂.heap.NoLimit/\codeAny (model prog w) A (.expr body env) R s₂) (λ e s'=>R (.error e) s') s₁) (λ e s'=>R (.error e) s') s) :
  codeAny (model prog w) A (.call (.ref a) args) R s:=by
 refine codeAny_of_tree ?_;show wpAny _ A.in1 (callAny (.ref a) args) _ _ s;delta callAny;refine B0 (wpAny_load ho ?_);rw[hd'];show wpAny _ _ (callFunction a fd args) _ _ _;delta callFunction;rw[hc,hbody,hco,hgen];replace h:=hc▸h;refine B0 (m:=field (.ref c) 1) (wpAny_field hoc hdc hq (B0 (BC ?_)))
 exact B0 (CH h (λ binds s₁ h₁=>B0 (CH h₁ (λ env s₂ h₂=>B0 (wpAny_enterFrame h₂.1 hroom
  (BC (And.intro rfl h₂.2)))) λ _ _ h'=>h')) λ _ _ h'=>h')
end
set_option tactic.hygienic true in
theorem Zf{sc:List (Str×NameKind)}{loc:List (Str×V)}(e:uu sc loc=true)(x:Str)(v:V)(h:lk x loc=some v):lk x sc=some .free:=by
 induction loc with
 | nil=>exact nsm h
 | cons p r ih=>
   obtain⟨e1,e2⟩:=BD.mp e;have h:lk x ((p.1,p.2)::r)=some v:=h;rw[j7] at h;split at h
   ·rename_i z;refine rwl z ?_;exact Ur e1
   ·exact ih e2 h
section
variable{X:Run}{r:Nat}{self:jK->Prop}
variable(ok:jo X)(ih:∀ t,self t->Den X r t)
include ok ih
set_option tactic.hygienic true in
theorem lam_call{A:Around}{fr:List Env}{d:Lay}{s:Shared}{mem:List jB}{x:Expr}{sc:Scope}{loc:List (Str×V)}{a:Addr}{k:KM}{kx:KXM}{R:Result->Shared->Prop}
 (hsc:yO (jF sc)=true) (hloc:∀ x v,lk x loc=some v->lk x (jF sc)=some .free)
 (h:self (.e x ⟨loc,mem,jF sc⟩ (λ v st=>k v st.mem) (λ C st=>kx C st.mem))) (c:jH X d mem fr s) (a0:AOk A fr (r+1)) (hn:A.handled=none) (hv:VV d (jA mem) (.lam x sc loc) (.ref a))
 (hR:∀ v mem' d' val s',k v mem'->Ext d (jA mem) d' (jA mem')->jH X d' mem' fr s'->VV d' (jA mem') v val->R (.ok (.ret val)) s')
 (hE:∀ C mem' d' ea B a0 s',kx C mem'->Ext d (jA mem) d' (jA mem')->jH X d' mem' fr s'->Exc d' fr C ea (some .none) B a0 s'->R (.error (.ref ea)) s') :
 codeAny (model X.prog X.w) A (.call (.ref a) ⟨[],[]⟩) R s:=by
 cases hv with | lam hl hc=>
 rename_i cl;obtain⟨o,fd,c1,oc,vs,qq,t,h1,h11,h2,h3,h4,h5,h6,h7,h8,h9,h10,h12,h13,h14,h15,h16⟩:=hl;have stays:=c.stays;have hp:vj (fd.params.posonlyargs=[]) (fd.params.args=[]) (fd.params.vararg=none) (fd.params.kwonlyargs=[]) (fd.params.kwarg=none):=by
  simp only[Ui,Bn,List.isEmpty_iff,Option.isNone_iff_eq_none] at h3;exact⟨h3.1.1.1.1.1.1,h3.1.1.1.1.1.2,h3.1.1.1.1.2,h3.1.1.1.2,h3.1.1.2⟩
 refine callFunE a0.room (c.zin _ _ h1) h2 h14 h15 h4 h10 (c.zin _ _ h11) h12 h13 ?_;refine xq (D:=[]) (by unfold y6;refine rwl hp.1 (rwl hp.3 (rwl hp.4 (rwl hp.5 ?_)));rfl) (rwl hp.2 List.nodup_nil) (λ E' Q' hQ'=>by refine rwl h8 ?_;exact BC hQ') (CN _) (rwl hp.2 (CN _)) (CN _) ?_;refine rwl hp.2 ?_;show wpAny (model X.prog X.w) A.in1 (newFunctionEnv fd.scope fd.globals fd.closure [] _ _ _ _ _) _ _ s;refine rwl h5 (rwl h6 (rwl h7 (rwl h9 ?_)));refine wpAny_newFunctionEnv (λ y hy=>?_) (λ y hy=>by cases hy) (λ h' hn' hs'=>?_) (h5▸h16)
 ·rw[jg] at hsc;rcases vB hsc y hy with z | z | z <;> refine rwl z ?_ <;> decide
 generalize henv:newEnv sc s.heap.objs.size mainGlobals cl (qq++".<locals>.") (some a) fd.code none builtinsNs=env;have el:env.locals=s.heap.objs.size:=by refine rwl henv.symm ?_;rfl
 have ek:∀ x,env.kindOf x=sc.names.lookup x:=λ x=>by refine rwl henv.symm ?_;rfl
 have es:env.scope=sc:=by refine rwl henv.symm ?_;rfl
 have ef:env.frame=some s.heap.objs.size:=by refine rwl henv.symm ?_;rfl
 have eg:env.globals=mainGlobals:=by refine rwl henv.symm ?_;rfl
 have eb:env.builtins=builtinsNs:=by refine rwl henv.symm ?_;rfl
 have ec:env.cells=cl:=by refine rwl henv.symm ?_;rfl
 have keep1:∀ b o,s.heap.get? b=some o->h'.get? b=some o:=λ b o z=>(hs'.2 b (Ba (Be z))).trans (BH _ z);have hfresh:s.heap.get? s.heap.objs.size=none:=xZ _;refine⟨ok.lim.keeps λ b o z=>keep1 b o (stays b o z),kla_codeExpr ?_⟩;have hkf:sc.kind=.function:=h5▸h16;obtain⟨l',x'⟩:=c.block (s1:={ s with heap:=h',toks:=s.toks+([]:List (Str×Value)).length }) (env:=env) keep1 hfresh hn' el (by rw[es];exact hkf) (sc:=jF sc) (loc:=loc) (cl:=cl) (λ x k e=>.inl (by rw[ek,<- qK,<- jg];exact e)) eg eb ec hc hloc hsc
  (fr':=env::fr) (.inr ⟨rfl,ef,by refine rwl es (rwl hkf ?_);decide,by refine rwl es ?_;exact h5▸h15,by refine rwl es ?_;exact h5▸h14,eb,eg⟩)
 have hnf:∀ e∈fr,e.frame≠some s.heap.objs.size:=λ e he q=>by
  obtain⟨_,L',o',f,_,g,_⟩:=c.fr e he;replace f:=q▸f;obtain rfl:=B9 f;replace g:=hfresh▸g;exact nsm g
 have a':=a0.deeper env;have hx:∀{d1:Lay} {n1:Nat},Ext (d.block s.heap.objs.size h') (jA mem) d1 n1->Ext d (jA mem) (d1.drop s.heap.objs.size) n1:=λ x1=>⟨λ b o e=>x1.z b o (x'.z b o e),λ i hi=>(x1.rho i hi).trans (x'.rho i hi),x1.n,x1.P.trans x'.P⟩;refine ih _ h (A.deeper env) (env::fr) _ env _ _ _ l' a' (.inl hn) (λ v st1 d1 val s1 h1 x1 l1 v1=>?_) (λ C st1 d1 ea fl B a0 s1 h1 x1 l1 xc hfl=>?_)
 ·have hrole:d1.role s.heap.objs.size=some .loc:=el▸l1.role;exact hR v _ _ val s1 h1 (hx x1) (l1.core.drop hrole hnf ef) (v1.mono (Yc _))
 ·have hrole:d1.role s.heap.objs.size=some .loc:=el▸l1.role
  refine xc.leave l1.core a'.fr ef (by
   rcases hfl with q | q | ⟨L,q1,q2⟩
   ·exact .inl q
   ·exact .inr (.inl q)
   ·replace q1:=ef▸q1;obtain rfl:=B9 q1;exact .inr (.inr q2)) λ h2 x3 c3 _ _=>?_
  exact hE C _ _ ea B a0 _ h1 (hx x1) (c3.drop hrole hnf ef) (x3.drop c3 hrole ef)
theorem lamCall:XQ X r self:=λ A fr d s mem x sc loc a k kx R h1 h2 h c a0 hn hv hR hE=>lam_call ok ih h1 (Zf h2) h c a0 hn hv hR hE
end
section
variable{prog:Program}{w:World}{A:Around}{E:Value->Shared->Prop}{R:Result->Shared->Prop}{s:Shared}
theorem Yp{elt target iter:Expr}{ifs:List Expr}{scope:Scope}{pos:Pos}{it acc:Value}{env:Env}(I:Nat->Shared->Prop)
  (turn:∀ n s,I n s->wpAny (model prog w) A (pyNext it) (λ r s₁=>match r with
   | none=>R (.ok .next) s₁
   | some v=>wpAny (model prog w) A (letOwnedTupleGo target it v) (λ _ s₁'=>wpAny (model prog w) A (assign target env v) (λ _ s₂=>
     wpAny (model prog w) A (forIn ifs true λ c r=>if r=true then do let ok <- isTrue c env (eval c env);pure (ForInStep.yield ok) else pure (ForInStep.yield r)) (λ ok s₃=>
      if ok=true then wpAny (model prog w) A (eval elt env) (λ x s₄=>
       wpAny (model prog w) A (call (.builtin "list.append") [acc,x]) (λ _ s₅=>∃ m,m<n/\I m s₅) (notedBy (model prog w) A env λ e s'=>R (.error e) s') s₄) (notedBy (model prog w) A env λ e s'=>R (.error e) s') s₃
      else ∃ m,m<n/\I m s₃) (notedBy (model prog w) A env λ e s'=>R (.error e) s') s₂) (notedBy (model prog w) A env λ e s'=>R (.error e) s') s₁') (notedBy (model prog w) A env λ e s'=>R (.error e) s') s₁) (notedBy (model prog w) A env λ e s'=>R (.error e) s') s)
  (n:Nat) (h:I n s) :
  codeAny (model prog w) A (.compLoop (.ListComp elt [⟨target,iter,ifs,0⟩] scope pos) 0 it acc env) R s:=by
 refine codeAny_loop rfl I (λ n s hI=>?_) n h;show wpAny _ A ((compTurn (.ListComp elt [⟨target,iter,ifs,0⟩] scope pos) 0 it acc env).onRaise (λ x=>do noteFrame x env;theTreesLotGoes x)) _ _ s;refine wpAny_noted ?_;rw[compTurn_list];refine B0 (CG (B0 (CH (turn n s hI) (λ r s₁ h₁=>?_) λ _ _ h'=>h')));induction r using BU with
 | none=>exact BC h₁
 | some v=>
   refine B0 (CH h₁ (λ _ s₁' h₁'=>?_) λ _ _ h'=>h');refine B0 (CH h₁' (λ _ s₂ h₂=>B0 (CH h₂ (λ ok s₃ h₃=>?_) λ _ _ h'=>h')) λ _ _ h'=>h');induction ok using CM with
   | false=>exact BC ⟨rfl,h₃⟩
   | true=>
     exact B0 (B0 (CH h₃ (λ x s₄ h₄=>B0 (CH h₄ (λ _ s₅ h₅=>BC (BC ⟨rfl,h₅⟩)) λ _ _ h'=>h')) λ _ _ h'=>h'))
end
theorem Zp{env:Env}(ifs:List Expr):(forIn ifs false λ c r=>if r=true then do let ok <- isTrue c env (eval c env);pure (ForInStep.yield ok) else pure (ForInStep.yield r):Sem Bool)=pure false:=by
 induction ifs with
 | nil=>rfl
 | cons c r ih=>rw[List.forIn_cons,BE (by decide),pure_bind];exact ih
theorem tests_eq{env:Env}(ifs:List Expr):(forIn ifs true λ c r=>if r=true then do let ok <- isTrue c env (eval c env);pure (ForInStep.yield ok) else pure (ForInStep.yield r):Sem Bool)=allTrue .And ifs env:=by
 induction ifs with
 | nil=>rfl
 | cons c r ih=>
   rw[List.forIn_cons,BJ rfl,arm_allTrue_cons,bind_assoc];congr 1;funext ok;rw[pure_bind];induction ok using CM with
   | false=>exact Zp r
   | true=>exact ih
set_option tactic.hygienic true in
theorem Q2{sc:Scope}{env:Env}{x:Str}{k:NameKind}(h:lk x (jF sc)=some k):(relabel sc env).names.lookup x=some k\/(k=.free/\(relabel sc env).names.lookup x=some .cell):=by
 rw[jg] at h;unfold relabel;dsimp only;generalize sc.names=l at h;induction l with
 | nil=>exact nsm h
 | cons p r ih=>
   obtain⟨n,kk⟩:=p;rw[j7] at h;refine rwl BZ ?_;dsimp only;by_cases q:x=n
   ·replace h:=(BJ q)▸h;obtain rfl:=B9 h;subst q;split
    ·rename_i hc;simp only[Bn,beq_iff_eq] at hc
     right;exact⟨hc.1.1,by refine rwl Bc ?_;simp⟩
    ·left;refine rwl Bc ?_;simp
   ·replace h:=(BE q)▸h;have:(x == n)=false:=Bh.mpr q;split
    ·refine rwl Bc (rwl this ?_);exact ih h
    ·rw[Bc,this];exact ih h
theorem XV{d d':Lay}{n n':Nat}(x:Ex0 d n d' n'){cl:List (Str×Addr)}{t:List (Str×V)}(h:VVC d n cl t):VVC d' n' cl t:=
 XW (r:=d'.role) (P:=d.P) (h.mono (d':={ d' with P:=d.P }) ⟨x.z,x.rho,x.n,rfl⟩)
noncomputable def Lay.free (d:Lay) (C:Addr):Lay:={ d with role:=λ b=>if b=C then none else d.role b }
noncomputable def Lay.addZ (d:Lay) (D:Addr) (h:Heap):Lay:={ d with Z:=λ b=>if b=D then h.get? b else d.Z b }
section
variable{X:Run}{d:Lay}{mem:List jB}{wr:List Addr}{env:Env}{fr:List Env}{st:St}{s:Shared}
theorem jH.free(c:jH X d mem fr s){C:Addr}(hC:d.role C=some .loc)(hf:∀ e∈fr,e.frame≠some C):jH X (d.free C) mem fr s:=by
 have rn:∀ b r,d.role b=some r->r≠.loc->(d.free C).role b=some r:=λ b r e hr=>by
  show(if b=C then none else d.role b)=_;rw[BE λ q=>by rw[q,hC] at e;obtain rfl:=B9 e;exact hr rfl];exact e
 have ro:∀ b r,(d.free C).role b=some r->d.role b=some r:=λ b r e=>by
  have e:(if b=C then none else d.role b)=some r:=e;by_cases q:b=C
  ·replace e:=(BJ q)▸e;exact nsm e
  ·replace e:=(BE q)▸e;exact e
 refine⟨c.gens,c.os,c.base,c.zin,λ b r e=>c.zr b r (ro b r e),λ b r e=>c.rin b r (ro b r e),λ b o e=>?_,λ i hi=>?_,c.tab.mono (λ _ _ e=>e) (λ r=>rn qA _ r nofun) (λ _ e=>e),λ e he=>?_⟩
 ·obtain⟨r,g⟩:=c.pin b o e;exact⟨rn b _ r nofun,g⟩
 ·refine zN.mono (d:=d) (d':=d.free C) ⟨λ _ _ e=>e,λ _ _=>rfl,BN _,rfl⟩ hi (λ b h=>?_) (λ _ _ _ e=>e) (c.mem i hi);rcases h with h | h <;> (refine rwl h ?_;exact rn b _ h nofun)
 ·obtain⟨a,L,o,f,r,g,q⟩:=c.fr e he;have z:L≠C:=λ z=>hf e he (by exact rwl f (rwl z rfl));refine⟨a,L,o,f,?_,g,q⟩;show(if L=C then none else d.role L)=_\/(if L=C then none else d.role L)=_;rw[BE z];exact r
theorem Yz{D:Addr}{h:Heap}{n:Nat}(hz:d.Z D=none):Ext d n (d.addZ D h) n:=⟨λ b o e=>by
 show(if b=D then h.get? b else d.Z b)=_
 rw[BE λ q=>by rw[q,hz] at e;exact nsm e];exact e,λ _ _=>rfl,BN _,rfl⟩
theorem Loc.addZ(l:Loc X d env fr st s){D:Addr}(hr:d.role D=none)(hz:d.Z D=none):Loc X (d.addZ D s.heap) env fr st s:=by
 have x:Ext d (jA st.mem) (d.addZ D s.heap) (jA st.mem):=Yz hz;have c:=l.core;refine⟨⟨c.gens,c.os,λ b o e=>x.z b o (c.base b o e),λ b o e=>?_,λ b r e=>?_,c.rin,c.pin,λ i hi=>(c.mem i hi).mono x hi (λ _ _=>rfl) λ _ _ _ e=>e,c.tab.mono x.z (λ r=>r) (λ _ e=>e),c.fr⟩,l.kind,l.sc,l.glob,l.blt,l.top,l.role,?_,λ x' v a b=>?_,l.ucel⟩
 ·have e:(if b=D then s.heap.get? b else d.Z b)=some o:=e;by_cases q:b=D
  ·replace e:=(BJ q)▸e;exact e
  ·rw[BE q] at e;exact c.zin b o e
 ·show(if b=D then s.heap.get? b else d.Z b)=none;have e:d.role b=some r:=e;rw[BE λ q=>by rw[q,hr] at e;exact nsm e];exact c.zr b r e
 ·obtain⟨m,hm,h⟩:=l.ns;exact⟨m,hm,λ y v a b=>let ⟨val,e,q⟩:=h y v a b;⟨val,e,q.mono x⟩⟩
 ·obtain⟨c',val,o,h1,h2,h3,h4⟩:=l.cel x' v a b;exact⟨c',val,o,h1,x.z _ _ h2,h3,h4.mono x⟩
end
section
variable{X:Run}{r:Nat}{self:jK->Prop}{A:Around}{fr:List Env}{cenv:Env}{s:Shared}
theorem Loc.repin{d dp:Lay}{wr w1:List Addr}{env:Env}{st:St}{s s':Shared}(l:Loc X d env fr st s)(p:qP dp wr d s.heap)(hsub:∀ b∈w1,b∈wr)(hfr:∀ e∈fr,∀ b∈wr,e.frame≠some b)
  (hx:∀ b∈w1,∃ o,s'.heap.get? b=some o/\zP o) (k:∀ b o,b∉w1->s.heap.get? b=some o->s'.heap.get? b=some o) (hg:s'.gens=s.gens:=by rfl) (ho:s'.os=s.os:=by rfl) :
  jT (Loc X (d.pins w1 s'.heap) env fr st s') (Ex0 d (jA st.mem) (d.pins w1 s'.heap) (jA st.mem)) (qP dp wr (d.pins w1 s'.heap) s'.heap):=by
 have zw:∀ b∈w1,d.Z b=none:=λ b hb=>l.core.zr b _ (p.role b (hsub b hb));refine⟨l.pins (λ b hb=>⟨zw b hb,.inr (p.role b (hsub b hb))⟩) (λ e he b hb=>hfr e he b (hsub b hb)) hx k hg ho,j3 l.core zw k,⟨λ b hb=>?_,λ b hb=>?_,λ b hb=>?_,λ b hb=>?_⟩⟩
 ·show(if b∈w1 then some .priv else d.role b)=_;by_cases q:b∈w1
  ·rw[BJ q]
  ·rw[BE q];exact p.role b hb
 ·by_cases q:b∈w1
  ·exact hx b q
  ·obtain⟨o,g,h⟩:=p.obj b hb;exact⟨o,k b o q g,h⟩
 ·show(if b∈w1 then s'.heap.get? b else d.P b)=_;by_cases q:b∈w1
  ·rw[BJ q]
  ·obtain⟨o,g,h⟩:=p.obj b hb;rw[BE q,p.P b hb,g,k b o q g]
 ·show(if b∈w1 then s'.heap.get? b else d.P b)=_;rw[BE λ q=>hb (hsub b q)];exact p.out b hb
variable(ok:jo X)(ih:∀ t,self t->Den X r t)
include ok ih
set_option tactic.hygienic true in
theorem comp_loop{tgt elt it:Expr}{ifs:List Expr}{sc:Scope}{pos:Pos}{src:Src}{us ts:List T}{I D:Addr}{Sx:Nat->Lay->List jB->Heap->Prop}{dp db:Lay}{stb:St}{kk:List T->List jB->Prop}{R:Result->Shared->Prop}
  (IT:yC X A tgt src us ts I [I] Sx) (a:AOk A fr r) (hn:A.handled=none) (lb:Loc X db cenv fr stb s) (pb:qP dp [I,D] db s.heap) (hfr:∀ e∈fr,∀ b∈[I,D],e.frame≠some b) (hID:D≠I)
  (h0:Sx 0 db stb.mem s.heap) (hD:s.heap.PlainList D #[]) (hk:J8 src us stb.mem) (h:zK self tgt elt ifs src us ts stb kk) (hsz:ts.length<=100000)
  (hend:∀ l d2 st2 s2 ys h' tk,kk l st2.mem->Ex0 db (jA stb.mem) d2 (jA st2.mem)->qP dp [I,D] d2 s2.heap->Loc X d2 cenv fr st2 s2->s2.heap.PlainList D ys->VRL d2.Z l ys.toList->s2.gens=s.gens->s2.os=s.os->
   (∀ b o,b∉[I]->s2.heap.get? b=some o->h'.get? b=some o)->R (.ok .next) { s2 with heap:=h',toks:=tk }) :
  codeAny (model X.prog X.w) A (.compLoop (.ListComp elt [⟨tgt,it,ifs,0⟩] sc pos) 0 (.ref I) (.ref D) cenv) R s:=by
 refine Yp (λ m s2=>Ex5 λ i st2 d2 acc ys=>And13 (m=ts.length-i) (i<=ts.length) (zK self tgt elt ifs src us (ts.drop i) st2 (λ l mem=>kk (acc++l) mem)) (J8 src us st2.mem) (Ex0 db (jA stb.mem) d2 (jA st2.mem)) (qP dp [I,D] d2 s2.heap) (Loc X d2 cenv fr st2 s2) (Sx i d2 st2.mem s2.heap) (s2.heap.PlainList D ys) (VRL d2.Z acc ys.toList) (acc.length<=i) (s2.gens=s.gens) (s2.os=s.os))
  ?_ ts.length ⟨0,stb,db,[],#[],rfl,CN _,h,hk,⟨λ _ _ e=>e,λ _ _=>rfl,BN _⟩,pb,lb,h0,hD,.nil,BN _,rfl,rfl⟩
 clear h0 hD h hk pb lb;rintro m s2 ⟨i,st2,d2,acc,ys,rfl,hi,h1,hk,x2,p2,l2,h0,hD,hv,hal,eg,eo⟩;have rI:∀ b∈[I],d2.role b=some .priv:=λ b hb=>p2.role b (by rw[BG.mp hb];simp);rcases Nat.lt_or_ge i ts.length with hlt | hge
 ·have ht:ts[i]?=some ts[i]:=BS hlt;rw[DH hlt] at h1;refine IT.item2 (λ v s1 hv=>hv) ht h0 l2.core hk rI λ v h' tk k' hx' hvt h3=>?_;obtain⟨l3,x3,p3⟩:=l2.repin (s':={ s2 with heap:=h',toks:=tk }) p2 (w1:=[I]) (λ b hb=>by rw[BG.mp hb];simp) hfr hx' k';have hD3:h'.PlainList D ys:=hD.at λ o e=>k' D o (by simpa using hID) e;have hv3:VRL (d2.pins [I] h').Z acc ys.toList:=hv.mono x3.z;refine ih _ h1 A fr (d2.pins [I] h') cenv _ v _ _ l3 a hn (.p hvt) (λ st4 d4 s4 h4 x4 l4=>?_) (λ _ _ _ _ _ _ _ _ z=>z.elim);obtain⟨p4,e4⟩:=p3.ext x4 l4.core;rw[tests_eq];refine ih _ h4 A fr d4 cenv s4 _ _ l4 a hn (λ b st5 d5 s5 h5 x5 l5=>?_) (λ _ _ _ _ _ _ _ _ z=>z.elim);obtain⟨p5,e5⟩:=p4.ext x5 l5.core;have x25:=(x2.trans x3).trans (x4.ex0.trans x5.ex0);have s5St:Sx (i+1) d5 st5.mem s5.heap:=IT.frame h3 (x4.ex0.trans x5.ex0) λ b hb=>(e5 b (by rw[BG.mp hb];simp)).trans (e4 b (by rw[BG.mp hb];simp));have hD5:s5.heap.PlainList D ys:=hD3.at λ o e=>((e5 D (by simp)).trans (e4 D (by simp))).trans e;have hv5:VRL d5.Z acc ys.toList:=hv3.mono λ b o e=>x5.z b o (x4.z b o e);have g5:s5.gens=s.gens:=l5.core.gens.trans (l2.core.gens.symm.trans eg);have o5:s5.os=s.os:=l5.core.os.trans (l2.core.os.symm.trans eo);induction b using CM with
  | false=>
    rw[BE (by decide)];obtain⟨h6,h7⟩:=wF.mp (show xR src us st5.mem (zK self tgt elt ifs src us (ts.drop (i+1)) st5 (λ l mem=>kk (acc++l) mem)) from h5);exact⟨ts.length-(i+1),Nat.sub_succ_lt_self _ _ hlt,i+1,st5,d5,acc,ys,rfl,hlt,h7,h6,x25,p5,l5,s5St,hD5,hv5,Nat.le_succ_of_le hal,g5,o5⟩
  | true=>
    rw[BJ rfl];refine ih _ h5 A fr d5 cenv s5 _ _ l5 a (.inl hn) (λ v st6 d6 val s6 h6 x6 l6 v6=>?_) (λ _ _ _ _ _ _ _ _ z=>z.elim);obtain⟨p6,e6⟩:=p5.ext x6 l6.core;cases v6 with
    | m=>exfalso;exact h6
    | lam=>exfalso;exact h6
    | p v6=>
      rename_i u;obtain⟨h7,h8⟩:=wF.mp (show xR src us st6.mem (zK self tgt elt ifs src us (ts.drop (i+1)) st6 (λ l mem=>kk (acc++u::l) mem)) from h6);have hD6:s6.heap.PlainList D ys:=hD5.at λ o e=>(e6 D (by simp)).trans e;have hl:=jP hv5;rw[BQ] at hl;refine wpAny_list_append_plain hD6 (λ h2 hp hs=>?_) (by rw[CE,hl];exact BF hal (BF (Nat.le_of_lt hlt) (BF hsz (by decide))));obtain⟨nn,hpo⟩:=id hp;obtain⟨l7,x7,p7⟩:=l6.repin (s':={ s6 with heap:=h2 }) p6 (w1:=[D]) (λ b hb=>by rw[BG.mp hb];simp) hfr (λ b hb=>by rw[BG.mp hb];exact⟨_,hpo,.inr ⟨_,_,rfl⟩⟩) (zI hs);have x67:=x6.ex0.trans x7;refine⟨ts.length-(i+1),Nat.sub_succ_lt_self _ _ hlt,i+1,st6,d6.pins [D] h2,acc++[u],ys.push val,rfl,hlt,?_,h7,x25.trans x67,p7,l7,IT.frame s5St x67 λ b hb=>?_,hp,?_,rwl BV (DB hal),l6.core.gens.trans (l5.core.gens.symm.trans g5),l6.core.os.trans (l5.core.os.symm.trans o5)⟩
      ·have:(λ l mem=>kk (acc++[u]++l) mem)=λ l mem=>kk (acc++u::l) mem:=by funext l mem;rw[D2];rfl
       rw[this];exact h8
      ·have:b≠D:=by rw[BG.mp hb];exact DF hID
       exact(hs.2 b this).trans (e6 b (by rw[BG.mp hb];simp))
      ·rw[Array.toList_push];exact z4 (hv5.mono x67.z) (.cons (v6.mono x7.z) .nil)
 ·have e:i=ts.length:=Nat.le_antisymm hi hge;subst e;rw[List.drop_length] at h1;have h1:kk (acc++[]) st2.mem:=h1;rw[Cu] at h1;refine IT.done h0 l2.core hk rI λ h' tk k'=>?_;exact hend acc d2 st2 s2 ys h' tk h1 x2 p2 l2 hD hv eg eo k'
end
section
variable{X:Run}{r:Nat}{self:jK->Prop}{sp:Addr->Option zM}{A:Around}{fr:List Env}{d:Lay}{env:Env}{s:Shared}{st:St}{E:Value->Shared->Prop}{kx:KX}
variable(ok:jo X)(ih:∀ t,self t->Den X r t)
include ok ih
theorem xj{tgt elt it:Expr}{ifs:List Expr}{sc:Scope}{pos p2:Pos}{kk:K}{use:Option (Value->Sem Unit)}{Qc:Value->Shared->Prop}(e1:wA it=true)(e3:(yO (jF sc)&&scFn sc&&zt st (jF sc) (jF sc))=true)
  (h:self (.e it st (kLc self tgt elt ifs (jF sc) kk) kx))
  (l:Loc X d env fr st s) (a:AOk A fr r) (hn:A.handled=none) (qx:PX X d (jA st.mem) env fr kx E)
  (fin:∀(st1:St) l mem dF sF D C,kk (.p (.lst l)) (st1.wm mem)->Ext d (jA st.mem) dF (jA mem)->Loc X dF env fr (st1.wm mem) sF->VV dF (jA mem) (.p (.lst l)) (.ref D)->dF.role C=none->dF.Z C=none->(∃ m,sF.heap.Ns C m)->
   compPost (model X.prog X.w) A E use Qc (.ref D) C (.ok .next) sF) :
  wpAny (model X.prog X.w) A (comprehension (.ListComp elt [⟨tgt,it,ifs,0⟩] sc pos) sc env p2 (newList []) false (eval it env) use) Qc E s:=by
 rw[Bn,Bn] at e3;obtain⟨⟨hcs,hfn⟩,hfo⟩:=e3;obtain⟨hk1,hk2,hk3⟩:=vn hfn;obtain⟨cl,hclos,hcl,_⟩:=l.frees hfo;have hnames:∀ x∈sc.names,x.2=.local->sc.names.lookup x.1=some .local:=λ x hx hl=>by
  have:=(zs hfo).2 x.1 (by rw[jg,<- hl];exact hx);rw[qK,jg] at this;exact this
 have hcell:∀ x∈sc.names,x.2≠.cell:=λ y hy=>by
  have hcs:=hcs;rw[jg] at hcs;rcases vB hcs y hy with z | z | z <;> rw[z] <;> decide
 refine wpAny_comprehension_free (g:=⟨tgt,it,ifs,0⟩) (gs:=[]) rfl (uM e1 env) hclos hk1 hnames ?_;refine ih _ h A fr d env s _ E l a (.inl hn) (λ v st1 d1 val s1 h1 x1 l1 v1=>?_) qx;unfold kLc at h1;cases hl:listOf? st1.mem v with
 | none=>rw[hl] at h1;exact h1.elim
 | some ts=>
 rw[hl] at h1;obtain⟨hf1,h1⟩:=jn h1;obtain⟨hk,hsz,hcomp⟩:=wF.mp h1;refine xT (tgt:=tgt) l1.core hn v1 hl λ I Sx h2 IT hI k2 hx2 h0=>?_;refine CT (wpAny_newFunctionEnv hcell (by intro y hy;cases hy) (λ h4 hn4 hs4=>?_) hk1);dsimp only at hn4 hs4 ⊢;generalize hh3:h2.push { cls:=.type "list",dict:=none,data:=.seq ([]:List Value).toArray }=h3 at hn4 hs4 ⊢;have hC:h3.objs.size=h2.objs.size+1:=by rw[<- hh3,Heap.size_push]
 generalize hDe:h2.objs.size=D at hC ⊢;generalize hCe:h3.objs.size=C at hn4 hs4 hC ⊢;have lt2:∀ b o,h2.get? b=some o->b<D:=λ b o e=>hDe▸Be e;have hIlt:I<D:=by obtain⟨o,g,_⟩:=hx2;exact lt2 I o g
 have lt1:∀ b o,s1.heap.get? b=some o->b<D:=λ b o e=>lt2 b o (k2 b o e);have hD1:s1.heap.get? D=none:=by
  cases z:s1.heap.get? D with
  | none=>rfl
  | some o=>exact absurd (lt1 _ _ z) (Cl _)
 have hCD:D<C:=by rw[hC];exact CK _
 have hC1:s1.heap.get? C=none:=by
  cases z:s1.heap.get? C with
  | none=>rfl
  | some o=>exact absurd (lt1 _ _ z) (Nat.lt_asymm hCD)
 have hID:D≠I:=(Ba hIlt).symm;have hIC:I≠C:=Ba (Nat.lt_trans hIlt hCD);have hDC:D≠C:=Ba hCD;have k23:∀ b o,h2.get? b=some o->h3.get? b=some o:=λ b o e=>hh3▸BH _ e;have k34:∀ b o,h3.get? b=some o->h4.get? b=some o:=λ b o e=>(hs4.2 b (λ q=>by rw[q,<- hCe] at e;exact absurd (Be e) (Cl _))).trans (BH _ e);have gD:h3.get? D=some { cls:=.type "list",data:=.seq #[] }:=by rw[<- hh3,<- hDe];exact BR _ rfl
 have hC3:h3.get? C=none:=by
  cases z:h3.get? C with
  | none=>rfl
  | some o=>have:=Be z;rw[hCe] at this;exact absurd this (Cl _)
 obtain⟨oI,gI,recI⟩:=hx2;have cP:=l1.core.park;have hw:∀ b∈[I,D],s1.heap.get? b=none:=λ b hb=>by
  rcases BO.mp hb with q | q
  ·rw[q];exact hI
  ·rw[BG.mp q];exact hD1
 obtain⟨fz,hfr,hdP⟩:=wI cP hw;have hx3:∀ b∈[I,D],∃ o,h3.get? b=some o/\zP o:=λ b hb=>by
  rcases BO.mp hb with q | q
  ·rw[q];exact⟨oI,k23 _ _ gI,recI⟩
  ·rw[BG.mp q];exact⟨_,gD,.inr ⟨_,_,rfl⟩⟩
 have c3:jH X ((d1.park s1.heap).pins [I,D] h3) st1.mem fr { s1 with heap:=h3 }:=cP.pins (s':={ s1 with heap:=h3 }) (λ b hb=>⟨(fz b hb).1,.inl (fz b hb).2⟩) hfr hx3 (λ b o _ e=>k23 b o (k2 b o e));have x3:Ex0 (d1.park s1.heap) (jA st1.mem) ((d1.park s1.heap).pins [I,D] h3) (jA st1.mem):=j3 cP (λ b hb=>(fz b hb).1) (λ b o _ e=>k23 b o (k2 b o e));have p3:qP (d1.park s1.heap) [I,D] ((d1.park s1.heap).pins [I,D] h3) h3:=y7 hx3 λ _ _=>rfl;have hfo1:zt st1 (jF sc) (jF sc)=true:=hf1;have hvc:VVC ((d1.park s1.heap).pins [I,D] h3) (jA st1.mem) cl (qT (jF sc) st1.loc):=XV x3 (Zk (l1.frees2 hfo1 hcl));have hcode:codeAny (model X.prog X.w) A (.compStart (.ListComp elt [⟨tgt,it,ifs,0⟩] sc pos) 0 (.ref I) (.ref D) (compEnvC sc cl C env)) (compPost (model X.prog X.w) A E use Qc (.ref D) C) { s1 with heap:=h4,toks:=s1.toks+([]:List (Str×Value)).length }:=by
  obtain⟨lb,xb⟩:=c3.block (s1:={ s1 with heap:=h4,toks:=s1.toks+([]:List (Str×Value)).length }) (env:=compEnvC sc cl C env) k34 hC3 hn4 rfl hk1 (sc:=jF sc) (loc:=qT (jF sc) st1.loc) (cl:=cl)
   (λ x k e=>Q2 e) l1.glob l1.blt rfl hvc (λ x v e=>((zs hfo1).1 x (W5 e).1).1) hcs (fr':=fr) (.inl ⟨rfl,l1.top.1⟩)
  obtain⟨pb,_⟩:=p3.ext xb lb.core;have hst4:Sx 0 (((d1.park s1.heap).pins [I,D] h3).block C h4) st1.mem h4:=by
   refine IT.frame h0 ⟨λ b o e=>?_,λ _ _=>rfl,BN _⟩ λ b hb=>?_
   ·have e:(if b∈[I] then none else match d1.role b with | some _=>none | none=>h2.get? b)=some o:=e;by_cases q:b∈[I]
    ·rw[BJ q] at e;exact nsm e
    ·rw[BE q] at e;cases z:d1.role b with
     | some rr=>rw[z] at e;exact nsm e
     | none=>
       rw[z] at e;have e:h2.get? b=some o:=e;have hbD:=lt2 b o e;have n1:b≠C:=Ba (Nat.lt_trans hbD hCD);have n2:b∉[I,D]:=λ m=>by
        rcases BO.mp m with m | m
        ·exact q (by rw[m];simp)
        ·exact Ba hbD (BG.mp m)
       refine Lay.grow_of (d:={ (d1.park s1.heap).pins [I,D] h3 with role:=λ b=>if b=C then some .loc else((d1.park s1.heap).pins [I,D] h3).role b }) ?_ (k34 _ _ (k23 _ _ e));show(if b=C then some .loc else if b∈[I,D] then some .priv else(d1.park s1.heap).role b)=none;rw[BE n1,BE n2,zZ (by rw[z];decide)];exact z
   ·rw[BG.mp hb,gI];exact k34 _ _ (k23 _ _ gI)
  have hD4:h4.PlainList D #[]:=⟨_,k34 _ _ gD⟩;have loop:codeAny (model X.prog X.w) A (.compLoop (.ListComp elt [⟨tgt,it,ifs,0⟩] sc pos) 0 (.ref I) (.ref D) (compEnvC sc cl C env)) (compPost (model X.prog X.w) A E use Qc (.ref D) C) { s1 with heap:=h4,toks:=s1.toks+([]:List (Str×Value)).length }:=by
   refine comp_loop ok ih IT a hn lb pb hfr hID hst4 hD4 hk hcomp hsz λ lr d2 st2 s2 ys h' tk hkk x2 p2 l2 hDl hv eg eo k'=>?_;have rC2:d2.role C=some .loc:=l2.role;have cu:=l2.core.unpins p2 hfr hdP
   have cl':=cu.loose (wr:=[I]) (s':={ s2 with heap:=h',toks:=tk }) (λ b hb=>by
    have:=uI l2.core p2 b (by rw[BG.mp hb];simp)
    exact this) k'
   have nC:C∉[I,D]:=λ m=>by
    rcases BO.mp m with m | m
    ·exact hIC m.symm
    ·exact hDC (BG.mp m).symm
   have rC:((d1.park s1.heap).unpins [I,D] d2).role C=some .loc:=by
    show(if C∈[I,D] then none else d2.role C)=_;rw[BE nC];exact rC2
   have fC:∀ e∈fr,e.frame≠some C:=λ e he q=>by
    obtain⟨_,L',o',f,_,g,_⟩:=l1.core.fr e he;rw[q] at f;obtain rfl:=B9 f;rw[hC1] at g;exact nsm g
   have cf:=cl'.free rC fC;have x02:Ex0 (d1.park s1.heap) (jA st1.mem) d2 (jA st2.mem):=(x3.trans xb.ex0).trans x2;have xu:Ext (d1.park s1.heap) (jA st1.mem) (((d1.park s1.heap).unpins [I,D] d2).free C) (jA st2.mem):=⟨x02.z,x02.rho,x02.n,rfl⟩;have lu:=l1.unpark cf xu;have xxu:Ext d1 (jA st1.mem) (d1.unpark (((d1.park s1.heap).unpins [I,D] d2).free C)) (jA st2.mem):=wJ (d'':=d1) xu;have nr:∀ b,s1.heap.get? b=none->(d1.unpark (((d1.park s1.heap).unpins [I,D] d2).free C)).role b=(((d1.park s1.heap).unpins [I,D] d2).free C).role b:=λ b hb=>qG (by rw[l1.core.norole hb];decide);have rD:(d1.unpark (((d1.park s1.heap).unpins [I,D] d2).free C)).role D=none:=by
    rw[nr D hD1];show(if D=C then none else if D∈[I,D] then none else d2.role D)=none;rw[BE hDC,BJ (by simp)]
   have zD:d2.Z D=none:=l2.core.zr D _ (p2.role D (by simp));have rCn:(d1.unpark (((d1.park s1.heap).unpins [I,D] d2).free C)).role C=none:=by
    rw[nr C hC1];show(if C=C then none else _)=none;rw[BJ rfl]
   have zC:d2.Z C=none:=l2.core.zr C _ rC2;have lz:=lu.addZ (D:=D) rD zD;have xz:=Yz (d:=d1.unpark (((d1.park s1.heap).unpins [I,D] d2).free C)) (D:=D) (h:=h') (n:=jA st2.mem) zD;obtain⟨nn,gD2⟩:=hDl;refine fin st1 lr st2.mem _ _ D C hkk ((x1.trans xxu).trans xz) lz (.p (.lst (a:=D) (items:=ys) (n:=nn) ?_ (hv.mono xz.z))) rCn ?_ ?_
   ·show(if D=D then h'.get? D else _)=_;rw[BJ rfl];exact k' D _ (by simpa using hID) gD2
   ·show(if C=D then h'.get? C else d2.Z C)=none;rw[BE (DF hDC)];exact zC
   ·obtain⟨m,⟨o,es,ep,g,hr⟩,_⟩:=l2.ns;exact⟨m,o,es,ep,k' _ _ (by simpa using DF hIC) g,hr⟩
  exact codeAny_compStart_list loop (IT.self hst4 loop)
 exact hcode
end
section
variable{X:Run}{r:Nat}{self:jK->Prop}{sp:Addr->Option zM}{A:Around}{fr:List Env}{d:Lay}{env:Env}{s:Shared}{st:St}{E:Value->Shared->Prop}{k:K}{kx:KX}{kf:Fl->St->Prop}
variable(ok:jo X)(ih:∀ t,self t->Den X r t)
include ok ih
theorem ZU{tgt elt it:Expr}{ifs:List Expr}{sc:Scope}{pos:Pos}(h:on ((wA it&&YK tgt)&&scOk sc st) (self (.e it st (kLc self tgt elt ifs (jF sc) k) kx))):Den X (r+1) (.e (.ListComp elt [⟨tgt,it,ifs,0⟩] sc pos) st k kx):=by
 intro A fr d env s Q E l a hh q qx;have a':=a.le (BW r);have hn:=zA hh λ m=>by cases m <;> rfl
 obtain⟨e,h⟩:=jn h;obtain⟨e,e3⟩:=BD.mp e;obtain⟨e1,e2⟩:=BD.mp e;rw[eval_ListComp];show wpAny (model X.prog X.w) A (comprehension (.ListComp elt [⟨tgt,it,ifs,0⟩] sc pos) sc env (firstIterPos [⟨tgt,it,ifs,0⟩] pos) (newList []) false (eval it env) none) Q E s;refine xj ok ih (kk:=k) (use:=none) (Qc:=Q) e1 e3 h l a' hn qx λ st1 lr mem dF sF D C hk x lF hv rC zC hm=>?_;obtain⟨m,hm⟩:=hm;refine⟨m,hm,λ h' hs=>?_⟩;exact q _ (st1.wm mem) dF _ _ hk x (lF.loose (wr:=[C]) (s':={ sF with heap:=h' }) (λ b hb=>by refine rwl (BG.mp hb) ?_;exact⟨zC,rC⟩) (zI hs)) hv
theorem xg{n:Str}{np:Pos}{tgt elt it:Expr}{ifs:List Expr}{sc:Scope}{pos p:Pos}(e4:lk n st.sc=some .local)(h:on ((wA it&&YK tgt)&&scOk sc st) (self (.e it st (kLc self tgt elt ifs (jF sc) (kAN n kf)) kx))):Den X (r+1) (.s (.Assign [.Name n np] (.ListComp elt [⟨tgt,it,ifs,0⟩] sc pos) p) st kf kx):=by
 intro A fr d env s Q E l a hn hf q qx;have a':=a.le (BW r);obtain⟨e,h⟩:=jn h;obtain⟨e,e3⟩:=BD.mp e;obtain⟨e1,e2⟩:=BD.mp e;have hs:=l.isLocal e4;have sw:∃ b,swapsWith (.ListComp elt [⟨tgt,it,ifs,0⟩] sc pos) (some (.Name n np)) p.line env=pure b:=⟨_,rfl⟩;obtain⟨b,hb⟩:=sw;induction b using CM with
 | true=>
   refine rwl (exec_Assign_Name_used _ _ _ _ hb) ?_;refine B0 (CG (B0 ?_));show wpAny (model X.prog X.w) A (do let _ <- comprehension (.ListComp elt [⟨tgt,it,ifs,0⟩] sc pos) sc env _ (newList []) false (eval it env) (some (assign (.Name n np) env))) _ _ s
   refine B0 (CH (xj ok ih (kk:=kAN n kf) (use:=some (assign (.Name n np) env)) (Qc:=λ _ s'=>Q .next s') e1 e3 h l a' hn qx λ st1 lr mem dF sF D C hk x lF hv rC zC hm=>?_)
    (λ _ s' hq=>BC (BC hq)) λ _ _ e=>e)
   obtain⟨m,hm⟩:=hm;show wpAny (model X.prog X.w) A (assign (.Name n np) env (.ref D)) _ _ sF;obtain⟨m1,hm1,_⟩:=lF.ns;have hLC:C≠env.locals:=λ z=>by(replace rC:=z▸rC;replace rC:=lF.role▸rC);exact snm rC
   refine wpAny_assign_Name (wpAny_storeName_local hs hm1 (λ h' hn' hs'=>?_) (by refine rwl lF.kind ?_;rfl));have l2:=lF.bind (s':={ sF with heap:=h',toks:=sF.toks+1 }) hs hv hm1 hn' hs';refine⟨m,hm.sameBut hs' hLC,λ h2 hs2=>?_⟩;exact q .next _ dF .next _ hk x (l2.loose (wr:=[C]) (s':={ sF with heap:=h2,toks:=sF.toks+1 }) (λ b hb=>by refine rwl (BG.mp hb) ?_;exact⟨zC,rC⟩) (zI hs2)) .next
 | false=>
   rw[arm_exec_Assign];refine B0 (CG ?_);refine rwl (show swapsWithSole [Expr.Name n np] (.ListComp elt [⟨tgt,it,ifs,0⟩] sc pos) p.line env=pure false from hb) ?_;refine B0 (BC ?_);refine rwl (BE (by decide)) ?_;rw[eval_ListComp];refine B0 ?_;show wpAny (model X.prog X.w) A (comprehension (.ListComp elt [⟨tgt,it,ifs,0⟩] sc pos) sc env (firstIterPos [⟨tgt,it,ifs,0⟩] pos) (newList []) false (eval it env) none) _ E s;refine xj ok ih (kk:=kAN n kf) (use:=none) e1 e3 h l a' hn qx λ st1 lr mem dF sF D C hk x lF hv rC zC hm=>?_;obtain⟨m,hm⟩:=hm;refine⟨m,hm,λ h' hs2=>?_⟩;have l2:=lF.loose (wr:=[C]) (s':={ sF with heap:=h' }) (λ b hb=>by refine rwl (BG.mp hb) ?_;exact⟨zC,rC⟩) (zI hs2);refine B0 (BC ?_);show wpAny (model X.prog X.w) A (do assignAll (.ref D) [assign (.Name n np) env];pure Flow.next) Q E _;obtain⟨m1,hm1,_⟩:=l2.ns;refine B0 (wpAny_assign_Name (wpAny_storeName_local hs hm1 (λ h3 hn' hs'=>BC ?_) (by refine rwl l2.kind ?_;rfl)));exact q .next _ dF .next _ hk x (l2.bind (s':={ sF with heap:=h3,toks:=sF.toks+1 }) hs hv hm1 hn' hs') .next
end
structure jv(X:Run):Prop where
 o1:jo X
 o2:UV X
 o3:RunOk3 X
 o4:RunOk4 X
 o5:RunOk5 X
section
variable{X:Run}{r:Nat}{self:jK->Prop}{sp:Addr->Option zM}{A:Around}{fr:List Env}{d:Lay}{env:Env}{s:Shared}{st:St}{k:K}{kx:KX}{kf:Fl->St->Prop}
theorem den_Dict(ok:jo X){p:Pos}(h:jl self sp (.Dict [] [] p) st k kx):Den X (r+1) (.e (.Dict [] [] p) st k kx):=by
 intro A fr d env s Q E l a hh q qx;refine wpAny_Dict_empty ?_;have ha:s.heap.get? s.heap.objs.size=none:=CU (BN _);have hn:(s.heap.push (wO #[] 0)).get? s.heap.objs.size=some (wO #[] 0):=BR _ rfl;have hrho:(d.own (jA st.mem) s.heap.objs.size s.heap.objs.size).rho (jA st.mem)=s.heap.objs.size:=BJ rfl;have x0:=l.core.own_ext ha ha;have hsz:s.heap.objs.size≠sysModules:=by
  obtain⟨o,g⟩:=l.core.rin _ _ l.core.tab.1;have:=Be g;show s.heap.objs.size≠1;have t:qA=1016:=rfl;rw[t] at this;intro q;rw[q] at this;exact absurd this (by decide)
 have l':=l.own (mo:=.dict [] 0) (s':={ s with heap:=s.heap.push (wO #[] 0) }) (λ b o e=>BH _ e) ha ha ⟨_,hn⟩ ⟨_,hn⟩ ⟨by rw[hrho];exact own_a,by rw[hrho];exact hsz,#[],by rw[hrho];exact hn,.nil⟩;have x1:Ext d (jA st.mem) (d.own (jA st.mem) s.heap.objs.size s.heap.objs.size) (jA (st.wm (jU st.mem (.dict [] 0))).mem):=by
  show Ext d _ _ (jA (jU st.mem _));rw[jI];exact x0
 refine q _ _ _ _ _ h x1 l' ?_;have:VV (d.own (jA st.mem) s.heap.objs.size s.heap.objs.size) (jA (st.wm (jU st.mem (.dict [] 0))).mem) (.m (jA st.mem)) (.ref ((d.own (jA st.mem) s.heap.objs.size s.heap.objs.size).rho (jA st.mem))):=
  .m (by show _<jA (jU st.mem _);rw[jI];exact CK _)
 rwa [hrho] at this
variable(ok:jv X)(ih:∀ t,self t->Den X r t)(hst:qt self)(hsl:∀ a b c p st k kx,self (.e (.Slice a b c p) st k kx)->False)
include ok ih hst hsl
omit ok ih hst hsl in
theorem Uo{elt:Expr}{gens:List Comprehension}{sc:Scope}(h:lcpS self elt gens sc st k kx):Ex3 λ tgt it ifs=>gens=[⟨tgt,it,ifs,0⟩]/\on ((wA it&&YK tgt)&&scOk sc st) (self (.e it st (kLc self tgt elt ifs (jF sc) k) kx)):=by
 induction gens using BA with
 | nil=>exact fe h
 | cons g gs=>induction gs using BA with
   | cons=>exact fe h
   | nil=>
     obtain⟨t,i,f,n⟩:=g;obtain⟨e,h⟩:=jn (show on (Nat.beq n.natAbs 0) _ from h);have e:=Int.natAbs_eq_zero.mp (Di e);subst e;exact⟨t,i,f,rfl,h⟩
theorem den_Call{f:Expr}{args:List Expr}{p:Pos}(h:caS self f args p st k kx):Den X (r+1) (.e (.Call f args [] p) st k kx):=by
 induction f using Bd with
 | Name n np=>exact ZW (sp:=λ _=>none) ok.o1 ih (lamCall ok.o1 ih) h
 | Attribute o n np=>exact ZX (sp:=λ _=>none) ok.o1 ih h
 | _=>exact fe h
theorem den_expr{x:Expr}(h:jl self sp x st k kx):Den X (r+1) (.e x st k kx):=by
 induction x using Bd with
 | Constant c kd p=>exact λ A fr d env s Q E l a hh q qx=>den_const h l q
 | Name n p=>exact λ A fr d env s Q E l a hh q qx=>den_name ok.o1 h l q
 | BinOp a op b p=>exact den_BinOp ok.o1 ih h
 | UnaryOp op y p=>exact Yj ok.o1 ih h
 | BoolOp op vs p=>exact UN ok.o1 ih h
 | Compare a ops cs p=>exact Yk ok.o1 ih h
 | IfExp t b o p=>exact den_IfExp ok.o1 ih h
 | Attribute o n p=>exact J2 ok.o1 ih h
 | Subscript o i p=>exact J1 ok.o1 ih h
 | List es p=>exact den_List ok.o1 ih h
 | Tuple es c p=>exact den_Tuple ok.o1 ih h
 | Lambda as b sc p=>exact UM ok.o1 ok.o5 ih h
 | Dict ks vs p=>
   induction ks using BA with
   | cons=>exact fe h
   | nil=>
     induction vs using BA with
     | cons=>exact fe h
     | nil=>exact den_Dict ok.o1 h
 | ListComp elt gens sc p=>
   obtain⟨tgt,it,ifs,rfl,h⟩:=Uo h;exact ZU ok.o1 ih h
 | Call f args kws p=>
   induction kws using BA with
   | cons=>exact fe h
   | nil=>exact den_Call ok ih hst hsl h
 | _=>exact fe h
theorem ZT{t e:Expr}{p:Pos}(ht:(tin 2 2 t&&tin 2 2 e)=false)(h:as1 self t e st kf kx):Den X (r+1) (.s (.Assign [t] e p) st kf kx):=Ym ok.o1 ih ht h
theorem den_asS{t e:Expr}{p:Pos}(h:asS self t e st kf kx):Den X (r+1) (.s (.Assign [t] e p) st kf kx):=by
 induction t using Bd with
 | Tuple ts c p=>induction e using Bd with
   | Tuple es c' p'=>exact Yl ok.o1 ih h
   | _=>exact ZT ok ih hst hsl rfl h
 | Name n p=>induction e using Bd with
   | ListComp elt gens sc p'=>
     obtain⟨e4,h⟩:=YL h;obtain⟨tgt,it,ifs,rfl,h⟩:=Uo h;exact xg ok.o1 ih e4 h
   | _=>exact ZT ok ih hst hsl rfl h
 | _=>exact ZT ok ih hst hsl rfl h
theorem den_raise{e:Option Expr}{p:Pos}(h:yK e λ e=>raS self e st kx):Den X (r+1) (.s (.Raise e none p) st kf kx):=by
 induction e using BU with
 | none=>exact fe h
 | some e=>
 have h:raS self e st kx:=h;unfold raS at h;cases e1:uE e with
 | none=>rw[e1] at h;exact h.elim
 | some q=>
   obtain⟨f,as,ks⟩:=q;rw[e1] at h;induction ks using BA with
   | cons=>exact fe h
   | nil=>
     have h:(match zi f with | .some X=>raN self X as st kx | .none=>False):=h;cases e2:zi f with
     | none=>rw[e2] at h;exact h.elim
     | some x=>
       rw[e2] at h;obtain⟨cp,rfl⟩:=uY e1;obtain⟨np,rfl⟩:=wC e2;exact den_Raise ok.o1 ok.o4 ih h
theorem den_stmt{x:Stmt}(h:yS self x st kf kx):Den X (r+1) (.s x st kf kx):=by
 induction x using Stmt.casesOn with
 | Return o p=>exact UL ok.o1 ih h
 | If t b o p=>exact den_If ok.o1 ih h
 | Expr e p=>exact den_Expr ok.o1 ih h
 | AugAssign t op e p=>
   induction t using Bd with
   | Name n np=>induction op using Operator.casesOn with
     | Add=>exact den_Aug ok.o1 ih h
     | _=>exact fe h
   | _=>exact fe h
 | For t it b o p=>
   induction o using BA with
   | nil=>exact den_For ok.o1 ih h
   | cons=>exact fe h
 | While c b o p=>
   induction o using BA with
   | nil=>exact den_While ok.o1 ih h
   | cons=>exact fe h
 | Raise e c p=>
   induction c using BU with
   | some=>exact fe h
   | none=>exact den_raise ok ih hst hsl h
 | Try b hs o f p=>
   induction hs using BA with
   | nil=>exact fe h
   | cons h0 hs=>
     induction o using BA with
     | cons=>exact fe h
     | nil=>induction f using BA with
       | cons=>exact fe h
       | nil=>exact den_Try ok.o1 ok.o3 ih h
 | Continue p=>exact ZV ok.o1 ih h
 | Break p=>exact den_Break ok.o1 ih h
 | Pass p=>exact den_Pass ok.o1 ih h
 | Assign ts e p=>induction ts using BA with
   | nil=>exact fe h
   | cons t ts=>induction ts using BA with
     | cons=>exact fe h
     | nil=>exact den_asS ok ih hst hsl h
 | _=>exact fe h
end
def jN(X:Run)(sp:Addr->Option zM)(R:Nat):Prop:=∀ f F,sp f=some F->∀ args mem k kx,F args mem k kx->Den X R (.call f args mem k kx)
theorem ev_star(sp:Addr->Option zM)(n:Nat):qt (ev sp n):=λ x p st k kx h=>by
 cases n <;> exact h
theorem ev_slice(sp:Addr->Option zM)(n:Nat):∀ a b c p st k kx,ev sp n (.e (.Slice a b c p) st k kx)->False:=λ a b c p st k kx h=>by
 cases n <;> exact h
theorem sound{X:Run}(ok:jv X){sp:Addr->Option zM}{R:Nat}(hsp:jN X sp R)(n:Nat)(t:jK)(h:ev sp n t):Den X (n+R) t:=by
 induction n generalizing t with
 | zero=>exact False.elim h
 | succ n ih=>
   have hst:=ev_star sp n;have hsl:=ev_slice sp n;rw[Cf];have h:JA sp (ev sp n) t:=h;induction t using jK.casesOn with
   | e x st k kx=>exact den_expr (sp:=sp) ok ih hst hsl h
   | es xs st k kx=>
     induction xs using BA with
     | nil=>exact λ A fr d env s pos Q E l a hh q qx=>spliced_none (q [] st d [] s h (.refl _ _) l .nil)
     | cons x xs=>exact(den_es ih hst h).mono (BW _)
   | cmp v ops cs st k kx=>exact den_cmp (sp:=sp) ok.o1 ih h
   | tc v ops cs st k kx=>exact den_tc (sp:=sp) ok.o1 ih h
   | bo op xs st k kx=>exact den_bo (sp:=sp) ok.o1 ih h
   | t x st k kx=>exact den_t (sp:=sp) ok.o1 ih h
   | ts op xs st k kx=>exact den_ts (sp:=sp) ok.o1 ih h
   | asg tgt v st k kx=>exact den_asg (sp:=sp) ok.o1 ih h
   | asgs tgts vs st k kx=>exact den_asgs (sp:=sp) ok.o1 ih h
   | s x st k kx=>exact den_stmt ok ih hst hsl h
   | ss xs st k kx=>exact den_ss (sp:=sp) ok.o1 ih h
   | call f args mem k kx=>exact den_call ok.o1 ok.o2 ih (λ f F e args mem k kx hF=>(hsp f F e args mem k kx hF).mono (by lia)) h
noncomputable def KP (P:Params):Frag:=[(20,o20),(21,o21),(34,o34),(35,o35),(37,o37 P),(38,zO P),(50,o50 P),(51,o51),(62,o62 P),(63,o63),(74,o74 P),(75,o75),(83,o83),(84,o84),(90,o90),(91,o91),(97,o97),(98,o98),(104,o104),(105,o105),(111,o111),(112,o112),(118,o118),(119,o119),(120,o120),(126,o126),(127,o127),(128,o128),(134,o134),(135,o135),(143,o143),(149,o149),(150,o150),(156,o156),(157,o157),(163,o163),(164,o164),(170,o170),(171,o171),(177,o177),(178,o178),(184,o184),(185,o185),(187,o187 P),(188,o188),(198,o198),(199,o199),(205,o205),(206,o206),(212,o212),(213,o213),(219,o219),(220,o220),(226,o226),(227,o227),(233,o233),(234,o234),(240,o240),(241,o241),(247,o247),(248,o248),(254,o254),(255,o255),(261,o261),(262,o262),(268,o268),(269,o269),(275,o275),(276,o276),(282,o282),(283,o283),(287,o287),(288,o288),(294,o294),(295,o295),(301,o301),(302,o302),(308,o308),(309,o309),(315,o315),(316,o316),(322,o322),(323,o323),(329,o329),(330,o330),(336,o336),(337,o337),(343,o343),(344,o344),(350,o350),(351,o351),(359,o359),(365,o365),(366,o366),(372,o372),(373,o373),(379,o379),(380,o380),(382,o382 P),(383,o383),(400,o400),(401,o401),(407,o407),(408,o408),(414,o414),(415,o415),(421,o421),(422,o422),(428,o428),(429,o429),(431,o431 P),(432,o432),(442,o442),(443,o443),(456,o456),(457,o457),(463,o463),(464,o464),(470,o470),(471,o471),(477,o477),(478,o478),(484,o484),(485,o485),(491,o491),(492,o492),(498,o498),(499,o499),(505,o505),(506,o506),(512,o512),(513,o513),(515,o515 P),(516,o516),(533,o533),(534,o534),(536,o536 P),(537,o537),(547,o547),(548,o548),(556,o556),(562,o562),(563,o563),(569,o569),(570,o570),(576,o576),(577,o577),(583,o583),(584,o584),(588,o588),(589,o589),(595,o595),(596,o596),(602,o602),(603,o603),(609,o609),(610,o610),(616,o616),(617,o617),(623,o623),(624,o624),(630,o630),(631,o631),(637,o637),(638,o638),(644,o644),(645,o645),(646,o646),(652,o652),(653,o653),(659,o659),(660,o660),(666,o666),(667,o667),(669,o669 P),(670,o670),(687,o687),(688,o688),(694,o694),(695,o695),(701,o701),(702,o702),(708,o708),(709,o709),(715,o715),(716,o716),(718,o718 P),(719,o719),(736,o736),(737,o737),(743,o743),(744,o744),(750,o750),(751,o751),(757,o757),(758,o758),(762,o762),(763,o763),(769,o769),(770,o770),(772,o772 P),(773,o773),(783,o783),(784,o784),(790,o790),(791,o791),(797,o797),(798,o798),(806,o806),(812,o812),(813,o813),(819,o819),(820,o820),(824,o824),(825,o825),(831,o831),(832,o832),(838,o838),(839,o839),(845,o845),(846,o846),(852,o852),(853,o853),(855,o855 P),(856,o856),(866,o866),(867,o867),(873,o873),(874,o874),(880,o880),(881,o881),(887,o887),(888,o888),(892,o892),(893,o893),(899,o899),(900,o900),(904,o904),(905,o905),(911,o911),(912,o912),(918,o918),(919,o919),(923,o923),(924,o924),(930,o930),(931,o931),(937,o937),(938,o938),(944,o944),(945,o945),(951,o951),(952,o952),(956,o956),(957,o957),(963,o963),(964,o964),(968,o968),(969,o969),(973,o973),(974,o974),(978,o978),(979,o979),(985,o985),(986,o986),(992,o992),(993,o993),(999,o999),(1000,o1000),(1006,o1006),(1007,o1007),(1013,o1013),(1014,o1014),(1018,o1018),(1019,o1019),(1023,o1023),(1024,o1024),(1030,o1030),(1031,o1031)]
theorem KP_keys(P:Params):[20,21,34,35,37,38,50,51,62,63,74,75,83,84,90,91,97,98,104,105,111,112,118,119,120,126,127,128,134,135,143,149,150,156,157,163,164,170,171,177,178,184,185,187,188,198,199,205,206,212,213,219,220,226,227,233,234,240,241,247,248,254,255,261,262,268,269,275,276,282,283,287,288,294,295,301,302,308,309,315,316,322,323,329,330,336,337,343,344,350,351,359,365,366,372,373,379,380,382,383,400,401,407,408,414,415,421,422,428,429,431,432,442,443,456,457,463,464,470,471,477,478,484,485,491,492,498,499,505,506,512,513,515,516,533,534,536,537,547,548,556,562,563,569,570,576,577,583,584,588,589,595,596,602,603,609,610,616,617,623,624,630,631,637,638,644,645,646,652,653,659,660,666,667,669,670,687,688,694,695,701,702,708,709,715,716,718,719,736,737,743,744,750,751,757,758,762,763,769,770,772,773,783,784,790,791,797,798,806,812,813,819,820,824,825,831,832,838,839,845,846,852,853,855,856,866,867,873,874,880,881,887,888,892,893,899,900,904,905,911,912,918,919,923,924,930,931,937,938,944,945,951,952,956,957,963,964,968,969,973,974,978,979,985,986,992,993,999,1000,1006,1007,1013,1014,1018,1019,1023,1024,1030,1031]=(KP P).map (·.1):=by kernel_rfl
theorem KP_get(P:Params):([20,21,34,35,37,38,50,51,62,63,74,75,83,84,90,91,97,98,104,105,111,112,118,119,120,126,127,128,134,135,143,149,150,156,157,163,164,170,171,177,178,184,185,187,188,198,199,205,206,212,213,219,220,226,227,233,234,240,241,247,248,254,255,261,262,268,269,275,276,282,283,287,288,294,295,301,302,308,309,315,316,322,323,329,330,336,337,343,344,350,351,359,365,366,372,373,379,380,382,383,400,401,407,408,414,415,421,422,428,429,431,432,442,443,456,457,463,464,470,471,477,478,484,485,491,492,498,499,505,506,512,513,515,516,533,534,536,537,547,548,556,562,563,569,570,576,577,583,584,588,589,595,596,602,603,609,610,616,617,623,624,630,631,637,638,644,645,646,652,653,659,660,666,667,669,670,687,688,694,695,701,702,708,709,715,716,718,719,736,737,743,744,750,751,757,758,762,763,769,770,772,773,783,784,790,791,797,798,806,812,813,819,820,824,825,831,832,838,839,845,846,852,853,855,856,866,867,873,874,880,881,887,888,892,893,899,900,904,905,911,912,918,919,923,924,930,931,937,938,944,945,951,952,956,957,963,964,968,969,973,974,978,979,985,986,992,993,999,1000,1006,1007,1013,1014,1018,1019,1023,1024,1030,1031]:List Addr).map (H1 P).get?=(KP P).map (λ p=>some p.2):=by kernel_rfl
theorem KP_in(P:Params):(KP P).In (H1 P):=Frag.in_of (KP_keys P) (KP_get P)
theorem KP_tab(P:Params):(KP P).lookup 1016=none:=by kernel_rfl
noncomputable def ZZ (K:Frag) (C:Addr):Option (Option Value)×Option (Option Value)×Option (Option Value)×Bool×Bool:=
 (findIn K (.ref C) "__getattribute__",findIn K (.ref C) "__getattr__",findIn K (.ref C) "__setattr__",plainOver K C,hasDictIn K C)
noncomputable def un:Option (Option Value)×Option (Option Value)×Option (Option Value)×Bool×Bool:=
 (some (some (.builtin "object.__getattribute__")),some none,some (some (.builtin "object.__setattr__")),true,true)
theorem cls_at(P:Params):atT.map (λ x=>ZZ (KP P) x.1)=atT.map λ _=>un:=by kernel_rfl
theorem cls_mt(P:Params):mtT.map (λ x=>ZZ (KP P) x.1)=mtT.map λ _=>un:=by kernel_rfl
noncomputable def attrB (K:Frag) (C:Addr) (n:Str):Bool:=(match findIn K (.ref C) n with | some attr=>noGet K attr | none=>false)&&(match takerIn K C n with | some none=>true | _=>false)
theorem attr_all(P:Params):(atT.all λ x=>x.2.all λ n=>attrB (KP P) x.1 n)=true:=by kernel_rfl
theorem meth_all(P:Params):mtT.map (λ x=>x.2.map λ y=>(findIn (KP P) (.ref x.1) y.1,typeIn (KP P) (.ref y.2),keepIn (KP P) (.ref y.2)))=mtT.map λ x=>x.2.map λ y=>(some (some (.ref y.2)),some (.type "function"),true):=by kernel_rfl
theorem cal_fn(P:Params):(fnT.all λ x=>keepIn (KP P) (.ref x.1))=true:=by kernel_rfl
theorem cal_cl(P:Params):(clT.all λ x=>keepIn (KP P) (.ref x.1))=true:=by kernel_rfl
theorem cl_all(P:Params):clT.map (λ x=>(makesIn (KP P) x.1,findIn (KP P) (.ref x.1) "__init__",typeIn (KP P) (.ref x.2)))=clT.map λ x=>(true,some (some (.ref x.2)),some (.type "function")):=by kernel_rfl
theorem exm_all(P:Params):([51,63,75]:List Addr).map (λ C=>([51,63,75]:List Addr).map λ D=>exmOne (KP P) (.ref C) (.ref D))=([51,63,75]:List Addr).map λ C=>([51,63,75]:List Addr).map λ D=>some (Nat.beq C D):=by kernel_rfl
noncomputable def xF {α:Type} (o:Option α) (g:α->Bool):Bool:=match o with
 | some a=>g a
 | none=>false
theorem zY{α:Type}{o:Option α}{g:α->Bool}(h:xF o g=true):∃ a,o=some a/\g a=true:=by
 induction o using BU with
 | none=>exact ff h
 | some a=>exact⟨a,rfl,h⟩
noncomputable def optO {α β:Type} (o:Option α) (g:α->Option β):Option β:=match o with
 | some a=>g a
 | none=>none
theorem Q6{α β:Type}{o:Option α}{g:α->Option β}{b:β}(h:optO o g=some b):∃ a,o=some a/\g a=some b:=by
 induction o using BU with
 | none=>exact nsm h
 | some a=>exact⟨a,rfl,h⟩
noncomputable def funcD:Data->Option FuncData
 | .func fd=>some fd
 | _=>none
theorem funcD_of{d:Data}{fd:FuncData}(h:funcD d=some fd):d=.func fd:=by
 induction d using Data.casesOn with
 | func f=>exact Bo Data.func (B9 h)
 | _=>exact nsm h
noncomputable def XA:Data->Option (Array Value)
 | .fields vs=>some vs
 | _=>none
theorem W9{d:Data}{vs:Array Value}(h:XA d=some vs):d=.fields vs:=by
 induction d using Data.casesOn with
 | fields f=>exact Bo Data.fields (B9 h)
 | _=>exact nsm h
noncomputable def refV:Value->Option Addr
 | .ref a=>some a
 | _=>none
theorem refV_of{v:Value}{a:Addr}(h:refV v=some a):v=.ref a:=by
 induction v using Value.casesOn with
 | ref b=>exact Bo Value.ref (B9 h)
 | _=>exact nsm h
noncomputable def strV:Value->Option Str
 | .str q _=>some q
 | _=>none
theorem strV_of{v:Value}{q:Str}(h:strV v=some q):∃ t,v=.str q t:=by
 induction v using Value.casesOn with
 | str b t=>exact⟨t,Bo (Value.str · t) (B9 h)⟩
 | _=>exact nsm h
noncomputable def snd? {α:Type}:List α->Option α
 | []=>none
 | _::r=>match r with
   | []=>none
   | b::_=>some b
theorem snd_of{α:Type}{l:List α}{b:α}(h:snd? l=some b):l[1]?=some b:=by
 induction l using BA with
 | nil=>exact nsm h
 | cons a r=>induction r using BA with
   | nil=>exact nsm h
   | cons c q=>exact h
noncomputable def fdAt (K:Frag) (f:Addr):Option FuncData:=optO (K.lookup f) λ o=>funcD o.data
noncomputable def fnRow (K:Frag) (f:Addr):Option (Arguments×FuncBody×Scope×Addr×List (Str×Addr)×Addr):=optO (fdAt K f) λ fd=>some (fd.params,fd.body,fd.scope,fd.globals,fd.closure,fd.builtins)
theorem fn_rows(P:Params):fnT.map (λ x=>fnRow (KP P) x.1)=fnT.map λ x=>some (qY x.2.1,.stmts (wP x.2.1),je x.2.1,mainGlobals,[],builtinsNs):=by kernel_rfl
noncomputable def codeC (K:Frag) (fd:FuncData):Bool:=xF (refV fd.code) λ c=>xF (K.lookup c) λ o=>xF (XA o.data) λ vs=>xF (snd? vs.toList) λ v=>xF (strV v) λ q=>seq q fd.qualname
noncomputable def codeB (K:Frag) (f:Addr):Bool:=xF (fdAt K f) (codeC K)
theorem code_all(P:Params):(fnT.all λ x=>codeB (KP P) x.1)=true:=by kernel_rfl
noncomputable def vr1 (t:T) (v:Value):Bool:=match t with
 | .int i=>(match v with
   | .int j _=>i == j
   | _=>false)
 | .bool i=>(match v with
   | .bool j=>i == j
   | _=>false)
 | .bytes b=>(match v with
   | .bytes c _=>yr b&&yr c.toList
   | _=>false)
 | _=>false
noncomputable def vrB:List T->List Value->Bool
 | [],vs=>yr vs
 | t::r,vs=>match vs with
   | []=>false
   | v::q=>vr1 t v&&vrB r q
noncomputable def seqD:Data->Option (Array Value×Nat)
 | .seq a n=>some (a,n)
 | _=>none
theorem seqD_of{d:Data}{x:Array Value×Nat}(h:seqD d=some x):d=.seq x.1 x.2:=by
 induction d using Data.casesOn with
 | seq a n=>obtain rfl:=B9 h;rfl
 | _=>exact nsm h
noncomputable def typV:Value->Option String
 | .type q=>some q
 | _=>none
theorem typV_of{v:Value}{q:String}(h:typV v=some q):v=.type q:=by
 induction v using Value.casesOn with
 | type b=>exact Bo Value.type (B9 h)
 | _=>exact nsm h
noncomputable def dfltO (o:Obj) (ds:List T):Bool:=xF (typV o.cls) λ q=>q == "tuple"&&(o.dict.isNone&&(yr o.slots.toList&&xF (seqD o.data) λ x=>vrB ds x.1.toList&&!yr x.1.toList))
noncomputable def dfltC (K:Frag) (v:Value) (ds:List T):Bool:=match v with
 | .none=>yr ds
 | .ref t=>xF (K.lookup t) λ o=>dfltO o ds
 | _=>false
noncomputable def dfltB (K:Frag) (f:Addr) (ds:List T):Bool:=xF (fdAt K f) λ fd=>dfltC K fd.defaults ds
theorem dflt_all(P:Params):(fnT.all λ x=>dfltB (KP P) x.1 x.2.2)=true:=by kernel_rfl
noncomputable def xI (x:Str):List Str->Bool
 | []=>true
 | y::r=>!seq x y&&xI x r
noncomputable def ZA:List Str->Bool
 | []=>true
 | x::r=>xI x r&&ZA r
noncomputable def fnStat (s:Stmt) (ds:List T):Bool:=
 y6 (qY s)&&ZA (js (qY s).args)&&scFn (je s)&&((js (qY s).args).all λ x=>match lk x (jF (je s)) with | some .local=>true | some .cell=>true | _=>false)&&Nat.ble ds.length (qY s).args.length
theorem stat_all:(fnT.all λ x=>fnStat x.2.1 x.2.2)=true:=by kernel_rfl
noncomputable def ZK (P:Params):Array DictEntry:=((qg P (.str qm 1431)).take 112).toArray
theorem Ul(P:Params):(H1 P).get? 3=some ⟨.type q5,.none,.dict (ZK P) 112,#[]⟩:=by kernel_rfl
theorem gl_all(P:Params):glT.map (λ x=>nsFind (ZK P) x.1)=glT.map λ x=>some x.2:=by kernel_rfl
theorem bl_none(P:Params):blT.map (λ x=>nsFind (ZK P) x.1)=blT.map λ _=>none:=by kernel_rfl
theorem bl_boot:blT.map (λ x=>bootBuiltins x.1)=blT.map λ x=>some (biV x.2):=by kernel_rfl
theorem bl_name:(blT.all λ x=>!seq x.1 n2)=true:=by kernel_rfl
theorem n2_name:n2=("__name__":Str):=by kernel_rfl
theorem gl_ok:(glT.all λ x=>okV x.2)=true:=by kernel_rfl
theorem importsN:importsNone qn=true:=by kernel_rfl
theorem tree0:rwn.row.prog.given.tree=none:=by kernel_rfl
theorem vk(P:Params):(H1 P).get? 1016=some (tabObj #[]):=by kernel_rfl
theorem hd_in(P:Params):codeHdIn (KP P) 1018 1016=true:=by kernel_rfl
noncomputable def codeOf (K:Frag) (f:Addr):Option Value:=optO (fdAt K f) λ fd=>some fd.code
theorem code_out(P:Params):codeOf (KP P) 1019=some (.ref 1018):=by kernel_rfl
noncomputable def scEq:List (Str×NameKind)->List (Str×NameKind)->Bool
 | [],[]=>true
 | (x,_)::r,(y,_)::q=>seq x y&&scEq r q
 | _,_=>false
theorem QH:∀ l,scEq l l=true
 | []=>rfl
 | (x,_)::r=>by show(seq x x&&scEq r r)=true;refine rwl (qc.mpr rfl) (rwl (QH r) ?_);rfl
theorem out_only:(fnT.all λ x=>Nat.beq x.1 1019||!scEq (jF (je x.2.1)) vK)=true:=by kernel_rfl
theorem init_fn:lkN 35 fnT=some (mt 2 0,[]):=by kernel_rfl
theorem init_body:wP (mt 2 0)=[.Assign [.Attribute (.Name n4 ⟨8,8,8,12⟩) n5 ⟨8,8,8,20⟩] (.Name n5 ⟨8,23,8,30⟩) ⟨8,8,8,30⟩]:=by kernel_rfl
theorem init_args:js (qY (mt 2 0)).args=[n4,n5]:=by kernel_rfl
theorem vA:(je (mt 2 0)).names=[(n4,.local),(n5,.local)]:=by kernel_rfl
theorem n4n5:seq n4 n5=false:=by kernel_rfl
theorem ok4:y9 n4=true:=by kernel_rfl
theorem ok5:y9 n5=true:=by kernel_rfl
noncomputable def excRow (K:Frag) (C:Addr):=(findIn K (.ref C) "__init__",typeIn K (.ref 35),findIn K (.ref C) "__setattr__",mroIn K C (.type "object"),findIn K (.ref C) n5,keepIn K (.ref C))
theorem exc_rows(P:Params):([51,63,75]:List Addr).map (excRow (KP P))=([51,63,75]:List Addr).map λ _=>(some (some (.ref 35)),some (.type "function"),some (some (.builtin "object.__setattr__")),some true,some none,true):=by kernel_rfl
noncomputable def exO (C N:Addr) (nm:Str) (k0 k1 k2 k3 k5:Option Value):Obj:=excClassObj nm nm C N [.ref 38] [.ref 38,.type "Exception",.type "BaseException",.type "object"] true [] [] false .none .none k0 k1 k2 k3 k5 "Exception.__new__"
theorem exc51(P:Params):(KP P).lookup 51=some (exO 51 50 n9 (.some (.ref 42)) .none (.some (.str n9 225)) (.some (.str n9 233)) (.some (.bool true))):=by kernel_rfl
theorem exc63(P:Params):(KP P).lookup 63=some (exO 63 62 n10 (.some (.ref 54)) .none (.some (.str n10 241)) (.some (.str n10 249)) (.some (.bool true))):=by kernel_rfl
theorem exc75(P:Params):(KP P).lookup 75=some (exO 75 74 n11 (.some (.ref 66)) .none (.some (.str n11 257)) (.some (.str n11 265)) (.some (.bool true))):=by kernel_rfl
set_option tactic.hygienic true in
theorem wa{α:Type}{x:Nat}{v:α}:∀{l:List (Nat×α)},lkN x l=some v->(x,v)∈l:=by
 intro l;induction l with
 | nil=>
   intro h;exact nsm h
 | cons qp r ih=>
   obtain⟨y,u⟩:=qp;intro h;have h:(match Nat.beq x y with | true=>Option.some u | false=>lkN x r)=some v:=h;split at h
   ·rename_i q;obtain rfl:=B9 h;refine rwl (Di q) ?_;exact .head _
   ·exact .tail _ (ih h)
theorem zj{α β:Type}{f g:α->β}{l:List α}(h:l.map f=l.map g){x:α}(hx:x∈l):f x=g x:=List.map_inj_left.mp h x hx
theorem memS_mem{x:Str}:∀{l:List Str},memS x l=true->x∈l:=by
 intro l;induction l with
 | nil=>
   intro h;exact ff h
 | cons y r ih=>
   intro h;have h:(seq x y||memS x r)=true:=h;rcases Bool.or_eq_true_iff.mp h with h | h
   ·refine rwl (qc.mp h) ?_;exact .head _
   ·exact .tail _ (ih h)
theorem Z6{x:Str}:∀{l:List Str},xI x l=true->x∉l:=by
 intro l;induction l with
 | nil=>
   intro _ h;cases h
 | cons y r ih=>
   intro h hx;have h:(!seq x y&&xI x r)=true:=h;obtain⟨h1,h2⟩:=BD.mp h;rcases BO.mp hx with e | hx
   ·replace h1:=(qc.mpr e)▸h1;exact ff h1
   ·exact ih h2 hx
theorem Z7:∀{l:List Str},ZA l=true->l.Nodup:=by
 intro l;induction l with
 | nil=>
   intro _;exact .nil
 | cons x r ih=>
   intro h;have h:(xI x r&&ZA r)=true:=h;obtain⟨h1,h2⟩:=BD.mp h;exact D3.mpr ⟨Z6 h1,ih h2⟩
theorem xJ{α:Type}{l:List α}(h:yr l=true):l=[]:=by
 induction l using BA with
 | nil=>rfl
 | cons=>exact ff h
theorem vr1_spec{Z:FZ}{t:T}{v:Value}(h:vr1 t v=true):VR Z t v:=by
 induction t using Dq with
 | int i=>induction v using Value.casesOn with
   | int j t=>exact rwl (eq_of_beq (α:=Int) h) (.int _ _)
   | _=>exact ff h
 | bool i=>induction v using Value.casesOn with
   | bool j=>exact rwl (eq_of_beq (α:=Bool) h) (.bool _)
   | _=>exact ff h
 | bytes b=>induction v using Value.casesOn with
   | bytes c t=>
     obtain⟨h1,h2⟩:=BD.mp h;exact rwl ((xJ h1).trans (xJ h2).symm) (.bytes _ _)
   | _=>exact ff h
 | _=>exact ff h
theorem vrB_spec{Z:FZ}{ts:List T}:∀{vs:List Value},vrB ts vs=true->VRL Z ts vs:=by
 induction ts with
 | nil=>intro vs h;exact rwl (xJ h) .nil
 | cons t r ih=>
   intro vs h;induction vs using BA with
   | nil=>exact ff h
   | cons v q=>
     obtain⟨h1,h2⟩:=BD.mp h;exact .cons (vr1_spec h1) (ih h2)
theorem UE{o:Obj}{ds:List T}(h:dfltO o ds=true):Ex2 λ(items:Array Value) (n:Nat)=>jT (o=yH items n) (∀ Z:FZ,VRL Z ds items.toList) (items.toList≠[]):=by
 obtain⟨q,e1,h⟩:=zY h;obtain⟨h1,h⟩:=BD.mp h;obtain⟨h2,h⟩:=BD.mp h;obtain⟨h3,h⟩:=BD.mp h;obtain⟨x,e2,h⟩:=zY h;obtain⟨h4,h5⟩:=BD.mp h;refine⟨x.1,x.2,?_,λ Z=>vrB_spec h4,λ e=>?_⟩
 ·obtain⟨c,d,dt,sl⟩:=o;obtain rfl:c=.type q:=typV_of e1;obtain rfl:q="tuple":=eq_of_beq h1;obtain rfl:d=none:=Option.isNone_iff_eq_none.mp h2;obtain rfl:dt=.seq x.1 x.2:=seqD_of e2;obtain rfl:sl=#[]:=Array.toList_eq_nil_iff.mp (xJ h3);rfl
 ·replace h5:=e▸h5;exact ff h5
noncomputable def Xg (w:World) (s₁:Shared) (mg mb:Str->Option Value):Run:=⟨rwn.row.prog,w,hideAll s₁.heap [1016],s₁.os,mg,mb⟩
section
variable{w:World}{s₁:Shared}{mg mb:Str->Option Value}
theorem yl{h:Heap}{a:Addr}{o:Obj}(e:h.get? a=some o)(n:a≠1016):(hideAll h [1016]).get? a=some o:=hideAll_get _ e (by simpa using n)
theorem xH{h:Heap}{a:Addr}{m:Str->Option Value}(x:h.Ns a m)(n:a≠1016):(hideAll h [1016]).Ns a m:=let ⟨o,es,ep,e,r⟩:=x;⟨o,es,ep,yl e n,r⟩
variable(Y:YPn w s₁.heap)
include Y
theorem QU:(KP w.params).In (hideAll s₁.heap [1016]):=λ a o e=>yl (Y a o (KP_in _ a o e)) λ q=>by rw[q,KP_tab] at e;exact nsm e
set_option tactic.hygienic true in
theorem U8{f:Addr}{s:Stmt}{ds:List T}(h:lkN f fnT=some (s,ds)):FnOk (Xg w s₁ mg mb) f s ds:=by
 have hm:=wa h;have K:=QU Y;have st:=CW.mp stat_all _ hm;have hr:=zj (fn_rows w.params) hm;have hc:=CW.mp (code_all w.params) _ hm;have hd:=CW.mp (dflt_all w.params) _ hm;have ho:=CW.mp out_only _ hm;have hr:fnRow (KP w.params) f=some (qY s,.stmts (wP s),je s,mainGlobals,[],builtinsNs):=hr;simp only[fnStat,Bn] at st;obtain⟨⟨⟨⟨s1,s2⟩,s3⟩,s4⟩,s5⟩:=st;refine⟨?_,s1,Z7 s2,vn s3,λ x hx=>?_,Nat.ble_eq.mp s5⟩
 ·obtain⟨fd,ef,hr⟩:=Q6 hr;obtain⟨o,hl,hfd⟩:=Q6 ef;replace hfd:=funcD_of hfd;have hr:=B9 hr;simp only[Prod.mk.injEq] at hr;obtain⟨r1,r2,r3,r4,r5,r6⟩:=hr;obtain⟨fd2,ef2,hc⟩:=zY hc;obtain rfl:fd2=fd:=B9 (ef2.symm.trans ef);obtain⟨fd3,ef3,hd⟩:=zY hd;obtain rfl:fd3=fd2:=B9 (ef3.symm.trans ef);clear ef2 ef3
  rename FuncData=>fd
  have cr:(hideAll s₁.heap [1016]).CodeRec fd.code fd.qualname:=by
   obtain⟨c,e1,hc⟩:=zY hc;obtain⟨oc,e2,hc⟩:=zY hc;obtain⟨vs,e3,hc⟩:=zY hc;obtain⟨v,e4,hc⟩:=zY hc;obtain⟨q,e5,hc⟩:=zY hc;obtain⟨t,rfl⟩:=strV_of e5;refine⟨c,oc,vs,t,refV_of e1,K _ _ e2,W9 e3,?_⟩;refine rwl (qc.mp hc).symm ?_;exact Bl.symm.trans (snd_of e4)
  have co:jF (je s)=vK->fd.code=.ref Ql:=λ e=>by
   replace ho:(Nat.beq f 1019||!scEq (jF (je s)) vK)=true:=ho;rw[e,QH] at ho;have e2:f=1019:=Di ((Bool.or_false _).symm.trans ho);obtain⟨fd2,ef2,e3⟩:=Q6 (code_out w.params);obtain rfl:fd2=fd:=B9 (ef2.symm.trans (e2▸ef));exact B9 e3
  have hd:dfltC (KP w.params) fd.defaults ds=true:=hd;generalize hdd:fd.defaults=dv at hd;induction dv using Value.casesOn with
  | none=>
    obtain rfl:=xJ hd;exact⟨_,fd,[],K _ _ hl,hfd,r1,r2,r3,r4,r5,r6,cr,.nil,.inl ⟨rfl,hdd⟩,co⟩
  | ref t=>
    obtain⟨o2,e1,hd⟩:=zY hd;obtain⟨items,n,rfl,d1,d2⟩:=UE hd;exact⟨_,fd,items.toList,K _ _ hl,hfd,r1,r2,r3,r4,r5,r6,cr,d1 _,.inr ⟨t,n,hdd,d2,K _ _ e1⟩,co⟩
  | _=>exact ff hd
 ·have:=CW.mp s4 x hx;split at this
  ·rename_i e;exact .inl e
  ·rename_i e;exact .inr e
  ·exact ff this
theorem init_ok:UX (Xg w s₁ mg mb) 35 n5:=by
 refine⟨mt 2 0,n4,n5,_,_,_,_,U8 Y init_fn,init_body,init_args,λ x hx=>?_,?_,?_,yU.mp n4n5,ok4,ok5⟩
 ·replace hx:=vA▸hx;rcases BO.mp hx with rfl | hx
  ·nofun
  ·rcases BO.mp hx with rfl | hx
   ·nofun
   ·cases hx
 ·rw[vA,<- qK];kernel_rfl
 ·rw[vA,<- qK];kernel_rfl
end
theorem exc_over:Over [.type "Exception",.type "BaseException",.type "object"] [.ref 38,.type "Exception",.type "BaseException",.type "object"]:=λ T b e=>by
 rw[Dd,e,show((Value.type T == Value.ref 38)=false) from by simp,Bool.false_or]
section
variable{w:World}{s₁:Shared}{mg mb:Str->Option Value}(Y:YPn w s₁.heap)
include Y
theorem exc_ok:∀ C,zW C=true->XR (Xg w s₁ mg mb) C 35 n5:=by
 intro C hC;have K:=QU Y;have main:∀ C N nm k0 k1 k2 k3 k5,C∈([51,63,75]:List Addr)->(KP w.params).lookup C=some (exO C N nm k0 k1 k2 k3 k5)->XR (Xg w s₁ mg mb) C 35 n5:=by
  intro C N nm k0 k1 k2 k3 k5 hm hl;have hr:=zj (exc_rows w.params) hm;unfold excRow at hr;simp only[Prod.mk.injEq] at hr;obtain⟨h1,h2,h3,h4,h5,h6⟩:=hr;refine⟨KP w.params,_,nm,nm,N,_,_,true,[],[],false,.none,.none,k0,k1,k2,k3,k5,K,K _ _ hl,exc_over,h1,h2,h3,by unfold clsIn;rw[hl];rfl,λ x=>?_,h4,h5,rfl,h6⟩;show refuseLoop (.ref x) "__setattr__" [.ref C,.ref 38,.type "Exception",.type "BaseException",.type "object"]=pure ();rw[refuseLoop_ref,refuseLoop_ref];exact PySem.F.store_Exception.passes _
 simp only[zW,Bool.or_eq_true,Nat.beq_eq] at hC;rcases hC with rfl | rfl | rfl
 ·exact main _ _ _ _ _ _ _ _ (by simp) (exc51 _)
 ·exact main _ _ _ _ _ _ _ _ (by simp) (exc63 _)
 ·exact main _ _ _ _ _ _ _ _ (by simp) (exc75 _)
omit Y in
theorem Yt{K:Frag}{C:Addr}(h:ZZ K C=un):ClsOk K C:=by
 unfold ZZ un at h;simp only[Prod.mk.injEq] at h;exact⟨h.1,h.2.1,h.2.2.1,h.2.2.2.1,h.2.2.2.2⟩
set_option tactic.hygienic true in
theorem run_all{XP:(Str->Option Value)->Heap->Prop}{s₀:Shared}{R:WRecords}(G:Ground qn xN R XP w s₀ mg mb s₁.heap):jv (Xg w s₁ mg mb) where
 o1:=by
  have T:=G.T;have K:=QU Y;have hmain:=Y 3 _ (Ul _);have hmg:∀ x,mg x=nsFind (ZK w.params) x:=by
   intro x;obtain⟨o,es,ep,e,hd,_,hf⟩:=T.g;have:o=_:=B9 (e.symm.trans hmain);subst this;cases hd;exact(hf x).symm
  refine⟨⟨KP w.params,K,λ C n h=>?_,λ C n f h=>?_,λ a h=>?_⟩,xH T.g (by decide),xH T.b (by decide),?_,?_,tree0,λ x v h=>?_,λ x b h1 h2=>?_⟩
  ·unfold xr at h;split at h
   ·rename_i l e;have hm:=wa e;refine⟨Yt (zj (cls_at w.params) hm),?_⟩;have:=CW.mp (CW.mp (attr_all w.params) _ hm) n (memS_mem h);unfold attrB at this;obtain⟨a1,a2⟩:=BD.mp this;dsimp only at a1 a2;split at a1
    ·rename_i attr ea;refine⟨attr,ea,a1,?_⟩;split at a2
     ·rename_i e2;exact e2
     ·exact ff a2
    ·exact ff a1
   ·exact ff h
  ·unfold ZJ at h;split at h
   ·rename_i l e;have hm:=wa e;have h1:=zj (meth_all w.params) hm;have h2:=zj h1 (ZM h);simp only[Prod.mk.injEq] at h2;exact⟨Yt (zj (cls_mt w.params) hm),h2.1,h2.2.1,h2.2.2⟩
   ·exact nsm h
  ·unfold XH at h;rcases Bool.or_eq_true_iff.mp h with h | h
   ·obtain⟨v,e⟩:=DS.mp h;exact CW.mp (cal_fn w.params) _ (wa e)
   ·obtain⟨v,e⟩:=DS.mp h;exact CW.mp (cal_cl w.params) _ (wa e)
  ·obtain⟨mc,a,b⟩:=T.nolimit;exact⟨mc,xH a (by decide),b⟩
  ·have S:=T.seer importsN;refine⟨let ⟨mc,a,b⟩:=S.statics;⟨mc,xH a (by decide),b⟩,let ⟨mc,a,b⟩:=S.mods;⟨mc,xH a (by decide),b⟩,let ⟨mc,a,b⟩:=S.imp;⟨mc,xH a (by decide),b⟩,?_⟩;obtain⟨mg',bm,ob,a,b,c,d,e⟩:=S.main;refine⟨mg',bm,ob,xH a (by decide),b,yl c λ q=>?_,d,e⟩;rw[q,Y 1016 _ (vk _)] at c;obtain rfl:=B9 c;cases d
  ·have hm:=ZM h;refine⟨?_,CW.mp gl_ok _ hm⟩;show mg x=some v;rw[hmg];have h2:=zj (gl_all w.params) hm;exact h2
  ·have hm:=ZM h2;refine⟨?_,?_⟩
   ·show mg x=none;rw[hmg];have h2:=zj (bl_none w.params) hm;exact h2
   ·show mb x=some (biV b);rw[T.builtins x λ q=>?_]
    ·have h2:=zj bl_boot hm;exact h2
    ·have:=CW.mp bl_name _ hm;rw[show(x,b).1=n2 from q.trans n2_name.symm,qc.mpr rfl] at this;exact ff this
 o2:=⟨λ f s ds h=>U8 Y h,λ C i h=>by
  have hm:=wa h;have:=zj (cl_all w.params) hm;simp only[Prod.mk.injEq] at this
  exact⟨KP w.params,QU Y,this.1,this.2.1,this.2.2⟩⟩
 o3:=⟨KP w.params,QU Y,λ C D h=>by
  have ex:∀ C,zW C=true->C∈([51,63,75]:List Addr):=λ C hC=>by
   simp only[zW,Bool.or_eq_true,Nat.beq_eq] at hC;rcases hC with rfl | rfl | rfl <;> simp
  obtain⟨h1,h2⟩:=BD.mp h;have h3:=zj (exm_all w.params) (ex C h2);have h4:=zj h3 (ex D h1)
  exact h4⟩
 o4:=⟨35,n5,init_ok Y,exc_ok Y⟩
 o5:=by
  refine⟨?_,codeHd_of_K (QU Y) (hd_in _)⟩;obtain⟨bm,ob,h1,h2,h3,h4,h5,h6⟩:=G.T.bmain;have n1016:bm≠1016:=λ q=>by
   rw[q,Y 1016 _ (vk _)] at h3;obtain rfl:=B9 h3;cases h4
  refine⟨bm,ob,h1,h2,λ q=>?_,n1016,yl h3 n1016,h4,h5,h6⟩;rw[q] at h3;have:ob=_:=B9 (h3.symm.trans (Y 3 _ (Ul _)));subst this;cases h6
end
theorem wints_of{R:WRecords}:∀{ds:List WData},WShape.hasItems R ds .int=true->∃ is:List Int,ds=is.map WData.int:=by
 intro ds;induction ds with
 | nil=>
   intro _;exact⟨[],rfl⟩
 | cons d r ih=>
   intro h;have h:(WShape.has R d .int&&WShape.hasItems R r .int)=true:=by simpa [WShape.hasItems] using h
   obtain⟨h1,h2⟩:=BD.mp h;obtain⟨i,rfl⟩:=hasW_int h1;obtain⟨is,rfl⟩:=ih h2;exact⟨i::is,rfl⟩
theorem well_int{P:Params}{h:Heap}{v:Value}{d:WData}(x:Well P h v d){i:Int}(e:d=.int i):∃ t,v=.int i t:=by
 induction x using Well.casesOn with
 | int j t=>exact⟨t,Bo (Value.int · t) (WData.int.inj e)⟩
 | _=>exact WData.noConfusion e
theorem XS{P:Params}{h:Heap}{v:Value}{d:WData}(x:Well P h v d){ds:List WData}(e:d=.list ds):Ex2 λ(a:Addr) (vs:List Value)=>jT (v=.ref a) (h.get? a=some { cls:=.type "list",data:=.seq vs.toArray }) (WellAll P h vs ds):=by
 induction x using Well.casesOn with
 | list g r=>obtain rfl:=WData.list.inj e;exact⟨_,_,rfl,g,r⟩
 | _=>exact WData.noConfusion e
theorem QA{P:Params}{h:Heap}{vs:List Value}{ds:List WData}(x:WellAll P h vs ds)(e:ds=[]):vs=[]:=by
 induction x using WellAll.casesOn with
 | nil=>rfl
 | cons=>exact absurd e (List.cons_ne_nil _ _)
theorem uw{P:Params}{h:Heap}{vs:List Value}{ds:List WData}(x:WellAll P h vs ds){d:WData}{r:List WData}(e:ds=d::r):Ex2 λ v q=>jT (vs=v::q) (Well P h v d) (WellAll P h q r):=by
 induction x using WellAll.casesOn with
 | nil=>exact absurd e.symm (List.cons_ne_nil _ _)
 | cons a b=>
   obtain⟨rfl,rfl⟩:=List.cons.inj e;exact⟨_,_,rfl,a,b⟩
theorem XT{P:Params}{h:Heap}{Z:FZ}{is:List Int}:∀{vs:List Value},WellAll P h vs (is.map WData.int)->VRL Z (is.map T.int) vs:=by
 induction is with
 | nil=>intro vs x;exact rwl (QA x rfl) .nil
 | cons i is ih=>
   intro vs x;obtain⟨v,q,rfl,a,r⟩:=uw x rfl;obtain⟨t,rfl⟩:=well_int a rfl;exact .cons (.int _ _) (ih r)
theorem pre_len{ds:List WData}(h:rwn.row.toRowW.pre.holds rwn.row.toRowW.records { args:=[.list ds] }=true):ds.length<=63:=by
 have e:rwn.row.toRowW.pre=.and (.not (.lt (.lit (.int 63)) (.len (.arg 0)))) (.lit (.bool true)):=rfl;rw[e] at h;by_cases q:ds.length<=63
 ·exact q
 ·exfalso;have:(63:Int)<ds.length:=by lia
  simp[WTm.holds,WTm.value,less?,Num.less?,this] at h
noncomputable def lay0 (h:Heap):Lay:=⟨(hideAll h [1016]).get?,λ b=>if b=1016 then some .tab else none,λ _=>0,λ _=>none⟩
theorem tabs{h:Heap}{b:Addr}{r:j9}(e:(lay0 h).role b=some r):b=1016:=by
 by_cases q:b=1016
 ·exact q
 ·exact nsm ((BE q).symm.trans e)
theorem core0{w:World}{s₁:Shared}{mg mb:Str->Option Value}(Y:YPn w s₁.heap)(hgens:s₁.gens=#[]):jH (Xg w s₁ mg mb) (lay0 s₁.heap) [] [] s₁:=by
 refine⟨hgens,rfl,λ b o e=>e,λ b o e=>of_hideAll _ e,λ b r e=>?_,λ b r e=>?_,λ b o e=>(by exact nsm e),λ i hi=>absurd hi (DI _),⟨(BJ rfl:(if(1016:Nat)=1016 then some j9.tab else none)=some j9.tab),#[],Y 1016 _ (vk _),trivial,λ pos c e=>?_⟩,λ e he=>by cases he⟩
 ·show(hideAll s₁.heap [1016]).get? b=none;refine hideAll_none _ ?_;refine rwl (tabs e) ?_;exact .head _
 ·refine rwl (tabs e) ?_;exact⟨_,Y 1016 _ (vk _)⟩
 ·exact nsm e
theorem args_of{R:WRecords}{args:List WData}(hs:WShape.hasAll R args [.list .int]=true):∃ is:List Int,args=[.list (is.map WData.int)]:=by
 obtain⟨dd,rr,rfl,hd1,hr1⟩:=hasAllW_cons hs;obtain⟨ds,rfl,hit⟩:=hasW_list hd1;obtain⟨is,rfl⟩:=wints_of hit;exact⟨is,rwl (hasAllW_nil hr1) rfl⟩
theorem vals_of{P:Params}{h:Heap}{vals:List Value}{ds:List WData}(x:WellAll P h vals [.list ds]):Ex2 λ(a:Addr) (vs:List Value)=>jT (vals=[.ref a]) (h.get? a=some { cls:=.type "list",data:=.seq vs.toArray }) (WellAll P h vs ds):=by
 obtain⟨v,q,rfl,hv,hnil⟩:=uw x rfl;obtain⟨la,vs,rfl,hla,hvs⟩:=XS hv rfl;exact⟨la,vs,rwl (QA hnil rfl) rfl,hla,hvs⟩
theorem ne_tab{w:World}{s₁:Shared}(Y:YPn w s₁.heap){la:Addr}{vs:List Value}(hla:s₁.heap.get? la=some { cls:=.type "list",data:=.seq vs.toArray }):la≠1016:=λ q=>by
 replace hla:=q▸hla;replace hla:=(Y 1016 _ (vk _))▸hla;cases hla
theorem holds_of{sp:Addr->Option zM}{R n:Nat}(hR:n+R<=570)(hsp:∀ X,jv X->jN X sp R)
  (hev:∀ script:List Int,script.length<=63->ev sp n (.call 1031 [.p (.lst (script.map T.int))] [] (λ v _=>v=.p (.bool true)) (λ _ _=>False))):PySem.Challenge.rw_sf0051_01.Holds:=by
 refine head λ w s₀ s₁ mg mb G Y a o pm cd doc dV kV ha hd hcr hdf hmg hgens args vals as hpre hlay hrd hwell hlow=>?_;have RA:=run_all Y G;have h1031:mg Yn.name=some (.ref 1031):=(RA.o1.gl uc (.ref 1031) (by kernel_rfl)).1;have ea:a=1031:=Value.ref.inj (B9 (hmg.symm.trans h1031));obtain⟨hs,hp⟩:=pre_splitW hpre;obtain⟨is,rfl⟩:=args_of hs;have hlen:=pre_len hp;rw[BB] at hlen;obtain⟨la,vs,rfl,hla,hvs⟩:=vals_of hwell;have hne:=ne_tab Y hla;have D:=sound RA (hsp _ RA) n _ (hev is hlen);have hvv:VVL (lay0 s₁.heap) (jA []) [.p (.lst (is.map T.int))] [.ref la]:=.cons (.p (.lst (items:=vs.toArray) (n:=0) (yl hla hne) (rwl CI (XT hvs)))) .nil;refine rwl ea ?_;refine wpAny_call (D callerA [] (lay0 s₁.heap) s₁ _ _ (core0 Y hgens) ⟨rfl,rfl,by show 301+(n+R)<=880;lia,by show 4+4*(n+R)<=9800;lia⟩ rfl hvv (λ v mem' d' val s' hk x c vv=>?_) (λ C mem' d' ea B a0 s' hk=>hk.elim));subst hk;cases vv with | p vv=>
 cases vv;refine⟨.inl ⟨.bool true,.bool true,[],rfl,λ cls=>rfl,.bool true,by kernel_rfl,λ _=>⟨List.nodup_nil,λ a ha=>by cases ha⟩⟩,⟨λ b o e=>?_,λ b o e=>?_⟩,c.os,.of_eq c.gens⟩
 ·by_cases q:b=1016
  ·subst q
   right;left
   obtain⟨_,ps,g,_⟩:=c.tab;have:o=tabObj #[]:=by replace e:=(Y 1016 _ (vk _))▸e;obtain rfl:=B9 e;rfl
   subst this;obtain⟨oc,vs',f,tf,fl,tg,b',n',tt,g1,g2,g3,g4,_⟩:=RA.o5.hd
   exact⟨⟨1018,oc,vs',of_hideAll _ g1,g2,g3,g4⟩,rfl,#[],ps,rfl,by
    have g:s'.heap.get? 1016=some (tabObj ps):=g
    refine rwl g ?_;simp[tabObj]⟩
  ·left
   exact c.zin b o (c.base b o (yl e q))
 ·by_cases q:b=1016
  ·subst q;obtain⟨_,ps,g,_⟩:=c.tab;exact⟨_,g⟩
  ·exact⟨o,c.zin b o (c.base b o (yl e q))⟩
noncomputable def wu:Nat->List jB->List jB
 | 0,l=>l
 | _+1,[]=>[]
 | n+1,_::r=>wu n r
noncomputable def ug:List jB->List jB->List jB
 | [],b=>b
 | x::r,b=>x::ug r b
theorem xP:∀ a b:List jB,jA (ug a b)=jA a+jA b:=by
 intro a;induction a with
 | nil=>
   intro b;exact(D6 _).symm
 | cons _ r ih=>
   intro b;show(jA (ug r b)).succ=(jA r).succ+_;exact rwl (ih b) (Nat.succ_add _ _).symm
theorem wb:∀(n:Nat) (l:List jB),jA (wu n l)=jA l-n
 | 0,l=>rfl
 | n+1,[]=>(Nat.zero_sub _).symm
 | n+1,_::r=>by show jA (wu n r)=(jA r).succ-(n+1);exact rwl (wb n r) (Nat.succ_sub_succ _ _).symm
theorem uK:∀(a b:List jB) (i:Nat),i<jA a->jC (ug a b) i=jC a i
 | [],_,i,h=>absurd h (DI _)
 | _::r,b,0,_=>rfl
 | _::r,b,i+1,h=>uK r b i (CA h)
theorem Z5(i:Nat):jC [] i=.gone:=by cases i <;> rfl
theorem uL:∀(a b:List jB) (i:Nat),jA a<=i->jC (ug a b) i=jC b (i-jA a)
 | [],_,i,_=>rfl
 | _::r,b,0,h=>absurd h (Nat.not_succ_le_zero _)
 | _::r,b,i+1,h=>by
   show jC (ug r b) i=jC b (i+1-(jA r+1));rw[Nat.add_sub_add_right];exact uL r b i (Cn h)
theorem QO:∀(n:Nat) (l:List jB) (i:Nat),jC (wu n l) i=jC l (n+i)
 | 0,l,i=>by rw[D6];rfl
 | n+1,[],i=>by rw[Z5];exact Z5 i
 | n+1,_::r,i=>by refine rwl (Cf n 1 i) ?_;exact QO n r i
noncomputable def qH (n:Nat):Option j9->Bool
 | some (.obj j)=>Nat.ble n j
 | some (.dct j)=>Nat.ble n j
 | _=>false
noncomputable def Lay.hold (d:Lay) (n:Nat) (h:Heap):Lay:=
 d.owns (λ b=>if qH n (d.role b)=true then some .priv else d.role b) (λ b=>if qH n (d.role b)=true then h.get? b else d.P b)
noncomputable def Lay.unhold (d:Lay) (n:Nat) (d':Lay):Lay:=
 ⟨d'.Z,λ b=>if qH n (d.role b)=true then d.role b else d'.role b,λ i=>if i<n then d'.rho i else d.rho i,d.P⟩
section
variable{X:Run}{d d':Lay}{mem mem':List jB}{fr:List Env}{s s':Shared}{n:Nat}
theorem hi_obj{j:Nat}:qH n (some (.obj j))=true↔n<=j:=Iff.of_eq Nat.ble_eq
theorem hi_dct{j:Nat}:qH n (some (.dct j))=true↔n<=j:=Iff.of_eq Nat.ble_eq
theorem um{r:Option j9}(h:qH n r=true):∃ j,n<=j/\(r=some (.obj j)\/r=some (.dct j)):=by
 induction r using BU with
 | none=>exact ff h
 | some r=>induction r using j9.casesOn with
   | obj j=>exact⟨j,hi_obj.mp h,.inl rfl⟩
   | dct j=>exact⟨j,hi_dct.mp h,.inr rfl⟩
   | _=>exact ff h
theorem Um{r:j9}(h:∀ j,r=.obj j\/r=.dct j->j<n):¬ qH n (some r)=true:=λ q=>by
 obtain⟨j,h1,h2⟩:=um q;rcases h2 with h2 | h2 <;> obtain rfl:=B9 h2
 ·exact absurd (h j (.inl rfl)) (DT.mpr h1)
 ·exact absurd (h j (.inr rfl)) (DT.mpr h1)
set_option tactic.hygienic true in
theorem jH.hold(c:jH X d mem fr s)(hn:n<=jA mem)(ho:qi n (jZ n mem)=true):jH X (d.hold n s.heap) (jZ n mem) fr s:=by
 have ht:jA (jZ n mem)=n:=qZ n mem hn;have rlow:∀ b r,d.role b=some r->(∀ j,r=.obj j\/r=.dct j->j<n)->(d.hold n s.heap).role b=d.role b:=λ b r e h=>BE (by rw[e];exact Um h);have rsome:∀ b r,(d.hold n s.heap).role b=some r->∃ r',d.role b=some r':=λ b r e=>by
  have e:(if qH n (d.role b)=true then some j9.priv else d.role b)=some r:=e;split at e
  ·rename_i q;obtain⟨j,_,q | q⟩:=um q <;> exact⟨_,q⟩
  ·exact⟨r,e⟩
 refine⟨c.gens,c.os,c.base,c.zin,λ b r e=>?_,λ b r e=>?_,λ b o e=>?_,λ i hi=>?_,c.tab.mono (λ _ _ e=>e) (λ r=>(rlow qA _ r (λ j h=>by rcases h with h | h <;> cases h)).trans r) (λ _ e=>e),λ e he=>?_⟩
 ·obtain⟨r',e'⟩:=rsome b r e;exact c.zr b r' e'
 ·obtain⟨r',e'⟩:=rsome b r e;exact c.rin b r' e'
 ·have e:(if qH n (d.role b)=true then s.heap.get? b else d.P b)=some o:=e;by_cases q:qH n (d.role b)=true
  ·rw[BJ q] at e;exact⟨BJ q,o.slots,e,λ _=>rfl⟩
  ·rw[BE q] at e;obtain⟨r,g⟩:=c.pin b o e;exact⟨(rlow b _ r (λ j h=>by rcases h with h | h <;> cases h)).trans r,g⟩
 ·rw[ht] at hi ⊢;have o:=z8 ho i;rw[qC n mem i hi] at o ⊢;refine xG (r:=d.role) (P:=d.P) (λ b h=>?_) (Z2 (c.mem i (BY hi hn)) o);rcases h with h | h
  ·exact rlow b _ h λ j q=>by rcases q with q | q <;> cases q;exact hi
  ·exact rlow b _ h λ j q=>by rcases q with q | q <;> cases q;exact hi
 ·obtain⟨a,L,o,f,r,g,q⟩:=c.fr e he;exact⟨a,L,o,f,r.imp (λ r=>(rlow L _ r λ j h=>by rcases h with h | h <;> cases h).trans r) (λ r=>(rlow L _ r λ j h=>by rcases h with h | h <;> cases h).trans r),g,q⟩
theorem hold_P(hh:qH n (d.role b)=true){h:Heap}:(d.hold n h).P b=h.get? b:=BJ hh
set_option tactic.hygienic true in
theorem jH.unhold(c:jH X d mem fr s)(hn:n<=jA mem)(c':jH X d' mem' fr s')(x:Ext (d.hold n s.heap) n d' (jA mem'))(hl:jA mem'=n) :
  jj (jH X (d.unhold n d') (ug mem' (wu n mem)) fr s') (Ext d (jA mem) (d.unhold n d') (jA mem)) (Ex0 d' n (d.unhold n d') (jA mem)) (∀ b r,(d.unhold n d').role b=some r->∃ r',d'.role b=some r'):=by
 have hlen:jA (ug mem' (wu n mem))=jA mem:=by rw[xP,wb,hl];exact DW hn
 have nfr:∀ b,qH n (d.role b)=true->b∉jh fr:=λ b h hb=>by
  obtain⟨j,_,q⟩:=um h;rcases(c.notFrame hb).1 with z | z <;> replace q:=z▸q <;> rcases q with q | q <;> cases q
 have hpin:∀ b,qH n (d.role b)=true->∃ o,jT (s.heap.get? b=some o) (s'.heap.get? b=some o) (d'.role b=some .priv):=λ b h=>by
  obtain⟨j,_,q⟩:=um h;have:∃ o,s.heap.get? b=some o:=by rcases q with q | q <;> exact c.rin b _ q
  obtain⟨o,g⟩:=this;have e:d'.P b=some o:=by refine rwl x.P (rwl (hold_P h) ?_);exact g
  obtain⟨r,sl,g',hz⟩:=c'.pin b o e;have:=hz (.inr (nfr b h));subst this;exact⟨o,g,g',r⟩
 have rlow:∀ b r,d'.role b=some r->r≠.priv->(d.unhold n d').role b=some r:=λ b r e hr=>by
  show(if qH n (d.role b)=true then d.role b else d'.role b)=some r;rw[BE λ q=>?_]
  ·exact e
  ·obtain⟨_,_,_,z⟩:=hpin b q;rw[z] at e;obtain rfl:=B9 e;exact hr rfl
 have rsome:∀ b r,(d.unhold n d').role b=some r->∃ r',d'.role b=some r':=λ b r e=>by
  have e:(if qH n (d.role b)=true then d.role b else d'.role b)=some r:=e;by_cases q:qH n (d.role b)=true
  ·obtain⟨_,_,_,z⟩:=hpin b q;exact⟨_,z⟩
  ·replace e:=(BE q)▸e;exact⟨r,e⟩
 have x1:Ex0 d' n (d.unhold n d') (jA mem):=⟨λ _ _ e=>e,λ i hi=>BJ hi,hn⟩
 have x2:Ext d (jA mem) (d.unhold n d') (jA mem):=⟨λ b o e=>x.z b o e,λ i hi=>by
  show(if i<n then d'.rho i else d.rho i)=_;split
  ·rename_i q;exact x.rho i q
  ·rfl,BN _,rfl⟩
 refine⟨⟨c'.gens,c'.os,λ b o e=>x2.z b o (c.base b o e),c'.zin,λ b r e=>?_,λ b r e=>?_,λ b o e=>?_,λ i hi=>?_,c'.tab.mono (λ _ _ e=>e) (λ r=>rlow qA _ r nofun) (λ _ e=>e),λ e he=>?_⟩,x2,x1,rsome⟩
 ·obtain⟨r',e'⟩:=rsome b r e;exact c'.zr b r' e'
 ·obtain⟨r',e'⟩:=rsome b r e;exact c'.rin b r' e'
 ·have r0:=(c.pin b o e).1;have nh:¬ qH n (d.role b)=true:=by refine rwl r0 ?_;exact Um λ j h=>by rcases h with h | h <;> cases h
  have e':d'.P b=some o:=by rw[x.P];exact(BE nh).trans e
  obtain⟨r,g⟩:=c'.pin b o e';exact⟨(BE nh).trans r,g⟩
 ·rw[hlen] at hi ⊢;by_cases q:i<n
  ·rw[uK _ _ _ (by rw[hl];exact q)];have o:=c'.mem i (rwl hl q);replace o:=hl▸o;refine zN.mono0 x1 q (λ b h=>?_) (λ _ _ _ e=>e) o;rcases h with h | h
   ·refine rwl h ?_;exact rlow b _ h nofun
   ·refine rwl h ?_;exact rlow b _ h nofun
  ·rw[uL _ _ _ (by rw[hl];exact DT.mp q),QO,hl,DW (DT.mp q)];have hb:∀ b,d.role b=some (.obj i)\/d.role b=some (.dct i)->qH n (d.role b)=true:=λ b h=>by
    rcases h with h | h <;> refine rwl h ?_
    ·exact hi_obj.mpr (DT.mp q)
    ·exact hi_dct.mpr (DT.mp q)
   refine zN.mono x2 hi (λ b h=>BJ (hb b h)) (λ b o h e=>?_) (c.mem i hi);obtain⟨o',g,g',_⟩:=hpin b (hb b h);replace e:=g▸e;obtain rfl:=B9 e;exact g'
 ·obtain⟨a,L,o,f,r,g,q⟩:=c'.fr e he;have z:¬ qH n (d.role L)=true:=λ z=>nfr L z (Cw.mpr ⟨e,he,f⟩);have e:(d.unhold n d').role L=d'.role L:=BE z;exact⟨a,L,o,f,rwl e r,g,q⟩
end
theorem Den.frame{X:Run}{r n:Nat}{f:Addr}{args:List V}{mem:List jB}{k:KM}{kx:KXM}(hn:n<=jA mem)(hm:qi n (jZ n mem)=true)(ha:j8 n args=true)
  (h:Den X r (.call f args (jZ n mem) (λ v mem'=>jT (jA mem'=n) (yD n v=true) (k v (ug mem' (wu n mem)))) (λ C mem'=>jA mem'=n/\kx C (ug mem' (wu n mem))))):Den X r (.call f args mem k kx):=by
 intro A fr d s vals R c a hh hv hR hE;have ht:jA (jZ n mem)=n:=qZ n mem hn;have c0:=c.hold hn hm;have hv0:VVL (d.hold n s.heap) (jA (jZ n mem)) args vals:=by refine rwl ht ?_;exact(UY hv ha).owns
 refine h A fr _ s vals R c0 a hh hv0 (λ v mem' d' val s' hk x c' vv=>?_) (λ C mem' d' ea B a0 s' hk x c' xc=>?_)
 ·obtain⟨hl,ho,hk⟩:=hk;replace x:=ht▸x;obtain⟨c2,x2,x1,_⟩:=c.unhold hn c' x hl;have hlen:jA (ug mem' (wu n mem))=jA mem:=by rw[xP,wb,hl];exact DW hn
  refine hR v _ _ val s' hk (rwl hlen x2) c2 ?_;refine rwl hlen ?_;replace vv:=hl▸vv;exact vv.mono0 x1
 ·obtain⟨hl,hk⟩:=hk;replace x:=ht▸x;obtain⟨c2,x2,x1,rs⟩:=c.unhold hn c' x hl;have hlen:jA (ug mem' (wu n mem))=jA mem:=by rw[xP,wb,hl];exact DW hn
  exact hE C _ _ ea B a0 s' hk (rwl hlen x2) c2 ⟨xc.stays,λ b h1 h2=>xc.own b (h1.imp id λ⟨r,e⟩=>rs b r e) h2,xc.new,xc.ff,xc.tr⟩
abbrev jJ:=List V->List jB->KM->KXM->Prop
noncomputable def lkS (l:List (Nat×jJ)):Addr->Option jJ:=λ f=>lkN f l
def kPr(k:KM)(mem:List jB)(t:T):Prop:=k (.p t) mem
def kXr(kx:KXM)(mem:List jB)(C:Addr):Prop:=kx C mem
def jR(g:List V->(T->Prop)->(Addr->Prop)->Prop):jJ:=λ args mem k kx=>j8 0 args=true/\g args (kPr k mem) (kXr kx mem)
def int0(f:Int->List T->Prop)(ts:List T):Prop:=match ts with
 | []=>False
 | t::r=>match t with
   | .int i=>f i r
   | _=>False
def nil0(P:Prop)(ts:List T):Prop:=match ts with
 | []=>P
 | _::_=>False
def sack1(f:Int->Int->List jB->Prop)(r:List jB)(a b:Int):List T->Prop:=nil0 (f a b r)
def sack2(f:Int->Int->List jB->Prop)(r:List jB)(a:Int):List T->Prop:=int0 (sack1 f r a)
def sackM(f:Int->Int->List jB->Prop)(mem:List jB):Prop:=match mem with
 | []=>False
 | o::r=>match o with
   | .plst ts=>int0 (sack2 f r) ts
   | _=>False
theorem Uu{f:Int->List T->Prop}{ts:List T}(h:int0 f ts):Ex2 λ i r=>ts=.int i::r/\f i r:=by
 induction ts using BA with
 | nil=>exact h.elim
 | cons t r=>induction t using Dq with
   | int i=>exact⟨i,r,rfl,h⟩
   | _=>exact False.elim h
theorem nil0_of{P:Prop}{ts:List T}(h:nil0 P ts):ts=[]/\P:=by
 induction ts using BA with
 | nil=>exact⟨rfl,h⟩
 | cons=>exact False.elim h
theorem sackM_of{f:Int->Int->List jB->Prop}{mem:List jB}(h:sackM f mem):Ex3 λ a b r=>mem=.plst [.int a,.int b]::r/\f a b r:=by
 induction mem using BA with
 | nil=>exact h.elim
 | cons o r=>induction o using jB.casesOn with
   | plst ts=>
     obtain⟨a,q,rfl,h⟩:=Uu h;obtain⟨b,q2,rfl,h⟩:=Uu h;obtain⟨rfl,h⟩:=nil0_of h;exact⟨a,b,r,rfl,h⟩
   | _=>exact False.elim h
def kSk(k:KM)(r:List jB)(t:T):Prop:=∀ a' b':Int,0<=b'->b' < 65287->k (.p t) (.plst [.int a',.int b']::r)
def sackC(g:List V->(T->Prop)->Prop)(args:List V)(k:KM)(a b:Int)(r:List jB):Prop:=(0<=b/\b<65287)/\g args (kSk k r)
def yo(g:List V->(T->Prop)->Prop):jJ:=λ args mem k _=>j8 1 args=true/\sackM (sackC g args k) mem
section
variable{X:Run}{sp:Addr->Option jJ}{R n:Nat}{f:Addr}
theorem pure_ok(ok:jv X)(hsp:jN X sp R){g:List V->(T->Prop)->(Addr->Prop)->Prop}
  (hg:∀ args K KX,g args K KX->ev sp n (.call f args [] (λ v mem'=>mem'=[]/\∃ t,v=.p t/\K t) (λ C mem'=>mem'=[]/\KX C))) :
  ∀ args mem k kx,jR g args mem k kx->Den X (n+R) (.call f args mem k kx):=by
 intro args mem k kx ⟨ha,h⟩;refine Den.frame (n:=0) (CN _) rfl ha ?_;have D:=sound ok hsp n _ (hg _ _ _ h);intro A fr d s vals R' c a hh hv hR hE;refine D A fr d s vals R' c a hh hv (λ v mem' d' val s' hk=>?_) (λ C mem' d' ea B a0 s' hk=>?_)
 ·obtain⟨rfl,t,rfl,hk⟩:=hk;exact hR (.p t) [] d' val s' ⟨rfl,rfl,hk⟩
 ·obtain⟨rfl,hk⟩:=hk;exact hE C [] d' ea B a0 s' ⟨rfl,hk⟩
theorem sack_ok(ok:jv X)(hsp:jN X sp R){g:List V->(T->Prop)->Prop}
  (hg:∀ args K,g args K->∀ a b:Int,0<=b->b<65287->ev sp n (.call f args [.plst [.int a,.int b]] (λ v mem'=>Ex3 λ a' b' t=>jj (mem'=[.plst [.int a',.int b']]) (0<=b'/\b' < 65287) (v=.p t) (K t)) (λ _ _=>False))) :
  ∀ args mem k kx,yo g args mem k kx->Den X (n+R) (.call f args mem k kx):=by
 intro args mem k kx ⟨ha,h⟩;obtain⟨a,b,r,rfl,h⟩:=sackM_of h;obtain⟨⟨h1,h2⟩,h⟩:=h;refine Den.frame (n:=1) (DB (CN _)) rfl ha ?_;have D:=sound ok hsp n _ (hg _ _ h a b h1 h2);intro A fr d s vals R' c a' hh hv hR hE;refine D A fr d s vals R' c a' hh hv (λ v mem' d' val s' hk=>?_) (λ C mem' d' ea B a0 s' hk=>hk.elim);obtain⟨a'',b'',t,rfl,⟨h3,h4⟩,rfl,hk⟩:=hk;exact hR (.p t) _ d' val s' ⟨rfl,rfl,hk a'' b'' h3 h4⟩
def AllS(X:Run)(N:Nat):List (Nat×jJ)->Prop
 | []=>True
 | x::r=>(∀ args mem k kx,x.2 args mem k kx->Den X N (.call x.1 args mem k kx))/\AllS X N r
theorem jN.lay{N:Nat}{l fs:List (Nat×jJ)}(h0:jN X (lkS l) R)(hR:R<=N)(h:AllS X N fs):jN X (lkS (fs++l)) N:=by
 intro f F e args mem k kx hF;induction fs with
 | nil=>exact(h0 f F e args mem k kx hF).mono hR
 | cons p r ih=>
   obtain⟨y,G⟩:=p;have e:(match Nat.beq f y with | true=>some G | false=>lkN f (r++l))=some F:=e;cases q:Nat.beq f y with
   | true=>
     replace e:=q▸e;obtain rfl:=B9 e;obtain rfl:=Di q;exact h.1 args mem k kx hF
   | false=>replace e:=q▸e;exact ih h.2 e
theorem jO{N:Nat}(ok:jv X)(hsp:jN X sp R){g:List V->(T->Prop)->(Addr->Prop)->Prop}
  (hg:∀ args K KX,g args K KX->ev sp n (.call f args [] (λ v mem'=>mem'=[]/\∃ t,v=.p t/\K t) (λ C mem'=>mem'=[]/\KX C))) (hn:n+R<=N) :
  ∀ args mem k kx,jR g args mem k kx->Den X N (.call f args mem k kx):=λ args mem k kx h=>(pure_ok ok hsp hg args mem k kx h).mono hn
theorem zX{N:Nat}(ok:jv X)(hsp:jN X sp R){g:List V->(T->Prop)->Prop}
  (hg:∀ args K,g args K->∀ a b:Int,0<=b->b<65287->ev sp n (.call f args [.plst [.int a,.int b]] (λ v mem'=>Ex3 λ a' b' t=>jj (mem'=[.plst [.int a',.int b']]) (0<=b'/\b' < 65287) (v=.p t) (K t)) (λ _ _=>False))) (hn:n+R<=N) :
  ∀ args mem k kx,yo g args mem k kx->Den X N (.call f args mem k kx):=λ args mem k kx h=>(sack_ok ok hsp hg args mem k kx h).mono hn
theorem jQ{N:Nat}(ok:jv X)(hsp:jN X sp R){F:jJ}(hF:∀ args mem k kx,F args mem k kx->ev sp n (.call f args mem k kx))(hn:n+R<=N) :
  ∀ args mem k kx,F args mem k kx->Den X N (.call f args mem k kx):=λ args mem k kx h=>(sound ok hsp n _ (hF args mem k kx h)).mono hn
theorem jD{a b:Nat}(h:Nat.ble a b=true):a<=b:=Nat.le_of_ble_eq_true h
theorem jN.nil:jN X (lkS []) 0:=λ f F e=>by exact nsm e
end
theorem br{b:Bool}{A B:Prop}(h1:b=true->A)(h2:b=false->B):Br b A B:=by
 cases b
 ·exact h2 rfl
 ·exact h1 rfl
theorem brT{b:Bool}{A B:Prop}(h:b=true)(h1:A):Br b A B:=by subst h;exact h1
theorem brF{b:Bool}{A B:Prop}(h:b=false)(h1:B):Br b A B:=by subst h;exact h1
theorem brD{p:Prop}[Decidable p]{A B:Prop}(h1:p->A)(h2:¬ p->B):Br (decide p) A B:=br (λ h=>h1 (of_decide_eq_true h)) (λ h=>h2 (of_decide_eq_false h))
theorem brE{x y:Int}{A B:Prop}(h1:x=y->A)(h2:x≠y->B):Br (x == y) A B:=br (λ h=>h1 (by simpa using h)) (λ h=>h2 (by simpa using h))
theorem brNE{x y:Int}{A B:Prop}(h1:x≠y->A)(h2:x=y->B):Br (!(x == y)) A B:=br (λ h=>h1 (by simpa using h)) (λ h=>h2 (by simpa using h))
theorem y3{x:Int}(h:0<=x)(h2:x<2^64):sml x:=⟨Bz (by decide) h,h2⟩
theorem nD{p:Prop}[Decidable p](h:p):(!decide p)=false:=by rw[Bf h];rfl
theorem ng1(x:Nat):-(x:Int)-1=Int.negSucc x:=by rw[Int.negSucc_eq,Int.neg_add];rfl
theorem ng2(x:Nat):-Int.negSucc x-1=(x:Int):=Int.add_sub_cancel (x:Int) 1
theorem zo{x y:Int}(h:0<=y):x.fdiv y=x/y:=Int.fdiv_eq_ediv_of_nonneg x h
theorem zn{x y:Int}(h:0<=y):x.fmod y=x%y:=Int.fmod_eq_emod_of_nonneg x h
theorem vf(x y:Nat):Builtin.bitAnd (x:Int) (y:Int)=((x &&& y:Nat):Int):=by
 unfold Builtin.bitAnd;simp
theorem XI(x y:Nat):Builtin.bitOr (x:Int) (y:Int)=((x ||| y:Nat):Int):=by
 unfold Builtin.bitOr Builtin.bitAnd Builtin.bitNot;rw[ng1,ng1];show -(-(((-Int.negSucc x-1).toNat ||| (-Int.negSucc y-1).toNat:Nat):Int)-1)-1=_;rw[ng2,ng2];exact(Bo (λ i:Int=>-i-1) (ng1 (x ||| y))).trans (ng2 _)
theorem vg{x:Int}(h:0<=x)(k:Nat):Builtin.bitAnd x (2^k-1)=x%2^k:=by
 obtain⟨n,rfl⟩:=CL h;have:((2:Int)^k-1)=((2^k-1:Nat):Int):=by
  have:=Nat.one_le_two_pow (n:=k);rw[Int.ofNat_sub this];simp
 rw[this,vf,Nat.and_two_pow_sub_one_eq_mod];simp
theorem Yy{x:Int}(h:0<=x):Builtin.bitAnd x 255=x%256:=vg h 8
theorem US{x:Int}(h:0<=x):Builtin.bitAnd x 65535=x%65536:=vg h 16
theorem band_8191{x:Int}(h:0<=x):Builtin.bitAnd x 8191=x%8192:=vg h 13
theorem Yx{x:Int}(h:0<=x)(k:Nat):Builtin.bitAnd x (2^k)=x/2^k%2*2^k:=by
 obtain⟨n,rfl⟩:=CL h;have:((2:Int)^k)=((2^k:Nat):Int):=by simp
 rw[this,vf];have e:n &&& 2^k=n/2^k%2*2^k:=by
  apply Nat.eq_of_testBit_eq;intro i;have e1:n/2^k%2=(n >>> k) &&& 1:=by rw[<- Nat.shiftRight_eq_div_pow];exact(Nat.and_two_pow_sub_one_eq_mod (n >>> k) 1).symm
  rw[Nat.testBit_and,Nat.testBit_two_pow,e1,<- Nat.shiftLeft_eq,Nat.testBit_shiftLeft,Nat.testBit_and,Nat.testBit_shiftRight,show(1:Nat)=2^0 from rfl,Nat.testBit_two_pow];by_cases q:k=i
  ·subst q;simp
  ·by_cases q2:k<=i
   ·have:¬ 0=i-k:=Ba (Nat.sub_pos_of_lt (Nat.lt_of_le_of_ne q2 q));simp[q,this]
   ·simp[q,q2]
 rw[e];simp
theorem Qq{x:Int}(h:0<=x)(h2:x<2^32){k:Nat}(hk:k<=32):Builtin.bitAnd x (2^32-1-(2^k-1))=x/2^k*2^k:=by
 obtain⟨n,rfl⟩:=CL h;have hn:n<2^32:=by exact_mod_cast h2
 have hkk:2^k<=2^32:=Nat.pow_le_pow_right (by decide) hk;have h1k:=Nat.one_le_two_pow (n:=k);have e:((2:Int)^32-1-(2^k-1))=((2^32-(2^k-1+1):Nat):Int):=by
  have:((2:Int)^k)=((2^k:Nat):Int):=by simp
  rw[this,Nat.sub_add_cancel h1k,Int.ofNat_sub hkk];exact(Int.sub_sub _ _ _).trans (Bo _ ((CS _ _).trans (De _ _)))
 rw[e,vf];have:n &&& (2^32-(2^k-1+1))=n/2^k*2^k:=by
  apply Nat.eq_of_testBit_eq;intro i;rw[Nat.testBit_and,Nat.testBit_two_pow_sub_succ (BY (Nat.sub_lt h1k (by decide)) hkk),Nat.testBit_two_pow_sub_one,<- Nat.shiftRight_eq_div_pow,<- Nat.shiftLeft_eq,Nat.testBit_shiftLeft,Nat.testBit_shiftRight];by_cases q:k<=i
  ·have e1:k+(i-k)=i:=DW q;rw[e1];by_cases q2:i<32
   ·simp[q,q2,DT.mpr q]
   ·have:n.testBit i=false:=Nat.testBit_lt_two_pow (BY hn (Nat.pow_le_pow_right (by decide) (DT.mp q2)));simp[this]
  ·simp[q,Nat.lt_of_not_le q]
 rw[this];simp
theorem XJ{x y:Int}(h:0<=x)(h1:0<=y)(k:Nat)(h2:y<2^k):Builtin.bitOr (x*2^k) y=x*2^k+y:=by
 obtain⟨n,rfl⟩:=CL h;obtain⟨m,rfl⟩:=CL h1;have hm:m<2^k:=by exact_mod_cast h2
 have e:(n:Int)*2^k=((n*2^k:Nat):Int):=by simp
 rw[e,XI,Nat.mul_comm n,<- Nat.two_pow_add_eq_or_of_lt hm n];simp
theorem bor_8{x y:Int}(h:0<=x)(h1:0<=y)(h2:y<256):Builtin.bitOr (x*256) y=x*256+y:=XJ h h1 8 h2
theorem bor_16{x y:Int}(h:0<=x)(h1:0<=y)(h2:y<65536):Builtin.bitOr (x*65536) y=x*65536+y:=XJ h h1 16 h2
theorem bxor_1{x:Int}(h:0<=x)(h2:x<2^32):0<=Builtin.bitXor x 1/\Builtin.bitXor x 1<2^32:=by
 have e:Builtin.bitAnd x 1=x%2:=vg h 1;unfold Builtin.bitXor;obtain⟨n,rfl⟩:=CL h;have hn:n<2^32:=by exact_mod_cast h2
 rw[show(1:Int)=((1:Nat):Int) from rfl,XI,vf];have h3:n &&& 1<=n ||| 1:=by
  exact BF Nat.and_le_left Nat.left_le_or
 have h4:n ||| 1<2^32:=Nat.or_lt_two_pow hn (by decide);exact⟨CP (Bv.mpr h3),Bm (DL _ (Bb _)) (Cq.mpr h4)⟩
noncomputable def B (i:Int):UInt8:=UInt8.ofNat i.toNat
theorem Y1{i:Int}(h:0<=i)(h2:i<256):((B i).toNat:Int)=i:=by
 unfold B;rw[UInt8.toNat_ofNat',Nat.mod_eq_of_lt ((Int.toNat_lt h).mpr h2)];exact Da h
noncomputable def yA (t:Int):Int:=if t=0 then 0 else(t-1)%65535+1
theorem W8{t:Int}(h:65535<t):yA (t%65536+t/65536)=yA t:=by
 unfold yA;have h1:0<t:=Bj (by decide) h;have h2:0<=t%65536:=Bs _ (by decide);have h3:1<=t/65536:=(D9 (by decide)).mpr (Int.add_one_le_of_lt h);rw[BE (Cd (Int.add_pos_of_nonneg_of_pos h2 h3)),BE (Cd h1)];have e:t-1=(t%65536+t/65536-1)+65535*(t/65536):=by
  have k1:∀ r q:Int,65536*q+r-1=r+q-1+65535*q:=λ r q=>by
   rw[show 65536*q=q+65535*q from(Int.add_mul 1 65535 q).trans (Bo (· + _) (Int.one_mul q)),Int.add_right_comm,CS q r,Int.sub_eq_add_neg,Int.sub_eq_add_neg,Int.add_right_comm]
  conv=>lhs;rw[<- CF t 65536]
  exact k1 _ _
 rw[e,Cr]
theorem uR{t:Int}(h0:0<=t)(h:t<=65535):yA t=t:=by
 unfold yA;split
 ·exact Eq.symm ‹_›
 ·rename_i q;rw[Dm (CB (Int.lt_iff_le_and_ne.mpr ⟨h0,DF q⟩)) (Bz (Int.sub_lt_self t (by decide)) h),De]
theorem uS{t:Int}:0<=yA t/\yA t<=65535:=by
 unfold yA;split
 ·decide
 ·exact⟨Bp (Bs _ (by decide)) (by decide),Int.add_one_le_of_lt (Bt _ (by decide))⟩
noncomputable def stPass:Stmt:=.Pass default
noncomputable def fS (f:Addr):Stmt:=match lkN f fnT with
 | some (s,_)=>s
 | none=>stPass
noncomputable def fB (f:Addr):List Stmt:=wP (fS f)
noncomputable def fSc (f:Addr):List (Str×NameKind):=jF (je (fS f))
noncomputable def wt:Nat->List Stmt->List Stmt
 | 0,l=>l
 | _+1,[]=>[]
 | n+1,_::r=>wt n r
noncomputable def jY:Nat->List Stmt->Stmt
 | _,[]=>stPass
 | 0,x::_=>x
 | n+1,_::r=>jY n r
noncomputable def exN:Expr:=.Constant .none 0 default
noncomputable def wn:Stmt->Expr
 | .For t _ _ _ _=>t
 | _=>exN
noncomputable def wo:Stmt->List Stmt
 | .For _ _ b _ _=>b
 | _=>[]
noncomputable def whC:Stmt->Expr
 | .While c _ _ _=>c
 | _=>exN
noncomputable def whB:Stmt->List Stmt
 | .While _ b _ _=>b
 | _=>[]
noncomputable def asV:Stmt->Expr
 | .Assign _ e _=>e
 | .Return (some e) _=>e
 | .Expr e _=>e
 | _=>exN
noncomputable def nthE:Nat->List Expr->Expr
 | _,[]=>exN
 | 0,x::_=>x
 | n+1,_::r=>nthE n r
noncomputable def ifT:Stmt->Expr
 | .If t _ _ _=>t
 | _=>exN
noncomputable def cmL:Expr->Expr
 | .Compare l _ _ _=>l
 | _=>exN
noncomputable def cmR:Expr->Expr
 | .Compare _ _ c _=>nthE 0 c
 | _=>exN
noncomputable def boE (e:Expr) (i:Nat):Expr:=match e with
 | .BoolOp _ l _=>nthE i l
 | _=>exN
noncomputable def lcE:Expr->Expr
 | .ListComp e _ _ _=>e
 | _=>exN
noncomputable def lcT:Expr->Expr
 | .ListComp _ [⟨t,_,_,_⟩] _ _=>t
 | _=>exN
noncomputable def lcI:Expr->List Expr
 | .ListComp _ [⟨_,_,i,_⟩] _ _=>i
 | _=>[]
noncomputable def lcS:Expr->List (Str×NameKind)
 | .ListComp _ _ sc _=>jF sc
 | _=>[]
def int3(f:Int->Int->Int->Prop)(args:List V):Prop:=match args with
 | []=>False
 | a::r=>(match a with
   | .p (.int x)=>YM (f x) r
   | _=>False)
def int4(f:Int->Int->Int->Int->Prop)(args:List V):Prop:=match args with
 | []=>False
 | a::r=>(match a with
   | .p (.int x)=>int3 (f x) r
   | _=>False)
def byInt(f:List UInt8->Int->Prop)(args:List V):Prop:=match args with
 | []=>False
 | a::r=>(match a with
   | .p (.bytes o)=>zg r (kI (f o))
   | _=>False)
def m0(f:List V->Prop)(args:List V):Prop:=match args with
 | []=>False
 | a::r=>(match a with
   | .m i=>(match i with
     | 0=>f r
     | _+1=>False)
   | _=>False)
theorem ZL{f:List V->Prop}{args:List V}(h:m0 f args):∃ r,args=.m 0::r/\f r:=by
 induction args using BA with
 | nil=>exact fe h
 | cons a r=>induction a using Dr with
   | m i=>induction i using CD with
     | zero=>exact⟨r,rfl,h⟩
     | succ=>exact fe h
   | _=>exact fe h
theorem kTl_args{f:List T->Prop}{args:List V}(h:zg args (kTl f)):∃ ts,args=[.p (.lst ts)]/\f ts:=by
 obtain⟨v,rfl,h⟩:=zf h;induction v using Dr with
 | p t=>induction t using Dq with
   | lst ts=>exact⟨ts,rfl,h⟩
   | _=>exact fe h
 | _=>exact fe h
def byN(P:Prop)(args:List V):Prop:=zg args λ v=>match v with
 | .p (.bytes o)=>on (yr o) P
 | _=>False
theorem byN_args{P:Prop}{args:List V}(h:byN P args):args=[.p (.bytes [])]/\P:=by
 obtain⟨v,rfl,h⟩:=zf h;induction v using Dr with
 | p t=>induction t using Dq with
   | bytes o=>induction o using BA with
     | nil=>exact⟨rfl,h⟩
     | cons=>exact fe h
   | _=>exact fe h
 | _=>exact fe h
theorem qy{f:Int->Prop}{args:List V}(h:zg args (kI f)):∃ a,args=[.p (.int a)]/\f a:=by
 obtain⟨v,rfl,h⟩:=zf h;induction v using Dr with
 | p t=>induction t using Dq with
   | int a=>exact⟨a,rfl,h⟩
   | _=>exact fe h
 | _=>exact fe h
theorem we{f:Int->Int->Prop}{args:List V}(h:YM f args):Ex2 λ a b=>args=[.p (.int a),.p (.int b)]/\f a b:=by
 induction args using BA with
 | nil=>exact fe h
 | cons v r=>induction v using Dr with
   | p t=>induction t using Dq with
     | int a=>obtain⟨b,rfl,h⟩:=qy (f:=f a) h;exact⟨a,b,rfl,h⟩
     | _=>exact fe h
   | _=>exact fe h
theorem uB{f:Int->Int->Int->Prop}{args:List V}(h:int3 f args):Ex3 λ a b c=>args=[.p (.int a),.p (.int b),.p (.int c)]/\f a b c:=by
 induction args using BA with
 | nil=>exact fe h
 | cons v r=>induction v using Dr with
   | p t=>induction t using Dq with
     | int a=>obtain⟨b,c,rfl,h⟩:=we (f:=f a) h;exact⟨a,b,c,rfl,h⟩
     | _=>exact fe h
   | _=>exact fe h
theorem int4_args{f:Int->Int->Int->Int->Prop}{args:List V}(h:int4 f args):Ex4 λ a b c e=>args=[.p (.int a),.p (.int b),.p (.int c),.p (.int e)]/\f a b c e:=by
 induction args using BA with
 | nil=>exact fe h
 | cons v r=>induction v using Dr with
   | p t=>induction t using Dq with
     | int a=>obtain⟨b,c,e,rfl,h⟩:=uB (f:=f a) h;exact⟨a,b,c,e,rfl,h⟩
     | _=>exact fe h
   | _=>exact fe h
theorem xn{f:List UInt8->Int->Prop}{args:List V}(h:byInt f args):Ex2 λ o a=>args=[.p (.bytes o),.p (.int a)]/\f o a:=by
 induction args using BA with
 | nil=>exact fe h
 | cons v r=>induction v using Dr with
   | p t=>induction t using Dq with
     | bytes o=>obtain⟨b,rfl,h⟩:=qy (f:=f o) h;exact⟨o,b,rfl,h⟩
     | _=>exact fe h
   | _=>exact fe h
def pK(K:T->Prop):KM:=λ v mem'=>mem'=[]/\∃ t,v=.p t/\K t
def pX(KX:Addr->Prop):KXM:=λ C mem'=>mem'=[]/\KX C
theorem jL{K:T->Prop}{t:T}(h:K t):pK K (.p t) []:=⟨rfl,t,rfl,h⟩
theorem pX_ok{KX:Addr->Prop}{C:Addr}(h:KX C):pX KX C []:=⟨rfl,h⟩
theorem fold_eq(t:Int)(k:KM)(kx:KXM):ev (lkS []) 20 (.call 119 [.p (.int t)] [] k kx) =
  qV (ev (lkS []) 17) (whC (jY 0 (fB 119))) (whB (jY 0 (fB 119))) 70000 ⟨[(n27,.p (.int t))],[],fSc 119⟩ (kSs (ev (lkS []) 18) (wt 1 (fB 119)) (kRf 119 0 k) (kXf 0 kx)) (kXf 0 kx):=by kernel_rfl
theorem Qe(m:Nat)(t:Int)(K:Fl->St->Prop)(kx:KX):qV (ev (lkS []) 17) (whC (jY 0 (fB 119))) (whB (jY 0 (fB 119))) (m+1) ⟨[(n27,.p (.int t))],[],fSc 119⟩ K kx =
  Br (decide (65535<t)) ((0<=(16:Int)/\(16:Int)<=64)/\qV (ev (lkS []) 17) (whC (jY 0 (fB 119))) (whB (jY 0 (fB 119))) m ⟨[(n27,.p (.int (Builtin.bitAnd t 65535+t.fdiv (2^(16:Int).toNat))))],[],fSc 119⟩ K kx) (K .next ⟨[(n27,.p (.int t))],[],fSc 119⟩):=by kernel_rfl
theorem fold_end(t:Int)(k:KM)(kx:KXM):kSs (ev (lkS []) 18) (wt 1 (fB 119)) (kRf 119 0 k) (kXf 0 kx) .next ⟨[(n27,.p (.int t))],[],fSc 119⟩=k (.p (.int t)) []:=by kernel_rfl
theorem fold_loop(K:Fl->St->Prop)(kx:KX):∀(m:Nat) (t:Int),0<=t->t<=65535+65535*m->K .next ⟨[(n27,.p (.int (yA t)))],[],fSc 119⟩->
  qV (ev (lkS []) 17) (whC (jY 0 (fB 119))) (whB (jY 0 (fB 119))) (m+1) ⟨[(n27,.p (.int t))],[],fSc 119⟩ K kx:=by
 intro m;induction m with
 | zero=>intro t h0 hm h;rw[Qe];refine brD (λ q=>absurd q (Bg.mpr hm)) (λ q=>?_);refine rwl (uR h0 (Bg.mp q)).symm ?_;exact h
 | succ m ih=>
   intro t h0 hm h;rw[Qe];refine brD (λ q=>⟨by decide,?_⟩) (λ q=>?_)
   ·have e:Builtin.bitAnd t 65535+t.fdiv (2^(16:Int).toNat)=t%65536+t/65536:=by refine rwl (US h0) ?_;congr 1;exact zo (by decide)
    refine rwl e ?_;have k0:=Int.add_mul 1 65535 (t/65536);rw[Int.one_mul] at k0;have k1:t%65536+t/65536+65535*(t/65536)=t:=by rw[DV,<- k0,CS];exact CF t 65536
    have k2:65535<=65535*(t/65536):=CQ ((D9 (by decide)).mpr (Int.add_one_le_of_lt q):1<=t/65536) (show(0:Int)<=65535 by decide);refine ih _ (Bp (Bs _ (by decide)) (CZ h0 (by decide))) (Int.le_of_add_le_add_right (BM (D8 k1) (BM hm ?_))) (rwl (W8 q) h);exact BM (D8 (rwl (Dc 65535 (m:Int) 1) (DV 65535 _ _).symm)) (Int.add_le_add_left k2 _)
   ·refine rwl (uR h0 (Bg.mp q)).symm ?_;exact h
def vX:List V->(T->Prop)->(Addr->Prop)->Prop:=λ args K _=>zg args (kI λ t=>(0<=t/\t<=2^31)/\K (.int (yA t)))
theorem c_fold:∀ args K KX,vX args K KX->ev (lkS []) 20 (.call 119 args [] (pK K) (pX KX)):=by
 intro args K KX h;replace h:=qy h;obtain⟨t,rfl,h⟩:=h;obtain⟨⟨h0,h1⟩,h⟩:=h;rw[fold_eq];refine fold_loop _ _ 69999 _ h0 (BM h1 (by decide)) ?_;rw[fold_end];exact jL h
structure Hd where
 src:Int
 tgt:Int
 proto:Int
 ident:Int
 ttl:Int
 tos:Int
 dont:Bool
 more:Bool
 off:Int
noncomputable def hdT (h:Hd):T:=.inst 188 [(n43,.int h.src),(n44,.int h.tgt),(n45,.int h.proto),(n46,.int h.ident),(n47,.int h.ttl),(n48,.int h.tos),(n49,.bool h.dont),(n50,.bool h.more),(n51,.int h.off),(n52,.bytes [])]
structure Hd.Ok(h:Hd):Prop where
 src:0<=h.src/\h.src<4294967296
 tgt:0<=h.tgt/\h.tgt<4294967296
 proto:0<=h.proto/\h.proto<256
 ident:0<=h.ident/\h.ident<65536
 ttl:0<=h.ttl/\h.ttl<256
 tos:0<=h.tos/\h.tos<256
 off:0<=h.off/\h.off<65536/\h.off%8=0
noncomputable abbrev sp0:Addr->Option jJ:=lkS [(119,jR vX)]
noncomputable def be2 (n:Int):List UInt8:=[B (n/256%256),B (n%256)]
theorem e_put16(n:Int)(k:KM)(kx:KXM):ev sp0 20 (.call 84 [.p (.int n)] [] k kx)=(((0:Int)<=(8:Int)/\(8:Int)<=(64:Int))/\((2:Nat)<=(100000:Nat)/\∀(i:Int),i∈[Builtin.bitAnd (Int.fdiv n ((2:Int)^(8:Nat))) (255:Int),Builtin.bitAnd n (255:Int)]->(0:Int)<=i/\i<(256:Int))/\k (V.p (T.bytes [UInt8.ofNat (Int.toNat (Builtin.bitAnd (Int.fdiv n (256:Int)) (255:Int))),UInt8.ofNat (Int.toNat (Builtin.bitAnd n (255:Int)))])) []):=by kernel_rfl
def gPut16:List V->(T->Prop)->(Addr->Prop)->Prop:=λ args K _=>zg args (kI λ n=>0<=n/\K (.bytes (be2 n)))
theorem c_put16:∀ args K KX,gPut16 args K KX->ev sp0 20 (.call 84 args [] (pK K) (pX KX)):=by
 intro args K KX h;replace h:=qy h;obtain⟨n,rfl,h⟩:=h;obtain⟨h0,h⟩:=h;have e1:Builtin.bitAnd (Int.fdiv n ((2:Int)^(8:Nat))) (255:Int)=n/256%256:=by
  rw[zo (by decide),Yy (CZ h0 (by decide))];rfl
 have e2:Builtin.bitAnd (Int.fdiv n (256:Int)) (255:Int)=n/256%256:=e1;have e3:=Yy h0;rw[e_put16,e1,e2,e3];refine⟨by decide,⟨by decide,λ i hi=>?_⟩,jL h⟩;rcases BO.mp hi with rfl | hi
 ·exact⟨Bs _ (by decide),Bt _ (by decide)⟩
 ·rcases BO.mp hi with rfl | hi
  ·exact⟨Bs _ (by decide),Bt _ (by decide)⟩
  ·cases hi
theorem e_get16(o:List UInt8)(a:Int)(k:KM)(kx:KXM):ev sp0 20 (.call 105 [.p (.bytes o),.p (.int a)] [] k kx)=(Br (decide (a<(0:Int))) (kx (nat_lit 51) []) (List.length o<(1099511627776:Nat)/\Br (decide (↑(List.length o)<a+(2:Int))) (kx (nat_lit 51) []) ((List.length o<=(100000:Nat)/\(0:Int)<=a/\a < ↑(List.length o))/\(sml ↑(UInt8.toNat (List.getD o (Int.toNat a) (0:UInt8)))/\(0:Int)<=(8:Int)/\(8:Int)<=(64:Int))/\(List.length o<=(100000:Nat)/\(0:Int)<=a+(1:Int)/\a+(1:Int) < ↑(List.length o))/\k (V.p (T.int (Builtin.bitOr (↑(UInt8.toNat (List.getD o (Int.toNat a) (0:UInt8)))*(256:Int)) ↑(UInt8.toNat (List.getD o (Int.toNat (a+(1:Int))) (0:UInt8)))))) []))):=by kernel_rfl
noncomputable def at8 (o:List UInt8) (a:Int):Int:=((o.getD a.toNat 0).toNat:Int)
theorem qL(o:List UInt8)(a:Int):0<=at8 o a/\at8 o a<256:=by
 unfold at8;exact⟨Bb _,Cq.mpr (o.getD a.toNat 0).toNat_lt⟩
theorem sml8(o:List UInt8)(a:Int):sml (at8 o a):=y3 (qL o a).1 (Bj (qL o a).2 (by decide))
noncomputable def jm (o:List UInt8) (a:Int):Int:=at8 o a*256+at8 o (a+1)
def gGet16:List V->(T->Prop)->(Addr->Prop)->Prop:=λ args K _=>byInt (λ o a=>(0<=a/\a+2<=o.length/\o.length<=100000)/\K (.int (jm o a))) args
theorem c_get16:∀ args K KX,gGet16 args K KX->ev sp0 20 (.call 105 args [] (pK K) (pX KX)):=by
 intro args K KX h;replace h:=xn h;obtain⟨o,a,rfl,h⟩:=h;obtain⟨⟨h0,h1,h2⟩,h⟩:=h;rw[e_get16];have r1:=qL o a;have r2:=qL o (a+1);refine brF (BX (Bg.mpr h0)) ⟨CC h2 (by decide),brF (BX (Bg.mpr h1)) ⟨⟨h2,h0,Bz (Int.lt_add_of_pos_right a (by decide)) h1⟩,⟨?_,by decide⟩,⟨h2,Int.le_add_one h0,Bz (Int.add_lt_add_left (show(1:Int)<2 by decide) a) h1⟩,jL ?_⟩⟩
 ·exact sml8 o a
 ·have e:Builtin.bitOr (at8 o a*256) (at8 o (a+1))=jm o a:=bor_8 r1.1 r2.1 r2.2;exact e▸h
theorem e_fields(h:Hd)(k:KM)(kx:KXM):ev sp0 30 (.call 206 [.p (hdT h)] [] k kx)=((2:Nat)<=(100000:Nat)/\Br (decide ((0:Int)<=Hd.src h)) ((((2:Int)=(2:Int)\/(2:Int)=(10:Int)/\(32:Int)<=(15:Int))/\(0:Int)<=(32:Int)/\(32:Int)<=(64:Int))/\Br (!decide (Hd.src h<(2:Int)^(32:Nat))) (kx (nat_lit 51) []) (Br (decide ((0:Int)<=Hd.tgt h)) ((((2:Int)=(2:Int)\/(2:Int)=(10:Int)/\(32:Int)<=(15:Int))/\(0:Int)<=(32:Int)/\(32:Int)<=(64:Int))/\Br (!decide (Hd.tgt h<(2:Int)^(32:Nat))) (kx (nat_lit 51) []) ((3:Nat)<=(100000:Nat)/\Br (decide ((0:Int)<=Hd.proto h)) ((((2:Int)=(2:Int)\/(2:Int)=(10:Int)/\(8:Int)<=(15:Int))/\(0:Int)<=(8:Int)/\(8:Int)<=(64:Int))/\Br (!decide (Hd.proto h<(2:Int)^(8:Nat))) (kx (nat_lit 51) []) (Br (decide ((0:Int)<=Hd.ttl h)) ((((2:Int)=(2:Int)\/(2:Int)=(10:Int)/\(8:Int)<=(15:Int))/\(0:Int)<=(8:Int)/\(8:Int)<=(64:Int))/\Br (!decide (Hd.ttl h<(2:Int)^(8:Nat))) (kx (nat_lit 51) []) (Br (decide ((0:Int)<=Hd.tos h)) ((((2:Int)=(2:Int)\/(2:Int)=(10:Int)/\(8:Int)<=(15:Int))/\(0:Int)<=(8:Int)/\(8:Int)<=(64:Int))/\Br (!decide (Hd.tos h<(2:Int)^(8:Nat))) (kx (nat_lit 51) []) (Br (decide ((0:Int)<=Hd.ident h)) ((((2:Int)=(2:Int)\/(2:Int)=(10:Int)/\(16:Int)<=(15:Int))/\(0:Int)<=(16:Int)/\(16:Int)<=(64:Int))/\Br (!decide (Hd.ident h<(2:Int)^(16:Nat))) (kx (nat_lit 51) []) ((8:Int)≠(0:Int)/\Br (!Int.fmod (Hd.off h) (8:Int) == (0:Int)) (kx (nat_lit 51) []) ((8:Int)≠(0:Int)/\Br (decide ((0:Int)<=Int.fdiv (Hd.off h) (8:Int))) ((((2:Int)=(2:Int)\/(2:Int)=(10:Int)/\(13:Int)<=(15:Int))/\(0:Int)<=(13:Int)/\(13:Int)<=(64:Int))/\Br (!decide (Int.fdiv (Hd.off h) (8:Int)<(2:Int)^(13:Nat))) (kx (nat_lit 51) []) (k (V.p T.none) [])) (kx (nat_lit 51) [])))) (kx (nat_lit 51) []))) (kx (nat_lit 51) []))) (kx (nat_lit 51) []))) (kx (nat_lit 51) []))) (kx (nat_lit 51) []))) (kx (nat_lit 51) [])):=by kernel_rfl
def U6:List V->(T->Prop)->(Addr->Prop)->Prop:=λ args K _=>∃ h:Hd,args=[.p (hdT h)]/\h.Ok/\K .none
theorem c_fields:∀ args K KX,U6 args K KX->ev sp0 30 (.call 206 args [] (pK K) (pX KX)):=by
 rintro args K KX ⟨h,rfl,ok,hk⟩;rw[e_fields];have o1:=ok.src;have o2:=ok.tgt;have o3:=ok.proto;have o4:=ok.ident;have o5:=ok.ttl;have o6:=ok.tos;have o7:=ok.off;have f8:Int.fmod (Hd.off h) (8:Int)=0:=by rw[zn (by decide)];exact o7.2.2
 have d8:Int.fdiv (Hd.off h) (8:Int)=h.off/8:=zo (by decide);rw[f8,d8];refine⟨by decide,brT (Bf o1.1) ⟨by decide,brF (nD o1.2) (brT (Bf o2.1) ⟨by decide,brF (nD o2.2) ⟨by decide,brT (Bf o3.1) ⟨by decide,brF (nD o3.2) (brT (Bf o5.1) ⟨by decide,brF (nD o5.2) (brT (Bf o6.1) ⟨by decide,brF (nD o6.2) (brT (Bf o4.1) ⟨by decide,brF (nD o4.2) ⟨by decide,brF (by decide) ⟨by decide,brT ?_ ⟨by decide,brF ?_ (jL hk)⟩⟩⟩⟩)⟩)⟩)⟩⟩⟩)⟩⟩
 ·exact Bf (CZ o7.1 (by decide))
 ·exact nD (Cc (b:=8192) (by decide) o7.2.1)
theorem e_size(h:Hd)(p:List UInt8)(k:KM)(kx:KXM):ev sp0 30 (.call 213 [.p (hdT h),.p (.bytes p)] [] k kx)=((0:Nat)<(1099511627776:Nat)/\(4:Int)≠(0:Int)/\(0:Nat)<(1099511627776:Nat)/\(0:Nat)<(1099511627776:Nat)/\List.length p<(1099511627776:Nat)/\Br (decide ((65535:Int)<(20:Int) + ↑(0:Nat) + ↑(List.length p))) (kx (nat_lit 63) []) (k (V.p T.none) [])):=by kernel_rfl
def gSizeb(args:List V)(K:T->Prop)(kx_:Addr->Prop)(h:Hd)(p:List UInt8):Prop:=args=[.p (hdT h),.p (.bytes p)]/\p.length<=65515/\K .none
def gSize:List V->(T->Prop)->(Addr->Prop)->Prop:=λ args K kx_=>Ex2 λ(h:Hd) (p:List UInt8)=>gSizeb args K kx_ h p
theorem c_size:∀ args K KX,gSize args K KX->ev sp0 30 (.call 213 args [] (pK K) (pX KX)):=by
 rintro args K KX ⟨h,p,rfl,hl,hk⟩;rw[e_size];refine⟨by decide,by decide,by decide,by decide,CC hl (by decide),brF (BX (Bg.mpr (Bv.mpr (Cs hl 20)))) (jL hk)⟩
theorem e_flags(h:Hd)(k:KM)(kx:KXM):ev sp0 30 (.call 220 [.p (hdT h)] [] k kx)=((8:Int)≠(0:Int)/\Br (Hd.dont h) (Br (Hd.more h) (k (V.p (T.int (Int.fdiv (Hd.off h) (8:Int)+(16384:Int)+(8192:Int)))) []) (k (V.p (T.int (Int.fdiv (Hd.off h) (8:Int)+(16384:Int)))) [])) (Br (Hd.more h) (k (V.p (T.int (Int.fdiv (Hd.off h) (8:Int)+(8192:Int)))) []) (k (V.p (T.int (Int.fdiv (Hd.off h) (8:Int)))) []))):=by kernel_rfl
noncomputable def b2i (b:Bool):Int:=if b then 1 else 0
def gFlags:List V->(T->Prop)->(Addr->Prop)->Prop:=λ args K _=>∃ h:Hd,args=[.p (hdT h)]/\K (.int (h.off/8+16384*b2i h.dont+8192*b2i h.more))
theorem c_flags:∀ args K KX,gFlags args K KX->ev sp0 30 (.call 220 args [] (pK K) (pX KX)):=by
 rintro args K KX ⟨h,rfl,hk⟩;rw[e_flags];have d8:Int.fdiv (Hd.off h) (8:Int)=h.off/8:=zo (by decide);rw[d8];refine⟨by decide,?_⟩;cases hd:h.dont <;> cases hm:h.more <;> (rw[hd,hm] at hk;refine jL ?_;simpa [b2i] using hk)
theorem e_room(m hs:Int)(k:KM)(kx:KXM):ev sp0 30 (.call 309 [.p (.int m),.p (.int hs)] [] k kx)=((8:Int)≠(0:Int)/\(sml (Int.fdiv (m-hs) (8:Int))/\sml (8:Int))/\Br (decide (Int.fdiv (m-hs) (8:Int)*(8:Int)<(8:Int))) (kx (nat_lit 63) []) (k (V.p (T.int (Int.fdiv (m-hs) (8:Int)*(8:Int)))) [])):=by kernel_rfl
noncomputable def ja (m:Int):Int:=(m-20)/8*8
theorem Zq{m:Int}(h1:0<=m)(h2:m<100000):sml ((m-20)/8):=
 ⟨Bz (by decide) ((D9 (a:=-3) (by decide)).mpr (BM (by decide) (Int.sub_le_sub_right h1 20))),Cc (by decide) (Bj (Bm (DL m (by decide)) h2) (by decide))⟩
theorem room_le(m:Int):ja m<=m-20:=Int.ediv_mul_le _ (by decide)
theorem cutA{n a m:Int}(q:¬ 20+(n-a)<=m):a+ja m<=n:=
 Int.add_le_of_le_sub_left (Bk (Bm (room_le m) (Int.sub_left_lt_of_lt_add (Int.not_le.mp q))))
theorem cutB{x a m:Int}{k:Nat}(hr:8<=ja m)(h:x-a<=8*((k+1:Nat):Int)):x-(a+ja m)<=8*(k:Int):=by
 rw[<- Int.sub_sub];exact BM (Int.sub_le_sub h hr) (D8 (rwl (Dc 8 (k:Int) 1) (Int.add_sub_cancel _ _)))
def gRoom:List V->(T->Prop)->(Addr->Prop)->Prop:=λ args K KX=>YM (λ m hs=>(hs=20/\0<=m/\m<100000)/\Br (decide (ja m<8)) (KX 63) (K (.int (ja m)))) args
theorem c_room:∀ args K KX,gRoom args K KX->ev sp0 30 (.call 309 args [] (pK K) (pX KX)):=by
 intro args K KX h;replace h:=we h;obtain⟨m,hs,rfl,h⟩:=h;obtain⟨⟨rfl,h1,h2⟩,h⟩:=h;rw[e_room];have d8:Int.fdiv (m-20) (8:Int)=(m-20)/8:=zo (by decide);rw[d8];refine⟨by decide,⟨Zq h1 h2,by unfold sml;decide⟩,brD (λ q=>?_) (λ q=>?_)⟩
 ·rw[Bf (show ja m<8 from q)] at h;exact pX_ok h
 ·rw[BX (show ¬ ja m<8 from q)] at h;exact jL h
theorem e_group(a:Int)(k:KM)(kx:KXM):ev sp0 30 (.call 344 [.p (.int a)] [] k kx)=((((2:Int)=(2:Int)\/(2:Int)=(10:Int)/\(28:Int)<=(15:Int))/\(0:Int)<=(28:Int)/\(28:Int)<=(64:Int))/\(2:Int)^(28:Nat)≠(0:Int)/\k (V.p (T.bool (decide ((14:Int)<=Int.fdiv a ((2:Int)^(28:Nat)))))) []):=by kernel_rfl
noncomputable def ju (a:Int):Bool:=decide (14<=a/268435456)
def gGroup:List V->(T->Prop)->(Addr->Prop)->Prop:=λ args K _=>zg args (kI λ a=>K (.bool (ju a)))
theorem c_group:∀ args K KX,gGroup args K KX->ev sp0 30 (.call 344 args [] (pK K) (pX KX)):=by
 intro args K KX h;replace h:=qy h;obtain⟨a,rfl,h⟩:=h;rw[e_group,show(2:Int)^(28:Nat)=268435456 from by decide,zo (by decide)];exact⟨by decide,by decide,jL h⟩
theorem e_loop(a:Int)(k:KM)(kx:KXM):ev sp0 30 (.call 351 [.p (.int a)] [] k kx)=((((2:Int)=(2:Int)\/(2:Int)=(10:Int)/\(24:Int)<=(15:Int))/\(0:Int)<=(24:Int)/\(24:Int)<=(64:Int))/\(2:Int)^(24:Nat)≠(0:Int)/\k (V.p (T.bool (Int.fdiv a (16777216:Int) == (127:Int)))) []):=by kernel_rfl
noncomputable def ji (a:Int):Bool:=a/16777216 == 127
def gLoop:List V->(T->Prop)->(Addr->Prop)->Prop:=λ args K _=>zg args (kI λ a=>K (.bool (ji a)))
theorem c_loop:∀ args K KX,gLoop args K KX->ev sp0 30 (.call 351 args [] (pK K) (pX KX)):=by
 intro args K KX h;replace h:=qy h;obtain⟨a,rfl,h⟩:=h;rw[e_loop,zo (by decide)];exact⟨by decide,by decide,jL h⟩
theorem e_bit(a p:Int)(k:KM)(kx:KXM):ev sp0 30 (.call 443 [.p (.int a),.p (.int p)] [] k kx)=((((2:Int)=(2:Int)\/(2:Int)=(10:Int)/\(32:Int)-(1:Int)-p<=(15:Int))/\(0:Int)<=(32:Int)-(1:Int)-p/\(32:Int)-(1:Int)-p<=(64:Int))/\(2:Int)^Int.toNat ((32:Int)-(1:Int)-p)≠(0:Int)/\(2:Int)≠(0:Int)/\k (V.p (T.int (Int.fmod (Int.fdiv a ((2:Int)^Int.toNat ((31:Int)-p))) (2:Int)))) []):=by kernel_rfl
noncomputable def qo (a p:Int):Int:=a/2^(31-p).toNat%2
def gBit:List V->(T->Prop)->(Addr->Prop)->Prop:=λ args K _=>YM (λ a p=>(0<=p/\p<32)/\K (.int (qo a p))) args
theorem c_bit:∀ args K KX,gBit args K KX->ev sp0 30 (.call 443 args [] (pK K) (pX KX)):=by
 intro args K KX h;replace h:=we h;obtain⟨a,p,rfl,h⟩:=h;obtain⟨⟨h0,h1⟩,h⟩:=h;have hp:(0:Int)<2^Int.toNat (31-p):=Int.pow_pos (by decide);rw[e_bit,zo (Bk hp),zn (by decide)];have e:(32:Int)-1-p=31-p:=rfl;rw[e];exact⟨⟨.inl rfl,CP (CB h1),BM (DL 31 h0) (by decide)⟩,Cd hp,by decide,jL h⟩
theorem e_bcast(a n p:Int)(k:KM)(kx:KXM):ev sp0 30 (.call 337 [.p (.int a),.p (.int n),.p (.int p)] [] k kx)=(Br (a == (4294967295:Int)) (k (V.p (T.bool true)) []) (Br (decide ((32:Int)-(1:Int)<=p)) (k (V.p (T.bool false)) []) (Br (decide (p<(0:Int))) (kx (nat_lit 75) []) (Br (decide ((32:Int)<p)) (kx (nat_lit 75) []) ((((2:Int)=(2:Int)\/(2:Int)=(10:Int)/\(32:Int)-p<=(15:Int))/\(0:Int)<=(32:Int)-p/\(32:Int)-p<=(64:Int))/\Br (decide (p<(0:Int))) (kx (nat_lit 75) []) (Br (decide ((32:Int)<p)) (kx (nat_lit 75) []) ((((2:Int)=(2:Int)\/(2:Int)=(10:Int)/\(32:Int)-p<=(15:Int))/\(0:Int)<=(32:Int)-p/\(32:Int)-p<=(64:Int))/\k (V.p (T.bool (a == Builtin.bitAnd n ((4294967295:Int)-((2:Int)^Int.toNat ((32:Int)-p)-(1:Int)))+((4294967295:Int)-((4294967295:Int)-((2:Int)^Int.toNat ((32:Int)-p)-(1:Int))))))) []))))))):=by kernel_rfl
noncomputable def w9 (a n p:Int):Bool:=a == 4294967295||(decide (p<31)&&a == n/2^(32-p).toNat*2^(32-p).toNat+(2^(32-p).toNat-1))
def gBc:List V->(T->Prop)->(Addr->Prop)->Prop:=λ args K _=>int3 (λ a n p=>(0<=p/\p<=32/\0<=n/\n<4294967296)/\K (.bool (w9 a n p))) args
theorem c_bc:∀ args K KX,gBc args K KX->ev sp0 30 (.call 337 args [] (pK K) (pX KX)):=by
 intro args K KX h;replace h:=uB h;obtain⟨a,n,p,rfl,h⟩:=h;obtain⟨⟨h0,h1,h2,h3⟩,h⟩:=h;rw[e_bcast];have s0:decide (p<0)=false:=BX (Bg.mpr h0);have s1:decide (32<p)=false:=BX (Bg.mpr h1);have s2:((2:Int)=2\/(2:Int)=10/\32-p<=15)/\0<=32-p/\32-p<=64:=⟨.inl rfl,CP h1,BM (DL 32 h0) (by decide)⟩;refine brE (λ q=>jL ?_) (λ q=>brD (λ q2=>jL ?_) λ q2=>brF s0 (brF s1 ⟨s2,brF s0 (brF s1 ⟨s2,jL ?_⟩)⟩))
 ·simpa [w9,q] using h
 ·have:¬ p<31:=Bg.mpr q2;have q':(a == 4294967295)=false:=by simpa using q
  unfold w9 at h;rw[q',BX this] at h;exact h
 ·have:p<31:=Int.not_le.mp q2;have e:=Qq (x:=n) (k:=(32-p).toNat) h2 h3 (Int.toNat_le.mpr (DL 32 h0));have e':Builtin.bitAnd n (4294967295-(2^Int.toNat (32-p)-1))=n/2^Int.toNat (32-p)*2^Int.toNat (32-p):=e;rw[e'];have e2:(4294967295:Int)-(4294967295-(2^Int.toNat (32-p)-1))=2^Int.toNat (32-p)-1:=Int.sub_sub_self _ _;rw[e2];have q':(a == 4294967295)=false:=by simpa using q
  unfold w9 at h;rw[q',Bf this] at h;exact h
theorem e_scoop(a b m:Int)(k:KM)(kx:KXM):ev sp0 20 (.call 874 [.m 0,.p (.int m)] [.plst [.int a,.int b]] k kx)=(Br (decide ((0:Int)<a)) (m≠(0:Int)/\m≠(0:Int)/\k (V.p (T.int (Int.fmod a m))) [jB.plst [T.int (Int.fdiv a m),T.int b]]) ((sml b/\sml (229:Int))/\(65287:Int)≠(0:Int)/\(9:Int)≠(0:Int)/\m≠(0:Int)/\k (V.p (T.int (Int.fmod (Int.fdiv (Int.fmod (b*(229:Int)+(3011:Int)) (65287:Int)) (9:Int)) m))) [jB.plst [T.int a,T.int (Int.fmod (b*(229:Int)+(3011:Int)) (65287:Int))]])):=by kernel_rfl
def gScoop:List V->(T->Prop)->Prop:=λ args K=>m0 (λ r=>zg r (kI λ m=>0<m/\∀ g:Int,0<=g->g<m->K (.int g))) args
def sK(K:T->Prop):KM:=λ v mem'=>Ex3 λ a' b' t=>jj (mem'=[.plst [.int a',.int b']]) (0<=b'/\b' < 65287) (v=.p t) (K t)
def sX:KXM:=λ _ _=>False
theorem c_scoop:∀ args K,gScoop args K->∀ a b:Int,0<=b->b<65287->ev sp0 20 (.call 874 args [.plst [.int a,.int b]] (sK K) sX):=by
 intro args K h a b hb0 hb1;replace h:=ZL h;obtain⟨r,rfl,h⟩:=h;replace h:=qy h;obtain⟨m,rfl,h⟩:=h;obtain⟨hm,h⟩:=h;rw[e_scoop];have hn:m≠0:=Cd hm;refine brD (λ q=>⟨hn,hn,_,_,_,rfl,⟨hb0,hb1⟩,rfl,h _ ?_ ?_⟩) (λ q=>⟨⟨y3 hb0 (Bj hb1 (by decide)),by unfold sml;decide⟩,by decide,by decide,hn,_,_,_,rfl,⟨?_,?_⟩,rfl,h _ ?_ ?_⟩)
 ·rw[zn (Bk hm)];exact Bs _ hn
 ·rw[zn (Bk hm)];exact Bt _ hm
 ·rw[zn (by decide)];exact Bs _ (by decide)
 ·rw[zn (by decide)];exact Bt _ (by decide)
 ·rw[zn (Bk hm)];exact Bs _ hn
 ·rw[zn (Bk hm)];exact Bt _ hm
theorem e_later(k:KM)(kx:KXM):ev sp0 40 (.call 295 [.p (.bytes [])] [] k kx)=((0:Nat)<(1099511627776:Nat)/\(0:Nat)<=(100000:Nat)/\(0:Nat)<=(100000:Nat)/\(0:Nat)<(1099511627776:Nat)/\(4:Int)≠(0:Int)/\(4:Int)≠(0:Int)/\((0:Int)<=Int.fmod ((4:Int)-Int.fmod ↑(0:Nat) (4:Int)) (4:Int)/\Int.fmod ((4:Int)-Int.fmod ↑(0:Nat) (4:Int)) (4:Int)<=(1000:Int))/\(0:Nat)<=(1048576:Nat)/\List.length ([]++List.replicate (0:Nat) (0:UInt8))<(1099511627776:Nat)/\k (V.p (T.bytes [])) []):=by kernel_rfl
def gLater:List V->(T->Prop)->(Addr->Prop)->Prop:=λ args K _=>byN (K (.bytes [])) args
theorem c_later:∀ args K KX,gLater args K KX->ev sp0 40 (.call 295 args [] (pK K) (pX KX)):=by
 intro args K KX h;replace h:=byN_args h;obtain⟨rfl,h0⟩:=h;rw[e_later];exact⟨by decide,by decide,by decide,by decide,by decide,by decide,by decide,by decide,by decide,jL h0⟩
section
variable(o:List UInt8)(k:KM)(kx:KXM)(K:Fl->St->Prop)(KE:KX)(us r:List T)(a t e x:Int)
noncomputable abbrev sumS (o:List UInt8) (t e:Int):St:=⟨[(n17,.p (.bytes o)),(n29,.p (.int 0)),(n27,.p (.int t)),(n30,.p (.int e))],[],fSc 127⟩
noncomputable abbrev uJ (o:List UInt8) (t e x:Int):St:=⟨[(n17,.p (.bytes o)),(n29,.p (.int 0)),(n27,.p (.int t)),(n30,.p (.int e)),(n18,.p (.int x))],[],fSc 127⟩
abbrev uy(us ts:List T)(st:St)(K:Fl->St->Prop)(KE:KX):Prop:=zm (ev sp0 25) (wn (jY 2 (fB 127))) (wo (jY 2 (fB 127))) .fix us ts st K KE
noncomputable abbrev xf (o:List UInt8):Int:=(o.length:Int)-Int.fmod (o.length:Int) 2
theorem sum_eq:ev sp0 30 (.call 127 [.p (.bytes o),.p (.int 0)] [] k kx)=(o.length<2^40/\o.length<2^40/\(2:Int)≠0/\(sm2 0/\sm2 (xf o)/\sm2 2/\(0:Int)<2)/\((z6 0 (xf o) 2).map T.int).length<=100000/\uy ((z6 0 (xf o) 2).map T.int) ((z6 0 (xf o) 2).map T.int) (sumS o 0 (xf o)) (kSs (ev sp0 26) (wt 3 (fB 127)) (kRf 127 0 k) (kXf 0 kx)) (kXf 0 kx)):=by kernel_rfl
abbrev sumP(o:List UInt8)(a:Int)(P:Prop):Prop:=(o.length<=100000/\0<=a/\a<(o.length:Int))/\(sml ((o.getD a.toNat 0).toNat:Int)/\(0:Int)<=8/\(8:Int)<=64)/\(o.length<=100000/\0<=a+1/\a+1<(o.length:Int))/\P
noncomputable abbrev sumV (o:List UInt8) (a t:Int):Int:=t+Builtin.bitOr (((o.getD a.toNat 0).toNat:Int)*(2^(8:Int).toNat)) ((o.getD (a+1).toNat 0).toNat:Int)
theorem sum_step:uy us (.int a::r) (sumS o t e) K KE=sumP o a (uy us r (uJ o (sumV o a t) e a) K KE):=by kernel_rfl
theorem XZ:uy us (.int a::r) (uJ o t e x) K KE=sumP o a (uy us r (uJ o (sumV o a t) e a) K KE):=by kernel_rfl
theorem sum_nil:uy us [] (sumS o t e) K KE=K .next (sumS o t e):=by kernel_rfl
theorem sum_nil':uy us [] (uJ o t e x) K KE=K .next (uJ o t e x):=by kernel_rfl
theorem sum_end:kSs (ev sp0 26) (wt 3 (fB 127)) (kRf 127 0 k) (kXf 0 kx) .next (uJ o t e x)=(o.length<2^40/\Br (decide (e<(o.length:Int))) ((o.length<=100000/\0<=e/\e<(o.length:Int))/\(sml ((o.getD e.toNat 0).toNat:Int)/\(0:Int)<=8/\(8:Int)<=64)/\jR vX [.p (.int (t+((o.getD e.toNat 0).toNat:Int)*(2^(8:Int).toNat)))] [] (λ v mem=>fin false 0 v mem k) (λ C mem=>finX 0 C mem kx)) (jR vX [.p (.int t)] [] (λ v mem=>fin false 0 v mem k) (λ C mem=>finX 0 C mem kx))):=by kernel_rfl
end
noncomputable def yy (o:List UInt8):List Int->Int
 | []=>0
 | a::r=>jm o a+yy o r
theorem Ub(o:List UInt8)(a t:Int):sumV o a t=t+jm o a:=by
 have r1:=qL o a;have r2:=qL o (a+1);show t+Builtin.bitOr (at8 o a*256) (at8 o (a+1))=_;refine rwl (bor_8 r1.1 r2.1 r2.2) ?_;rfl
theorem sum_loop(o:List UInt8)(hl:o.length<=100000)(K:Fl->St->Prop)(KE:KX)(us:List T)(e:Int):∀(l:List Int) (t x:Int),(∀ a∈l,0<=a/\a+1<(o.length:Int))->
  (∀ x,K .next (uJ o (t+yy o l) e x))->uy us (l.map T.int) (uJ o t e x) K KE:=by
 intro l;induction l with
 | nil=>
   intro t x h hk;show uy us [] _ _ _;rw[sum_nil'];have:=hk x
   simpa [yy] using this
 | cons a r ih=>
   intro t x h hk;show uy us (.int a::r.map T.int) _ _ _;have ha:=h a (.head _);rw[XZ,Ub];have r1:=qL o a;refine⟨⟨hl,ha.1,Bj (Int.lt_add_of_pos_right a (by decide)) ha.2⟩,⟨sml8 o a,by decide⟩,⟨hl,Int.le_add_one ha.1,ha.2⟩,ih _ a (λ b hb=>h b (.tail _ hb)) λ x=>?_⟩;have:=hk x;refine rwl (show t+jm o a+yy o r=t+yy o (a::r) from DV _ _ _) ?_;exact this
noncomputable def evens:List Int:=[0,2,4,6,8,10,12,14,16,18]
noncomputable def yn (o:List UInt8):Int:=yy o evens
theorem vE(o:List UInt8)(a:Int):0<=jm o a/\jm o a<=65535:=by
 have r1:=qL o a;have r2:=qL o (a+1);have e:=Int.add_le_add (Int.mul_le_mul_of_nonneg_right (CB r1.2) (show(0:Int)<=256 by decide)) (CB r2.2);exact⟨Bp (D1 r1.1 (by decide)) r2.1,e⟩
theorem yx(o:List UInt8):∀ l:List Int,0<=yy o l/\yy o l<=65535*l.length:=by
 intro l;induction l with
 | nil=>
   simp[yy]
 | cons a r ih=>
   have s:=ih;have b:=vE o a;have e:=Int.add_le_add b.2 s.2;exact⟨Bp b.1 s.1,BM e (D8 (rwl (CS _ _) (Dc 65535 (r.length:Int) 1).symm))⟩
def gSum:List V->(T->Prop)->(Addr->Prop)->Prop:=λ args K _=>byInt (λ o b=>(b=0/\o.length=20)/\K (.int (yA (yn o)))) args
theorem c_sum:∀ args K KX,gSum args K KX->ev sp0 30 (.call 127 args [] (pK K) (pX KX)):=by
 intro args K KX h;replace h:=xn h;obtain⟨o,b,rfl,h⟩:=h;obtain⟨⟨rfl,hl⟩,h⟩:=h;have e1:xf o=20:=by unfold xf;refine rwl hl ?_;rfl
 rw[sum_eq,e1];refine⟨rwl hl (by decide),rwl hl (by decide),by decide,⟨by unfold sm2;decide,by unfold sm2;decide,by unfold sm2;decide,by decide⟩,by decide,?_⟩;have e2:(z6 0 20 2).map T.int=T.int 0::([2,4,6,8,10,12,14,16,18]:List Int).map T.int:=by rfl
 generalize hus:(z6 0 20 2).map T.int=us at e2 ⊢;have key:uy us (T.int 0::([2,4,6,8,10,12,14,16,18]:List Int).map T.int) (sumS o 0 20) (kSs (ev sp0 26) (wt 3 (fB 127)) (kRf 127 0 (pK K)) (kXf 0 (pX KX))) (kXf 0 (pX KX)):=by
  rw[sum_step,Ub];have r1:=qL o 0;refine⟨⟨rwl hl (by decide),by decide,rwl hl (by decide)⟩,⟨sml8 o 0,by decide⟩,⟨rwl hl (by decide),by decide,rwl hl (by decide)⟩,sum_loop o (rwl hl (by decide)) _ _ us 20 _ _ 0 (λ a ha=>?_) λ x=>?_⟩
  ·rw[hl];revert a ha;decide
  ·rw[sum_end];refine⟨rwl hl (by decide),brF (by rw[hl];decide) ⟨rfl,⟨?_,?_⟩,jL ?_⟩⟩
   ·exact Bp (Bp (by decide) (vE o 0).1) (yx o _).1
   ·exact BM (Int.add_le_add (Int.add_le_add (Int.le_refl 0) (vE o 0).2) (yx o _).2) (by decide)
   ·refine rwl (show(0:Int)+jm o 0+yy o [2,4,6,8,10,12,14,16,18]=yn o from Bo (· + _) (D0 (jm o 0))) ?_;exact h
 replace key:=e2.symm▸key;exact key
noncomputable abbrev l1:List (Nat×jJ):=[(84,jR gPut16),(105,jR gGet16),(127,jR gSum),(206,jR U6),(213,jR gSize),(220,jR gFlags),(309,jR gRoom),(344,jR gGroup),(351,jR gLoop),(443,jR gBit),(337,jR gBc),(874,yo gScoop),(295,jR gLater)]
noncomputable abbrev sp1:Addr->Option jJ:=lkS (l1++[(119,jR vX)])
theorem Y9{X:Run}(ok:jv X):jN X sp1 60:=by
 have h0:jN X (lkS ([(119,jR vX)]++[])) 20:=jN.lay jN.nil (jD rfl) ⟨jO (n:=20) ok jN.nil c_fold (jD rfl),trivial⟩;have h0:jN X sp0 20:=h0;exact jN.lay h0 (jD rfl) ⟨jO (n:=20) ok h0 c_put16 (jD rfl),jO (n:=20) ok h0 c_get16 (jD rfl),jO (n:=30) ok h0 c_sum (jD rfl),jO (n:=30) ok h0 c_fields (jD rfl),jO (n:=30) ok h0 c_size (jD rfl),jO (n:=30) ok h0 c_flags (jD rfl),jO (n:=30) ok h0 c_room (jD rfl),jO (n:=30) ok h0 c_group (jD rfl),jO (n:=30) ok h0 c_loop (jD rfl),jO (n:=30) ok h0 c_bit (jD rfl),jO (n:=30) ok h0 c_bc (jD rfl),zX (n:=20) ok h0 c_scoop (jD rfl),jO (n:=40) ok h0 c_later (jD rfl),trivial⟩
noncomputable def qN (h:Hd):Int:=h.off/8+16384*b2i h.dont+8192*b2i h.more
noncomputable def hb (h:Hd) (n c:Int):List UInt8:=[B 69,B h.tos]++(be2 (20+n)++be2 h.ident++be2 (qN h))++[B h.ttl,B h.proto]++be2 c++(be2 (h.src/65536)++be2 h.src++(be2 (h.tgt/65536)++be2 h.tgt))
noncomputable def hsum (h:Hd) (n:Int):Int:=65535-yA (yn (hb h n 0))
noncomputable def qS (h:Hd) (p:List UInt8):List UInt8:=hb h p.length (hsum h p.length)++p
theorem qU(n:Int):(be2 n).length=2:=rfl
theorem uG(b:Bool):0<=b2i b/\b2i b<=1:=by cases b <;> decide
theorem vZ{h:Hd}(ok:h.Ok):0<=qN h/\qN h<65536:=by
 have h1:=uG h.dont;have h2:=uG h.more;have h4:0<=h.off/8:=CZ ok.off.1 (by decide);have h5:h.off/8<8192:=Cc (by decide) ok.off.2.1;have h6:16384*b2i h.dont<=16384:=CQ h1.2 (show(0:Int)<=16384 by decide);have h7:8192*b2i h.more<=8192:=CQ h2.2 (show(0:Int)<=8192 by decide);have h8:qN h<32768:=Int.add_lt_add_of_lt_of_le (Int.add_lt_add_of_lt_of_le h5 h6) h7;exact⟨Bp (Bp h4 (D1 (by decide) h1.1)) (D1 (by decide) h2.1),Bj h8 (by decide)⟩
theorem flags8(h:Hd):qN h=h.off/8+8192*(2*b2i h.dont+b2i h.more):=by
 unfold qN;rw[Dc,<- Int.mul_assoc,DV];rfl
def gPackb(args:List V)(K:T->Prop)(kx_:Addr->Prop)(h:Hd)(p:List UInt8):Prop:=args=[.p (hdT h),.p (.bytes p)]/\h.Ok/\p.length<=60000/\K (.bytes (qS h p))
def U1:List V->(T->Prop)->(Addr->Prop)->Prop:=λ args K kx_=>Ex2 λ(h:Hd) (p:List UInt8)=>gPackb args K kx_ h p
theorem c_pack:∀ args K KX,U1 args K KX->ev sp1 40 (.call 227 args [] (pK K) (pX KX)):=by
 rintro args K KX ⟨h,p,rfl,ok,hl,hk⟩;have hs2:Int.fdiv (Hd.src h) (2^(16:Int).toNat)=h.src/65536:=zo (by decide);have ht2:Int.fdiv (Hd.tgt h) (2^(16:Int).toNat)=h.tgt/65536:=zo (by decide);have o1:=ok.src;have o2:=ok.tgt;have o3:=ok.proto;have o4:=ok.ident;have o5:=ok.ttl;have o6:=ok.tos;have o7:=ok.off;have fr:=vZ ok;unfold qN at fr;have mem2:∀ a b:Int,0<=a->a<256->0<=b->b<256->∀ i∈[a,b],0<=i/\i<256:=λ a b h1 h2 h3 h4 i hi=>by
  simp only[BO,Ch,or_false] at hi;rcases hi with rfl | rfl
  ·exact⟨h1,h2⟩
  ·exact⟨h3,h4⟩
 refine⟨rfl,h,rfl,ok,rfl,h,p,rfl,BF hl (by decide),⟨by unfold sml;decide,by unfold sml;decide⟩,by decide,by decide,⟨by simp,mem2 _ _ (by decide) (by decide) o6.1 o6.2⟩,by decide,CC hl (by decide),rfl,Bb (20+p.length),rfl,o4.1,by simp[qU],rfl,h,rfl,rfl,fr.1,by simp[qU],⟨by simp,mem2 _ _ o5.1 o5.2 o3.1 o3.2⟩,by decide,?_⟩;conv=>whnf
 refine rwl hs2 ?_;refine⟨rfl,CZ o1.1 (by decide),rfl,o1.1,by simp[qU],by decide,?_⟩;conv=>whnf
 refine rwl ht2 ?_;refine⟨rfl,CZ o2.1 (by decide),rfl,o2.1,by simp[qU],by simp[qU],by simp[qU],by simp[qU],by simp[qU],rfl,by decide,by simp[qU],by simp[qU],rfl,⟨rfl,rfl⟩,by simp[qU],by simp[qU],rfl,CP (uS (t:=yn (hb h p.length 0))).2,by simp[qU],by simp[qU],BF (Cs hl 20) (by decide),?_⟩;exact jL (t:=.bytes (qS h p)) hk
theorem e_unpack(o:List UInt8)(k:KM)(kx:KXM):ev sp1 40 (.call 241 [.p (.bytes o)] [] k kx)=(List.length o<(1099511627776:Nat)/\Br (decide (↑(List.length o)<(20:Int))) (kx (nat_lit 51) []) ((List.length o<=(100000:Nat)/\(0:Int)<=(0:Int)/\(0:Int) < ↑(List.length o))/\(16:Int)≠(0:Int)/\Br (!Int.fdiv ↑(UInt8.toNat (List.getD o (0:Nat) (0:UInt8))) (16:Int) == (4:Int)) (kx (nat_lit 51) []) ((List.length o<=(100000:Nat)/\(0:Int)<=(0:Int)/\(0:Int) < ↑(List.length o))/\(16:Int)≠(0:Int)/\(sml (Int.fmod ↑(UInt8.toNat (List.getD o (0:Nat) (0:UInt8))) (16:Int))/\sml (4:Int))/\Br (decide (Int.fmod ↑(UInt8.toNat (List.getD o (0:Nat) (0:UInt8))) (16:Int)*(4:Int)<(20:Int))) (kx (nat_lit 51) []) (List.length o<(1099511627776:Nat)/\Br (decide (↑(List.length o)<Int.fmod ↑(UInt8.toNat (List.getD o (0:Nat) (0:UInt8))) (16:Int)*(4:Int))) (kx (nat_lit 51) []) (j8 (0:Nat) [V.p (T.bytes o),V.p (T.int (2:Int))]=true/\((0:Int)<=(2:Int)/\(2:Int)+(2:Int)<=↑(List.length o)/\List.length o<=(100000:Nat))/\Br (decide (jm o (2:Int)<Int.fmod ↑(UInt8.toNat (List.getD o (0:Nat) (0:UInt8))) (16:Int)*(4:Int))) (kx (nat_lit 51) []) (List.length o<(1099511627776:Nat)/\Br (decide (↑(List.length o)<jm o (2:Int))) (kx (nat_lit 51) []) (List.length o<=(100000:Nat)/\j8 (0:Nat) [V.p (T.bytes (jG o none (some (Int.fmod ↑(UInt8.toNat (List.getD o (0:Nat) (0:UInt8))) (16:Int)*(4:Int))))),V.p (T.int (0:Int))]=true/\((0:Int)=(0:Int)/\List.length (jG o none (some (Int.fmod ↑(UInt8.toNat (List.getD o (0:Nat) (0:UInt8))) (16:Int)*(4:Int))))=(20:Nat))/\Br (!(65535:Int)-yA (yn (jG o none (some (Int.fmod ↑(UInt8.toNat (List.getD o (0:Nat) (0:UInt8))) (16:Int)*(4:Int))))) == (0:Int)) (kx (nat_lit 51) []) (j8 (0:Nat) [V.p (T.bytes o),V.p (T.int (6:Int))]=true/\((0:Int)<=(6:Int)/\(6:Int)+(2:Int)<=↑(List.length o)/\List.length o<=(100000:Nat))/\List.length o<=(100000:Nat)/\List.length o<(1099511627776:Nat)/\Br (decide (↑(List.length o)<(12:Int)+(4:Int))) (kx (nat_lit 51) []) (j8 (0:Nat) [V.p (T.bytes o),V.p (T.int (12:Int))]=true/\((0:Int)<=(12:Int)/\(12:Int)+(2:Int)<=↑(List.length o)/\List.length o<=(100000:Nat))/\(sml (jm o (12:Int))/\(0:Int)<=(16:Int)/\(16:Int)<=(64:Int))/\j8 (0:Nat) [V.p (T.bytes o),V.p (T.int ((12:Int)+(2:Int)))]=true/\((0:Int)<=(12:Int)+(2:Int)/\(12:Int)+(2:Int)+(2:Int)<=↑(List.length o)/\List.length o<=(100000:Nat))/\List.length o<(1099511627776:Nat)/\Br (decide (↑(List.length o)<(16:Int)+(4:Int))) (kx (nat_lit 51) []) (j8 (0:Nat) [V.p (T.bytes o),V.p (T.int (16:Int))]=true/\((0:Int)<=(16:Int)/\(16:Int)+(2:Int)<=↑(List.length o)/\List.length o<=(100000:Nat))/\(sml (jm o (16:Int))/\(0:Int)<=(16:Int)/\(16:Int)<=(64:Int))/\j8 (0:Nat) [V.p (T.bytes o),V.p (T.int ((16:Int)+(2:Int)))]=true/\((0:Int)<=(16:Int)+(2:Int)/\(16:Int)+(2:Int)+(2:Int)<=↑(List.length o)/\List.length o<=(100000:Nat))/\(List.length o<=(100000:Nat)/\(0:Int)<=(9:Int)/\(9:Int) < ↑(List.length o))/\j8 (0:Nat) [V.p (T.bytes o),V.p (T.int (4:Int))]=true/\((0:Int)<=(4:Int)/\(4:Int)+(2:Int)<=↑(List.length o)/\List.length o<=(100000:Nat))/\(List.length o<=(100000:Nat)/\(0:Int)<=(8:Int)/\(8:Int) < ↑(List.length o))/\(List.length o<=(100000:Nat)/\(0:Int)<=(1:Int)/\(1:Int) < ↑(List.length o))/\(sml (Builtin.bitAnd (jm o (6:Int)) (8191:Int))/\sml (8:Int))/\List.length o<=(100000:Nat)/\k (V.p (T.tup [T.inst (nat_lit 188) [(n43,T.int (Builtin.bitOr (jm o (12:Int)*(65536:Int)) (jm o (14:Int)))),(n44,T.int (Builtin.bitOr (jm o (16:Int)*(65536:Int)) (jm o (18:Int)))),(n45,T.int ↑(UInt8.toNat (List.getD o (9:Nat) (0:UInt8)))),(n46,T.int (jm o (4:Int))),(n47,T.int ↑(UInt8.toNat (List.getD o (8:Nat) (0:UInt8)))),(n48,T.int ↑(UInt8.toNat (List.getD o (1:Nat) (0:UInt8)))),(n49,T.bool !Builtin.bitAnd (jm o (6:Int)) (16384:Int) == (0:Int)),(n50,T.bool !Builtin.bitAnd (jm o (6:Int)) (8192:Int) == (0:Int)),(n51,T.int (Builtin.bitAnd (jm o (6:Int)) (8191:Int)*(8:Int))),(n52,T.bytes (jG o (some (20:Int)) (some (Int.fmod ↑(UInt8.toNat (List.getD o (0:Nat) (0:UInt8))) (16:Int)*(4:Int)))))],T.bytes (jG o (some (Int.fmod ↑(UInt8.toNat (List.getD o (0:Nat) (0:UInt8))) (16:Int)*(4:Int))) (some (jm o (2:Int))))])) [])))))))))):=by kernel_rfl
theorem Ze(x:Int):((B (x/256%256)).toNat:Int)*256+((B (x%256)).toNat:Int)=x%65536:=by
 refine rwl (Y1 (Bs _ (by decide)) (Bt _ (by decide))) (rwl (Y1 (Bs _ (by decide)) (Bt _ (by decide))) ?_);have e:=CF x 256;have e2:x=(x/256%256*256+x%256)+65536*(x/256/256):=by
  have e3:=CF (x/256) 256;conv=>lhs;rw[<- e,<- e3,Dc,<- Int.mul_assoc,Int.mul_comm 256 (_%_),DV,CS]
  rfl
 have b0:=Bs (x/256) (show(256:Int)≠0 by decide);have b1:=Bs x (show(256:Int)≠0 by decide);have b2:=Bt (x/256) (show(0:Int)<256 by decide);have b3:=Bt x (show(0:Int)<256 by decide);have b4:x/256%256*256<=65280:=Int.mul_le_mul_of_nonneg_right (CB b2) (show(0:Int)<=256 by decide);have b5:x/256%256*256+x%256<65536:=Int.add_lt_add_of_le_of_lt b4 b3;conv=>rhs;rw[e2,Cr,Dm (Bp (D1 b0 (by decide)) b1) b5]
theorem vD{x:Int}(h:0<=x)(h2:x<65536):((B (x/256%256)).toNat:Int)*256+((B (x%256)).toNat:Int)=x:=by
 exact(Ze x).trans (Dm h h2)
theorem hb_len(h:Hd)(n c:Int):(hb h n c).length=20:=rfl
theorem sum16_hb(h:Hd)(n:Int){c:Int}(h0:0<=c)(h1:c<65536):yn (hb h n c)=yn (hb h n 0)+c:=by
 have e:∀ c,jm (hb h n c) 10=((B (c/256%256)).toNat:Int)*256+((B (c%256)).toNat:Int):=λ c=>rfl;have e1:jm (hb h n c) 10=c:=(e c).trans (vD h0 h1);have e2:jm (hb h n 0) 10=0:=(e 0).trans (vD (by decide) (by decide));have a0:jm (hb h n c) 0=jm (hb h n 0) 0:=rfl;have a2:jm (hb h n c) 2=jm (hb h n 0) 2:=rfl;have a4:jm (hb h n c) 4=jm (hb h n 0) 4:=rfl;have a6:jm (hb h n c) 6=jm (hb h n 0) 6:=rfl;have a8:jm (hb h n c) 8=jm (hb h n 0) 8:=rfl;have a12:jm (hb h n c) 12=jm (hb h n 0) 12:=rfl;have a14:jm (hb h n c) 14=jm (hb h n 0) 14:=rfl;have a16:jm (hb h n c) 16=jm (hb h n 0) 16:=rfl;have a18:jm (hb h n c) 18=jm (hb h n 0) 18:=rfl;simp only[yn,evens,yy,a0,a2,a4,a6,a8,a12,a14,a16,a18,e1,e2];lia
theorem W1(h:Hd)(n:Int):0<=hsum h n/\hsum h n<65536:=by
 have:=uS (t:=yn (hb h n 0));exact⟨CP this.2,Bm (DL _ this.1) (by decide)⟩
theorem sum_ok(h:Hd)(n:Int):yA (yn (hb h n (hsum h n)))=65535:=by
 have hr:=W1 h n;refine rwl (sum16_hb h n hr.1 hr.2) ?_;have h0:0<yn (hb h n 0):=by
  have a0:jm (hb h n 0) 0=((B 69).toNat:Int)*256+((B h.tos).toNat:Int):=rfl;have a1:0<jm (hb h n 0) 0:=rwl a0 (Int.add_pos_of_pos_of_nonneg (by decide) (Bb _));exact Int.add_pos_of_pos_of_nonneg a1 (yx (hb h n 0) [2,4,6,8,10,12,14,16,18]).1
 unfold hsum;generalize yn (hb h n 0)=S at h0;unfold yA;rw[BE (Cd h0)];have k1:∀ q r:Int,q+r+1+(65535-(r+1))=65535+q:=λ q r=>by rw[DV q,DV,CS (r+1),De,CS]
 have k2:∀ q:Int,65535+q-1=65534+q:=λ q=>by rw[CS,DP,CS];rfl
 have e:S+(65535-((S-1)%65535+1))=65535+65535*((S-1)/65535):=by
  conv=>lhs;arg 1;rw[<- De S 1,<- CF (S-1) 65535]
  exact k1 _ _
 rw[BE (λ q=>?_),e,k2,Cr]
 ·rfl
 ·rw[e] at q;exact absurd q (Cd (Int.add_pos_of_pos_of_nonneg (by decide) (D1 (by decide) (CZ (CB h0) (by decide)))))
theorem slice_hd(l p:List UInt8)(hl:l.length=20):jG (l++p) none (some 20)=l:=by
 unfold jG lim;simp only[BV,hl];refine rwl (BE (by decide)) ?_;have:min (Int.toNat 20) (20+p.length)-0=20:=DJ (Bi 20 _);exact rwl this (rwl List.drop_zero (rwl hl.symm (rwl List.take_left rfl)))
theorem Xd(l p:List UInt8)(hl:l.length=20):jG (l++p) (some 20) (some 20)=[]:=by
 unfold jG lim;simp
theorem slice_tl(l p:List UInt8)(hl:l.length=20):jG (l++p) (some 20) (some (20+(p.length:Int)))=p:=by
 unfold jG lim;simp only[BV,hl];rw[BE (show ¬ (20:Int)<0 by decide),BE (show ¬ 20+(p.length:Int)<0 from Bg.mpr (Bb (20+p.length)))];have e1:min (Int.toNat 20) (20+p.length)=20:=DJ (Bi 20 _);have e2:min (Int.toNat (20+(p.length:Int))) (20+p.length)=20+p.length:=Nat.min_self _;refine rwl e1 (rwl e2 (rwl hl.symm (rwl List.drop_left ?_)));simp
def gUnpackb(args:List V)(K:T->Prop)(kx_:Addr->Prop)(h:Hd)(p:List UInt8):Prop:=args=[.p (.bytes (qS h p))]/\h.Ok/\p.length<=60000/\K (.tup [hdT h,.bytes p])
def up:List V->(T->Prop)->(Addr->Prop)->Prop:=λ args K kx_=>Ex2 λ(h:Hd) (p:List UInt8)=>gUnpackb args K kx_ h p
theorem c_unpack:∀ args K KX,up args K KX->ev sp1 40 (.call 241 args [] (pK K) (pX KX)):=by
 rintro args K KX ⟨h,p,rfl,ok,hl,hk⟩;have o1:=ok.src;have o2:=ok.tgt;have o3:=ok.proto;have o4:=ok.ident;have o5:=ok.ttl;have o6:=ok.tos;have o7:=ok.off;have fr:=vZ ok;have hlen:(qS h p).length=20+p.length:=by unfold qS;rw[BV,hb_len]
 have f0:(((qS h p).getD 0 0).toNat:Int)=69:=rfl;have f1:(((qS h p).getD 1 0).toNat:Int)=h.tos:=Y1 o6.1 o6.2;have f8:(((qS h p).getD 8 0).toNat:Int)=h.ttl:=Y1 o5.1 o5.2;have f9:(((qS h p).getD 9 0).toNat:Int)=h.proto:=Y1 o3.1 o3.2;have hL:(20:Int)<=((20+p.length:Nat):Int):=Bv.mpr (Bi 20 _);have hl5:20+p.length<=100000:=BF (Cs hl 20) (by decide);have hl6:20+p.length<1099511627776:=CC hl5 (by decide);have nL:∀ a:Int,a<=20->¬ ((20+p.length:Nat):Int)<a:=λ a q=>Bg.mpr (BM q hL);have qa:∀ a:Int,0<=a/\a<20->20+p.length<=100000/\0<=a/\a<((20+p.length:Nat):Int):=λ a q=>⟨hl5,q.1,Bz q.2 hL⟩;have qb:∀ a:Int,0<=a/\a+2<=20->0<=a/\a+2<=((20+p.length:Nat):Int)/\20+p.length<=100000:=λ a q=>⟨q.1,BM q.2 hL,hl5⟩;have u0:0<=h.src/65536:=CZ o1.1 (by decide);have u1:h.src/65536<65536:=Cc (by decide) o1.2;have w0:0<=h.tgt/65536:=CZ o2.1 (by decide);have w1:h.tgt/65536<65536:=Cc (by decide) o2.2;have z0:0<=h.off/8:=CZ o7.1 (by decide);have z1:h.off/8<8192:=Cc (by decide) o7.2.1;have a2:jm (qS h p) 2=20+(p.length:Int):=vD (Bb (20+p.length)) (Cq.mpr (CC (Cs hl 20) (by decide)));have a4:jm (qS h p) 4=h.ident:=vD o4.1 o4.2;have a6:jm (qS h p) 6=qN h:=vD fr.1 fr.2;have a12:jm (qS h p) 12=h.src/65536:=vD u0 u1;have a14:jm (qS h p) 14=h.src%65536:=Ze _;have a16:jm (qS h p) 16=h.tgt/65536:=vD w0 w1;have a18:jm (qS h p) 18=h.tgt%65536:=Ze _;have s1:jG (qS h p) none (some 20)=hb h p.length (hsum h p.length):=slice_hd _ _ rfl;have s2:jG (qS h p) (some 20) (some 20)=[]:=Xd _ _ rfl;have s3:jG (qS h p) (some 20) (some (20+(p.length:Int)))=p:=slice_tl _ _ rfl;have sm:=sum_ok h p.length;rw[e_unpack];generalize qS h p=o at *;have e5:(5:Int)*4=20:=rfl;have e6:Int.fmod (69:Int) 16=5:=rfl;have e7:Int.fdiv (69:Int) 16=4:=rfl;have b1:Builtin.bitOr (h.src/65536*65536) (h.src%65536)=h.src:=(bor_16 u0 (Bs _ (by decide)) (Bt _ (by decide))).trans (Int.ediv_mul_add_emod _ _);have b2:Builtin.bitOr (h.tgt/65536*65536) (h.tgt%65536)=h.tgt:=(bor_16 w0 (Bs _ (by decide)) (Bt _ (by decide))).trans (Int.ediv_mul_add_emod _ _);have b3:Builtin.bitAnd (qN h) 8191=h.off/8:=by
  refine rwl (band_8191 fr.1) (rwl (flags8 h) ?_);exact(Cr _ _ _).trans (Dm z0 z1)
 have b4:(!(Builtin.bitAnd (qN h) 16384 == 0))=h.dont:=by
  have e:=Yx fr.1 14;have e':Builtin.bitAnd (qN h) 16384=qN h/16384%2*16384:=e;refine rwl e' ?_;have:qN h/16384%2=b2i h.dont:=by
   have h2:=uG h.more;have h7:8192*b2i h.more<=8192:=CQ h2.2 (show(0:Int)<=8192 by decide);have h8:h.off/8+8192*b2i h.more<16384:=Int.add_lt_add_of_lt_of_le z1 h7;unfold qN;rw[Int.add_right_comm,Int.add_mul_ediv_left _ _ (by decide),Df (Bp z0 (D1 (by decide) h2.1)) h8,D0];cases h.dont <;> rfl
  refine rwl this ?_;cases h.dont <;> rfl
 have b5:(!(Builtin.bitAnd (qN h) 8192 == 0))=h.more:=by
  have e:=Yx fr.1 13;have e':Builtin.bitAnd (qN h) 8192=qN h/8192%2*8192:=e;refine rwl e' ?_;have:qN h/8192%2=b2i h.more:=by
   rw[flags8,Int.add_mul_ediv_left _ _ (by decide),Df z0 z1,D0,CS,Cr];cases h.more <;> rfl
  rw[this];cases h.more <;> rfl
 have b6:h.off/8*8=h.off:=Int.ediv_mul_cancel (Int.dvd_of_emod_eq_zero o7.2.2);simp only[f0,f1,f8,f9,a2,a4,a6,a12,a14,a16,a18,e5,e6,e7,s1,s2,s3,sm,b1,b2,b3,b4,b5,b6,hlen,hb_len];refine⟨hl6,brF (BX (nL 20 (by decide))) ⟨qa 0 (by decide),by decide,brF (by decide) ⟨qa 0 (by decide),by decide,⟨by unfold sml;decide,by unfold sml;decide⟩,brF (by decide) ⟨hl6,brF (BX (nL 20 (by decide))) ⟨rfl,qb 2 (by decide),brF (BX (nL 20 (by decide))) ⟨hl6,brF (BX (Int.lt_irrefl _)) ⟨hl5,rfl,⟨trivial,trivial⟩,brF (by decide) ⟨rfl,qb 6 (by decide),hl5,hl6,brF (BX (nL _ (by decide))) ⟨rfl,qb 12 (by decide),⟨y3 u0 (Bj u1 (by decide)),by decide⟩,rfl,qb _ (by decide),hl6,brF (BX (nL _ (by decide))) ⟨rfl,qb 16 (by decide),⟨y3 w0 (Bj w1 (by decide)),by decide⟩,rfl,qb _ (by decide),qa 9 (by decide),rfl,qb 4 (by decide),qa 8 (by decide),qa 1 (by decide),⟨y3 z0 (Bj z1 (by decide)),by unfold sml;decide⟩,hl5,jL hk⟩⟩⟩⟩⟩⟩⟩⟩⟩⟩
noncomputable def takeS:Nat->List Stmt->List Stmt
 | 0,_=>[]
 | _+1,[]=>[]
 | n+1,x::r=>x::takeS n r
def uj(self:jK->Prop)(c:Expr)(body:List Stmt)(W:St->Prop)(st:St)(k:Fl->St->Prop)(kx:KX):Prop:=self (.t c st (kW1 self body W k kx) kx)
def Qd(self:jK->Prop)(tgt:Expr)(body:List Stmt)(src:Src)(us:List T)(t:T)(W:St->Prop)(st:St)(k:Fl->St->Prop)(kx:KX):Prop:=self (.asg tgt (.p t) st (kF1 self body (kW2 (kGo src us W) k) kx) kx)
def compL1(self:jK->Prop)(tgt elt:Expr)(ifs:List Expr)(src:Src)(us:List T)(t:T)(W:St->KL->Prop)(st:St)(k:KL):Prop:=self (.asg tgt (.p t) st (kC1 self ifs (kC2 self elt src us W k)) kNo)
section
variable{self:jK->Prop}{c tgt elt:Expr}{ifs:List Expr}{body:List Stmt}{st:St}{k:Fl->St->Prop}{kx:KX}{src:Src}{us r:List T}{t:T}{m:Nat}{kc:List T->List jB->Prop}
theorem qu:qV self c body (m+1) st k kx=uj self c body (λ st2=>qV self c body m st2 k kx) st k kx:=ww
theorem qE:zm self tgt body src us (t::r) st k kx=Qd self tgt body src us t (λ st2=>zm self tgt body src us r st2 k kx) st k kx:=rfl
theorem jy:zK self tgt elt ifs src us (t::r) st kc=compL1 self tgt elt ifs src us t (λ st2 k=>zK self tgt elt ifs src us r st2 k) st kc:=rfl
end
noncomputable abbrev sp2:Addr->Option jJ:=lkS ([(227,jR U1),(241,jR up)]++(l1++[(119,jR vX)]))
theorem qz{X:Run}(ok:jv X):jN X sp2 100:=by
 exact jN.lay (Y9 ok) (jD rfl) ⟨jO (n:=40) ok (Y9 ok) c_pack (jD rfl),jO (n:=40) ok (Y9 ok) c_unpack (jD rfl),trivial⟩
noncomputable abbrev cutS (h:Hd) (p:List UInt8) (mtu at_:Int) (f:List T):St:=⟨[(n61,.p (hdT h)),(n67,.p (.bytes p)),(zG,.p (.int mtu)),(n71,.m 0),(n18,.p (.int at_)),(n52,.p (.bytes [])),(wl,.p (.bytes []))],[.plst f],fSc 316⟩
noncomputable abbrev cutS' (h:Hd) (p:List UInt8) (mtu at_:Int) (f:List T) (a:T) (b c:Int):St:=⟨[(n61,.p (hdT h)),(n67,.p (.bytes p)),(zG,.p (.int mtu)),(n71,.m 0),(n18,.p (.int at_)),(n52,.p (.bytes [])),(wl,.p (.bytes [])),(ZI,.p a),(Jo,.p (.int b)),(Jq,.p (.int c))],[.plst f],fSc 316⟩
theorem cut_pre(h:Hd)(p:List UInt8)(mtu:Int)(K:Fl->St->Prop)(kx:KX):ev sp2 39 (.ss (takeS 6 (fB 316)) ⟨[(n61,.p (hdT h)),(n67,.p (.bytes p)),(zG,.p (.int mtu))],[],fSc 316⟩ K kx)=((0:Nat)<(1099511627776:Nat)/\List.length p<(1099511627776:Nat)/\Br (decide ((20:Int) + ↑(0:Nat) + ↑(List.length p)<=mtu)) (K (Fl.ret (V.p (T.lst [T.tup [hdT h,T.bytes p]]))) { loc:=[(n61,V.p (hdT h)),(n67,V.p (T.bytes p)),(zG,V.p (T.int mtu))],mem:=[],sc:=fSc (316:Addr) }) (Br (Hd.dont h) (kx (nat_lit 63) { loc:=[(n61,V.p (hdT h)),(n67,V.p (T.bytes p)),(zG,V.p (T.int mtu))],mem:=[],sc:=fSc (316:Addr) }) (j8 (0:Nat) [V.p (T.bytes [])]=true/\K Fl.next { loc:=[(n61,V.p (hdT h)),(n67,V.p (T.bytes p)),(zG,V.p (T.int mtu)),(n71,V.m (0:Nat)),(n18,V.p (T.int (0:Int))),(n52,V.p (T.bytes [])),(wl,V.p (T.bytes []))],mem:=[jB.plst []],sc:=fSc (316:Addr) }))):=by kernel_rfl
theorem cut_step(W:St->Prop)(h:Hd)(p:List UInt8)(mtu at_:Int)(f:List T)(K:Fl->St->Prop)(kx:KX):uj (ev sp2 31) (whC (jY 6 (fB 316))) (whB (jY 6 (fB 316))) W (cutS h p mtu at_ f) K kx=(List.length p<(1099511627776:Nat)/\(0:Nat)<(1099511627776:Nat)/\Br (decide ((20:Int) + ↑(0:Nat)+(↑(List.length p)-at_)<=mtu)) (List.length p<=(100000:Nat)/\List.length f<=(100000:Nat)/\K (Fl.ret (V.m (0:Nat))) { loc:=[(n61,V.p (hdT h)),(n67,V.p (T.bytes p)),(zG,V.p (T.int mtu)),(n71,V.m (0:Nat)),(n18,V.p (T.int at_)),(n52,V.p (T.bytes [])),(wl,V.p (T.bytes [])),(ZI,V.p (T.inst (nat_lit 188) [(n43,T.int (Hd.src h)),(n44,T.int (Hd.tgt h)),(n45,T.int (Hd.proto h)),(n46,T.int (Hd.ident h)),(n47,T.int (Hd.ttl h)),(n48,T.int (Hd.tos h)),(n49,T.bool (Hd.dont h)),(n50,T.bool true),(n51,T.int (Hd.off h+at_)),(n52,T.bytes [])])),(Jo,V.p (T.int (↑(List.length p)-at_)))],mem:=[jB.plst (f++[T.tup [T.inst (nat_lit 188) [(n43,T.int (Hd.src h)),(n44,T.int (Hd.tgt h)),(n45,T.int (Hd.proto h)),(n46,T.int (Hd.ident h)),(n47,T.int (Hd.ttl h)),(n48,T.int (Hd.tos h)),(n49,T.bool (Hd.dont h)),(n50,T.bool (Hd.more h)),(n51,T.int (Hd.off h+at_)),(n52,T.bytes [])],T.bytes (jG p (some at_) none)]])],sc:=fSc (316:Addr) }) ((0:Nat)<(1099511627776:Nat)/\j8 (0:Nat) [V.p (T.int mtu),V.p (T.int ((20:Int) + ↑(0:Nat)))]=true/\((20:Int) + ↑(0:Nat)=(20:Int)/\(0:Int)<=mtu/\mtu<(100000:Int))/\Br (decide (ja mtu<(8:Int))) (kx (nat_lit 63) { loc:=[(n61,V.p (hdT h)),(n67,V.p (T.bytes p)),(zG,V.p (T.int mtu)),(n71,V.m (0:Nat)),(n18,V.p (T.int at_)),(n52,V.p (T.bytes [])),(wl,V.p (T.bytes [])),(ZI,V.p (T.inst (nat_lit 188) [(n43,T.int (Hd.src h)),(n44,T.int (Hd.tgt h)),(n45,T.int (Hd.proto h)),(n46,T.int (Hd.ident h)),(n47,T.int (Hd.ttl h)),(n48,T.int (Hd.tos h)),(n49,T.bool (Hd.dont h)),(n50,T.bool true),(n51,T.int (Hd.off h+at_)),(n52,T.bytes [])])),(Jo,V.p (T.int (↑(List.length p)-at_)))],mem:=[jB.plst f],sc:=fSc (316:Addr) }) (List.length p<=(100000:Nat)/\List.length f<=(100000:Nat)/\W { loc:=[(n61,V.p (hdT h)),(n67,V.p (T.bytes p)),(zG,V.p (T.int mtu)),(n71,V.m (0:Nat)),(n18,V.p (T.int (at_+ja mtu))),(n52,V.p (T.bytes [])),(wl,V.p (T.bytes [])),(ZI,V.p (T.inst (nat_lit 188) [(n43,T.int (Hd.src h)),(n44,T.int (Hd.tgt h)),(n45,T.int (Hd.proto h)),(n46,T.int (Hd.ident h)),(n47,T.int (Hd.ttl h)),(n48,T.int (Hd.tos h)),(n49,T.bool (Hd.dont h)),(n50,T.bool true),(n51,T.int (Hd.off h+at_)),(n52,T.bytes [])])),(Jo,V.p (T.int (↑(List.length p)-at_))),(Jq,V.p (T.int (ja mtu)))],mem:=[jB.plst (f++[T.tup [T.inst (nat_lit 188) [(n43,T.int (Hd.src h)),(n44,T.int (Hd.tgt h)),(n45,T.int (Hd.proto h)),(n46,T.int (Hd.ident h)),(n47,T.int (Hd.ttl h)),(n48,T.int (Hd.tos h)),(n49,T.bool (Hd.dont h)),(n50,T.bool true),(n51,T.int (Hd.off h+at_)),(n52,T.bytes [])],T.bytes (jG p (some at_) (some (at_+ja mtu)))]])],sc:=fSc (316:Addr) }))):=by kernel_rfl
theorem cut_step'(W:St->Prop)(h:Hd)(p:List UInt8)(mtu at_:Int)(f:List T)(a:T)(b c:Int)(K:Fl->St->Prop)(kx:KX):uj (ev sp2 31) (whC (jY 6 (fB 316))) (whB (jY 6 (fB 316))) W (cutS' h p mtu at_ f a b c) K kx=(List.length p<(1099511627776:Nat)/\(0:Nat)<(1099511627776:Nat)/\Br (decide ((20:Int) + ↑(0:Nat)+(↑(List.length p)-at_)<=mtu)) (List.length p<=(100000:Nat)/\List.length f<=(100000:Nat)/\K (Fl.ret (V.m (0:Nat))) { loc:=[(n61,V.p (hdT h)),(n67,V.p (T.bytes p)),(zG,V.p (T.int mtu)),(n71,V.m (0:Nat)),(n18,V.p (T.int at_)),(n52,V.p (T.bytes [])),(wl,V.p (T.bytes [])),(ZI,V.p (T.inst (nat_lit 188) [(n43,T.int (Hd.src h)),(n44,T.int (Hd.tgt h)),(n45,T.int (Hd.proto h)),(n46,T.int (Hd.ident h)),(n47,T.int (Hd.ttl h)),(n48,T.int (Hd.tos h)),(n49,T.bool (Hd.dont h)),(n50,T.bool true),(n51,T.int (Hd.off h+at_)),(n52,T.bytes [])])),(Jo,V.p (T.int (↑(List.length p)-at_))),(Jq,V.p (T.int c))],mem:=[jB.plst (f++[T.tup [T.inst (nat_lit 188) [(n43,T.int (Hd.src h)),(n44,T.int (Hd.tgt h)),(n45,T.int (Hd.proto h)),(n46,T.int (Hd.ident h)),(n47,T.int (Hd.ttl h)),(n48,T.int (Hd.tos h)),(n49,T.bool (Hd.dont h)),(n50,T.bool (Hd.more h)),(n51,T.int (Hd.off h+at_)),(n52,T.bytes [])],T.bytes (jG p (some at_) none)]])],sc:=fSc (316:Addr) }) ((0:Nat)<(1099511627776:Nat)/\j8 (0:Nat) [V.p (T.int mtu),V.p (T.int ((20:Int) + ↑(0:Nat)))]=true/\((20:Int) + ↑(0:Nat)=(20:Int)/\(0:Int)<=mtu/\mtu<(100000:Int))/\Br (decide (ja mtu<(8:Int))) (kx (nat_lit 63) { loc:=[(n61,V.p (hdT h)),(n67,V.p (T.bytes p)),(zG,V.p (T.int mtu)),(n71,V.m (0:Nat)),(n18,V.p (T.int at_)),(n52,V.p (T.bytes [])),(wl,V.p (T.bytes [])),(ZI,V.p (T.inst (nat_lit 188) [(n43,T.int (Hd.src h)),(n44,T.int (Hd.tgt h)),(n45,T.int (Hd.proto h)),(n46,T.int (Hd.ident h)),(n47,T.int (Hd.ttl h)),(n48,T.int (Hd.tos h)),(n49,T.bool (Hd.dont h)),(n50,T.bool true),(n51,T.int (Hd.off h+at_)),(n52,T.bytes [])])),(Jo,V.p (T.int (↑(List.length p)-at_))),(Jq,V.p (T.int c))],mem:=[jB.plst f],sc:=fSc (316:Addr) }) (List.length p<=(100000:Nat)/\List.length f<=(100000:Nat)/\W { loc:=[(n61,V.p (hdT h)),(n67,V.p (T.bytes p)),(zG,V.p (T.int mtu)),(n71,V.m (0:Nat)),(n18,V.p (T.int (at_+ja mtu))),(n52,V.p (T.bytes [])),(wl,V.p (T.bytes [])),(ZI,V.p (T.inst (nat_lit 188) [(n43,T.int (Hd.src h)),(n44,T.int (Hd.tgt h)),(n45,T.int (Hd.proto h)),(n46,T.int (Hd.ident h)),(n47,T.int (Hd.ttl h)),(n48,T.int (Hd.tos h)),(n49,T.bool (Hd.dont h)),(n50,T.bool true),(n51,T.int (Hd.off h+at_)),(n52,T.bytes [])])),(Jo,V.p (T.int (↑(List.length p)-at_))),(Jq,V.p (T.int (ja mtu)))],mem:=[jB.plst (f++[T.tup [T.inst (nat_lit 188) [(n43,T.int (Hd.src h)),(n44,T.int (Hd.tgt h)),(n45,T.int (Hd.proto h)),(n46,T.int (Hd.ident h)),(n47,T.int (Hd.ttl h)),(n48,T.int (Hd.tos h)),(n49,T.bool (Hd.dont h)),(n50,T.bool true),(n51,T.int (Hd.off h+at_)),(n52,T.bytes [])],T.bytes (jG p (some at_) (some (at_+ja mtu)))]])],sc:=fSc (316:Addr) }))):=by kernel_rfl
noncomputable def jx (n mtu:Int):Nat->Int->List (Int×Bool)
 | 0,_=>[]
 | m+1,a=>if 20+(n-a)<=mtu then[(a,true)] else(a,false)::jx n mtu m (a+ja mtu)
noncomputable def xC (p:List UInt8) (mtu:Int):Int×Bool->List UInt8
 | (a,true)=>jG p (some a) none
 | (a,false)=>jG p (some a) (some (a+ja mtu))
noncomputable def UP (h:Hd) (p:List UInt8) (mtu:Int):Int×Bool->T
 | (a,true)=>.tup [hdT { h with off:=h.off+a },.bytes (xC p mtu (a,true))]
 | (a,false)=>.tup [hdT { h with off:=h.off+a,more:=true },.bytes (xC p mtu (a,false))]
abbrev cutW(m:Nat)(st:St)(K:Fl->St->Prop)(kx:KX):Prop:=qV (ev sp2 31) (whC (jY 6 (fB 316))) (whB (jY 6 (fB 316))) m st K kx
theorem zb(n mtu a:Int)(m:Nat):jx n mtu (m+1) a=if 20+(n-a)<=mtu then[(a,true)] else(a,false)::jx n mtu m (a+ja mtu):=rfl
theorem cut_loop(h:Hd)(p:List UInt8)(mtu:Int)(hp:p.length<=60000)(hm0:0<=mtu)(hm1:mtu<100000)(hr:8<=ja mtu)(K:Fl->St->Prop)(kx:KX)(m:Nat):∀(a:Int) (f:List T) (x:T) (b c:Int),
  0<=a->a<=p.length->(p.length:Int)+20-a<=8*m->f.length+m<=90000->(∀ st,st.mem=[.plst (f++(jx p.length mtu m a).map (UP h p mtu))]->K (.ret (.m 0)) st)->cutW m (cutS' h p mtu a f x b c) K kx:=by
 induction m with
 | zero=>intro a f x b c h0 h1 h2 h3 hk;rw[CS,DP] at h2;exact absurd (BM (Int.le_add_of_nonneg_right (CP h1)) h2) (by decide)
 | succ m ih=>
   intro a f x b c h0 h1 h2 h3 hk;have q0:(20:Int) + ↑(0:Nat)=20:=rfl;rw[zb] at hk;unfold cutW;rw[qu,cut_step',q0];have hp5:p.length<=100000:=BF hp (by decide);have hf5:f.length<=100000:=BF (Bi _ _) (BF h3 (by decide));refine⟨CC hp (by decide),by decide,brD (λ q=>⟨hp5,hf5,?_⟩) (λ q=>⟨by decide,rfl,⟨rfl,hm0,hm1⟩,brF (BX (Bg.mpr hr)) ⟨hp5,hf5,?_⟩⟩)⟩
   ·rw[BJ q] at hk;exact hk _ rfl
   ·rw[BE q] at hk;refine ih (a+ja mtu) _ _ _ _ (Bp h0 (BM (by decide) hr)) (cutA q) (cutB hr h2) (by rw[BV,Nat.add_assoc,Nat.add_comm _ m];exact h3) λ st e=>hk st ?_;rw[e,D2];rfl
theorem cut_call(h:Hd)(p:List UInt8)(mtu:Int)(k:KM)(kx:KXM):ev sp2 40 (.call 316 [.p (hdT h),.p (.bytes p),.p (.int mtu)] [] k kx) =
  ev sp2 39 (.ss (takeS 6 (fB 316)) ⟨[(n61,.p (hdT h)),(n67,.p (.bytes p)),(zG,.p (.int mtu))],[],fSc 316⟩ (kSs (ev sp2 33) (wt 6 (fB 316)) (kRf 316 0 k) (kXf 0 kx)) (kXf 0 kx)):=by kernel_rfl
theorem cut_while(h:Hd)(p:List UInt8)(mtu a:Int)(f:List T)(k:Fl->St->Prop)(kx:KX):kSs (ev sp2 33) (wt 6 (fB 316)) k kx .next (cutS h p mtu a f)=cutW 70000 (cutS h p mtu a f) (kSs (ev sp2 32) (wt 7 (fB 316)) k kx) kx:=by kernel_rfl
def gCutb(args:List V)(K:T->Prop)(KX:Addr->Prop)(h:Hd)(p:List UInt8)(mtu:Int):Prop:=args=[.p (hdT h),.p (.bytes p),.p (.int mtu)]/\(p.length<=60000/\0<=mtu/\mtu<100000)/\
 Br (decide (20+(p.length:Int)<=mtu)) (K (.lst [.tup [hdT h,.bytes p]])) (Br (h.dont||decide (ja mtu<8)) (KX 63) (K (.lst ((jx p.length mtu 70000 0).map (UP h p mtu)))))
def gCut:List V->(T->Prop)->(Addr->Prop)->Prop:=λ args K KX=>Ex3 λ(h:Hd) (p:List UInt8) (mtu:Int)=>gCutb args K KX h p mtu
theorem c_cut:∀ args K KX,gCut args K KX->ev sp2 40 (.call 316 args [] (pK K) (pX KX)):=by
 rintro args K KX ⟨h,p,mtu,rfl,⟨hp,hm0,hm1⟩,hk⟩;have q0:(20:Int) + ↑(0:Nat)=20:=rfl;rw[cut_call,cut_pre,q0];refine⟨by decide,CC hp (by decide),brD (λ q=>?_) (λ q=>?_)⟩
 ·rw[Bf q] at hk;exact jL hk
 ·rw[BX q] at hk;refine br (λ hd=>?_) (λ hd=>⟨rfl,?_⟩)
  ·rw[hd] at hk;exact pX_ok hk
  ·rw[hd,Bool.false_or] at hk;rw[cut_while];unfold cutW;rw[show(70000:Nat)=69999+1 from rfl,qu,cut_step,q0];have q':¬ 20+((p.length:Int)-0)<=mtu:=rwl (Int.sub_zero _) q;refine⟨CC hp (by decide),by decide,brF (BX q') ⟨by decide,rfl,⟨rfl,hm0,hm1⟩,brD (λ q2=>?_) (λ q2=>⟨BF hp (by decide),by decide,?_⟩)⟩⟩
   ·rw[Bf q2] at hk;exact pX_ok hk
   ·rw[BX q2] at hk;have hr:=Bg.mp q2;refine cut_loop h p mtu hp hm0 hm1 hr _ _ 69999 (0+ja mtu) _ _ _ _ (Bp (by decide) (BM (by decide) hr)) (cutA q') (cutB hr (rwl (Int.sub_zero _) (BM (DQ (Bv.mpr hp) 20) (by decide)))) (show 1+69999<=90000 by decide) λ st e=>?_;have e2:[jB.plst ((jx p.length mtu (69999+1) 0).map (UP h p mtu))]=st.mem:=by
     rw[e,zb,BE q'];rfl
    show fin false 0 (.m 0) st.mem (pK K);refine rwl e2.symm ?_;exact jL hk
mutual
inductive Frz(mem:List jB)(inv:Nat->Option Nat):V->T->Prop
 | p (t:T):Frz mem inv (.p t) t
 | inst {i:Nat} {C:Addr} {fs:List (Str×V)} {fs':List (Str×T)}:inv i=none->i<jA mem->jC mem i=.inst C fs->FrzF mem inv fs fs'->Frz mem inv (.m i) (.inst C fs')
 | plst {i:Nat} {ts:List T}:inv i=none->i<jA mem->jC mem i=.plst ts->Frz mem inv (.m i) (.lst ts)
inductive FrzF(mem:List jB)(inv:Nat->Option Nat):List (Str×V)->List (Str×T)->Prop
 | nil:FrzF mem inv [] []
 | cons {x:Str} {v:V} {t:T} {r:List (Str×V)} {r':List (Str×T)}:Frz mem inv v t->FrzF mem inv r r'->FrzF mem inv ((x,v)::r) ((x,t)::r')
end
inductive CV(mem:List jB)(inv:Nat->Option Nat):V->V->Prop
 | keep {i j:Nat}:inv i=some j->CV mem inv (.m i) (.m j)
 | frz {v:V} {t:T}:Frz mem inv v t->CV mem inv v (.p t)
inductive CVF(mem:List jB)(inv:Nat->Option Nat):List (Str×V)->List (Str×V)->Prop
 | nil:CVF mem inv [] []
 | cons {x:Str} {v v':V} {r r':List (Str×V)}:CV mem inv v v'->CVF mem inv r r'->CVF mem inv ((x,v)::r) ((x,v')::r')
inductive CO(mem:List jB)(inv:Nat->Option Nat):jB->jB->Prop
 | plst (ts:List T):CO mem inv (.plst ts) (.plst ts)
 | inst {C:Addr} {fs fs':List (Str×V)}:CVF mem inv fs fs'->CO mem inv (.inst C fs) (.inst C fs')
 | dict0 (ep:Nat):CO mem inv (.dict [] ep) (.dict [] ep)
noncomputable def zB (inv:Nat->Option Nat):Option j9->Option j9
 | some (.obj i)=>(inv i).map .obj
 | some (.dct i)=>(inv i).map .dct
 | r=>r
noncomputable def Lay.tidy (d:Lay) (inv:Nat->Option Nat) (sg:Nat->Nat) (h:Heap):Lay:=Lay.grow ⟨d.Z,λ b=>zB inv (d.role b),λ j=>d.rho (sg j),d.P⟩ h
theorem ZD{inv:Nat->Option Nat}{r:Option j9}{q:j9}(h:zB inv r=some q):∃ q',r=some q':=by
 induction r using BU with
 | none=>exact nsm h
 | some r=>exact⟨r,rfl⟩
section
variable{X:Run}{d d':Lay}{mem mem2:List jB}{fr:List Env}{s:Shared}{n:Nat}{inv:Nat->Option Nat}{sg:Nat->Nat}
theorem jH.tidy_z(c:jH X d mem fr s):∀ b o,d.Z b=some o->(d.tidy inv sg s.heap).Z b=some o:=λ b o e=>
 Lay.grow_of (by show zB inv (d.role b)=none;rw[c.zrole e];rfl) (c.zin b o e)
theorem vvf0{es:List DictEntry}(h:VVF d n [] es):es=[]:=by cases h;rfl
theorem vvf1{x:Str}{t:V}{ts:List (Str×V)}{es:List DictEntry}(h:VVF d n ((x,t)::ts) es):Ex4 λ k hh v es'=>jT (es=⟨hh,.str x k,v⟩::es') (VV d n t v) (VVF d n ts es'):=by
 cases h with | cons a r=>exact⟨_,_,_,_,rfl,a,r⟩
theorem Zv{b:Addr}{i:Nat}(h1:inv i=none)(r:d.role b=some (.obj i)):zB inv (d.role b)=none:=by
 rw[r];exact Bo (Option.map j9.obj) h1
theorem role_dct{b:Addr}{i:Nat}(h1:inv i=none)(r:d.role b=some (.dct i)):zB inv (d.role b)=none:=by
 rw[r];exact Bo (Option.map j9.dct) h1
theorem frz_inst(c:jH X d mem fr s){i:Nat}{C:Addr}{fs:List (Str×V)}{fs':List (Str×T)}{val:Value}(h1:inv i=none)(h3:jC mem i=.inst C fs)
  (ih:∀ es,VVF d (jA mem) fs es->VRF (d.tidy inv sg s.heap).Z fs' es) (h:VV d (jA mem) (.m i) val):VR (d.tidy inv sg s.heap).Z (.inst C fs') val:=by
 obtain⟨hi,rfl⟩:=h.inv;have o:=c.mem i hi;rw[h3] at o;obtain⟨r,dx,sl,es,k,g,rd,gd,v⟩:=o;exact .inst (Lay.grow_of (Zv h1 r) g) (Lay.grow_of (role_dct h1 rd) gd) (ih _ v)
theorem frz_plst(c:jH X d mem fr s){i:Nat}{ts:List T}{val:Value}(h1:inv i=none)(h3:jC mem i=.plst ts)(h:VV d (jA mem) (.m i) val):VR (d.tidy inv sg s.heap).Z (.lst ts) val:=by
 obtain⟨hi,rfl⟩:=h.inv;have o:=c.mem i hi;rw[h3] at o;obtain⟨r,items,k,g,v⟩:=o;exact .lst (Lay.grow_of (Zv h1 r) g) (v.mono c.tidy_z)
theorem frz_nil(c:jH X d mem fr s){es:List DictEntry}(h:VVF d (jA mem) [] es):VRF (d.tidy inv sg s.heap).Z [] es:=rwl (vvf0 h) .nil
theorem frz_cons(c:jH X d mem fr s){x:Str}{v:V}{t:T}{r:List (Str×V)}{r':List (Str×T)}(i1:∀ val,VV d (jA mem) v val->VR (d.tidy inv sg s.heap).Z t val)(i2:∀ es,VVF d (jA mem) r es->VRF (d.tidy inv sg s.heap).Z r' es)
  {es:List DictEntry} (h:VVF d (jA mem) ((x,v)::r) es):VRF (d.tidy inv sg s.heap).Z ((x,t)::r') es:=by
 obtain⟨k,hh,u,es',rfl,a,b⟩:=vvf1 h;exact .cons (i1 _ a) (i2 _ b)
theorem frz_vr(c:jH X d mem fr s){v:V}{t:T}{val:Value}(f:Frz mem inv v t)(h:VV d (jA mem) v val):VR (d.tidy inv sg s.heap).Z t val:=
 Frz.rec (motive_1:=λ v t _=>∀ val,VV d (jA mem) v val->VR (d.tidy inv sg s.heap).Z t val) (motive_2:=λ l l' _=>∀ es,VVF d (jA mem) l es->VRF (d.tidy inv sg s.heap).Z l' es)
  (λ t val h=>VR.mono c.tidy_z (VV.inv (x:=.p t) h)) (λ h1 _ h3 _ ih val h=>frz_inst c h1 h3 ih h) (λ h1 _ h3 val h=>frz_plst c h1 h3 h) (λ es h=>frz_nil c h) (λ _ _ i1 i2 es h=>frz_cons c i1 i2 h) f val h
theorem cv_vv(c:jH X d mem fr s)(hinv:∀ i j,inv i=some j->j<n/\sg j=i){v v':V}{val:Value}(h:CV mem inv v v')(hv:VV d (jA mem) v val):VV (d.tidy inv sg s.heap) n v' val:=by
 induction h using CV.casesOn with
 | keep e=>
   obtain⟨h1,h2⟩:=hinv _ _ e;cases hv with | m hv=>
   rw[<- h2];exact .m (d:=d.tidy inv sg s.heap) h1
 | frz h=>exact .p (frz_vr c h hv)
theorem cvf_vvf(c:jH X d mem fr s)(hinv:∀ i j,inv i=some j->j<n/\sg j=i){v v':List (Str×V)}{es:List DictEntry}(f:CVF mem inv v v')(h:VVF d (jA mem) v es):VVF (d.tidy inv sg s.heap) n v' es:=by
 induction f generalizing es with
 | nil=>exact rwl (vvf0 h) .nil
 | cons a _ ih=>
   obtain⟨k,hh,u,es',rfl,b,q⟩:=vvf1 h;exact .cons (cv_vv c hinv a b) (ih q)
theorem jH.tidy(c:jH X d mem fr s)(hs:∀ j,j<jA mem2->jT (sg j<jA mem) (inv (sg j)=some j) (CO mem inv (jC mem (sg j)) (jC mem2 j)))(hinv:∀ i j,inv i=some j->j<jA mem2/\sg j=i) :
  jH X (d.tidy inv sg s.heap) mem2 fr s:=by
 have rk:∀ b r,d.role b=some r->(∀ j,r≠.obj j/\r≠.dct j)->(d.tidy inv sg s.heap).role b=some r:=λ b r e h=>by
  show zB inv (d.role b)=_;rw[e];induction r using j9.casesOn with
  | obj j=>exact absurd rfl (h j).1
  | dct j=>exact absurd rfl (h j).2
  | _=>rfl
 have rp:∀ r:j9,(r=.loc\/r=.priv\/r=.tab)->∀ j,r≠.obj j/\r≠.dct j:=λ r h j=>by
  rcases h with rfl | rfl | rfl <;> exact⟨nofun,nofun⟩
 refine⟨c.gens,c.os,λ b o e=>c.tidy_z b o (c.base b o e),λ b o e=>(Lay.of_grow e).2,λ b r e=>?_,λ b r e=>?_,λ b o e=>?_,λ j hj=>?_,c.tab.mono c.tidy_z (λ r=>rk qA _ r (rp _ (.inr (.inr rfl)))) (λ _ e=>e),λ e he=>?_⟩
 ·show(match zB inv (d.role b) with | some _=>none | none=>s.heap.get? b)=none;have e:zB inv (d.role b)=some r:=e;rw[e]
 ·obtain⟨q,e'⟩:=ZD (show zB inv (d.role b)=some r from e);exact c.rin b q e'
 ·obtain⟨r,q⟩:=c.pin b o e;exact⟨rk b _ r (rp _ (.inr (.inl rfl))),q⟩
 ·obtain⟨h1,h2,h3⟩:=hs j hj;have o:=c.mem (sg j) h1;revert o h3;generalize jC mem (sg j)=m1;generalize jC mem2 j=m2;have nr:∀ b,d.role b=some (.obj (sg j))->(d.tidy inv sg s.heap).role b=some (.obj j):=λ b e=>by
   show zB inv (d.role b)=_;rw[e];show(inv (sg j)).map _=_;rw[h2];rfl
  have nd:∀ b,d.role b=some (.dct (sg j))->(d.tidy inv sg s.heap).role b=some (.dct j):=λ b e=>by
   show zB inv (d.role b)=_;rw[e];show(inv (sg j)).map _=_;rw[h2];rfl
  intro h3 o;induction h3 using CO.casesOn with
  | plst ts=>
    obtain⟨r,items,k,g,v⟩:=o;exact⟨nr _ r,items,k,g,v.mono c.tidy_z⟩
  | inst hf=>
    obtain⟨r,dx,sl,es,k,g,rd,gd,v⟩:=o;exact⟨nr _ r,dx,sl,es,k,g,nd _ rd,gd,cvf_vvf c hinv hf v⟩
  | dict0 ep=>
    obtain⟨r,ne,ds,g,v⟩:=o;refine⟨nr _ r,ne,ds,g,?_⟩;clear g;generalize ds.toList=dl at v ⊢;cases v;exact .nil
 ·obtain⟨a,L,o,f,r,g,q⟩:=c.fr e he;exact⟨a,L,o,f,r.imp (λ r=>rk L _ r (rp _ (.inl rfl))) (λ r=>rk L _ r (rp _ (.inr (.inl rfl)))),g,q⟩
end
def Tidy(n:Nat)(mem1:List jB)(v1:V)(mem2:List jB)(v2:V):Prop:=Ex2 λ(sg:Nat->Nat) (inv:Nat->Option Nat)=>vj (n<=jA mem2) (∀ i,i<n->sg i=i) (∀ j,j<jA mem2->jT (sg j<jA mem1) (inv (sg j)=some j) (CO mem1 inv (jC mem1 (sg j)) (jC mem2 j))) (∀ i j,inv i=some j->j<jA mem2/\sg j=i) (CV mem1 inv v1 v2)
theorem Den.tidy{X:Run}{r:Nat}{f:Addr}{args:List V}{mem:List jB}{k:KM}{kx:KXM}(h:Den X r (.call f args mem (λ v mem1=>Ex2 λ v2 mem2=>Tidy (jA mem) mem1 v mem2 v2/\k v2 mem2) kx)):Den X r (.call f args mem k kx):=by
 intro A fr d s vals R c a hh hv hR hE;refine h A fr d s vals R c a hh hv (λ v mem1 d' val s' hk x c' vv=>?_) hE;obtain⟨v2,mem2,⟨sg,inv,h1,h2,h3,h4,h5⟩,hk⟩:=hk;refine hR v2 mem2 (d'.tidy inv sg s'.heap) val s' hk ⟨λ b o e=>c'.tidy_z b o (x.z b o e),λ i hi=>?_,h1,x.P⟩ (c'.tidy h3 h4) (cv_vv c' h4 h5 vv);show d'.rho (sg i)=_;rw[h2 i hi];exact x.rho i hi
theorem QD{n:Nat}{l:List jB}(h:jA l<=n):jZ n l=l:=by
 induction l generalizing n with
 | nil=>cases n <;> rfl
 | cons o r ih=>induction n using CD with
   | zero=>exact absurd h (Nat.not_succ_le_zero _)
   | succ n=>exact Bo (o::·) (ih (Cn h))
theorem ZQ{n:Nat}{v:V}{mem:List jB}{k:KM}{b:Bool}(h1:qi n (jZ n mem)=true->finV n v mem k)(h:k v mem):fin b n v mem k:=by
 unfold fin;cases e:qi n (jZ n mem)&&!b with
 | true=>exact h1 (BD.mp e).1
 | false=>exact h
theorem jw{n:Nat}{v:V}{mem:List jB}{k:KM}{b:Bool}(hn:jA mem<=n)(hv:yD n v=true)(h:k v mem):fin b n v mem k:=by
 refine ZQ (λ _=>?_) h;induction v using Dr with
 | p t=>show k (.p t) (jZ n mem);rw[QD hn];exact h
 | m i=>
   show(match Nat.blt i n with | true=>k (.m i) (jZ n mem) | false=>finM n (.m i) mem k (jC mem i));rw[show Nat.blt i n=true from hv,QD hn];exact h
 | lam=>exact ff hv
theorem xe{n:Nat}{mem:List jB}{k:KM}{b:Bool}(h:k (.p .none) mem)(h2:qi n (jZ n mem)=true->k (.p .none) (jZ n mem)):fin b n (.p .none) mem k:=ZQ h2 h
theorem U9{n i:Nat}{mem:List jB}{k:KM}{b:Bool}(hi:n<=i)(h:finM n (.m i) mem k (jC mem i))(h2:k (.m i) mem):fin b n (.m i) mem k:=by
 refine ZQ (λ _=>?_) h2;show(match Nat.blt i n with | true=>k (.m i) (jZ n mem) | false=>finM n (.m i) mem k (jC mem i));cases e:Nat.blt i n with
 | true=>exact absurd (Co.mp e) (DT.mpr hi)
 | false=>exact h
theorem fin_vlst{n i:Nat}{mem:List jB}{k:KM}{b:Bool}{vs:List V}(hi:n<=i)(hv:jC mem i=.vlst vs)(h:k (.m i) mem):fin b n (.m i) mem k:=U9 hi (by rw[hv];exact h) h
theorem fin_inst{n i:Nat}{mem:List jB}{k:KM}{b:Bool}{C:Addr}{fs:List (Str×V)}(hi:n<=i)(hv:jC mem i=.inst C fs)(h:k (.m i) mem):fin b n (.m i) mem k:=U9 hi (by rw[hv];exact h) h
noncomputable def ov:Option Nat->V
 | none=>.p .none
 | some b=>.m b
noncomputable abbrev brO (z o:V) (r:Nat):jB:=.inst 432 [(YH,z),(yv,o),(ue,.m r)]
def gChildb(args:List V)(mem:List jB)(k:KM)(kx:KXM)(b:Nat)(x:Int)(z o:V)(r:Nat):Prop:=vj (args=[.m b,.p (.int x)]) (jC mem b=brO z o r) (yD (jA mem) z=true) (yD (jA mem) o=true) (k (if x=0 then z else o) mem)
def gChild:jJ:=λ args mem k kx=>Ex5 λ(b:Nat) (x:Int) (z o:V) (r:Nat)=>gChildb args mem k kx b x z o r
theorem c_child:∀ args mem k kx,gChild args mem k kx->ev sp2 20 (.call 408 args mem k kx):=by
 rintro args mem k kx ⟨b,x,z,o,r,rfl,hb,hz,ho,hk⟩;conv=>whnf
 refine brE (λ q=>?_) (λ q=>?_)
 ·rw[BJ q] at hk;conv=>whnf
  erw[hb];exact jw (b:=false) (n:=jA mem) (BN _) hz hk
 ·rw[BE q] at hk;conv=>whnf
  erw[hb];exact jw (b:=false) (n:=jA mem) (BN _) ho hk
def W4(args:List V)(mem:List jB)(k:KM)(kx:KXM)(b:Nat)(x:Int)(z o v:V)(r:Nat):Prop:=jT (args=[.m b,.p (.int x),v]) (jC mem b=brO z o r) (k (.p .none) (jp mem b (if x=0 then brO v o r else brO z v r)))
def QZ:jJ:=λ args mem k kx=>Ex6 λ(b:Nat) (x:Int) (z o v:V) (r:Nat)=>W4 args mem k kx b x z o v r
theorem UR:∀ args mem k kx,QZ args mem k kx->ev sp2 20 (.call 415 args mem k kx):=by
 rintro args mem k kx ⟨b,x,z,o,v,r,rfl,hb,hk⟩;conv=>whnf
 refine brE (λ q=>?_) (λ q=>?_)
 ·rw[BJ q] at hk;conv=>whnf
  erw[hb];exact jw (b:=false) (n:=jA mem) (D7 (jW _ _ _)) rfl hk
 ·rw[BE q] at hk;conv=>whnf
  erw[hb];exact jw (b:=false) (n:=jA mem) (D7 (jW _ _ _)) rfl hk
theorem j5(l:List jB)(o:jB):jC (jU l o) (jA l)=o:=by rw[jr,BJ rfl]
theorem qW(l:List jB)(o o':jB):jp (jU l o) (jA l) o'=jU l o':=by
 induction l with
 | nil=>rfl
 | cons x r ih=>exact Bo (x::·) ih
theorem Zs(l:List jB)(i:Nat)(o o':jB)(h:i<jA l):jp (jU l o) i o'=jU (jp l i o') o:=by
 induction l generalizing i with
 | nil=>exact absurd h (DI _)
 | cons x r ih=>induction i using CD with
   | zero=>rfl
   | succ i=>exact Bo (x::·) (ih i (CA h))
theorem zy(l:List jB)(o o':jB):jC (jU (jU l o) o') (jA l)=o:=by rw[jr,jI,BE (Nat.succ_ne_self _).symm,j5]
theorem QG(l:List jB)(o o' x:jB):jp (jU (jU l o) o') (jA l) x=jU (jU l x) o':=by
 rw[Zs _ _ _ _ (by rw[jI];exact CK _),qW]
noncomputable def j6 (mem:List jB):List jB:=jU (jU mem (brO (.p .none) (.p .none) (jA mem+1))) (.plst [])
def U7:jJ:=λ args mem k kx=>args=[]/\k (.m (jA mem)) (j6 mem)
theorem c_branch:∀ args mem k kx,U7 args mem k kx->ev sp2 20 (.call 432 args mem k kx):=by
 rintro args mem k kx ⟨rfl,hk⟩;conv=>whnf
 erw[j5];conv=>whnf
 erw[qW,j5];conv=>whnf
 erw[qW,zy];conv=>whnf
 erw[QG];have h1:jC (j6 mem) (jA mem)=brO (.p .none) (.p .none) (jA mem+1):=zy _ _ _;have key:J0 (jA mem) (j6 mem) k:=by
  unfold J0;rw[h1];exact hk
 suffices h:fin false (jA (jU mem (.inst 432 []))) (.p .none) (jU (jU mem (brO (.p .none) (.p .none) (jA (jU mem (.inst 432 [(YH,.p .none),(yv,.p .none)]))))) (.plst [])) (kCl (jA mem) k) from h
 rw[jI,jI];refine xe (mem:=j6 mem) key λ h=>?_;have:=z8 h (jA mem);rw[qC _ _ _ (CK _),h1] at this;simp[WH,wi,yD] at this
noncomputable abbrev l3:List (Nat×jJ):=[(316,jR gCut),(408,gChild),(415,QZ),(432,U7)]++([(227,jR U1),(241,jR up)]++(l1++[(119,jR vX)]))
noncomputable abbrev sp3:Addr->Option jJ:=lkS l3
theorem Qx{X:Run}(ok:jv X):jN X sp3 140:=by
 exact jN.lay (qz ok) (jD rfl) ⟨jO (n:=40) ok (qz ok) c_cut (jD rfl),jQ (n:=20) ok (qz ok) c_child (jD rfl),jQ (n:=20) ok (qz ok) UR (jD rfl),jQ (n:=20) ok (qz ok) c_branch (jD rfl),trivial⟩
structure Row where
 net:Int
 many:Int
 gw:Int
 face:Int
noncomputable def jt (r:Row):T:=.inst 383 [(vO,.int r.net),(w7,.int r.many),(Wy,.int r.gw),(yZ,.int r.face),(n136,.int 0)]
noncomputable abbrev Nd:=List Int->Option (Nat×Nat)
noncomputable abbrev rtO (b:Nat) (m:Int):jB:=.inst 516 [(n152,.m b),(wk,.p (.int m))]
noncomputable abbrev Z8 (nd:Nd) (s:List Int) (r:Nat):jB:=brO (ov ((nd (s++[0])).map (·.1))) (ov ((nd (s++[1])).map (·.1))) r
structure qO(mem:List jB)(o0:jB)(R:Nat)(nd:Nd)(tbl:List Int->List Row):Prop where
 r0:1<=R/\R<jA mem
 r:Ex2 λ b m=>nd []=some b/\jC mem R=rtO b.1 m
 z:jC mem 0=o0
 node:∀ s b,nd s=some b->And6 (1<=b.1) (b.1<jA mem) (jC mem b.1=Z8 nd s b.2) (1<=b.2) (b.2<jA mem) (jC mem b.2=.plst ((tbl s).map jt))
 inj1:∀ s s' b b',nd s=some b->nd s'=some b'->b.1=b'.1->s=s'
 inj2:∀ s s' b b',nd s=some b->nd s'=some b'->b.2=b'.2->s=s'
 cl:∀ s x b,nd (s++[x])=some b->(x=0\/x=1)/\∃ b',nd s=some b'
 tn:∀ s,nd s=none->tbl s=[]
 dep:∀ s b,nd s=some b->s.length<=32
section
variable{mem:List jB}{o0:jB}{R:Nat}{nd:Nd}{tbl:List Int->List Row}
theorem qO.other(h:qO mem o0 R nd tbl){F:Nat}{vs:List V}{o:jB}(hF:jC mem F=.vlst vs)(h1:1<=F)(hl:F<jA mem):qO (jp mem F o) o0 R nd tbl:=by
 have ne:∀ i,(∀ vs,jC mem i≠.vlst vs)->jC (jp mem F o) i=jC mem i:=λ i hi=>by
  rw[j4 _ _ _ _ hl,BE λ q=>hi vs (by rw[q];exact hF)]
 refine⟨by rw[jW];exact h.r0,?_,?_,λ s b e=>?_,h.inj1,h.inj2,h.cl,h.tn,h.dep⟩
 ·obtain⟨b,m,e1,e2⟩:=h.r;exact⟨b,m,e1,by rw[ne R (by rw[e2];exact λ _=>nofun)];exact e2⟩
 ·rw[j4 _ _ _ _ hl,BE (Ba h1)];exact h.z
 ·obtain⟨a1,a2,a3,a4,a5,a6⟩:=h.node s b e;rw[jW];exact⟨a1,a2,by rw[ne b.1 (by rw[a3];exact λ _=>nofun)];exact a3,a4,a5,by rw[ne b.2 (by rw[a6];exact λ _=>nofun)];exact a6⟩
theorem qO.app(h:qO mem o0 R nd tbl)(hl:1<=jA mem)(o:jB):qO (jU mem o) o0 R nd tbl:=by
 have ne:∀ i,i<jA mem->jC (jU mem o) i=jC mem i:=λ i hi=>by
  rw[jr,BE (Ba hi)]
 refine⟨by rw[jI];exact⟨h.r0.1,Bx h.r0.2⟩,?_,?_,λ s b e=>?_,h.inj1,h.inj2,h.cl,h.tn,h.dep⟩
 ·obtain⟨b,m,e1,e2⟩:=h.r;exact⟨b,m,e1,by rw[ne R h.r0.2];exact e2⟩
 ·rw[ne 0 hl];exact h.z
 ·obtain⟨a1,a2,a3,a4,a5,a6⟩:=h.node s b e;rw[jI];exact⟨a1,Bx a2,by rw[ne _ a2];exact a3,a4,Bx a5,by rw[ne _ a5];exact a6⟩
noncomputable def Z9 (nd:Nd) (t:List Int) (c:Nat×Nat):Nd:=λ s=>if s=t then some c else nd s
theorem XM{s t:List Int}{x y:Int}(h:s++[x]=t++[y]):s=t/\x=y:=by
 have:=List.append_inj' h rfl;exact⟨this.1,by simpa using this.2⟩
theorem qO.child(h:qO mem o0 R nd tbl){s:List Int}{x:Int}{b:Nat×Nat}(hd:s.length<32)(hx:x=0\/x=1)(hs:nd s=some b)(hn:nd (s++[x])=none) :
  qO (jp (j6 mem) b.1 (if x=0 then brO (.m (jA mem)) (ov ((nd (s++[1])).map (·.1))) b.2 else brO (ov ((nd (s++[0])).map (·.1))) (.m (jA mem)) b.2)) o0 R (Z9 nd (s++[x]) (jA mem,jA mem+1)) tbl:=by
 obtain⟨a1,a2,a3,a4,a5,a6⟩:=h.node s b hs;have l2:jA (j6 mem)=jA mem+2:=by unfold j6;rw[jI,jI]
 have hb:b.1<jA (j6 mem):=rwl l2 (BY a2 (Bi _ _));have n0:∀ i,i<jA mem->jC (j6 mem) i=jC mem i:=λ i hi=>by
  unfold j6;rw[jr,jI,BE (Ba (Bx hi)),jr,BE (Ba hi)]
 have n1:jC (j6 mem) (jA mem)=brO (.p .none) (.p .none) (jA mem+1):=zy _ _ _;have n2:jC (j6 mem) (jA mem+1)=.plst []:=by
  unfold j6;rw[jr,BJ (by rw[jI])]
 have gne:∀ i,i≠b.1->jC (jp (j6 mem) b.1 (if x=0 then brO (.m (jA mem)) (ov ((nd (s++[1])).map (·.1))) b.2 else brO (ov ((nd (s++[0])).map (·.1))) (.m (jA mem)) b.2)) i=jC (j6 mem) i:=λ i hi=>by
  rw[j4 _ _ _ _ hb,BE hi]
 have ndo:∀ t,t≠s++[x]->Z9 nd (s++[x]) (jA mem,jA mem+1) t=nd t:=λ t ht=>BE ht;have ndn:Z9 nd (s++[x]) (jA mem,jA mem+1) (s++[x])=some (jA mem,jA mem+1):=BJ rfl;have nkid:∀ y,nd (s++[x]++[y])=none:=λ y=>by
  cases e:nd (s++[x]++[y]) with
  | none=>rfl
  | some c=>obtain⟨_,b',e'⟩:=h.cl _ _ _ e;rw[hn] at e';exact nsm e'
 have nlong:∀(t:List Int) (y:Int),t≠s->t++[y]≠s++[x]:=λ t y q e=>q (XM e).1;refine⟨by rw[jW,l2];exact⟨h.r0.1,BY h.r0.2 (Bi _ _)⟩,?_,?_,λ t c e=>?_,?_,?_,λ t y c e=>?_,λ t e=>?_,λ t c e=>?_⟩
 ·obtain⟨b0,m,e1,e2⟩:=h.r;refine⟨b0,m,by rw[ndo [] (by simp)];exact e1,?_⟩;rw[gne R (λ q=>by rw[q,a3] at e2;cases e2),n0 R h.r0.2];exact e2
 ·rw[gne 0 (Ba a1),n0 0 (Nat.zero_lt_of_lt a2)];exact h.z
 ·rw[jW,l2];by_cases q:t=s++[x]
  ·subst q;rw[ndn] at e;obtain rfl:=B9 e;refine⟨Nat.zero_lt_of_lt a2,Nat.lt_add_of_pos_right (by decide),?_,Nat.le_add_left _ _,CK _,?_⟩
   ·rw[gne _ (Nat.ne_of_gt a2)];show jC (j6 mem) (jA mem)=Z8 (Z9 nd (s++[x]) (jA mem,jA mem+1)) (s++[x]) (jA mem+1);unfold Z8;rw[ndo _ (by simp),ndo _ (by simp),nkid,nkid,n1];rfl
   ·rw[gne _ (Nat.ne_of_gt (Bx a2))];show jC (j6 mem) (jA mem+1)=_;rw[n2,h.tn _ hn];rfl
  ·rw[ndo t q] at e;obtain⟨c1,c2,c3,c4,c5,c6⟩:=h.node t c e;have hc2:c.2≠b.1:=λ q=>by rw[q,a3] at c6;cases c6
   refine⟨c1,BY c2 (Bi _ _),?_,c4,BY c5 (Bi _ _),by rw[gne _ hc2,n0 _ c5];exact c6⟩;by_cases q2:t=s
   ·subst q2;rw[hs] at e;obtain rfl:=B9 e;rw[j4 _ _ _ _ hb,BJ rfl];unfold Z8;rcases hx with rfl | rfl
    ·rw[BJ rfl,ndn,ndo _ (by simp)];rfl
    ·rw[BE (by decide),ndn,ndo _ (by simp)];rfl
   ·have hc1:c.1≠b.1:=λ q=>q2 (h.inj1 _ _ _ _ e hs q);rw[gne _ hc1,n0 _ c2,c3];unfold Z8;rw[ndo _ (nlong t 0 q2),ndo _ (nlong t 1 q2)]
 ·intro t t' c c' e e' q;by_cases q1:t=s++[x] <;> by_cases q2:t'=s++[x]
  ·rw[q1,q2]
  ·subst q1;rw[ndn] at e;obtain rfl:=B9 e;rw[ndo _ q2] at e';have:=(h.node _ _ e').2;exact absurd q (Nat.ne_of_gt this)
  ·subst q2;rw[ndn] at e';obtain rfl:=B9 e';rw[ndo _ q1] at e;have:=(h.node _ _ e).2;exact absurd q (Ba this)
  ·rw[ndo _ q1] at e;rw[ndo _ q2] at e';exact h.inj1 _ _ _ _ e e' q
 ·intro t t' c c' e e' q;by_cases q1:t=s++[x] <;> by_cases q2:t'=s++[x]
  ·rw[q1,q2]
  ·subst q1;rw[ndn] at e;obtain rfl:=B9 e;rw[ndo _ q2] at e';have:=(h.node _ _ e').5;exact absurd q (Nat.ne_of_gt (Bx this))
  ·subst q2;rw[ndn] at e';obtain rfl:=B9 e';rw[ndo _ q1] at e;have:=(h.node _ _ e).5;exact absurd q (Ba (Bx this))
  ·rw[ndo _ q1] at e;rw[ndo _ q2] at e';exact h.inj2 _ _ _ _ e e' q
 ·by_cases q:t++[y]=s++[x]
  ·obtain⟨rfl,rfl⟩:=XM q;refine⟨hx,b,?_⟩;rw[ndo _ (by simp)];exact hs
  ·rw[ndo _ q] at e;obtain⟨h1,b',h2⟩:=h.cl _ _ _ e;refine⟨h1,b',?_⟩;rw[ndo _ λ q3=>by rw[q3,hn] at h2;exact nsm h2];exact h2
 ·by_cases q:t=s++[x]
  ·subst q;exact h.tn _ hn
  ·rw[ndo _ q] at e;exact h.tn _ e
 ·by_cases q:t=s++[x]
  ·rw[q,BV];exact hd
  ·rw[ndo _ q] at e;exact h.dep _ _ e
theorem qO.told(h:qO mem o0 R nd tbl){s:List Int}{b:Nat×Nat}(hs:nd s=some b)(r:Row) :
  qO (jp mem b.2 (.plst ((tbl s).map jt++[jt r]))) o0 R nd (λ t=>if t=s then tbl s++[r] else tbl t):=by
 obtain⟨a1,a2,a3,a4,a5,a6⟩:=h.node s b hs;have gne:∀ i,i≠b.2->jC (jp mem b.2 (.plst ((tbl s).map jt++[jt r]))) i=jC mem i:=λ i hi=>by
  rw[j4 _ _ _ _ a5,BE hi]
 refine⟨by rw[jW];exact h.r0,?_,?_,λ t c e=>?_,h.inj1,h.inj2,h.cl,λ t e=>?_,h.dep⟩
 ·obtain⟨b0,m,e1,e2⟩:=h.r;exact⟨b0,m,e1,by rw[gne R (λ q=>by rw[q,a6] at e2;cases e2)];exact e2⟩
 ·rw[gne 0 (Ba a4)];exact h.z
 ·obtain⟨c1,c2,c3,c4,c5,c6⟩:=h.node t c e;rw[jW];refine⟨c1,c2,by rw[gne _ (λ q=>by rw[q,a6] at c3;cases c3)];exact c3,c4,c5,?_⟩;by_cases q:t=s
  ·subst q;rw[hs] at e;obtain rfl:=B9 e;rw[j4 _ _ _ _ a5,BJ rfl,BJ rfl];simp
  ·rw[gne _ (λ q2=>q (h.inj2 _ _ _ _ e hs q2)),BE q];exact c6
 ·have q:t≠s:=λ q=>by rw[q,hs] at e;exact snm e
  rw[BE q];exact h.tn t e
theorem qO.count(h:qO mem o0 R nd tbl){b0:Nat×Nat}(e0:nd []=some b0)(m:Int):qO (jp mem R (rtO b0.1 m)) o0 R nd tbl:=by
 obtain⟨b1,m1,e1,e2⟩:=h.r;have gne:∀ i,i≠R->jC (jp mem R (rtO b0.1 m)) i=jC mem i:=λ i hi=>by
  rw[j4 _ _ _ _ h.r0.2,BE hi]
 refine⟨by rw[jW];exact h.r0,⟨b0,m,e0,by rw[j4 _ _ _ _ h.r0.2,BJ rfl]⟩,?_,λ t c e=>?_,h.inj1,h.inj2,h.cl,h.tn,h.dep⟩
 ·rw[gne 0 (Ba h.r0.1)];exact h.z
 ·obtain⟨c1,c2,c3,c4,c5,c6⟩:=h.node t c e;rw[jW];exact⟨c1,c2,by rw[gne _ (λ q=>by rw[q,e2] at c3;cases c3)];exact c3,c4,c5,by rw[gne _ (λ q=>by rw[q,e2] at c6;cases c6)];exact c6⟩
theorem qO.drop(h:qO mem o0 R nd tbl){n:Nat}(hn:n<=jA mem)(h0:1<=n)(hR:R<n)(ho:qi n (jZ n mem)=true):qO (jZ n mem) o0 R nd tbl:=by
 have hl:=qZ n mem hn;have old:∀ i,i<n->WH n (jC mem i)=true:=λ i hi=>by
  have:=z8 ho i;rwa [qC _ _ _ hi] at this
 obtain⟨b0,m,e1,e2⟩:=h.r;have hb0:b0.1<n:=by
  have:=old R hR;rw[e2] at this
  simpa [rtO,WH,wi,yD] using this
 have kid:∀ s b,nd s=some b->b.1<n->∀ x c,nd (s++[x])=some c->c.1<n:=λ s b e hb x c ec=>by
  have o:=old b.1 hb;rw[(h.node s b e).3] at o;have o:(yD n (ov ((nd (s++[0])).map (·.1)))&&(yD n (ov ((nd (s++[1])).map (·.1)))&&(yD n (.m b.2)&&true)))=true:=o;simp only[Bn,Bool.and_true] at o;rcases(h.cl s x c ec).1 with rfl | rfl
  ·have:=o.1;rw[ec] at this;exact Co.mp this
  ·have:=o.2.1;rw[ec] at this;exact Co.mp this
 have low:∀(l:List Int) b,nd l.reverse=some b->b.1<n:=λ l=>by
  induction l with
  | nil=>intro b e;rw[show([]:List Int).reverse=[] from rfl,e1] at e;obtain rfl:=B9 e;exact hb0
  | cons x l ih=>
    intro b e;rw[DN] at e;obtain⟨_,b',e'⟩:=h.cl _ _ _ e;exact kid _ _ e' (ih _ e') _ _ e
 have low1:∀ s b,nd s=some b->b.1<n:=λ s b e=>low s.reverse b (by rw[List.reverse_reverse];exact e);have low2:∀ s b,nd s=some b->b.2<n:=λ s b e=>by
  have o:=old b.1 (low1 s b e);rw[(h.node s b e).3] at o;have o:(yD n (ov ((nd (s++[0])).map (·.1)))&&(yD n (ov ((nd (s++[1])).map (·.1)))&&(yD n (.m b.2)&&true)))=true:=o;simp only[Bn,Bool.and_true] at o;exact Co.mp o.2.2
 refine⟨by rw[hl];exact⟨h.r0.1,hR⟩,⟨b0,m,e1,by rw[qC _ _ _ hR];exact e2⟩,by rw[qC _ _ _ (Nat.zero_lt_of_lt hR)];exact h.z,λ t c e=>?_,h.inj1,h.inj2,h.cl,h.tn,h.dep⟩;obtain⟨c1,c2,c3,c4,c5,c6⟩:=h.node t c e;rw[hl];exact⟨c1,low1 t c e,by rw[qC _ _ _ (low1 t c e)];exact c3,c4,low2 t c e,by rw[qC _ _ _ (low2 t c e)];exact c6⟩
end
theorem wc{α:Type}(l:List α)(v:α):item? (l++[v]) (-1)=some v:=by
 have e:Nat.ble (0+1) (l++[v]).length=true:=by rw[Nat.ble_eq,BV];exact Nat.le_add_left _ _
 have e2:wE (l++[v]).length (-1)=some ((l++[v]).length-(0+1)):=by
  show(match Nat.ble (0+1) (l++[v]).length&&Nat.blt 0 1000 with | true=>some ((l++[v]).length-(0+1)) | false=>none)=_;rw[e];rfl
 unfold item?;rw[e2];simp
theorem xl{mem:List jB}{n:Str}{i:Nat}{C:Addr}{fs:List (Str×V)}(h:jC mem i=.inst C fs)(hl:lk n fs=none):clsV mem n (.m i)=some C:=by
 show(match jC mem i with | .inst C fs=>noF n C fs | _=>none)=_;rw[h];show noF n C fs=_;unfold noF;rw[hl]
theorem Qn{mem:List jB}{n:Str}{i:Nat}{vs:List V}(h:jC mem i=.vlst vs):clsV mem n (.m i)=none:=by
 show(match jC mem i with | .inst C fs=>noF n C fs | _=>none)=_;rw[h]
theorem clsV_plst{mem:List jB}{n:Str}{i:Nat}{vs:List T}(h:jC mem i=.plst vs):clsV mem n (.m i)=none:=by
 show(match jC mem i with | .inst C fs=>noF n C fs | _=>none)=_;rw[h]
theorem Qo{mem:List jB}{i:Nat}{vs:List V}(h:jC mem i=.vlst vs):bmOk mem n94 (.m i)=some true:=by
 show bmO n94 (jC mem i)=_;rw[h];kernel_rfl
theorem bmOk_plst{mem:List jB}{i:Nat}{vs:List T}(h:jC mem i=.plst vs):bmOk mem n94 (.m i)=some true:=by
 show bmO n94 (jC mem i)=_;rw[h];kernel_rfl
noncomputable abbrev pTgt:Expr:=wn (jY 1 (fB 471))
noncomputable abbrev pBody:List Stmt:=wo (jY 1 (fB 471))
noncomputable def key (net:Int) (p:Nat):List Int:=(List.range p).map λ(i:Nat)=>qo net (i:Int)
theorem vR(net:Int)(p:Nat):key net (p+1)=key net p++[qo net p]:=by
 unfold key;rw[List.range_succ,D4];rfl
theorem Zd(a p:Int):qo a p=0\/qo a p=1:=by exact Int.emod_two_eq _
noncomputable abbrev pSt (R:Nat) (net pre:Int) (F:Nat) (ex:List (Str×V)) (mem:List jB):St:=⟨(n4,.m R)::(vO,.p (.int net))::(w7,.p (.int pre))::(n154,.p (.bool true))::(n71,.m F)::ex,mem,fSc 471⟩
def pEx(ex:List (Str×V)):Prop:=ex=[]\/Ex3 λ a b c=>ex=[(ZG,a),(Jh,b),(wl,c)]
theorem path_old{W:St->Prop}{K:Fl->St->Prop}{kx:KX}{mem:List jB}{F R b c r:Nat}{p net pre:Int}{us:List T}{vs:List V}{z o:V}{ex:List (Str×V)}
  (hex:pEx ex) (hp:0<=p/\p<32) (hF:jC mem F=.vlst (vs++[.m b])) (hl:(vs++[V.m b]).length<=100000) (hb:jC mem b=brO z o r) (hz:yD (jA mem) z=true) (ho:yD (jA mem) o=true)
  (hc:(if qo net p=0 then z else o)=.m c)
  (hW:W (pSt R net pre F [(ZG,.p (.int p)),(Jh,.p (.int (qo net p))),(wl,.m c)] (jp mem F (.vlst ((vs++[.m b])++[.m c]))))) :
  Qd (ev sp3 25) pTgt pBody .fix us (.int p) W (pSt R net pre F ex mem) K kx:=by
 rcases hex with rfl | ⟨a1,a2,a3,rfl⟩
 all_goals
  refine⟨rfl,hp,?_⟩;conv=>whnf
  erw[hF];conv=>whnf
  erw[wc];conv=>whnf
  erw[xl (n:=ZH) hb rfl];refine⟨b,qo net p,z,o,r,rfl,hb,hz,ho,?_⟩;rw[hc];conv=>whnf
  erw[Qn (n:=n94) hF];conv=>whnf
  erw[Qo hF];conv=>whnf
  erw[hF];refine⟨hl,?_⟩;exact hW
theorem path_new{W:St->Prop}{K:Fl->St->Prop}{kx:KX}{mem:List jB}{F R b r:Nat}{p net pre:Int}{us:List T}{vs:List V}{z o:V}{ex:List (Str×V)}
  (hex:pEx ex) (hp:0<=p/\p<32) (hF:jC mem F=.vlst (vs++[.m b])) (hFl:F<jA mem) (hbl:b<jA mem) (hl:(vs++[V.m b]).length<=100000) (hb:jC mem b=brO z o r) (hz:yD (jA mem) z=true) (ho:yD (jA mem) o=true)
  (hc:(if qo net p=0 then z else o)=.p .none)
  (hW:W (pSt R net pre F [(ZG,.p (.int p)),(Jh,.p (.int (qo net p))),(wl,.m (jA mem))] (jp (jp (j6 mem) b (if qo net p=0 then brO (.m (jA mem)) o r else brO z (.m (jA mem)) r)) F (.vlst ((vs++[.m b])++[.m (jA mem)]))))) :
  Qd (ev sp3 25) pTgt pBody .fix us (.int p) W (pSt R net pre F ex mem) K kx:=by
 have n0:∀ i,i<jA mem->jC (j6 mem) i=jC mem i:=λ i hi=>by
  unfold j6;rw[jr,jI,BE (Ba (Bx hi)),jr,BE (Ba hi)]
 have hF1:jC (j6 mem) F=.vlst (vs++[.m b]):=by rw[n0 _ hFl];exact hF
 have hb1:jC (j6 mem) b=brO z o r:=by rw[n0 _ hbl];exact hb
 have ne:F≠b:=λ q=>by rw[q,hb] at hF;cases hF
 have l2:jA (j6 mem)=jA mem+2:=by unfold j6;rw[jI,jI]
 have hF2:∀ ob,jC (jp (j6 mem) b ob) F=.vlst (vs++[.m b]):=λ ob=>by
  rw[j4 _ _ _ _ (rwl l2 (BY hbl (Bi _ _))),BE ne];exact hF1
 rcases hex with rfl | ⟨a1,a2,a3,rfl⟩
 all_goals
  refine⟨rfl,hp,?_⟩;conv=>whnf
  erw[hF];conv=>whnf
  erw[wc];conv=>whnf
  erw[xl (n:=ZH) hb rfl];refine⟨b,qo net p,z,o,r,rfl,hb,hz,ho,?_⟩;rw[hc];refine⟨rfl,?_⟩;conv=>whnf
  erw[hF1];conv=>whnf
  erw[wc];conv=>whnf
  erw[xl (n:=YG) hb1 rfl];refine⟨b,qo net p,z,o,.m (jA mem),r,rfl,hb1,?_⟩;conv=>whnf
  erw[Qn (n:=n94) (hF2 _)];conv=>whnf
  erw[Qo (hF2 _)];conv=>whnf
  erw[hF2];refine⟨hl,?_⟩;exact hW
theorem yV{n:Int}:(z6 0 n 1).map T.int=(List.range' 0 n.toNat).map λ(i:Nat)=>T.int i:=by
 unfold z6;have e:(n-0+1-1).fdiv 1=n:=by rw[Int.fdiv_one,Int.sub_zero,Int.add_sub_cancel]
 rw[e,List.range_eq_range',CR];refine DY λ i _=>?_;show T.int (0+1*(i:Int))=T.int i;rw[Int.one_mul,D0]
theorem ov_old{mem:List jB}{o0:jB}{R:Nat}{nd:Nd}{tbl:List Int->List Row}(h:qO mem o0 R nd tbl)(s:List Int):yD (jA mem) (ov ((nd s).map (·.1)))=true:=by
 cases e:nd s with
 | none=>rfl
 | some c=>exact Co.mpr (h.node s c e).2
theorem Xl{o0:jB}{R F:Nat}{net pre:Int}{us:List T}{tbl:List Int->List Row}{K:Fl->St->Prop}{kx:KX}:∀(m p:Nat) (nd:Nd) (mem:List jB) (vs:List V) (b:Nat×Nat) (ex:List (Str×V)),
  qO mem o0 R nd tbl->nd (key net p)=some b->jC mem F=.vlst (vs++[.m b.1])->F<jA mem->1<=F->p+m<=32->vs.length<=p->pEx ex->
  (∀(mem':List jB) (nd':Nd) (vs':List V) (b':Nat×Nat) (ex':List (Str×V)),qO mem' o0 R nd' tbl->jA mem<=jA mem'->jC mem' F=.vlst (vs'++[.m b'.1])->nd' (key net (p+m))=some b'->(∀ s c,nd s=some c->nd' s=some c)->pEx ex'->K .next (pSt R net pre F ex' mem'))->
  zm (ev sp3 25) pTgt pBody .fix us ((List.range' p m).map λ(i:Nat)=>T.int i) (pSt R net pre F ex mem) K kx:=by
 intro m;induction m with
 | zero=>
   intro p nd mem vs b ex hI hb hF hFl hF1 hm hv hex hk;exact hk mem nd vs b ex hI (BN _) hF hb (λ _ _ e=>e) hex
 | succ m ih=>
   intro p nd mem vs b ex hI hb hF hFl hF1 hm hv hex hk;obtain⟨a1,a2,a3,a4,a5,a6⟩:=hI.node _ b hb;rw[List.range'_succ,BZ,qE];have hp:p<32:=BY (Nat.lt_add_of_pos_right (Nat.succ_pos m)) hm;have hp2:0<=(p:Int)/\(p:Int)<32:=⟨Bb _,Cq.mpr hp⟩;have hm1:p+1+m<=32:=(Cf p m 1)▸hm;have hv1:(vs++[V.m b.1]).length<=p+1:=rwl BV (DB hv);have hlen:(vs++[V.m b.1]).length<=100000:=BF hv1 (BF hp (by decide));have hx:=Zd net p;have hz:=ov_old hI (key net p++[0]);have ho:=ov_old hI (key net p++[1]);cases hc:nd (key net p++[qo net p]) with
   | some c=>
     have hcc:(if qo net p=0 then ov ((nd (key net p++[0])).map (·.1)) else ov ((nd (key net p++[1])).map (·.1)))=.m c.1:=by
      rcases hx with q | q
      ·rw[BJ q];rw[q] at hc;rw[hc];rfl
      ·rw[BE (λ z=>by rw[z] at q;exact absurd q (by decide))];rw[q] at hc;rw[hc];rfl
     refine path_old hex hp2 hF hlen a3 hz ho hcc ?_;refine ih (p+1) nd _ (vs++[.m b.1]) c _ (hI.other hF hF1 hFl) (by rw[vR];exact hc) (by rw[j4 _ _ _ _ hFl,BJ rfl]) (by rw[jW];exact hFl) hF1 hm1 hv1 (.inr ⟨_,_,_,rfl⟩) λ mem' nd' vs' b' ex' h1 h2 h3 h4 h5 h6=>hk mem' nd' vs' b' ex' h1 (by rw[jW] at h2;exact h2) h3 (by rw[show p+(m+1)=p+1+m by lia];exact h4) h5 h6
   | none=>
     have hcc:(if qo net p=0 then ov ((nd (key net p++[0])).map (·.1)) else ov ((nd (key net p++[1])).map (·.1)))=.p .none:=by
      rcases hx with q | q
      ·rw[BJ q];rw[q] at hc;rw[hc];rfl
      ·rw[BE (λ z=>by rw[z] at q;exact absurd q (by decide))];rw[q] at hc;rw[hc];rfl
     refine path_new hex hp2 hF hFl a2 hlen a3 hz ho hcc ?_;have hI2:=hI.child (by unfold key;rw[BB,List.length_range];exact hp) hx hb hc;have l2:jA (j6 mem)=jA mem+2:=by unfold j6;rw[jI,jI]
     generalize hM:jp (j6 mem) b.1 _=M at hI2 ⊢;have hML:jA M=jA mem+2:=by rw[<- hM,jW,l2]
     have hFM:jC M F=.vlst (vs++[.m b.1]):=by
      rw[<- hM,j4 _ _ _ _ (rwl l2 (BY a2 (Bi _ _))),BE (λ q=>by rw[q,a3] at hF;cases hF)];unfold j6;rw[jr,jI,BE (Ba (Bx hFl)),jr,BE (Ba hFl)];exact hF
     have hFL:F<jA M:=rwl hML (BY hFl (Bi _ _))
     refine ih (p+1) _ _ (vs++[.m b.1]) (jA mem,jA mem+1) _ (hI2.other hFM hF1 hFL) (by rw[vR];exact BJ rfl) (by rw[j4 _ _ _ _ hFL,BJ rfl]) (by rw[jW];exact hFL) hF1 hm1 hv1 (.inr ⟨_,_,_,rfl⟩) λ mem' nd' vs' b' ex' h1 h2 h3 h4 h5 h6=>hk mem' nd' vs' b' ex' h1 (by rw[jW] at h2;lia) h3 (by rw[show p+(m+1)=p+1+m by lia];exact h4) (λ s c e=>h5 s c (by
       unfold Z9;rw[BE (λ q=>by rw[q,hc] at e;exact nsm e)];exact e)) h6
def gPathb(args:List V)(mem:List jB)(k:KM)(kx:KXM)(R:Nat)(net pre:Int)(o0:jB)(nd:Nd)(tbl:List Int->List Row):Prop:=jj (args=[.m R,.p (.int net),.p (.int pre),.p (.bool true)]) (qO mem o0 R nd tbl) (0<=pre/\pre<=32) (∀(mem':List jB) (nd':Nd) (F:Nat) (vs:List V) (b:Nat×Nat),qO mem' o0 R nd' tbl->jA mem<=jA mem'->jA mem<=F->F<jA mem'->jC mem' F=.vlst (vs++[.m b.1])->nd' (key net pre.toNat)=some b->(∀ s c,nd s=some c->nd' s=some c)->k (.m F) mem')
def gPath:jJ:=λ args mem k kx=>Ex6 λ(R:Nat) (net pre:Int) (o0:jB) (nd:Nd) (tbl:List Int->List Row)=>gPathb args mem k kx R net pre o0 nd tbl
theorem c_path:∀ args mem k kx,gPath args mem k kx->ev sp3 29 (.call 471 args mem k kx):=by
 rintro args mem k kx ⟨R,net,pre,o0,nd,tbl,rfl,hI,hp,hk⟩;obtain⟨b,m,e1,e2⟩:=hI.r;conv=>whnf
 erw[e2];refine⟨by unfold sm2;lia,?_⟩;refine⟨?_,?_⟩
 ·erw[yV];rw[BB,DE];lia
 erw[yV];have hI':=hI.app (by have:=hI.r0;lia) (.vlst [.m b.1]);have hF1:1<=jA mem:=by have:=hI.r0;lia
 have hFl0:jA mem<jA (jU mem (.vlst [.m b.1])):=by rw[jI];lia
 have hp32:0+pre.toNat<=32:=by lia
 refine Xl (o0:=o0) (R:=R) (F:=jA mem) (net:=net) (pre:=pre) (tbl:=tbl) pre.toNat 0 nd (jU mem (.vlst [.m b.1])) [] b [] hI' e1 (j5 _ _) hFl0 hF1 hp32 (BN _) (.inl rfl) λ mem' nd' vs' b' ex' h1 h2 h3 h4 h5 h6=>?_;rw[jI] at h2;rw[D6] at h4;have hFl:jA mem<jA mem':=by lia
 rcases h6 with rfl | ⟨a1,a2,a3,rfl⟩
 all_goals
  refine fin_vlst (b:=false) (n:=jA mem) (BN _) h3 ?_;exact hk mem' nd' _ vs' b' h1 (by lia) (BN _) hFl h3 h4 h5
noncomputable def za (a p:Int):Int:=a/2^(32-p).toNat*2^(32-p).toNat
def gNet:List V->(T->Prop)->(Addr->Prop)->Prop:=λ args K _=>YM (λ a p=>(0<=p/\p<=32/\0<=a/\a<4294967296)/\K (.int (za a p))) args
theorem c_net:∀ args K KX,gNet args K KX->ev sp3 30 (.call 330 args [] (pK K) (pX KX)):=by
 intro args K KX h;replace h:=we h;obtain⟨a,p,rfl,h⟩:=h;obtain⟨⟨h0,h1,h2,h3⟩,h⟩:=h;conv=>whnf
 refine brF (by simpa using h0) ?_;conv=>whnf
 refine brF (by simpa using h1) ?_;refine⟨⟨.inl rfl,by lia,by lia⟩,?_⟩;have e:=Qq (x:=a) (k:=(32-p).toNat) h2 h3 (by lia);have e':Builtin.bitAnd a (4294967295-(2^Int.toNat (32-p)-1))=za a p:=e;refine jL (t:=.int (Builtin.bitAnd a (4294967295-(2^Int.toNat (32-p)-1)))) ?_;rw[e'];exact h
def gRoute:List V->(T->Prop)->(Addr->Prop)->Prop:=λ args K _=>int4 (λ a b c d=>K (jt ⟨a,b,c,d⟩)) args
theorem c_route:∀ args K KX,gRoute args K KX->ev sp3 30 (.call 383 args [] (pK K) (pX KX)):=by
 intro args K KX h;replace h:=int4_args h;obtain⟨a,b,c,d,rfl,h⟩:=h;exact jL h
noncomputable abbrev l4:List (Nat×jJ):=[(471,gPath),(330,jR gNet),(383,jR gRoute)]++l3
noncomputable abbrev sp4:Addr->Option jJ:=lkS l4
theorem u9{X:Run}(ok:jv X):jN X sp4 170:=by
 exact jN.lay (Qx ok) (jD rfl) ⟨jQ (n:=29) ok (Qx ok) c_path (jD rfl),jO (n:=30) ok (Qx ok) c_net (jD rfl),jO (n:=30) ok (Qx ok) c_route (jD rfl),trivial⟩
structure Row.Ok(r:Row):Prop where
 net:0<=r.net/\r.net<4294967296
 gw:0<=r.gw/\r.gw<4294967296
 many:0<=r.many/\r.many<=32
 tail:za r.net r.many=r.net
def gAddb(args:List V)(mem:List jB)(k:KM)(kx:KXM)(R:Nat)(r:Row)(o0:jB)(nd:Nd)(tbl:List Int->List Row):Prop:=And6 (args=[.m R,.p (jt r)]) (qO mem o0 R nd tbl) r.Ok (∀ r'∈tbl (key r.net r.many.toNat),¬(r'.gw=r.gw/\r'.face=r.face)) ((tbl (key r.net r.many.toNat)).length<=100) (∀(mem':List jB) (nd':Nd) (b:Nat×Nat),qO mem' o0 R nd' (λ t=>if t=key r.net r.many.toNat then tbl (key r.net r.many.toNat)++[r] else tbl t)->nd' (key r.net r.many.toNat)=some b->(∀ s c,nd s=some c->nd' s=some c)->jA mem<=jA mem'->k (.p .none) mem')
def gAdd:jJ:=λ args mem k kx=>Ex5 λ(R:Nat) (r:Row) (o0:jB) (nd:Nd) (tbl:List Int->List Row)=>gAddb args mem k kx R r o0 nd tbl
theorem YJ{α:Type}(l:List α)(i:Nat)(h:i<1000):item? l (i:Int)=l[i]?:=by
 unfold item? wE
 show(match(match Nat.blt i 1000 with
  | true=>some i
  | false=>none) with
  | some j=>l[j]?
  | none=>none)=_
 rw[Co.mpr h]
noncomputable abbrev aTgt:Expr:=wn (jY 4 (fB 478))
noncomputable abbrev aBody:List Stmt:=wo (jY 4 (fB 478))
noncomputable abbrev aSt (R:Nat) (r:Row) (b:Nat) (ex:List (Str×V)) (mem:List jB):St:=⟨(n4,.m R)::(w6,.p (jt r))::(vO,.p (.int r.net))::(Wv,.m b)::ex,mem,fSc 478⟩
def aEx(ex:List (Str×V)):Prop:=ex=[]\/Ex2 λ a b=>ex=[(n18,a),(n157,b)]
theorem add_step{W:St->Prop}{K:Fl->St->Prop}{kx:KX}{mem:List jB}{R b rr i:Nat}{r r':Row}{us ts:List T}{z o:V}{ex:List (Str×V)}
  (hex:aEx ex) (hb:jC mem b=brO z o rr) (hr:jC mem rr=.plst ts) (hi:i<1000) (ht:ts[i]?=some (jt r')) (hne:¬(r'.gw=r.gw/\r'.face=r.face))
  (hW:W (aSt R r b [(n18,.p (.int i)),(n157,.p (jt r'))] mem)):Qd (ev sp4 22) aTgt aBody .fix us (.int (i:Int)) W (aSt R r b ex mem) K kx:=by
 rcases hex with rfl | ⟨a1,a2,rfl⟩
 all_goals
  conv=>whnf
  erw[hb];conv=>whnf
  erw[hr];conv=>whnf
  erw[YJ _ _ hi,ht];conv=>whnf
  refine brE (λ q1=>?_) (λ q1=>?_)
  ·conv=>whnf
   refine brE (λ q2=>absurd ⟨q1,q2⟩ hne) (λ q2=>?_);exact hW
  ·exact hW
theorem add_loop{K:Fl->St->Prop}{kx:KX}{mem:List jB}{R b rr:Nat}{r:Row}{us:List T}{rs:List Row}{z o:V}(hb:jC mem b=brO z o rr)(hr:jC mem rr=.plst (rs.map jt))(hl:rs.length<=100)
  (hne:∀ r'∈rs,¬(r'.gw=r.gw/\r'.face=r.face)):∀(m i:Nat) (ex:List (Str×V)),aEx ex->i+m=rs.length->(∀ ex',aEx ex'->K .next (aSt R r b ex' mem))->
  zm (ev sp4 22) aTgt aBody .fix us ((List.range' i m).map λ(i:Nat)=>T.int i) (aSt R r b ex mem) K kx:=by
 intro m;induction m with
 | zero=>
   intro i ex hex hm hk;exact hk ex hex
 | succ m ih=>
   intro i ex hex hm hk;rw[List.range'_succ,BZ,qE];have hi:i<rs.length:=by lia
   refine add_step (r':=rs[i]) hex hb hr (by lia) (by rw[Bq,BS hi];rfl) (hne _ (Cy hi)) ?_;exact ih (i+1) _ (.inr ⟨_,_,rfl⟩) (by lia) hk
theorem c_add:∀ args mem k kx,gAdd args mem k kx->ev sp4 29 (.call 478 args mem k kx):=by
 rintro args mem k kx ⟨R,r,o0,nd,tbl,rfl,hI,ok,hne,hlen,hk⟩;have o1:=ok.net;have o2:=ok.gw;have o3:=ok.many;conv=>whnf
 refine brF (by simpa using o1.1) ?_;conv=>whnf
 refine brF (by simpa using (show ¬ 4294967295<r.net by lia)) ?_;conv=>whnf
 refine brF (by simpa using o2.1) ?_;conv=>whnf
 refine brF (by simpa using (show ¬ 4294967295<r.gw by lia)) ?_;refine⟨rfl,⟨by lia,by lia,by lia,by lia⟩,?_⟩;rw[ok.tail];conv=>whnf
 refine brNE (λ q=>absurd rfl q) (λ _=>?_);conv=>whnf
 obtain⟨b0,m0,e1,e2⟩:=hI.r;erw[xl (n:=ZF) e2 rfl];refine⟨R,r.net,r.many,o0,nd,tbl,rfl,hI,o3,λ mem1 nd1 F vs b hI1 h1 h2 h3 h4 h5 h6=>?_⟩;obtain⟨a1,a2,a3,a4,a5,a6⟩:=hI1.node _ b h5;conv=>whnf
 erw[h4];conv=>whnf
 erw[wc];conv=>whnf
 erw[a3];conv=>whnf
 erw[a6];conv=>whnf
 rw[BB];refine⟨by lia,by unfold sm2;lia,?_⟩;conv=>whnf
 erw[yV];refine⟨by rw[BB,DE];lia,?_⟩;refine add_loop a3 a6 hlen hne _ 0 [] (.inl rfl) (by lia) λ ex' hex'=>?_;have h1:jA mem<=jA mem1:=h1;have hI2:=hI1.told h5 r;obtain⟨b2,m2,e3,e4⟩:=hI2.r;have hI3:=hI2.count e3 (m2+1);have hfin:fin false (jA mem) (.p .none) (jp (jp mem1 b.2 (.plst ((tbl (key r.net r.many.toNat)).map jt++[jt r]))) R (rtO b2.1 (m2+1))) k:=by
  refine xe (hk _ nd1 b hI3 h5 h6 (by rw[jW,jW];exact h1)) λ ho=>?_;have hn:jA mem<=jA (jp (jp mem1 b.2 (.plst ((tbl (key r.net r.many.toNat)).map jt++[jt r]))) R (rtO b2.1 (m2+1))):=by rw[jW,jW];exact h1
  refine hk _ nd1 b (hI3.drop hn (by have:=hI.r0;lia) hI.r0.2 ho) h5 h6 ?_;rw[qZ _ _ hn];exact BN _
 rcases hex' with rfl | ⟨x1,x2,rfl⟩
 all_goals
  conv=>whnf
  erw[a3];conv=>whnf
  erw[clsV_plst (n:=n94) a6];conv=>whnf
  erw[bmOk_plst a6];conv=>whnf
  erw[a6];refine⟨by rw[BB];lia,?_⟩;conv=>whnf
  erw[e4];conv=>whnf
  erw[e4];exact hfin
inductive Tr where
 | nil
 | node (z o:Tr) (rs:List Row)
noncomputable def trT:Tr->T
 | .nil=>.none
 | .node z o rs=>.inst 432 [(YH,trT z),(yv,trT o),(ue,.lst (rs.map jt))]
noncomputable def Tr.at:Tr->List Int->Option (List Row)
 | .nil,_=>none
 | .node z o rs,[]=>some rs
 | .node z o rs,x::s=>if x=0 then z.at s else o.at s
noncomputable def wj (nd:Nd) (tbl:List Int->List Row):Nat->List Int->Tr
 | 0,_=>.nil
 | n+1,s=>match nd s with
   | none=>.nil
   | some _=>.node (wj nd tbl n (s++[0])) (wj nd tbl n (s++[1])) (tbl s)
section
variable{mem:List jB}{o0:jB}{R:Nat}{nd:Nd}{tbl:List Int->List Row}
theorem frz_tree(h:qO mem o0 R nd tbl){inv:Nat->Option Nat}(hinv:∀ i,1<=i->i<jA mem->(Ex2 λ C fs=>jC mem i=.inst C fs/\C=432)\/(∃ rs:List Row,jC mem i=.plst (rs.map jt))->inv i=none):∀(n:Nat) (s:List Int),33<=n+s.length->Frz mem inv (ov ((nd s).map (·.1))) (trT (wj nd tbl n s)):=by
 intro n;induction n with
 | zero=>
   intro s hs;cases e:nd s with
   | none=>exact .p _
   | some b=>have:=h.dep _ _ e;lia
 | succ n ih=>
   intro s hs;cases e:nd s with
   | none=>unfold wj;refine rwl e ?_;exact .p _
   | some b=>
     obtain⟨a1,a2,a3,a4,a5,a6⟩:=h.node s b e;have i0:=ih (s++[0]) (by refine rwl BV ?_;simp;lia);have i1:=ih (s++[1]) (by refine rwl BV ?_;simp;lia);unfold wj;rw[e];show Frz mem inv (.m b.1) (.inst 432 [(YH,trT _),(yv,trT _),(ue,.lst ((tbl s).map jt))]);exact .inst (hinv _ a1 a2 (.inl ⟨_,_,a3,rfl⟩)) a2 a3 (.cons i0 (.cons i1 (.cons (.plst (hinv _ a4 a5 (.inr ⟨_,a6⟩)) a5 a6) .nil)))
theorem nd_pre(h:qO mem o0 R nd tbl)(s:List Int):∀(u:List Int) (b:Nat×Nat),nd (s++u.reverse)=some b->∃ b',nd s=some b':=by
 intro u;induction u with
 | nil=>
   intro b e;exact⟨b,by simpa using e⟩
 | cons x u ih=>
   intro b e;rw[DN,<- D2] at e;obtain⟨_,b',e'⟩:=h.cl _ _ _ e;exact ih b' e'
theorem Ua(h:qO mem o0 R nd tbl):∀(n:Nat) (s u:List Int),u.length<n->(∀ x∈u,x=0\/x=1)->(wj nd tbl n s).at u=(nd (s++u)).map λ _=>tbl (s++u)
 | 0,s,u,hu,_=>absurd hu (DI _)
 | n+1,s,[],hu,_=>by
   unfold wj;rw[Cu];cases e:nd s with
   | none=>rfl
   | some b=>rfl
 | n+1,s,x::u,hu,hx=>by
   unfold wj;cases e:nd s with
   | none=>
     have:nd (s++x::u)=none:=by
      cases e2:nd (s++x::u) with
      | none=>rfl
      | some b=>
        obtain⟨b',e3⟩:=nd_pre h s (x::u).reverse b (by rw[List.reverse_reverse];exact e2);replace e3:=e▸e3;exact nsm e3
     refine rwl this ?_;rfl
   | some b=>
     have ih:∀ y,(wj nd tbl n (s++[y])).at u=(nd (s++[y]++u)).map λ _=>tbl (s++[y]++u):=λ y=>Ua h n (s++[y]) u (by simp at hu;omega) λ z hz=>hx z (.tail _ hz);have e1:∀ y:Int,s++[y]++u=s++y::u:=λ y=>by simp
     show(if x=0 then(wj nd tbl n (s++[0])).at u else(wj nd tbl n (s++[1])).at u)=_;rcases hx x (.head _) with rfl | rfl
     ·rw[BJ rfl,ih,e1]
     ·rw[BE (by decide),ih,e1]
end
noncomputable def Jy (r:Row):List Int:=key r.net r.many.toNat
noncomputable def jz (rs:List Row):List Int->List Row:=λ s=>rs.filter λ r=>Jy r == s
def Tr.small:Tr->Prop
 | .nil=>True
 | .node z o rs=>jT (rs.length<=100) z.small o.small
theorem Y4{nd:Nd}{tbl:List Int->List Row}(h:∀ s,(tbl s).length<=100):∀(n:Nat) (s:List Int),(wj nd tbl n s).small:=by
 intro n;induction n with
 | zero=>
   intro s;exact trivial
 | succ n ih=>
   intro s;unfold wj;cases nd s with
   | none=>exact trivial
   | some b=>exact⟨h s,ih _,ih _⟩
structure J7(tr:Tr)(rs:List Row):Prop where
 node:Ex3 λ z o l=>tr=.node z o l
 small:tr.small
 at_:∀ u:List Int,u.length<=32->(∀ x∈u,x=0\/x=1)->(tr.at u).getD []=jz rs u
theorem trOf_ok{mem:List jB}{o0:jB}{R:Nat}{nd:Nd}{rs:List Row}(h:qO mem o0 R nd (jz rs))(hl:rs.length<=100):J7 (wj nd (jz rs) 33 []) rs:=by
 refine⟨?_,Y4 (λ s=>BF (List.length_filter_le _ _) hl) _ _,λ u hu hx=>?_⟩
 ·obtain⟨b,m,e,_⟩:=h.r;unfold wj;refine rwl e ?_;exact⟨_,_,_,rfl⟩
 ·rw[Ua h 33 [] u (by lia) hx,DK];cases e:nd u with
  | none=>rw[h.tn u e];rfl
  | some b=>rfl
structure jE where
 addr:Int
 many:Int
 mtu:Int
noncomputable def yd (f:jE):T:=.inst 537 [(qd,.int f.addr),(w7,.int f.many),(zG,.int f.mtu)]
def YU:List V->(T->Prop)->(Addr->Prop)->Prop:=λ args K _=>int3 (λ a b c=>K (yd ⟨a,b,c⟩)) args
theorem c_faceRow:∀ args K KX,YU args K KX->ev sp4 30 (.call 537 args [] (pK K) (pX KX)):=by
 intro args K KX h;replace h:=uB h;obtain⟨a,b,c,rfl,h⟩:=h;exact jL h
noncomputable abbrev reO (w:Nat):jB:=.inst 856 [(X2,.p (.int 30)),(X0,.p (.int 1000)),(vN,.p (.int 65535)),(n238,.m w)]
noncomputable def zF (mem:List jB):List jB:=jU (jU mem (reO (jA mem+1))) (.dict [] 0)
def gRe:jJ:=λ args mem k kx=>args=[.p (.int 30),.p (.int 1000)]/\k (.m (jA mem)) (zF mem)
theorem c_re:∀ args mem k kx,gRe args mem k kx->ev sp4 30 (.call 856 args mem k kx):=by
 rintro args mem k kx ⟨rfl,hk⟩;conv=>whnf
 erw[j5];conv=>whnf
 erw[qW,j5];conv=>whnf
 erw[qW,j5];conv=>whnf
 erw[qW,zy];conv=>whnf
 erw[QG];have h1:jC (zF mem) (jA mem)=reO (jA mem+1):=zy _ _ _;have key:J0 (jA mem) (zF mem) k:=by
  unfold J0;rw[h1];exact hk
 suffices h:fin false (jA (jU mem (.inst 856 []))) (.p .none) (jU (jU mem (reO (jA (jU mem (.inst 856 [(X2,.p (.int 30)),(X0,.p (.int 1000)),(vN,.p (.int 65535))]))))) (.dict [] 0)) (kCl (jA mem) k) from h
 rw[jI,jI];refine xe (mem:=zF mem) key λ h=>?_;have:=z8 h (jA mem);rw[qC _ _ _ (CK _),h1] at this;simp[WH,wi,yD] at this
noncomputable abbrev yM (fs:List jE) (r s:V) (fw:Bool) (id:Int):jB:=.inst 670 [(xL,.p (.lst (fs.map yd))),(ue,r),(n178,s),(YE,.p (.bool fw)),(n180,.p (.int id))]
def gIpb(args:List V)(mem:List jB)(k:KM)(kx:KXM)(fs:List jE)(r s:Nat)(fw:Bool):Prop:=args=[.p (.lst (fs.map yd)),.m r,.m s,.p (.bool fw)]/\k (.m (jA mem)) (jU mem (yM fs (.m r) (.m s) fw 0))
def gIp:jJ:=λ args mem k kx=>Ex4 λ(fs:List jE) (r s:Nat) (fw:Bool)=>gIpb args mem k kx fs r s fw
theorem c_ip:∀ args mem k kx,gIp args mem k kx->ev sp4 30 (.call 670 args mem k kx):=by
 rintro args mem k kx ⟨fs,r,s,fw,rfl,hk⟩;conv=>whnf
 erw[j5];conv=>whnf
 erw[qW,j5];conv=>whnf
 erw[qW,j5];conv=>whnf
 erw[qW,j5];conv=>whnf
 erw[qW,j5];conv=>whnf
 erw[qW];have key:J0 (jA mem) (jU mem (yM fs (.m r) (.m s) fw 0)) k:=by
  unfold J0;rw[j5];exact hk
 suffices h:fin false (jA (jU mem (.inst 670 []))) (.p .none) (jU mem (yM fs (.m r) (.m s) fw 0)) (λ v mem1=>match v with
  | .p .none=>J0 (jA mem) mem1 k
  | _=>False) from h
 exact jw (by rw[jI,jI];exact BN _) rfl key
noncomputable abbrev l5:List (Nat×jJ):=[(478,gAdd),(537,jR YU),(856,gRe),(670,gIp)]++l4
noncomputable abbrev sp5:Addr->Option jJ:=lkS l5
theorem sp5_ok{X:Run}(ok:jv X):jN X sp5 200:=by
 exact jN.lay (u9 ok) (jD rfl) ⟨jQ (n:=29) ok (u9 ok) c_add (jD rfl),jO (n:=30) ok (u9 ok) c_faceRow (jD rfl),jQ (n:=30) ok (u9 ok) c_re (jD rfl),jQ (n:=30) ok (u9 ok) c_ip (jD rfl),trivial⟩
theorem tn_sub(k:Nat){m:Int}(h:0<=m):((k:Int)-m).toNat=k-m.toNat:=by
 obtain⟨n,rfl⟩:=CL h;exact Int.toNat_sub k n
noncomputable def num (l:List Int):Int:=l.foldl (λ a b=>2*a+b) 0
theorem Z4(l:List Int)(b:Int):num (l++[b])=2*num l+b:=by unfold num;rw[List.foldl_append];rfl
theorem yX(k:Nat):(0:Int)<2^k:=Int.pow_pos (by decide)
theorem wV(k:Nat):(2:Int)^(k+1)=2*2^k:=(Int.pow_succ 2 k).trans (Int.mul_comm _ _)
theorem fold_num:∀(r:List Int) (c:Int),r.foldl (λ a b=>2*a+b) c=c*2^r.length+num r:=by
 intro r;induction r with
 | nil=>
   intro c;simp[num]
 | cons x r ih=>
   intro c;have e:num (x::r)=x*2^r.length+num r:=by
    have:=ih (2*0+x);unfold num at this ⊢;rw[List.foldl_cons,this];simp
   rw[List.foldl_cons,ih,e,Bw,wV,Int.add_mul,Int.mul_comm 2 c,Int.mul_assoc];lia
theorem Uh(l r:List Int):num (l++r)=num l*2^r.length+num r:=by
 show(l++r).foldl _ 0=_;rw[List.foldl_append,fold_num];rfl
theorem Xs(k:Nat):num (List.replicate k 0)=0:=by
 induction k with
 | zero=>rfl
 | succ k ih=>rw[List.replicate_succ',Z4,ih];rfl
theorem bRng{x n P:Int}(hx:x=0\/x=1)(h0:0<=n)(h1:n<P):0<=x*P+n/\x*P+n<2*P:=by
 have hP:=Bm h0 h1;rw[Int.two_mul];rcases hx with rfl | rfl
 ·rw[Int.zero_mul,D0];exact⟨h0,Bj h1 (Int.lt_add_of_pos_left P hP)⟩
 ·rw[Int.one_mul];exact⟨Bp (Bk hP) h0,Int.add_lt_add_left h1 P⟩
theorem sbk{k:Nat}(h:k+1<=32):31-(32-(k+1))=k:=rwl (Nat.succ_sub_succ 31 k) (Nat.sub_sub_self (Cn h))
theorem sb1{k:Nat}(h:k+1<=32):32-k=31-k+1:=Nat.succ_sub (Cn h)
theorem sb2:∀ m<33,∀ i<m,32-m+(m-1-i)=31-i:=by decide
theorem Xt:∀ l:List Int,(∀ x∈l,x=0\/x=1)->0<=num l/\num l<2^l.length:=by
 intro l;induction l with
 | nil=>
   intro _;simp[num]
 | cons x l iH=>
   intro h;have e:num (x::l)=x*2^l.length+num l:=Uh [x] l |>.trans (by simp[num]);have ih:=iH λ y hy=>h y (.tail _ hy);rw[e,Bw,wV];exact bRng (h x (.head _)) ih.1 ih.2
theorem qB(a:Int)(m:Nat):(key a m).length=m:=by unfold key;rw[BB,List.length_range]
theorem z9(a:Int){m n:Nat}(h:m<=n):(key a n).take m=key a m:=by
 unfold key;rw[<- List.map_take,List.take_range,DJ h]
theorem key_01(a:Int)(m:Nat):∀ x∈key a m,x=0\/x=1:=by
 intro x hx;obtain⟨i,_,rfl⟩:=DO.mp hx;exact Zd a i
theorem xp(a:Int)(i:Nat):qo a i=a/2^(31-i)%2:=by
 unfold qo;rw[show((31:Int)-i).toNat=31-i from Int.toNat_sub 31 i]
theorem XE(a:Int)(j k:Nat):a/2^j/2^k=a/2^(j+k):=by
 rw[Int.ediv_ediv,BE λ h=>Int.lt_irrefl 0 (Bj (yX j) h.1),Int.sub_zero,<- Int.pow_add]
theorem half(a:Int)(k:Nat):a/2^(k+1)=a/2^k/2:=(XE a k 1).symm
theorem Q8{a:Int}(h:0<=a)(h2:a<4294967296):∀ m,m<=32->num (key a m)=a/2^(32-m):=by
 intro m;induction m with
 | zero=>
   intro _;exact(Df h h2).symm
 | succ m ih=>
   intro hm;rw[vR,Z4,ih (Nat.le_of_succ_le hm),xp,sb1 hm,half,Nat.succ_sub_succ 31 m];exact CF _ 2
theorem X9{a b:Int}{m:Nat}(hm:m<=32)(h:a/2^(32-m)=b/2^(32-m)):key a m=key b m:=by
 unfold key;refine DY λ i hi=>?_;have hi:=List.mem_range.mp hi;have e:∀ c:Int,qo c i=c/2^(32-m)/2^(m-1-i)%2:=λ c=>by
  rw[xp,XE,sb2 m (Nat.lt_succ_of_le hm) i hi]
 rw[e,e,h]
theorem ZO{a b:Int}(ha:0<=a)(ha2:a<4294967296)(hb:0<=b)(hb2:b<4294967296){m:Nat}(hm:m<=32):key a m=key b m↔a/2^(32-m)=b/2^(32-m):=
 ⟨λ e=>by rw[<- Q8 ha ha2 m hm,<- Q8 hb hb2 m hm,e],X9 hm⟩
theorem Qk{a:Int}:∀ k:Nat,k<=32->((0:Int)∉(key a 32).drop (32-k)↔a%2^k=2^k-1):=by
 intro k;induction k with
 | zero=>
   intro _;have:(key a 32).drop (32-0)=[]:=List.drop_eq_nil_of_le (D7 (qB a 32));rw[this];constructor
   ·intro _;exact Int.emod_one a
   ·intro _;exact Ch
 | succ k iH=>
   intro hk;have ih:=iH (Nat.le_of_succ_le hk);have hl:32-(k+1)<(key a 32).length:=by rw[qB];exact Nat.sub_lt (by decide) (Nat.succ_pos k)
   have e:(key a 32).drop (32-(k+1))=(key a 32)[32-(k+1)]::(key a 32).drop (32-k):=by
    rw[DH hl,show 32-(k+1)+1=32-k from(sb1 hk).symm▸Bo (· + 1) (Nat.succ_sub_succ 31 k)]
   have e2:(key a 32)[32-(k+1)]=a/2^k%2:=by
    simp only[key,List.getElem_map,List.getElem_range];rw[xp,sbk hk]
   rw[e,e2,BO,not_or,ih];have hp:=yX k;have h2:=CF a (2^k);have h4:=Bs a (Cd hp);have h5:=Bt a hp;rw[wV];generalize hq:a/2^k=q at *;generalize hr:a%2^k=r at *;generalize (2:Int)^k=P at *;have e3:a%(2*P)=q%2*P+r:=by
    have h3:=CF q 2;have ha:a=(q%2*P+r)+(2*P)*(q/2):=by
     have:P*(2*(q/2)+q%2)=P*q:=by rw[h3]
     rw[Dc,<- Int.mul_assoc,Int.mul_comm P 2,Int.mul_comm P (q%2)] at this;rw[<- h2,<- this,DV,CS]
    have h0:=bRng (Int.emod_two_eq q) h4 h5;conv=>lhs;rw[ha]
    rw[Cr];exact Dm h0.1 h0.2
   rw[e3];rw[Int.two_mul,DP];rcases Int.emod_two_eq q with e | e <;> rw[e]
   ·rw[Int.zero_mul,D0];exact⟨λ h=>absurd rfl h.1,λ h=>absurd h5 (Bg.mpr (h▸Int.le_add_of_nonneg_right (CB hp)))⟩
   ·rw[Int.one_mul];exact⟨λ h=>h.2▸rfl,λ h=>⟨by decide,Int.add_left_cancel h⟩⟩
theorem Z0{a:Int}(h:0<=a)(h2:a<4294967296):(0:Int)∉key a 32↔a=4294967295:=by
 have:=Qk (a:=a) 32 (BN _);rw[show(key a 32).drop (32-32)=key a 32 from List.drop_zero] at this;rw[this];show a%4294967296=4294967295↔_;rw[Dm h h2]
theorem XL{a n p:Int}(ha:0<=a)(ha2:a<4294967296)(hn:0<=n)(hn2:n<4294967296)(hp:0<=p)(hp2:p<31)(h1:a≠4294967295) :
  w9 a n p=true↔key a p.toNat=key n p.toNat/\(0:Int)∉(key a 32).drop p.toNat:=by
 have hd:=Qk (a:=a) (32-p.toNat) (Nat.sub_le _ _);have hp3:p.toNat<=32:=Int.toNat_le.mpr (BM (Bk hp2) (by decide));rw[Nat.sub_sub_self hp3] at hd;rw[hd,ZO ha ha2 hn hn2 hp3];have e1:(a == 4294967295)=false:=by simpa using h1
 have e2:(32-p).toNat=_:=tn_sub 32 hp;unfold w9;rw[e1,Bf hp2,e2];generalize hk:32-p.toNat=k;have hP:=yX k;have h2:=CF a (2^k);have h4:=Bs a (Cd hP);have h5:=Bt a hP;generalize (2:Int)^k=P at *;simp only[Bool.false_or,Bool.true_and,beq_iff_eq];constructor
 ·intro e;have:a/P=n/P:=by
   rw[e,CS,Int.add_mul_ediv_right _ _ (Cd hP),Df (CB hP) (Int.sub_lt_self P (by decide)),D0]
  refine⟨this,?_⟩;rw[this,Int.mul_comm] at h2;exact Int.add_left_cancel (h2.trans e)
 ·rintro⟨e3,e4⟩;rw[e3,e4,Int.mul_comm] at h2;exact h2.symm
theorem W3{a:Int}(ha:0<=a)(ha2:a<4294967296):ju a=(key a 3 == [1,1,1]):=by
 have e:key (3758096384:Int) 3=[1,1,1]:=by decide
 have h:=ZO ha ha2 (b:=3758096384) (by decide) (by decide) (m:=3) (by decide);rw[e] at h;have h:key a 3=[1,1,1]↔a/536870912=7:=h;rw[Bool.eq_iff_iff,beq_iff_eq,h];unfold ju;rw[decide_eq_true_iff];have q1:14<=a/268435456↔3758096384<=a:=D9 (by decide);have q2:7<=a/536870912↔3758096384<=a:=D9 (by decide);exact(q1.trans q2.symm).trans ⟨Int.le_antisymm (Int.le_of_lt_add_one (Cc (by decide) ha2)),λ h=>D8 h.symm⟩
theorem X7{a:Int}(ha:0<=a)(ha2:a<4294967296):ji a=(key a 8 == [0,1,1,1,1,1,1,1]):=by
 have e:key (2130706432:Int) 8=[0,1,1,1,1,1,1,1]:=by decide
 have h:=ZO ha ha2 (b:=2130706432) (by decide) (by decide) (m:=8) (by decide);rw[e] at h;have h:key a 8=[0,1,1,1,1,1,1,1]↔a/16777216=127:=h;rw[Bool.eq_iff_iff,beq_iff_eq,h];unfold ji;rw[beq_iff_eq]
theorem net_num{a m:Int}(ha:0<=a)(ha2:a<4294967296)(h0:0<=m)(h1:m<=32):num (key a m.toNat++List.replicate (32-m).toNat 0)=za a m:=by
 rw[Uh,Xs,DG,Q8 ha ha2 _ (Int.toNat_le.mpr h1)];unfold za;rw[show(32-m).toNat=_ from tn_sub 32 h0];exact Int.add_zero _
theorem netOf_ok{a m:Int}(ha:0<=a)(ha2:a<4294967296):(0<=za a m/\za a m<4294967296)/\za (za a m) m=za a m:=by
 unfold za;generalize (32-m).toNat=k;have hP:=yX k;have h2:=CF a (2^k);have h4:=Bs a (Cd hP);have h5:0<=a/2^k:=CZ ha (Bk hP);have h6:0<=a/2^k*2^k:=D1 h5 (Bk hP);rw[Int.mul_comm] at h2;refine⟨⟨h6,Bm (Int.ediv_mul_le a (Cd hP)) ha2⟩,?_⟩;rw[Int.mul_ediv_cancel _ (Cd hP)]
noncomputable def argE:Expr->Nat->Expr
 | .Call _ args _ _,i=>nthE i args
 | _,_=>exN
noncomputable abbrev qj (a b:Int):jB:=.plst [.int a,.int b]
noncomputable abbrev rtT (tr:Tr) (cnt:Int):T:=.inst 516 [(n152,trT tr),(wk,.int cnt)]
noncomputable abbrev L4 (a b:Int) (fs:List jE) (tr:Tr) (cnt:Int) (fw:Bool) (id:Int) (w:jB):List jB:=[qj a b,yM fs (.p (rtT tr cnt)) (.m 2) fw id,reO 3,w]
noncomputable def jM (f:jE):T:=.tup [.int f.addr,.int f.many,.int f.mtu]
noncomputable def qD (r:Row):T:=.tup [.int r.net,.int r.many,.int r.gw,.int r.face]
structure UW(rs:List Row):Prop where
 ok:∀ r∈rs,r.Ok
 new:∀(l1 l2:List Row) (r:Row),rs=l1++r::l2->∀ r'∈l1,¬(r'.gw=r.gw/\r'.face=r.face)
 len:rs.length<=100
def gLayerb(args:List V)(mem:List jB)(k:KM)(kx:KXM)(fs:List jE)(rs:List Row)(fw:Bool)(a b:Int):Prop:=vj (args=[.p (.lst (fs.map jM)),.p (.lst (rs.map qD)),.p (.bool fw)]) (mem=[qj a b]) (UW rs) (fs.length<=100) (∀ tr cnt,J7 tr rs->k (.m 1) (L4 a b fs tr cnt fw 0 (.dict [] 0)))
def gLayer:jJ:=λ args mem k kx=>Ex5 λ(fs:List jE) (rs:List Row) (fw:Bool) (a b:Int)=>gLayerb args mem k kx fs rs fw a b
noncomputable abbrev yTgt:Expr:=wn (jY 1 (fB 957))
noncomputable abbrev yBody:List Stmt:=wo (jY 1 (fB 957))
noncomputable abbrev ySt (fs:List jE) (rs:List Row) (fw:Bool) (ex:List (Str×V)) (mem:List jB):St:=⟨(xL,.p (.lst (fs.map jM)))::(Xy,.p (.lst (rs.map qD)))::(YE,.p (.bool fw))::(ue,.m 1)::ex,mem,fSc 957⟩
def yEx(ex:List (Str×V)):Prop:=ex=[]\/Ex4 λ a b c d=>ex=[(vO,a),(wk,b),(Wy,c),(yZ,d)]
theorem lay_step{W:St->Prop}{K:Fl->St->Prop}{kx:KX}{mem:List jB}{fs:List jE}{rs:List Row}{fw:Bool}{r:Row}{o0:jB}{nd:Nd}{tbl:List Int->List Row}{us:List T}{ex:List (Str×V)}
  (hex:yEx ex) (hI:qO mem o0 1 nd tbl) (ok:r.Ok) (hne:∀ r'∈tbl (Jy r),¬(r'.gw=r.gw/\r'.face=r.face)) (hl:(tbl (Jy r)).length<=100)
  (hW:∀ mem' nd',qO mem' o0 1 nd' (λ t=>if t=Jy r then tbl (Jy r)++[r] else tbl t)->W (ySt fs rs fw [(vO,.p (.int r.net)),(wk,.p (.int r.many)),(Wy,.p (.int r.gw)),(yZ,.p (.int r.face))] mem')) :
  Qd (ev sp5 26) yTgt yBody .fix us (qD r) W (ySt fs rs fw ex mem) K kx:=by
 obtain⟨b0,m0,e1,e2⟩:=hI.r;rcases hex with rfl | ⟨a1,a2,a3,a4,rfl⟩
 all_goals
  conv=>whnf
  erw[xl (n:=YF) e2 rfl];refine⟨rfl,?_⟩;refine⟨1,r,o0,nd,tbl,rfl,hI,ok,hne,hl,λ mem' nd' b h1 h2 h3 h4=>?_⟩;exact hW mem' nd' h1
theorem tbl_snoc(l:List Row)(r:Row):(λ t=>if t=Jy r then jz l (Jy r)++[r] else jz l t)=jz (l++[r]):=by
 funext t;unfold jz;rw[List.filter_append];by_cases q:t=Jy r
 ·subst q;rw[BJ rfl];simp
 ·rw[BE q];have:(Jy r == t)=false:=by simpa using λ e=>q e.symm
  simp[this]
theorem lay_loop{K:Fl->St->Prop}{kx:KX}{fs:List jE}{rs:List Row}{fw:Bool}{o0:jB}{us:List T}(ok:UW rs)
  (hk:∀ mem' nd' ex',yEx ex'->qO mem' o0 1 nd' (jz rs)->K .next (ySt fs rs fw ex' mem')):∀(l2 l1:List Row) (mem:List jB) (nd:Nd) (ex:List (Str×V)),rs=l1++l2->yEx ex->qO mem o0 1 nd (jz l1)->
  zm (ev sp5 26) yTgt yBody .fix us (l2.map qD) (ySt fs rs fw ex mem) K kx:=by
 intro l2;induction l2 with
 | nil=>
   intro l1 mem nd ex e hex hI;rw[Cu] at e;exact hk mem nd ex hex (rwl e hI)
 | cons r l2 ih=>
   intro l1 mem nd ex e hex hI;refine rwl BZ (rwl qE ?_);refine lay_step hex hI (ok.ok r (by refine rwl e ?_;simp)) (λ r' h=>ok.new l1 l2 r e r' (Ct.mp h).1) ?_ λ mem' nd' h1=>?_
   ·refine BF (List.length_filter_le _ _) ?_;have:=ok.len
    (replace this:=e▸this;replace this:=BV▸this);lia
   ·rw[tbl_snoc] at h1;exact ih (l1++[r]) mem' nd' _ (by refine rwl e ?_;simp) (.inr ⟨_,_,_,_,rfl⟩) h1
noncomputable abbrev zE:Expr:=argE (asV (jY 2 (fB 957))) 0
def zEx(ex:List (Str×V)):Prop:=ex=[]\/Ex3 λ a b c=>ex=[(qd,a),(wk,b),(zG,c)]
theorem face_comp{us:List T}:∀(fs:List jE) (mem:List jB) (ex:List (Str×V)) (kc:List T->List jB->Prop),zEx ex->kc (fs.map yd) mem->
  zK (ev sp5 22) (lcT zE) (lcE zE) (lcI zE) .fix us (fs.map jM) ⟨ex,mem,lcS zE⟩ kc:=by
 intro fs;induction fs with
 | nil=>
   intro mem ex kc hex hk;exact hk
 | cons f fs ih=>
   intro mem ex kc hex hk;refine rwl BZ (rwl jy ?_);rcases hex with rfl | ⟨a,b,c,rfl⟩
   all_goals
    refine⟨rfl,?_⟩;exact ih mem _ _ (.inr ⟨_,_,_,rfl⟩) hk
noncomputable def vT (s:Nat) (i:Nat):Option Nat:=if i=0 then some 0 else if i=s then some 2 else if i=s+1 then some 3 else if i=s+2 then some 1 else none
noncomputable def sgL (s:Nat):Nat->Nat
 | 0=>0
 | 1=>s+2
 | 2=>s
 | 3=>s+1
 | j=>j
theorem Y5{a b:Int}{fs:List jE}{rs:List Row}{fw:Bool}{mem:List jB}{nd:Nd}{k:KM}(hl:rs.length<=100)(hI:qO mem (qj a b) 1 nd (jz rs))
  (hk:∀ tr cnt,J7 tr rs->k (.m 1) (L4 a b fs tr cnt fw 0 (.dict [] 0))) :
  Ex2 λ v2 mem2=>Tidy 1 (jU (zF mem) (yM fs (.m 1) (.m (jA mem)) fw 0)) (.m (jA mem+2)) mem2 v2/\k v2 mem2:=by
 obtain⟨b0,m,e1,e2⟩:=hI.r;have l1:1<jA mem:=hI.r0.2;have l2:jA (zF mem)=jA mem+2:=by unfold zF;rw[jI,jI]
 have l3:jA (jU (zF mem) (yM fs (.m 1) (.m (jA mem)) fw 0))=jA mem+3:=by rw[jI,l2]
 have hI1:qO (jU mem (reO (jA mem+1))) (qj a b) 1 nd (jz rs):=hI.app (by lia) _;have hI2:qO (zF mem) (qj a b) 1 nd (jz rs):=hI1.app (by rw[jI];lia) _;have hI3:=hI2.app (by lia) (yM fs (.m 1) (.m (jA mem)) fw 0);have nL:jC (jU (zF mem) (yM fs (.m 1) (.m (jA mem)) fw 0)) (jA mem+2)=yM fs (.m 1) (.m (jA mem)) fw 0:=by rw[jr,BJ l2.symm]
 have nS:jC (jU (zF mem) (yM fs (.m 1) (.m (jA mem)) fw 0)) (jA mem)=reO (jA mem+1):=by
  rw[jr,BE (by lia)];exact zy _ _ _
 have nD:jC (jU (zF mem) (yM fs (.m 1) (.m (jA mem)) fw 0)) (jA mem+1)=.dict [] 0:=by
  rw[jr,BE (by lia)];unfold zF;rw[jr,BJ (by rw[jI])]
 generalize jU (zF mem) (yM fs (.m 1) (.m (jA mem)) fw 0)=M at *;obtain⟨b1,m1,e3,e4⟩:=hI3.r
 have hfr:=frz_tree hI3 (inv:=vT (jA mem)) (λ i h1 h2 h3=>by
  unfold vT;rw[BE (by lia),BE ?_,BE ?_,BE ?_]
  all_goals
   rintro rfl;rcases h3 with ⟨C,fs',e,rfl⟩ | ⟨rs',e⟩
   ·first | (replace e:=nS▸e;cases e) | (replace e:=nD▸e;cases e) | (replace e:=nL▸e;cases e)
   ·first | (replace e:=nS▸e;cases e) | (replace e:=nD▸e;cases e) | (replace e:=nL▸e;cases e)) 33 [] (BN _)
 replace hfr:=e3▸hfr;refine⟨.m 1,_,⟨sgL (jA mem),vT (jA mem),?_,?_,?_,?_,.keep ?_⟩,hk (wj nd (jz rs) 33 []) m1 (trOf_ok hI3 hl)⟩
 ·show 1<=4;decide
 ·intro i hi;induction i using CD with
  | zero=>rfl
  | succ i=>lia
 ·intro j hj;have hj:j<4:=hj;have inv0:vT (jA mem) 0=some 0:=BJ rfl;have invS:vT (jA mem) (jA mem)=some 2:=by unfold vT;exact rwl (BE (by lia)) (rwl (BJ rfl) rfl)
  have invD:vT (jA mem) (jA mem+1)=some 3:=by unfold vT;exact rwl (BE (by lia)) (rwl (BE (by lia)) (rwl (BJ rfl) rfl))
  have invLL:vT (jA mem) (jA mem+2)=some 1:=by unfold vT;exact rwl (BE (by lia)) (rwl (BE (by lia)) (rwl (BE (by lia)) (rwl (BJ rfl) rfl)))
  have inv1:vT (jA mem) 1=none:=by unfold vT;exact rwl (BE (by lia)) (rwl (BE (by lia)) (rwl (BE (by lia)) (rwl (BE (by lia)) rfl)))
  match j,hj with
  | 0,_=>
    refine⟨by show 0<jA M;lia,inv0,?_⟩;show CO M _ (jC M 0) (qj a b);refine rwl hI3.z ?_;exact .plst _
  | 1,_=>
    refine⟨by show jA mem+2<jA M;lia,invLL,?_⟩;show CO M _ (jC M (jA mem+2)) (yM fs _ (.m 2) fw 0);refine rwl nL ?_;refine .inst (.cons (.frz (.p _)) (.cons (.frz (.inst inv1 (by lia) e4 (.cons hfr (.cons (.p _) .nil)))) (.cons (.keep invS) (.cons (.frz (.p _)) (.cons (.frz (.p _)) .nil)))))
  | 2,_=>
    refine⟨by show jA mem<jA M;lia,invS,?_⟩;show CO M _ (jC M (jA mem)) (reO 3);refine rwl nS ?_;exact .inst (.cons (.frz (.p _)) (.cons (.frz (.p _)) (.cons (.frz (.p _)) (.cons (.keep invD) .nil))))
  | 3,_=>
    refine⟨by show jA mem+1<jA M;lia,invD,?_⟩;show CO M _ (jC M (jA mem+1)) (.dict [] 0);refine rwl nD ?_;exact .dict0 0
 ·intro i j h;show j<4/\_;unfold vT at h;split at h
  ·obtain rfl:=B9 h;subst_vars;exact⟨by decide,rfl⟩
  ·split at h
   ·obtain rfl:=B9 h;subst_vars;exact⟨by decide,rfl⟩
   ·split at h
    ·obtain rfl:=B9 h;subst_vars;exact⟨by decide,rfl⟩
    ·split at h
     ·obtain rfl:=B9 h;subst_vars;exact⟨by decide,rfl⟩
     ·exact nsm h
 ·unfold vT;exact rwl (BE (by lia)) (rwl (BE (by lia)) (rwl (BE (by lia)) (rwl (BJ rfl) rfl)))
theorem rinv0(a b:Int):qO [qj a b,rtO 2 0,brO (.p .none) (.p .none) 3,.plst []] (qj a b) 1 (λ s=>if s=[] then some (2,3) else none) (jz []):=by
 have e0:∀(s:List Int) (b:Nat×Nat),(if s=[] then some (2,3) else none:Option (Nat×Nat))=some b->s=[]/\b=(2,3):=λ s b h=>by
  split at h
  ·obtain rfl:=B9 h;exact⟨by assumption,rfl⟩
  ·exact nsm h
 refine⟨⟨by decide,by show 1<4;decide⟩,⟨(2,3),0,rfl,rfl⟩,rfl,λ s b h=>?_,λ s s' b b' h h' _=>?_,λ s s' b b' h h' _=>?_,λ s x b h=>?_,λ s _=>rfl,λ s b h=>?_⟩
 ·obtain⟨rfl,rfl⟩:=e0 _ _ h;exact⟨by decide,by show 2<4;decide,rfl,by decide,by show 3<4;decide,rfl⟩
 ·exact rwl ((e0 _ _ h).1) (rwl ((e0 _ _ h').1) rfl)
 ·exact rwl ((e0 _ _ h).1) (rwl ((e0 _ _ h').1) rfl)
 ·have:=(e0 _ _ h).1;simp at this
 ·refine rwl ((e0 _ _ h).1) ?_;decide
theorem c_layer:∀ args mem k kx,gLayer args mem k kx->ev sp5 30 (.call 957 args mem (λ v mem1=>Ex2 λ v2 mem2=>Tidy (jA mem) mem1 v mem2 v2/\k v2 mem2) kx):=by
 rintro args mem k kx ⟨fs,rs,fw,a,b,rfl,rfl,ok,hf,hk⟩;refine⟨rfl,by rw[BB];have:=ok.len;lia,?_⟩;refine lay_loop (fs:=fs) (fw:=fw) ok (λ mem' nd' ex' hex hI=>?_) rs [] _ _ [] rfl (.inl rfl) (rinv0 a b);obtain⟨b0,m,e1,e2⟩:=hI.r;rcases hex with rfl | ⟨a1,a2,a3,a4,rfl⟩
 all_goals
  refine⟨by rw[BB];lia,?_⟩;refine face_comp fs mem' [] _ (.inl rfl) ?_;refine⟨rfl,fs,1,jA mem',fw,rfl,?_⟩;refine fin_inst (b:=false) (n:=1) (mem:=jU (zF mem') (yM fs (.m 1) (.m (jA mem')) fw 0)) (i:=jA (zF mem')) ?_ (j5 _ _) ?_
  ·unfold zF;rw[jI];lia
  ·have:=Y5 ok.len hI hk;rw[show jA mem' + 2=jA (zF mem') by unfold zF;rw[jI,jI]] at this;exact this
noncomputable def optR:Option Row->T
 | none=>.none
 | some r=>jt r
noncomputable abbrev branT (z o:T) (rs:List Row):T:=.inst 432 [(YH,z),(yv,o),(ue,.lst (rs.map jt))]
noncomputable def headO:List Row->Option Row->Option Row
 | _,some r=>some r
 | [],none=>none
 | r::_,none=>some r
noncomputable abbrev bSt (s:T) (f:Option Row) (ex:List (Str×V)):St:=⟨(n4,.p s)::(n71,.p (optR f))::ex,[],fSc 429⟩
def bEx(ex:List (Str×V)):Prop:=ex=[]\/∃ a,ex=[(w6,a)]
theorem best_loop{K:Fl->St->Prop}{kx:KX}{s:T}{us:List T}:∀(rs:List Row) (f:Option Row) (ex:List (Str×V)),bEx ex->(∀ ex',bEx ex'->K .next (bSt s (headO rs f) ex'))->
  zm (ev sp2 16) (wn (jY 1 (fB 429))) (wo (jY 1 (fB 429))) .fix us (rs.map jt) (bSt s f ex) K kx:=by
 intro rs;induction rs with
 | nil=>
   intro f ex hex hk;have:=hk ex hex;cases f <;> exact this
 | cons r rs ih=>
   intro f ex hex hk;rw[BZ,qE];induction f using BU with
   | none=>
     rcases hex with rfl | ⟨a,rfl⟩
     all_goals
      conv=>whnf
      exact ih (some r) _ (.inr ⟨_,rfl⟩) λ ex' h=>by cases rs <;> exact hk ex' h
   | some r0=>
     rcases hex with rfl | ⟨a,rfl⟩
     all_goals
      conv=>whnf
      exact ih (some r0) _ (.inr ⟨_,rfl⟩) λ ex' h=>by cases rs <;> exact hk ex' h
def gBestb(args:List V)(K:T->Prop)(kx_:Addr->Prop)(z o:T)(rs:List Row):Prop:=jT (args=[.p (branT z o rs)]) (rs.length<=100) (K (optR (headO rs none)))
def gBest:List V->(T->Prop)->(Addr->Prop)->Prop:=λ args K kx_=>Ex3 λ(z o:T) (rs:List Row)=>gBestb args K kx_ z o rs
theorem c_best:∀ args K KX,gBest args K KX->ev sp2 20 (.call 429 args [] (pK K) (pX KX)):=by
 rintro args K KX ⟨z,o,rs,rfl,hl,hk⟩;refine⟨by rw[BB];lia,?_⟩;refine best_loop rs none [] (.inl rfl) λ ex' hex=>?_;rcases hex with rfl | ⟨a,rfl⟩
 all_goals exact jL hk
noncomputable def bitR (a:Int) (i:Nat):Int:=(a.fdiv (2^(31-(i:Int)).toNat)).fmod 2
theorem bitR_eq(a:Int)(i:Nat):bitR a i=qo a i:=by
 unfold bitR qo;rw[zn (by decide),zo (Bk (yX _))]
noncomputable abbrev btE:Expr:=asV (jY 0 (fB 893))
def cEx(n:Str)(e0:List (Str×V))(ex:List (Str×V)):Prop:=ex=e0\/∃ a,ex=e0++[(n,a)]
theorem bits_comp{a:Int}{us:List T}{mem:List jB}:∀(l:List Nat) (ex:List (Str×V)) (kc:List T->List jB->Prop),(∀ i∈l,i<32)->cEx ZG [(n58,.p (.int a))] ex->kc (l.map λ i=>T.int (bitR a i)) mem->
  zK (ev sp2 15) (lcT btE) (lcE btE) (lcI btE) .fix us (l.map λ(i:Nat)=>T.int i) ⟨ex,mem,lcS btE⟩ kc:=by
 intro l;induction l with
 | nil=>
   intro ex kc hl hex hk;exact hk
 | cons i l ih=>
   intro ex kc hl hex hk;have hi:=hl i (.head _);rw[BZ,jy];rcases hex with rfl | ⟨x,rfl⟩
   all_goals
    refine⟨⟨.inl rfl,by lia,by lia⟩,Cd (yX _),by decide,?_⟩;exact ih _ _ (λ j hj=>hl j (.tail _ hj)) (.inr ⟨_,rfl⟩) hk
noncomputable def xV (l:List Int):T:=.lst (l.map T.int)
def gBits:List V->(T->Prop)->(Addr->Prop)->Prop:=λ args K _=>zg args (kI λ a=>∀ bl,bl=key a 32->K (xV bl))
theorem c_bits:∀ args K KX,gBits args K KX->ev sp2 19 (.call 893 args [] (pK K) (pX KX)):=by
 intro args K KX h;replace h:=qy h;obtain⟨a,rfl,h⟩:=h;refine⟨by unfold sm2;lia,?_⟩;conv=>whnf
 erw[yV];refine⟨by rw[BB,DE];decide,?_⟩;refine bits_comp _ [(n58,.p (.int a))] _ (λ i hi=>?_) (.inl rfl) ?_
 ·have:=List.mem_range'.mp hi;obtain⟨j,h1,h2⟩:=this;have h1:j<32:=h1;lia
 ·refine jL (t:=.lst ((List.range' 0 (32:Int).toNat).map λ i=>T.int (bitR a i))) ?_;have e:((List.range' 0 (32:Int).toNat).map λ i=>T.int (bitR a i))=(key a 32).map T.int:=by
   unfold key;rw[CR,List.range_eq_range'];refine DY λ i _=>?_;rw[bitR_eq];rfl
  rw[e];exact h _ rfl
noncomputable abbrev nSt (bs:List Int) (f:Int) (ex:List (Str×V)):St:=⟨(n59,.p (xV bs))::(n71,.p (.int f))::ex,[],fSc 900⟩
theorem Z3{K:Fl->St->Prop}{kx:KX}{bs:List Int}{us:List T}:∀(l:List Int) (f:Int) (k:Nat) (ex:List (Str×V)),(∀ x∈l,x=0\/x=1)->0<=f->f<2^k->k+l.length<=60->(ex=[]\/∃ a,ex=[(Jh,a)])->
  (∀ ex',(ex'=[]\/∃ a,ex'=[(Jh,a)])->K .next (nSt bs (l.foldl (λ a b=>2*a+b) f) ex'))->
  zm (ev sp2 16) (wn (jY 1 (fB 900))) (wo (jY 1 (fB 900))) .fix us (l.map T.int) (nSt bs f ex) K kx:=by
 intro l;induction l with
 | nil=>
   intro f k ex hl h0 h1 hk hex hK;exact hK ex hex
 | cons x l ih=>
   intro f k ex hl h0 h1 hk hex hK;refine rwl BZ (rwl qE ?_);have hx:=hl x (.head _);have hp:(2:Int)^k<=2^60:=by
    have:=Nat.pow_le_pow_right (n:=2) (by decide) (show k<=60 from BF (Bi _ _) hk)
    exact_mod_cast this
   have hs:sml f:=y3 h0 (Bj h1 (Bm hp (by decide)));have hx2:0<=x/\x<2:=by rcases hx with rfl | rfl <;> decide
   rcases hex with rfl | ⟨a,rfl⟩
   all_goals
    refine⟨⟨by unfold sml;decide,hs⟩,?_⟩;refine ih (2*f+x) (k+1) _ (λ y hy=>hl y (.tail _ hy)) (Bp (D1 (by decide) h0) hx2.1) (rwl (wV k) (Bz (Int.add_lt_add_left hx2.2 _) (BM (D8 (Dc 2 f 1).symm) (CQ (Int.add_one_le_of_lt h1) (show(0:Int)<=2 by decide))))) ((Cf k l.length 1)▸hk) (.inr ⟨_,rfl⟩) hK
def U3:List V->(T->Prop)->(Addr->Prop)->Prop:=λ args K _=>∃ l:List Int,jj (args=[.p (xV l)]) (∀ x∈l,x=0\/x=1) (l.length<=60) (K (.int (num l)))
theorem c_number:∀ args K KX,U3 args K KX->ev sp2 20 (.call 900 args [] (pK K) (pX KX)):=by
 rintro args K KX ⟨l,rfl,h01,hl,hk⟩;refine⟨by rw[BB];exact BF hl (by decide),?_⟩;refine Z3 l 0 0 [] h01 (by decide) (by decide) ((D6 l.length).symm▸hl) (.inl rfl) λ ex' hex=>?_;rcases hex with rfl | ⟨a,rfl⟩
 all_goals exact jL hk
theorem ints_eq{ts:List T}{ns:List Int}(h:T.ints ts=some ns):ts=ns.map T.int:=yk h
def gOne:List V->(T->Prop)->Prop:=λ args K=>m0 (λ r=>zg r (kTl λ ts=>(ts≠[]/\ts.length<=1000)/\∀ t∈ts,K t)) args
set_option tactic.hygienic true in
theorem c_one:∀ args K,gOne args K->∀ a b:Int,0<=b->b<65287->ev sp2 30 (.call 881 args [.plst [.int a,.int b]] (sK K) sX):=by
 intro args K h a b hb0 hb1;replace h:=ZL h;obtain⟨r,rfl,h⟩:=h;replace h:=kTl_args h;obtain⟨ts,rfl,h⟩:=h;obtain⟨⟨h1,h2⟩,hk⟩:=h;have hlen:0<ts.length:=D5.mpr h1;refine⟨by lia,?_⟩;refine⟨rfl,⟨hb0,hb1⟩,by lia,λ g h3 h4 a' b' h5 h6=>?_⟩;conv=>whnf
 have fin:∀ t:T,t∈ts->sK K (.p t) [.plst [.int a',.int b']]:=λ t ht=>⟨a',b',t,rfl,⟨h5,h6⟩,rfl,hk t ht⟩;split
 ·rename_i ns e;have e:=ints_eq e;subst e;rw[BB] at *;refine⟨⟨by lia,h3,h4⟩,?_⟩;refine fin (.int (ns.getD g.toNat 0)) (DO.mpr ⟨_,?_,rfl⟩);refine rwl (List.getD_eq_getElem?_getD) (rwl (BS (show g.toNat<ns.length by lia)) (rwl Option.getD_some ?_));exact Cy _
 ·refine⟨⟨by lia,h3,h4⟩,λ t ht=>?_⟩;exact fin t (List.mem_of_getElem? ht)
def gWide:List V->(T->Prop)->Prop:=λ args K=>m0 (λ r=>on (yr r) (∀ g:Int,0<=g->g<4294967296->K (.int g))) args
theorem c_wide:∀ args K,gWide args K->∀ a b:Int,0<=b->b<65287->ev sp2 40 (.call 888 args [.plst [.int a,.int b]] (sK K) sX):=by
 intro args K h a b hb0 hb1;replace h:=ZL h;obtain⟨r,rfl,h⟩:=h;induction r using BA with
 | cons=>exact fe h
 | nil=>
 replace h:∀ g:Int,0<=g->g<4294967296->K (.int g):=h;have sm:∀ f:Int,0<=f->f<16777216->sml 256/\sml f:=λ f h0 h1=>⟨by unfold sml;decide,y3 h0 (Bj h1 (by decide))⟩;have w:∀ f g N:Int,0<=f/\f<N->0<=g->g<256->0<=256*f+g/\256*f+g<256*N:=λ f g N h g0 g1=>
  ⟨Bp (D1 (by decide) h.1) g0,Bz (Int.add_lt_add_left g1 _) (BM (D8 (Dc 256 f 1).symm) (CQ (Int.add_one_le_of_lt h.2) (show(0:Int)<=256 by decide)))⟩
 refine⟨by unfold sm2;decide,by decide,sm _ (by decide) (by decide),?_⟩;refine⟨rfl,⟨hb0,hb1⟩,by decide,λ g1 h1 h1' a1 b1 u1 v1=>?_⟩;have w1:=w 0 g1 1 (by decide) h1 h1';refine⟨sm _ w1.1 (Bj w1.2 (by decide)),?_⟩;refine⟨rfl,⟨u1,v1⟩,by decide,λ g2 h2 h2' a2 b2 u2 v2=>?_⟩;have w2:=w _ g2 _ w1 h2 h2';refine⟨sm _ w2.1 (Bj w2.2 (by decide)),?_⟩;refine⟨rfl,⟨u2,v2⟩,by decide,λ g3 h3 h3' a3 b3 u3 v3=>?_⟩;have w3:=w _ g3 _ w2 h3 h3';refine⟨sm _ w3.1 (Bz w3.2 (by decide)),?_⟩;refine⟨rfl,⟨u3,v3⟩,by decide,λ g4 h4 h4' a4 b4 u4 v4=>?_⟩;exact⟨a4,b4,_,rfl,⟨u4,v4⟩,rfl,h _ (w _ g4 _ w3 h4 h4').1 (w _ g4 _ w3 h4 h4').2⟩
structure jE.Ok(f:jE):Prop where
 addr:0<=f.addr/\f.addr<4294967296
 many:0<=f.many/\f.many<=32
 mtu:20<=f.mtu/\f.mtu<100000
theorem zV{fs:List jE}(h:fs≠[]):T.ints (fs.map yd)=none:=by
 induction fs using BA with
 | nil=>exact absurd rfl h
 | cons f r=>rfl
def gToldb(args:List V)(mem:List jB)(k:KM)(kx:KXM)(o0:jB)(fs:List jE)(r s:V)(fw:Bool)(id:Int)(rest:List jB)(a:Int)(i:Nat)(f:jE):Prop:=jj (args=[.m 1,.p (.int a),.p (.int i)]) (mem=o0::yM fs r s fw id::rest) (jT (fs.length<=100) (fs[i]?=some f) f.Ok) (k (.p (.bool (w9 a f.addr f.many))) mem)
def gTold:jJ:=λ args mem k kx=>Ex10 λ(o0:jB) (fs:List jE) (r s:V) (fw:Bool) (id:Int) (rest:List jB) (a:Int) (i:Nat) (f:jE)=>gToldb args mem k kx o0 fs r s fw id rest a i f
theorem c_told:∀ args mem k kx,gTold args mem k kx->ev sp2 30 (.call 584 args mem k kx):=by
 rintro args mem k kx ⟨o0,fs,r,s,fw,id,rest,a,i,f,rfl,rfl,⟨hl,hf,ok⟩,hk⟩;have o1:=ok.addr;have o2:=ok.many;obtain⟨hi,_⟩:=Cb.mp hf;conv=>whnf
 erw[zV (by rintro rfl;exact nsm hf)];conv=>whnf
 rw[BB];refine⟨⟨by lia,by lia,by lia⟩,λ t ht=>?_⟩;have ht:(fs.map yd)[i]?=some t:=ht
 (replace ht:=(Bq)▸ht;replace ht:=hf▸ht)
 obtain rfl:=B9 ht;conv=>whnf
 refine brE (λ q=>?_) (λ q=>?_)
 ·have e:w9 a f.addr f.many=true:=by unfold w9;simp[q]
  replace hk:=e▸hk;exact jw (b:=false) (BN _) rfl hk
 ·refine⟨rfl,⟨o2.1,o2.2,o1.1,o1.2⟩,?_⟩;exact jw (b:=false) (BN _) rfl hk
noncomputable def jX (a:Int) (fs:List jE):Bool:=fs.any λ f=>f.addr == a
noncomputable abbrev oSt (a:Int) (ex:List (Str×V)) (mem:List jB):St:=⟨(n4,.m 1)::(qd,.p (.int a))::ex,mem,fSc 577⟩
theorem own_loop{K:Fl->St->Prop}{kx:KX}{a:Int}{mem:List jB}{us:List T}:∀(fs:List jE) (ex:List (Str×V)),(ex=[]\/∃ x,ex=[(yZ,x)])->
  (jX a fs=true->∀ ex',K (.ret (.p (.bool true))) (oSt a ex' mem))->(jX a fs=false->∀ ex',(ex'=[]\/∃ x,ex'=[(yZ,x)])->K .next (oSt a ex' mem))->
  zm (ev sp2 17) (wn (jY 0 (fB 577))) (wo (jY 0 (fB 577))) .fix us (fs.map yd) (oSt a ex mem) K kx:=by
 intro fs;induction fs with
 | nil=>
   intro ex hex h1 h2;exact h2 rfl ex hex
 | cons f fs ih=>
   intro ex hex h1 h2;refine rwl BZ (rwl qE ?_);rcases hex with rfl | ⟨x,rfl⟩
   all_goals
    conv=>whnf
    refine brE (λ q=>?_) (λ q=>?_)
    ·refine h1 ?_ [(yZ,.p (yd f))];unfold jX;refine rwl Cz (rwl q ?_);simp
    ·have e:jX a (f::fs)=jX a fs:=by
      unfold jX;refine rwl Cz (rwl (show(f.addr == a)=false by simpa using q) ?_);simp
     rw[e] at h1 h2;exact ih _ (.inr ⟨_,rfl⟩) h1 h2
def gOwnb(args:List V)(mem:List jB)(k:KM)(kx:KXM)(o0:jB)(fs:List jE)(r s:V)(fw:Bool)(id:Int)(rest:List jB)(a:Int):Prop:=jj (args=[.m 1,.p (.int a)]) (mem=o0::yM fs r s fw id::rest) (fs.length<=100) (k (.p (.bool (jX a fs))) mem)
def gOwn:jJ:=λ args mem k kx=>Ex8 λ(o0:jB) (fs:List jE) (r s:V) (fw:Bool) (id:Int) (rest:List jB) (a:Int)=>gOwnb args mem k kx o0 fs r s fw id rest a
theorem c_own:∀ args mem k kx,gOwn args mem k kx->ev sp2 20 (.call 577 args mem k kx):=by
 rintro args mem k kx ⟨o0,fs,r,s,fw,id,rest,a,rfl,rfl,hl,hk⟩;refine⟨by rw[BB];lia,?_⟩;refine own_loop fs [] (.inl rfl) (λ e ex'=>?_) (λ e ex' hex=>?_)
 ·replace hk:=e▸hk;exact jw (b:=false) (BN _) rfl hk
 ·replace hk:=e▸hk;rcases hex with rfl | ⟨x,rfl⟩
  all_goals exact jw (b:=false) (BN _) rfl hk
noncomputable abbrev p1:List (Nat×jJ):=[(316,jR gCut),(429,jR gBest),(893,jR gBits),(900,jR U3),(881,yo gOne),(888,yo gWide),(584,gTold),(577,gOwn)]++([(227,jR U1),(241,jR up)]++(l1++[(119,jR vX)]))
noncomputable abbrev spA:Addr->Option jJ:=lkS p1
theorem zh{X:Run}(ok:jv X):jN X spA 140:=by
 exact jN.lay (qz ok) (jD rfl) ⟨jO (n:=40) ok (qz ok) c_cut (jD rfl),jO (n:=20) ok (qz ok) c_best (jD rfl),jO (n:=19) ok (qz ok) c_bits (jD rfl),jO (n:=20) ok (qz ok) c_number (jD rfl),zX (n:=30) ok (qz ok) c_one (jD rfl),zX (n:=40) ok (qz ok) c_wide (jD rfl),jQ (n:=30) ok (qz ok) c_told (jD rfl),jQ (n:=20) ok (qz ok) c_own (jD rfl),trivial⟩
noncomputable def upd:Tr->Option Row->Option Row
 | .node _ _ (r::_),_=>some r
 | _,f=>f
noncomputable def fwL:Tr->List Int->Option Row->Option Row
 | _,[],f=>f
 | .nil,_::_,f=>f
 | .node z o _,x::s,f=>fwL (if x=0 then z else o) s (upd (if x=0 then z else o) f)
noncomputable abbrev fSt (s:T) (a:Int) (t:T) (f:Option Row) (i:Int):St:=⟨[(n4,.p s),(qd,.p (.int a)),(Wv,.p t),(n71,.p (optR f)),(ZG,.p (.int i))],[],fSc 506⟩
noncomputable abbrev fCnd:Expr:=whC (jY 3 (fB 506))
noncomputable abbrev fBdy:List Stmt:=whB (jY 3 (fB 506))
theorem find_step{W:St->Prop}{K:Fl->St->Prop}{kx:KX}{s:T}{a:Int}{z o:Tr}{rs:List Row}{f:Option Row}{i:Nat}(hi:i<32)(hs:(Tr.node z o rs).small)
  (hW:W (fSt s a (trT (if qo a i=0 then z else o)) (upd (if qo a i=0 then z else o) f) (i+1))):uj (ev spA 20) fCnd fBdy W (fSt s a (trT (.node z o rs)) f i) K kx:=by
 conv=>whnf
 refine brT (Bf (by lia)) ?_;refine⟨rfl,⟨by lia,by lia⟩,?_⟩;conv=>whnf
 refine brE (λ q=>?_) (λ q=>?_)
 ·replace hW:=(BJ q)▸hW;have hz:=hs.2;induction z using Tr.casesOn with
  | nil=>conv=>whnf
         exact hW
  | node z1 o1 rs1=>
    induction rs1 using BA with
    | nil=>
      refine⟨rfl,?_⟩;exact hW
    | cons r1 rs1=>
      refine⟨rfl,rfl,_,_,r1::rs1,rfl,hz.1,?_⟩;exact hW
 ·replace hW:=(BE q)▸hW;have hz:=hs.3;induction o using Tr.casesOn with
  | nil=>conv=>whnf
         exact hW
  | node z1 o1 rs1=>
    induction rs1 using BA with
    | nil=>
      refine⟨rfl,?_⟩;exact hW
    | cons r1 rs1=>
      refine⟨rfl,rfl,_,_,r1::rs1,rfl,hz.1,?_⟩;exact hW
theorem Xc{z o:Tr}{rs:List Row}{x:Int}(hs:(Tr.node z o rs).small):(if x=0 then z else o:Tr).small:=by
 split
 ·exact hs.2
 ·exact hs.3
theorem Qg{K:Fl->St->Prop}{kx:KX}{s:T}{a:Int}:∀(j i m:Nat) (t:Tr) (f:Option Row),i+j=32->j<m->t.small->(∀ t' i',K .next (fSt s a t' (fwL t ((List.range' i j).map λ(p:Nat)=>qo a p) f) i'))->
  qV (ev spA 20) fCnd fBdy m (fSt s a (trT t) f i) K kx
 | j,i,0,t,f,hij,hm,hs,hK=>absurd hm (DI _)
 | j,i,m+1,.nil,f,hij,hm,hs,hK=>by
   refine rwl qu ?_;conv=>whnf
   have:=hK (trT .nil) i;cases j <;> exact this
 | 0,i,m+1,.node z o rs,f,hij,hm,hs,hK=>by
   refine rwl qu ?_;conv=>whnf
   refine brF (BX (by lia)) ?_;exact hK _ _
 | j+1,i,m+1,.node z o rs,f,hij,hm,hs,hK=>by
   refine rwl qu ?_;refine find_step (by lia) hs ?_;exact Qg j (i+1) m _ _ (by lia) (by lia) (Xc hs) hK
def gFindb(args:List V)(K:T->Prop)(kx_:Addr->Prop)(tr:Tr)(cnt a:Int):Prop:=jj (args=[.p (rtT tr cnt),.p (.int a)]) (Ex3 λ z o l=>tr=.node z o l) tr.small (K (optR (fwL tr (key a 32) (upd tr none))))
def gFind:List V->(T->Prop)->(Addr->Prop)->Prop:=λ args K kx_=>Ex3 λ(tr:Tr) (cnt a:Int)=>gFindb args K kx_ tr cnt a
theorem c_find:∀ args K KX,gFind args K KX->ev spA 26 (.call 506 args [] (pK K) (pX KX)):=by
 rintro args K KX ⟨tr,cnt,a,rfl,⟨z,o,l,rfl⟩,hs,hk⟩;refine⟨rfl,_,_,l,rfl,hs.1,?_⟩;have e:headO l none=upd (.node z o l) none:=by cases l <;> rfl
 refine rwl e ?_;conv=>whnf
 suffices h:qV (ev spA 20) fCnd fBdy 70000 (fSt (rtT (.node z o l) cnt) a (trT (.node z o l)) (upd (.node z o l) none) (0:Nat)) (kSs (ev spA 21) (wt 4 (fB 506)) (kRf 506 0 (pK K)) (kXf 0 (pX KX))) (kXf 0 (pX KX)) from h
 refine Qg 32 0 _ _ _ (by lia) (by lia) hs λ t' i'=>?_;have e2:(List.range' 0 32).map (λ(p:Nat)=>qo a p)=key a 32:=by unfold key;exact rwl List.range_eq_range' rfl
 refine rwl e2 ?_;exact jL hk
noncomputable def upL (l:List Row) (f:Option Row):Option Row:=match l with
 | r::_=>some r
 | []=>f
noncomputable def gUp (rs:List Row) (a:Int):Nat->Option Row
 | 0=>upL (jz rs (key a 0)) none
 | j+1=>upL (jz rs (key a (j+1))) (gUp rs a j)
def At(rs:List Row)(a:Int)(j:Nat)(t:Tr):Prop:=∀ u:List Int,j+u.length<=32->(∀ x∈u,x=0\/x=1)->(t.at u).getD []=jz rs (key a j++u)
theorem upd_at{rs:List Row}{a:Int}{j:Nat}{t:Tr}{f:Option Row}(hj:j<=32)(h:At rs a j t):upd t f=upL (jz rs (key a j)) f:=by
 have:=h [] hj (C0 _);rw[Cu] at this;rw[<- this];induction t using Tr.casesOn with
 | nil=>rfl
 | node z o l=>cases l <;> rfl
theorem fwL_g{rs:List Row}{a:Int}:∀(n j:Nat) (t:Tr),j+n<=32->At rs a j t->fwL t ((List.range' j n).map λ(p:Nat)=>qo a p) (gUp rs a j)=gUp rs a (j+n)
 | 0,j,t,hj,h=>by cases t <;> rfl
 | n+1,j,.nil,hj,h=>by
   have e:∀ m,m<=n+1->gUp rs a (j+m)=gUp rs a j:=λ m=>by
    induction m with
    | zero=>exact λ _=>rfl
    | succ m ih=>
      intro hm;have hM:jz rs (key a (j+(m+1)))=[]:=by
       have hk:key a (j+(m+1))=key a j++(key a (j+(m+1))).drop j:=by
        conv=>lhs;rw[<- Dj j (key a (j+(m+1)))]
        rw[z9 a (Bi _ _)]
       rw[hk,<- h _ (by rw[Ca,qB,Nat.add_sub_cancel_left];exact BF (Cs hm j) hj) λ x hx=>key_01 _ _ x (List.mem_of_mem_drop hx)];rfl
      show upL (jz rs (key a (j+m+1))) (gUp rs a (j+m))=_;rw[show j+m+1=j+(m+1) from rfl,hM];exact ih (Nat.le_of_succ_le hm)
   rw[e (n+1) (BN _)];rfl
 | n+1,j,.node z o l,hj,h=>by
   have e1:j+(n+1)=j+1+n:=Cf j n 1;rw[e1] at hj;have hc:At rs a (j+1) (if qo a j=0 then z else o):=λ u hu hx=>by
    rw[vR,D2]
    have:=h (qo a j::u) (rwl (Bw (as:=u)) (rwl (Cf j u.length 1) hu)) (λ x hx'=>by
     rcases BO.mp hx' with rfl | hx'
     ·exact Zd a j
     ·exact hx x hx')
    rw[List.singleton_append,<- this];show _=(if qo a j=0 then z.at u else o.at u).getD [];split <;> rfl
   rw[List.range'_succ,BZ];show fwL (if qo a j=0 then z else o) _ (upd (if qo a j=0 then z else o) (gUp rs a j))=_;rw[upd_at (BF (Bi _ n) hj) hc,e1];exact fwL_g n (j+1) _ hj hc
abbrev Mt(a:Int)(r:Row):Prop:=key a r.many.toNat=key r.net r.many.toNat
noncomputable def jb (a:Int):List Row->Option Row->Option Row
 | [],acc=>acc
 | r::rs,acc=>jb a rs (if Mt a r/\(∀ b,acc=some b->b.many<r.many) then some r else acc)
theorem tbl_mt(rs:List Row)(a:Int)(j:Nat):jz rs (key a j)=rs.filter λ r=>decide (Mt a r/\r.many.toNat=j):=by
 unfold jz;refine List.filter_congr λ r _=>?_;rw[Bool.eq_iff_iff,beq_iff_eq,decide_eq_true_iff];unfold Jy;constructor
 ·intro e;have:r.many.toNat=j:=by have:=Bo List.length e;rwa [qB,qB] at this
  exact⟨by show key a r.many.toNat=key r.net r.many.toNat;rw[e,this],this⟩
 ·rintro⟨e,rfl⟩;exact e.symm
def Best(a:Int)(l:List Row)(acc:Option Row):Prop:=((∀ r∈l,¬ Mt a r)/\acc=none)\/∃ r,jj (acc=some r) (Mt a r) (∀ r'∈l,Mt a r'->r'.many<=r.many) ((l.filter λ x=>decide (Mt a x/\x.many=r.many)).head?=some r)
theorem Xi{a:Int}:∀(rs l:List Row) (acc:Option Row),Best a l acc->Best a (l++rs) (jb a rs acc):=by
 intro rs;induction rs with
 | nil=>
   intro l acc h;rw[Cu];exact h
 | cons r rs ih=>
   intro l acc h;have e:l++r::rs=(l++[r])++rs:=by simp
   rw[e];refine ih (l++[r]) _ ?_;by_cases hm:Mt a r
   ·rcases h with ⟨h1,rfl⟩ | ⟨r0,rfl,h1,h2,h3⟩
    ·rw[BJ ⟨hm,λ _=>nsm⟩];refine .inr ⟨r,rfl,hm,λ r' h' m'=>?_,?_⟩
     ·rcases CJ.mp h' with h' | h'
      ·exact absurd m' (h1 _ h')
      ·rw[BG.mp h'];exact Int.le_refl _
     ·rw[List.filter_append,List.filter_eq_nil_iff.mpr λ x hx=>by simpa using λ m _=>h1 x hx m];simp[hm]
    ·by_cases q:r0.many<r.many
     ·rw[BJ ⟨hm,λ b e=>by obtain rfl:=B9 e;exact q⟩];refine .inr ⟨r,rfl,hm,λ r' h' m'=>?_,?_⟩
      ·rcases CJ.mp h' with h' | h'
       ·exact Bk (Bm (h2 _ h' m') q)
       ·rw[BG.mp h'];exact Int.le_refl _
      ·rw[List.filter_append,List.filter_eq_nil_iff.mpr λ x hx=>by
        simp only[decide_eq_true_eq];rintro⟨m,e⟩
        exact Bg.mpr (e▸h2 x hx m) q]
       simp[hm]
     ·rw[BE λ h=>q (h.2 _ rfl)];refine .inr ⟨r0,rfl,h1,λ r' h' m'=>?_,?_⟩
      ·rcases CJ.mp h' with h' | h'
       ·exact h2 _ h' m'
       ·rw[BG.mp h'];exact Bg.mp q
      ·rw[List.filter_append,List.head?_append,h3];rfl
   ·rw[BE λ h=>hm h.1];rcases h with ⟨h1,rfl⟩ | ⟨r0,rfl,h1,h2,h3⟩
    ·exact .inl ⟨λ r' h'=>by
      rcases CJ.mp h' with h' | h'
      ·exact h1 _ h'
      ·rw[BG.mp h'];exact hm,rfl⟩
    ·refine .inr ⟨r0,rfl,h1,λ r' h' m'=>?_,?_⟩
     ·rcases CJ.mp h' with h' | h'
      ·exact h2 _ h' m'
      ·rw[BG.mp h'] at m';exact absurd m' hm
     ·rw[List.filter_append,List.head?_append,h3];rfl
theorem gUp_best{rs:List Row}{a:Int}:∀ n,(((∀ j,j<=n->jz rs (key a j)=[])/\gUp rs a n=none)\/Ex2 λ j r=>jj (j<=n) ((jz rs (key a j)).head?=some r) (gUp rs a n=some r) (∀ j',j<j'->j'<=n->jz rs (key a j')=[])):=by
 intro n;induction n with
 | zero=>
   cases e:jz rs (key a 0) with
   | nil=>left;refine⟨λ j hj=>by rw[Nat.le_zero.mp hj];exact e,?_⟩;unfold gUp;rw[e];rfl
   | cons r l=>right;refine⟨0,r,BN _,by rw[e];rfl,?_,λ j' h1 h2=>absurd h1 (DT.mpr h2)⟩;unfold gUp;rw[e];rfl
 | succ n ih=>
   cases e:jz rs (key a (n+1)) with
   | nil=>
     have eg:gUp rs a (n+1)=gUp rs a n:=by show upL (jz rs (key a (n+1))) _=_;rw[e];rfl
     rw[eg];rcases ih with ⟨h1,h2⟩ | ⟨j,r,h1,h2,h3,h4⟩
     ·left;refine⟨λ j hj=>?_,h2⟩
      by_cases q:j=n+1
      ·rw[q];exact e
      ·exact h1 j (Nat.le_of_lt_succ (Nat.lt_of_le_of_ne hj q))
     ·right;refine⟨j,r,Nat.le_succ_of_le h1,h2,h3,λ j' q1 q2=>?_⟩
      by_cases q:j'=n+1
      ·rw[q];exact e
      ·exact h4 j' q1 (Nat.le_of_lt_succ (Nat.lt_of_le_of_ne q2 q))
   | cons r l=>
     right
     refine⟨n+1,r,BN _,by rw[e];rfl,?_,λ j' h1 h2=>absurd h1 (DT.mpr h2)⟩;show upL (jz rs (key a (n+1))) _=_;rw[e];rfl
theorem Qf{tr:Tr}{rs:List Row}{a:Int}(h:J7 tr rs)(hr:∀ r∈rs,0<=r.many/\r.many<=32):fwL tr (key a 32) (upd tr none)=jb a rs none:=by
 have hA:At rs a 0 tr:=λ u hu hx=>by
  have:=h.at_ u (D6 u.length▸hu) hx;rw[this];rfl
 have e1:upd tr none=gUp rs a 0:=upd_at (by decide) hA;have e2:key a 32=(List.range' 0 32).map (λ(p:Nat)=>qo a p):=by unfold key;rw[List.range_eq_range']
 rw[e1,e2,fwL_g 32 0 tr (BN _) hA];have hb:=Xi (a:=a) rs [] none (.inl ⟨C0 _,rfl⟩);rw[DK] at hb;have inM:∀ r∈rs,Mt a r->r∈jz rs (key a r.many.toNat):=λ r hr m=>by
  rw[tbl_mt];exact Ct.mpr ⟨hr,by simpa using m⟩
 rcases gUp_best (rs:=rs) (a:=a) 32 with ⟨h1,h2⟩ | ⟨j,r,h1,h2,h3,h4⟩
 ·rw[show 0+32=32 from rfl,h2];rcases hb with ⟨_,h5⟩ | ⟨r0,h5,h6,h7,h8⟩
  ·exact h5.symm
  ·have hmem:r0∈rs:=(Ct.mp (List.mem_of_mem_head? h8)).1;have:=inM r0 hmem h6;rw[h1 _ (Int.toNat_le.mpr (hr r0 hmem).2)] at this;cases this
 ·rw[show 0+32=32 from rfl,h3];have hrM:=List.mem_of_mem_head? h2;rw[tbl_mt] at hrM h2;obtain⟨hrs,hq⟩:=Ct.mp hrM;have hq:Mt a r/\r.many.toNat=j:=by simpa using hq
  rcases hb with ⟨h5,_⟩ | ⟨r0,h5,h6,h7,h8⟩
  ·exact absurd hq.1 (h5 r hrs)
  ·have hmem:r0∈rs:=(Ct.mp (List.mem_of_mem_head? h8)).1;have b0:=hr r0 hmem;have b1:=hr r hrs;have l1:=h7 r hrs hq.1;have l2:r0.many<=r.many:=by
    have:=inM r0 hmem h6;rcases Nat.lt_or_ge j r0.many.toNat with q | q
    ·rw[h4 _ q (Int.toNat_le.mpr b0.2)] at this;cases this
    ·rw[<- hq.2] at q;exact(Da b0.1)▸(Da b1.1)▸Bv.mpr q
   have e3:r0.many=r.many:=Int.le_antisymm l2 l1;have e4:(rs.filter λ x=>decide (Mt a x/\x.many=r0.many))=rs.filter λ x=>decide (Mt a x/\x.many.toNat=j):=by
    refine List.filter_congr λ x hx=>?_;have:=hr x hx;rw[Bool.eq_iff_iff,decide_eq_true_iff,decide_eq_true_iff];constructor
    ·rintro⟨m,e⟩;exact⟨m,rwl (e.trans e3) hq.2⟩
    ·rintro⟨m,e⟩;exact⟨m,rwl (Da this.1).symm (rwl (e.trans hq.2.symm) (rwl (Da b1.1) e3.symm))⟩
   rw[e4,h2] at h8;obtain rfl:=B9 h8;exact h5.symm
noncomputable def jf (a:Int) (fs:List jE):Bool:=fs.any λ f=>w9 a f.addr f.many
structure jc(fs:List jE):Prop where
 ok:∀ f∈fs,f.Ok
 ne:fs≠[]
 len:fs.length<=100
noncomputable abbrev alE:Expr:=argE (asV (jY 0 (fB 589))) 0
theorem all_comp{a:Int}{us:List T}{o0:jB}{fs:List jE}{r s:V}{fw:Bool}{id:Int}{rest:List jB}(hf:jc fs):∀(m i:Nat) (ex:List (Str×V)) (kc:List T->List jB->Prop),i+m=fs.length->cEx yZ [(qd,.p (.int a)),(n4,.m 1)] ex->
  kc ((fs.drop i).map λ f=>T.bool (w9 a f.addr f.many)) (o0::yM fs r s fw id::rest)->
  zK (ev spA 14) (lcT alE) (lcE alE) (lcI alE) .fix us ((List.range' i m).map λ(i:Nat)=>T.int i) ⟨ex,o0::yM fs r s fw id::rest,lcS alE⟩ kc:=by
 intro m;induction m with
 | zero=>
   intro i ex kc hi hex hk;rw[List.drop_eq_nil_of_le (by lia)] at hk;exact hk
 | succ m ih=>
   intro i ex kc hi hex hk;have hlt:i<fs.length:=by lia
   refine rwl List.range'_succ (rwl BZ (rwl jy ?_))
   (replace hk:=(DH hlt)▸hk;replace hk:=BZ▸hk)
   rcases hex with rfl | ⟨x,rfl⟩
   all_goals
    refine⟨o0,fs,r,s,fw,id,rest,a,i,fs[i],rfl,rfl,⟨hf.len,BS hlt,hf.ok _ (Cy hlt)⟩,?_⟩;exact ih (i+1) _ _ (by lia) (.inr ⟨_,rfl⟩) hk
theorem any_bools(l:List Bool):(l.map T.bool).any Zo=l.any λ b=>b:=by
 induction l with
 | nil=>rfl
 | cons b l ih=>refine rwl BZ (rwl Cz (rwl Cz (rwl ih ?_)));rfl
def gAllb(args:List V)(mem:List jB)(k:KM)(kx:KXM)(o0:jB)(fs:List jE)(r s:V)(fw:Bool)(id:Int)(rest:List jB)(a:Int):Prop:=jj (args=[.m 1,.p (.int a)]) (mem=o0::yM fs r s fw id::rest) (jc fs) (k (.p (.bool (jf a fs))) mem)
def gAll:jJ:=λ args mem k kx=>Ex8 λ(o0:jB) (fs:List jE) (r s:V) (fw:Bool) (id:Int) (rest:List jB) (a:Int)=>gAllb args mem k kx o0 fs r s fw id rest a
theorem c_all:∀ args mem k kx,gAll args mem k kx->ev spA 20 (.call 589 args mem k kx):=by
 rintro args mem k kx ⟨o0,fs,r,s,fw,id,rest,a,rfl,rfl,hf,hk⟩;have hl:=hf.len;conv=>whnf
 rw[BB];refine⟨by lia,by unfold sm2;lia,?_⟩;conv=>whnf
 erw[yV];refine⟨by rw[BB,DE];lia,?_⟩;refine all_comp hf _ 0 _ _ (by lia) (.inl rfl) ?_;conv=>whnf
 have e:((fs.drop 0).map λ f=>T.bool (w9 a f.addr f.many))=(fs.map λ f=>w9 a f.addr f.many).map T.bool:=by
  refine rwl List.drop_zero (rwl CR ?_);rfl
 refine rwl e ?_;refine⟨λ t ht=>?_,?_⟩
 ·obtain⟨b,_,rfl⟩:=DO.mp ht;rfl
 ·rw[any_bools];refine jw (b:=false) (BN _) rfl ?_;have e2:(fs.map λ f=>w9 a f.addr f.many).any (λ b=>b)=jf a fs:=by unfold jf;refine rwl List.any_map ?_;rfl
  refine rwl e2 ?_;exact hk
theorem zJ(l:List Int):T.ints (l.map T.int)=some l:=by
 induction l with
 | nil=>rfl
 | cons i l ih=>
   show xi i (T.ints (l.map T.int))=_;refine rwl ih ?_;rfl
set_option tactic.hygienic true in
theorem wU(l r:List Int):T.same 8 (.lst (l.map T.int)) (.lst (r.map T.int))=true:=by
 have h:∀(l r:List Int),yq (l.map T.int) (r.map T.int)=true->T.same.sameL (T.same 7) (l.map T.int) (r.map T.int)=true:=by
  intro l;induction l with
  | nil=>intro r e;induction r using BA with
    | nil=>rfl
    | cons x r=>exact ff e
  | cons i l ih=>intro r e;induction r using BA with
    | nil=>exact ff e
    | cons x r=>
      show(T.same 7 (.int i) (.int x)&&_)=true;refine rwl (ih r e) ?_;rfl
 show(match yq (l.map T.int) (r.map T.int) with
   | true=>T.same.sameL (T.same 7) (l.map T.int) (r.map T.int)
   | false=>true)=true
 split
 ·rename_i e;exact h l r e
 ·rfl
theorem wM:∀ l r:List Int,T.eqB (.lst (l.map T.int)) (.lst (r.map T.int))=(l == r)
 | [],[]=>rfl
 | [],_::_=>rfl
 | _::_,[]=>rfl
 | i::l,x::r=>by
   have ih:T.eqL (l.map T.int) (r.map T.int)=(l == r):=by
    have:=wM l r
    simpa [zu,uU,ye,uV,uT] using this
   show T.eqB (.lst (.int i::l.map T.int)) (.lst (.int x::r.map T.int))=_;simp only[zu,wg,uU,ye,uV,XC,uT,YY,YZ,XB];rw[ih];rfl
theorem same_nil(l:List T):T.same 8 (.lst l) (.lst [])=true:=by cases l <;> rfl
theorem eqB_nil(l:List T):T.eqB (.lst l) (.lst [])=l.isEmpty:=by
 induction l using BA with
 | nil=>rfl
 | cons t l=>simp[zu,wg,uU,ye,uV,XC,uT,YY,YZ,XB]
theorem zQ{α β:Type}(f:α->β)(l:List α)(lo hi:Option Int):jG (l.map f) lo hi=(jG l lo hi).map f:=by
 unfold jG;rw[BB,List.map_take,List.map_drop]
theorem yT{α:Type}(l:List α){m:Int}(h:0<=m):jG l none (some m)=l.take m.toNat:=by
 unfold jG lim;simp only;rw[BE (by lia),List.drop_zero,Nat.sub_zero,List.take_eq_take_iff];lia
theorem WA{α:Type}(l:List α){m:Int}(h:0<=m):jG l (some m) none=l.drop m.toNat:=by
 unfold jG lim;simp only;refine rwl (BE (by lia)) ?_;rcases Nat.lt_or_ge l.length m.toNat with q | q
 ·exact rwl (Nat.min_eq_right (by lia)) (rwl (List.drop_eq_nil_of_le (show l.length<=m.toNat by lia)) (rwl List.drop_length (rwl List.take_nil rfl)))
 ·rw[DJ q,List.take_of_length_le (by rw[Ca];exact BN _)]
noncomputable def lrT (f:jE):T:=.tup [xV (key f.addr 32),.int f.many]
noncomputable abbrev laE:Expr:=asV (jY 2 (fB 905))
theorem la_comp{us:List T}:∀(fs:List jE) (ex:List (Str×V)) (kc:List T->List jB->Prop),(ex=[]\/Ex3 λ x y z=>ex=[(n263,x),(wk,y),(zG,z)])->
  kc ((fs.filter λ f=>decide (f.many<31)).map lrT) []->
  zK (ev spA 25) (lcT laE) (lcE laE) (lcI laE) .fix us (fs.map jM) ⟨ex,[],lcS laE⟩ kc:=by
 intro fs;induction fs with
 | nil=>
   intro ex kc hex hk;exact hk
 | cons f fs ih=>
   intro ex kc hex hk;refine rwl BZ (rwl jy ?_);replace hk:=List.filter_cons▸hk;rcases hex with rfl | ⟨x,y,z,rfl⟩
   all_goals
    conv=>whnf
    refine brD (λ q=>?_) (λ q=>?_)
    ·replace hk:=(BJ (Bf q))▸hk;refine⟨rfl,λ bl hK=>?_⟩;subst hK;exact ih _ _ (.inr ⟨_,_,_,rfl⟩) hk
    ·rw[BE (by simpa using q)] at hk;exact ih _ _ (.inr ⟨_,_,_,rfl⟩) hk
noncomputable abbrev lbE:Expr:=cmL (asV (jY 3 (fB 905)))
noncomputable def YI (a:Int) (f:jE):Bool:=key a f.many.toNat == key f.addr f.many.toNat&&!((key a 32).drop f.many.toNat).any λ x=>x == 0
theorem lb_comp{a:Int}{us:List T}:∀(fs:List jE) (ex:List (Str×V)) (kc:List T->List jB->Prop),(∀ f∈fs,f.Ok)->(ex=[(n59,.p (xV (key a 32)))]\/Ex2 λ x y=>ex=[(n59,.p (xV (key a 32))),(n263,x),(wk,y)])->
  kc ((fs.filter (YI a)).map λ _=>T.int 1) []->
  zK (ev spA 22) (lcT lbE) (lcE lbE) (lcI lbE) .fix us (fs.map lrT) ⟨ex,[],lcS lbE⟩ kc:=by
 intro fs;induction fs with
 | nil=>
   intro ex kc hok hex hk;exact hk
 | cons f fs ih=>
   intro ex kc hok hex hk;have ok:=hok f (.head _);have o1:=ok.many;have hl:∀ b,((key b 32).map T.int).length<=100000:=λ b=>by rw[BB,qB];decide
   have e1:∀ b,jG ((key b 32).map T.int) none (some f.many)=(key b f.many.toNat).map T.int:=λ b=>by
    rw[zQ,yT _ o1.1,z9 b (by lia)]
   have e2:jG ((key a 32).map T.int) (some f.many) none=((key a 32).drop f.many.toNat).map T.int:=by
    rw[zQ,WA _ o1.1]
   refine rwl BZ (rwl jy ?_);replace hk:=List.filter_cons▸hk;rcases hex with rfl | ⟨x,y,rfl⟩
   all_goals
    refine⟨hl _,hl _,?_⟩;conv=>whnf
    erw[e1,e1];refine⟨wU _ _,?_⟩;rw[wM];refine br (λ q=>?_) (λ q=>?_)
    ·refine⟨hl _,?_⟩;conv=>whnf
     erw[e2,zJ];conv=>whnf
     refine br (λ q2=>?_) (λ q2=>?_)
     ·rw[BJ (by unfold YI;rw[q];simpa using q2)] at hk;exact ih _ _ (λ g hg=>hok g (.tail _ hg)) (.inr ⟨_,_,rfl⟩) hk
     ·rw[BE (by unfold YI;rw[q];simpa using q2)] at hk;exact ih _ _ (λ g hg=>hok g (.tail _ hg)) (.inr ⟨_,_,rfl⟩) hk
    ·rw[BE (by unfold YI;rw[q];simp)] at hk;exact ih _ _ (λ g hg=>hok g (.tail _ hg)) (.inr ⟨_,_,rfl⟩) hk
theorem ZB(l:List Int):(!l.any λ x=>x == 0)=true↔(0:Int)∉l:=by
 rw[Bool.not_eq_true',List.any_eq_false];constructor
 ·intro h m;simpa using h 0 m
 ·intro h x hx;simpa using λ(e:x=0)=>h (e▸hx)
theorem isAll_eq{a:Int}{fs:List jE}(ha:0<=a)(ha2:a<4294967296)(hf:jc fs)(hn:(!(key a 32).any λ x=>x == 0)=false) :
  jf a fs=!((fs.filter λ f=>decide (f.many<31)).filter (YI a)).isEmpty:=by
 have h1:a≠4294967295:=λ e=>by
  have:=(ZB (key a 32)).mpr ((Z0 ha ha2).mpr e);rw[hn] at this;exact ff this
 rw[Bool.eq_iff_iff];unfold jf;rw[List.any_eq_true,Bool.not_eq_true',List.isEmpty_eq_false_iff_exists_mem];constructor
 ·rintro⟨f,hm,hb⟩;have o:=hf.ok f hm;have hlt:f.many<31:=by
   rcases Int.lt_or_le f.many 31 with q | q
   ·exact q
   ·unfold w9 at hb;rw[BX (by omega)] at hb;simp[h1] at hb
  obtain⟨b1,b2⟩:=(XL ha ha2 o.addr.1 o.addr.2 o.many.1 hlt h1).mp hb;refine⟨f,Ct.mpr ⟨Ct.mpr ⟨hm,Bf hlt⟩,?_⟩⟩;unfold YI;rw[Bn,beq_iff_eq];exact⟨b1,(ZB _).mpr b2⟩
 ·rintro⟨f,hm⟩;obtain⟨hm,hb⟩:=Ct.mp hm;obtain⟨hm,hlt⟩:=Ct.mp hm;have o:=hf.ok f hm;unfold YI at hb;rw[Bn,beq_iff_eq] at hb;exact⟨f,hm,(XL ha ha2 o.addr.1 o.addr.2 o.many.1 (of_decide_eq_true hlt) h1).mpr ⟨hb.1,(ZB _).mp hb.2⟩⟩
def gLAllb(args:List V)(K:T->Prop)(kx_:Addr->Prop)(a:Int)(fs:List jE):Prop:=jj (args=[.p (.int a),.p (.lst (fs.map jM))]) (0<=a/\a<4294967296) (jc fs) (K (.bool (jf a fs)))
def gLAll:List V->(T->Prop)->(Addr->Prop)->Prop:=λ args K kx_=>Ex2 λ(a:Int) (fs:List jE)=>gLAllb args K kx_ a fs
theorem c_lall:∀ args K KX,gLAll args K KX->ev spA 30 (.call 905 args [] (pK K) (pX KX)):=by
 rintro args K KX ⟨a,fs,rfl,⟨ha,ha2⟩,hf,hk⟩;have hl:=hf.len;refine⟨rfl,λ bl hK=>?_⟩;conv=>whnf
 erw[zJ];conv=>whnf
 refine br (λ q=>?_) (λ q=>?_)
 ·subst hK;have e:jf a fs=true:=by
   have ea:=(Z0 ha ha2).mp ((ZB _).mp q);induction fs using BA with
   | nil=>exact absurd rfl hf.ne
   | cons f r=>subst ea;rfl
  rw[e] at hk;exact jL hk
 ·have e:=isAll_eq ha ha2 hf (by rw[<- hK];exact q);refine⟨by rw[BB];lia,?_⟩;refine la_comp fs [] _ (.inl rfl) ?_;refine⟨by rw[BB];exact BF (List.length_filter_le _ _) (by lia),?_⟩;subst hK;refine lb_comp (a:=a) _ _ _ (λ f h=>hf.ok f (Ct.mp h).1) (.inl rfl) ?_;refine⟨same_nil _,?_⟩;refine jL (t:=.bool (!T.eqB (.lst (((fs.filter λ f=>decide (f.many<31)).filter (YI a)).map λ _=>T.int 1)) (.lst []))) ?_;rw[eqB_nil,List.isEmpty_map,<- e];exact hk
def gLMany:List V->(T->Prop)->(Addr->Prop)->Prop:=λ args K _=>∃ a:Int,jT (args=[.p (.int a)]) (0<=a/\a<4294967296) (K (.bool (ju a)))
theorem c_lmany:∀ args K KX,gLMany args K KX->ev spA 30 (.call 912 args [] (pK K) (pX KX)):=by
 rintro args K KX ⟨a,rfl,⟨ha,ha2⟩,hk⟩;have hl:((key a 32).map T.int).length<=100000:=by rw[BB,qB];decide
 have e1:jG ((key a 32).map T.int) none (some 3)=(key a 3).map T.int:=by
  rw[zQ,yT _ (by decide)];show((key a 32).take 3).map T.int=_;rw[z9 a (by decide)]
 refine⟨rfl,λ bl hK=>?_⟩;rw[<- hK] at hl e1;refine⟨hl,?_⟩;conv=>whnf
 erw[e1];refine⟨wU _ [1,1,1],?_⟩;refine jL (t:=.bool (T.eqB (.lst ((key a 3).map T.int)) (.lst (([1,1,1]:List Int).map T.int)))) ?_;rw[wM,<- W3 ha ha2];exact hk
def gLLoop:List V->(T->Prop)->(Addr->Prop)->Prop:=λ args K _=>∃ a:Int,jT (args=[.p (.int a)]) (0<=a/\a<4294967296) (K (.bool (ji a)))
theorem c_lloop:∀ args K KX,gLLoop args K KX->ev spA 30 (.call 919 args [] (pK K) (pX KX)):=by
 rintro args K KX ⟨a,rfl,⟨ha,ha2⟩,hk⟩;have hl:((key a 32).map T.int).length<=100000:=by rw[BB,qB];decide
 have e1:jG ((key a 32).map T.int) none (some 8)=(key a 8).map T.int:=by
  rw[zQ,yT _ (by decide)];show((key a 32).take 8).map T.int=_;rw[z9 a (by decide)]
 refine⟨rfl,λ bl hK=>?_⟩;rw[<- hK] at hl e1;refine⟨hl,?_⟩;conv=>whnf
 erw[e1];refine⟨wU _ [0,1,1,1,1,1,1,1],?_⟩;refine jL (t:=.bool (T.eqB (.lst ((key a 8).map T.int)) (.lst (([0,1,1,1,1,1,1,1]:List Int).map T.int)))) ?_;rw[wM,<- X7 ha ha2];exact hk
noncomputable def optTup:Option Row->T
 | none=>.none
 | some r=>qD r
noncomputable abbrev rdSt (rs:List Row) (a:Int) (f:Option Row) (bl:List Int) (ex:List (Str×V)):St:=⟨(Xy,.p (.lst (rs.map qD)))::(qd,.p (.int a))::(n71,.p (optTup f))::(n59,.p (xV bl))::ex,[],fSc 952⟩
theorem Xh{K:Fl->St->Prop}{kx:KX}{rs0:List Row}{a:Int}{us:List T}{bl:List Int}(hb:bl=key a 32):∀(rs:List Row) (f:Option Row) (ex:List (Str×V)),(∀ r∈rs,0<=r.many/\r.many<=32)->(ex=[]\/∃ x,ex=[(n57,x)])->
  (∀ ex',(ex'=[]\/∃ x,ex'=[(n57,x)])->K .next (rdSt rs0 a (jb a rs f) bl ex'))->
  zm (ev spA 22) (wn (jY 1 (fB 952))) (wo (jY 1 (fB 952))) .fix us (rs.map qD) (rdSt rs0 a f bl ex) K kx:=by
 intro rs;induction rs with
 | nil=>
   intro f ex hr hex hK;exact hK ex hex
 | cons r rs ih=>
   intro f ex hr hex hK;have o:=hr r (.head _);have hl:∀ b,b=key a 32\/b=key r.net 32->(b.map T.int).length<=100000:=λ b h=>by rcases h with rfl | rfl <;> (rw[BB,qB];decide)
   have e1:jG (bl.map T.int) none (some r.many)=(key a r.many.toNat).map T.int:=by
    rw[hb,zQ,yT _ o.1,z9 a (by lia)]
   have e2:∀ b,b=key r.net 32->jG (b.map T.int) none (some r.many)=(key r.net r.many.toNat).map T.int:=λ b h=>by
    rw[h,zQ,yT _ o.1,z9 _ (by lia)]
   rw[BZ,qE];rcases hex with rfl | ⟨x,rfl⟩
   all_goals
    refine⟨hl _ (.inl hb),?_⟩;refine⟨rfl,λ b2 h2=>?_⟩;refine⟨hl _ (.inr h2),?_⟩;conv=>whnf
    erw[e1,e2 _ h2];refine⟨wU _ _,?_⟩;rw[wM];refine br (λ q=>?_) (λ q=>?_)
    ·have q:Mt a r:=by simpa using q
     induction f using BU with
     | none=>
       have e3:jb a (r::rs) none=jb a rs (some r):=by
        show jb a rs (if Mt a r/\(∀ b:Row,none=some b->b.many<r.many) then some r else none)=_;rw[BJ ⟨q,λ _=>nsm⟩]
       rw[e3] at hK;conv=>whnf
       exact ih (some r) _ (λ r' h=>hr r' (.tail _ h)) (.inr ⟨_,rfl⟩) hK
     | some r0=>
       conv=>whnf
       refine brD (λ q2=>?_) (λ q2=>?_)
       ·have e3:jb a (r::rs) (some r0)=jb a rs (some r):=by
         show jb a rs (if Mt a r/\(∀ b,some r0=some b->b.many<r.many) then some r else some r0)=_;rw[BJ ⟨q,λ b e=>by obtain rfl:=B9 e;exact q2⟩]
        rw[e3] at hK;exact ih (some r) _ (λ r' h=>hr r' (.tail _ h)) (.inr ⟨_,rfl⟩) hK
       ·have e3:jb a (r::rs) (some r0)=jb a rs (some r0):=by
         show jb a rs (if Mt a r/\(∀ b,some r0=some b->b.many<r.many) then some r else some r0)=_;rw[BE λ h=>q2 (h.2 _ rfl)]
        rw[e3] at hK;exact ih (some r0) _ (λ r' h=>hr r' (.tail _ h)) (.inr ⟨_,rfl⟩) hK
    ·have q:¬ Mt a r:=by simpa using q
     have e3:jb a (r::rs) f=jb a rs f:=by
      show jb a rs (if Mt a r/\(∀ b,f=some b->b.many<r.many) then some r else f)=_;rw[BE λ h=>q h.1]
     rw[e3] at hK;exact ih f _ (λ r' h=>hr r' (.tail _ h)) (.inr ⟨_,rfl⟩) hK
def gRoadb(args:List V)(K:T->Prop)(kx_:Addr->Prop)(a:Int)(rs:List Row):Prop:=jj (args=[.p (.lst (rs.map qD)),.p (.int a)]) (∀ r∈rs,0<=r.many/\r.many<=32) (rs.length<=100) (K (optTup (jb a rs none)))
def gRoad:List V->(T->Prop)->(Addr->Prop)->Prop:=λ args K kx_=>Ex2 λ(a:Int) (rs:List Row)=>gRoadb args K kx_ a rs
theorem c_road:∀ args K KX,gRoad args K KX->ev spA 26 (.call 952 args [] (pK K) (pX KX)):=by
 rintro args K KX ⟨a,rs,rfl,hr,hl,hk⟩;refine⟨rfl,λ bl hb=>?_⟩;refine⟨by rw[BB];lia,?_⟩;refine Xh hb rs none [] hr (.inl rfl) λ ex' hex=>?_;rcases hex with rfl | ⟨x,rfl⟩
 all_goals exact jL hk
noncomputable def ua (h:Hd):T:=.tup [.int h.src,.int h.tgt,.int h.proto,.int h.ident,.int h.ttl,.int h.tos,.bool h.dont,.bool h.more,.int h.off,.bytes []]
noncomputable def Uf (p:List UInt8) (mtu:Int) (c:Int×Bool):T:=.tup [.int c.1,.bool (!c.2),.bytes (xC p mtu c)]
noncomputable abbrev ptSt (h:Hd) (p:List UInt8) (mtu at_:Int) (f:List T):St:=⟨[(Xx,.p (ua h)),(n67,.p (.bytes p)),(zG,.p (.int mtu)),(Jq,.p (.int (ja mtu))),(n71,.m 0),(n18,.p (.int at_))],[.plst f],fSc 964⟩
noncomputable abbrev ptC:Expr:=whC (jY 3 (fB 964))
noncomputable abbrev ptB:List Stmt:=whB (jY 3 (fB 964))
theorem Xm(h:Hd)(p:List UInt8)(mtu:Int)(hp:p.length<=60000)(hm0:0<=mtu)(hm1:mtu<100000)(hr:8<=ja mtu)(K:Fl->St->Prop)(kx:KX)(m:Nat):∀(a:Int) (f:List T),
  0<=a->a<=p.length->(p.length:Int)+20-a<=8*m->f.length+m<=90000->(∀(a':Int) f',f'.length<=90000->f++(jx p.length mtu m a).map (Uf p mtu)=f'++[.tup [.int a',.bool false,.bytes (jG p (some a') none)]]->K .next (ptSt h p mtu a' f'))->
  qV (ev spA 20) ptC ptB m (ptSt h p mtu a f) K kx:=by
 induction m with
 | zero=>intro a f h0 h1 h2 h3 hk;rw[CS,DP] at h2;exact absurd (BM (Int.le_add_of_nonneg_right (CP h1)) h2) (by decide)
 | succ m ih=>
   intro a f h0 h1 h2 h3 hk;rw[zb] at hk;rw[qu];refine⟨CC hp (by decide),?_⟩;conv=>whnf
   refine brD (λ q=>?_) (λ q=>?_)
   ·have q':¬ 20+((p.length:Int)-a)<=mtu:=Int.not_le.mpr (rwl (DP 20 (p.length:Int) a).symm q);rw[BE q'] at hk;refine⟨BF hp (by decide),BF (Bi _ _) (BF h3 (by decide)),?_⟩;refine ih (a+ja mtu) (f++[Uf p mtu (a,false)]) (Bp h0 (BM (by decide) hr)) (cutA q') (cutB hr h2) (by rw[BV,Nat.add_assoc,Nat.add_comm _ m];exact h3) λ a' f' hl e=>hk a' f' hl ?_;rw[<- e,D2];rfl
   ·rw[BJ (rwl (DP 20 (p.length:Int) a).symm (Bg.mp q))] at hk;exact hk a f (BF (Bi _ _) h3) rfl
def gPartsb(args:List V)(K:T->Prop)(KX:Addr->Prop)(h:Hd)(p:List UInt8)(mtu:Int):Prop:=args=[.p (ua h),.p (.bytes p),.p (.int mtu)]/\(p.length<=60000/\0<=mtu/\mtu<100000)/\
 Br (decide (20+(p.length:Int)<=mtu)) (K (.lst [.tup [.int 0,.bool false,.bytes p]])) (Br (h.dont||decide (ja mtu<8)) (K .none) (K (.lst ((jx p.length mtu 70000 0).map (Uf p mtu)))))
def gParts:List V->(T->Prop)->(Addr->Prop)->Prop:=λ args K KX=>Ex3 λ(h:Hd) (p:List UInt8) (mtu:Int)=>gPartsb args K KX h p mtu
theorem c_parts:∀ args K KX,gParts args K KX->ev spA 26 (.call 964 args [] (pK K) (pX KX)):=by
 rintro args K KX ⟨h,p,mtu,rfl,⟨hp,hm0,hm1⟩,hk⟩;refine⟨CC hp (by decide),?_⟩;conv=>whnf
 refine brD (λ q=>?_) (λ q=>?_)
 ·rw[Bf q] at hk;exact jL hk
 ·rw[BX q] at hk;refine⟨by decide,?_⟩;have d8:Int.fdiv (mtu-20) (8:Int)=(mtu-20)/8:=zo (by decide);rw[d8];refine⟨⟨Zq hm0 hm1,by unfold sml;decide⟩,?_⟩;conv=>whnf
  have fin:ja mtu<8\/h.dont=true->K .none:=λ hd=>by
   have e:(h.dont||decide (ja mtu<8))=true:=by
    rcases hd with q | q
    ·rw[Bf q,Bool.or_true]
    ·rw[q];rfl
   rw[e] at hk;exact hk
  refine br (λ hd=>?_) (λ hd=>?_)
  ·exact jL (fin (.inr hd))
  ·conv=>whnf
   refine brD (λ q2=>?_) (λ q2=>?_)
   ·exact jL (fin (.inl q2))
   ·rw[hd,BX (show ¬ ja mtu<8 from q2)] at hk;show qV _ _ _ _ _ _ _;refine Xm h p mtu hp hm0 hm1 (Bg.mp q2) _ _ 70000 0 [] (by decide) (Bb _) (rwl (Int.sub_zero _) (BM (DQ (Bv.mpr hp) 20) (by decide))) (by decide) λ a' f' hl e=>?_;refine⟨BF hp (by decide),?_⟩;refine⟨?_,?_⟩
    ·exact BF (DB hl) (by decide)
    ·rw[DK] at e;refine jL (t:=.lst (f'++[.tup [.int a',.bool false,.bytes (jG p (some a') none)]])) ?_;rw[<- e];exact hk
def gPackedb(args:List V)(K:T->Prop)(kx_:Addr->Prop)(h:Hd)(p:List UInt8):Prop:=jj (args=[.p (ua h),.p (.bytes p)]) h.Ok (p.length<=60000) (K (.bytes (qS h p)))
def U0:List V->(T->Prop)->(Addr->Prop)->Prop:=λ args K kx_=>Ex2 λ(h:Hd) (p:List UInt8)=>gPackedb args K kx_ h p
theorem c_packed:∀ args K KX,U0 args K KX->ev spA 30 (.call 1000 args [] (pK K) (pX KX)):=by
 rintro args K KX ⟨h,p,rfl,ok,hl,hk⟩;refine⟨rfl,h,p,rfl,ok,hl,?_⟩;exact jL hk
structure Hd.New(h:Hd)(s t:Int):Prop where
 ok:h.Ok
 src:h.src=s
 tgt:h.tgt=t
 more:h.more=false
 off:h.off=0
def gWordsb(args:List V)(K:T->Prop)(s t:Int):Prop:=jj (args=[.m 0,.p (.int s),.p (.int t)]) (0<=s/\s<4294967296) (0<=t/\t<4294967296) (∀ h:Hd,h.New s t->K (ua h))
def gWords:List V->(T->Prop)->Prop:=λ args K=>Ex2 λ(s t:Int)=>gWordsb args K s t
theorem c_words:∀ args K,gWords args K->∀ a b:Int,0<=b->b<65287->ev spA 30 (.call 1007 args [.plst [.int a,.int b]] (sK K) sX):=by
 rintro args K ⟨s,t,rfl,hs,ht,hk⟩ a b hb0 hb1;refine⟨rfl,⟨hb0,hb1⟩,⟨nofun,by decide⟩,λ t1 h1 a1 b1 u1 v1=>?_⟩;obtain⟨x,rfl,hx⟩:∃ x:Int,t1=.int x/\0<=x/\x<256:=by
  simp only[BO,Ch,or_false] at h1;rcases h1 with rfl | rfl | rfl <;> exact⟨_,rfl,by decide,by decide⟩
 refine⟨rfl,⟨u1,v1⟩,by decide,λ y hy hy2 a2 b2 u2 v2=>?_⟩;refine⟨rfl,⟨u2,v2⟩,⟨nofun,by decide⟩,λ t3 h3 a3 b3 u3 v3=>?_⟩;obtain⟨z,rfl,hz⟩:∃ x:Int,t3=.int x/\0<=x/\x<256:=by
  simp only[BO,Ch,or_false] at h3;rcases h3 with rfl | rfl | rfl | rfl | rfl <;> exact⟨_,rfl,by decide,by decide⟩
 refine⟨rfl,⟨u3,v3⟩,by decide,λ w hw hw2 a4 b4 u4 v4=>?_⟩;refine⟨⟨nofun,nofun,by simp⟩,?_⟩;refine⟨rfl,⟨u4,v4⟩,by decide,λ d hd hd2 a5 b5 u5 v5=>?_⟩;refine⟨⟨nofun,nofun,by simp⟩,?_⟩;exact⟨a5,b5,_,rfl,⟨u5,v5⟩,rfl,hk ⟨s,t,x,y,z,w,d == 0,false,0⟩ ⟨⟨hs,ht,hx,⟨hy,by show y<65536;lia⟩,hz,⟨hw,hw2⟩,⟨by show(0:Int)<=0;decide,by show(0:Int)<65536;decide,rfl⟩⟩,rfl,rfl,rfl,rfl⟩⟩
noncomputable abbrev faSt (a b:Int) (f:List T) (ex:List (Str×V)):St:=⟨(ud,.m 0)::(n71,.m 1)::ex,[.plst [.int a,.int b],.plst f],fSc 931⟩
def faEx(ex:List (Str×V)):Prop:=ex=[]\/Ex3 λ x y z=>ex=[(WK,x),(Xz,y),(qd,z)]
theorem UA{W:St->Prop}{K:Fl->St->Prop}{kx:KX}{us:List T}{a b:Int}{fs:List jE}{ex:List (Str×V)}{i:Int}(hex:faEx ex)(hb:0<=b/\b<65287)(hl:fs.length<=50)
  (hW:∀(f:jE) (a' b':Int) ex',f.Ok->0<=b'/\b' < 65287->faEx ex'->W (faSt a' b' ((fs++[f]).map jM) ex')) :
  Qd (ev spA 22) (wn (jY 1 (fB 931))) (wo (jY 1 (fB 931))) .fix us (.int i) W (faSt a b (fs.map jM) ex) K kx:=by
 have key:∀(ad:Int) (a2 b2:Int) (x y z:V),0<=ad->ad<4294967296->0<=b2->b2<65287->∀ t1∈[T.int 0,.int 8,.int 24,.int 24,.int 25,.int 30,.int 31,.int 32],∀ t2∈[T.int 1500,.int 1500,.int 44,.int 28,.int 27],W (faSt a2 b2 (fs.map jM++[.tup [.int ad,t1,t2]]) [(WK,x),(Xz,y),(qd,z)]):=by
  intro ad a2 b2 x y z h1 h2 h3 h4 t1 ht1 t2 ht2;obtain⟨m,rfl,hm⟩:∃ m:Int,t1=.int m/\0<=m/\m<=32:=by
   simp only[BO,Ch,or_false] at ht1;rcases ht1 with rfl | rfl | rfl | rfl | rfl | rfl | rfl | rfl <;> exact⟨_,rfl,by decide,by decide⟩
  obtain⟨u,rfl,hu⟩:∃ m:Int,t2=.int m/\20<=m/\m<100000:=by
   simp only[BO,Ch,or_false] at ht2;rcases ht2 with rfl | rfl | rfl | rfl | rfl <;> exact⟨_,rfl,by decide,by decide⟩
  have:=hW ⟨ad,m,u⟩ a2 b2 [(WK,x),(Xz,y),(qd,z)] ⟨⟨h1,h2⟩,hm,hu⟩ ⟨h3,h4⟩ (.inr ⟨_,_,_,rfl⟩);replace this:=D4▸this;exact this
 have hll:(fs.map jM).length<=100000:=by rw[BB];lia
 rcases hex with rfl | ⟨x,y,z,rfl⟩
 all_goals
  refine⟨rfl,hb,by decide,λ g h1 h2 a1 b1 u1 v1=>?_⟩;conv=>whnf
  refine brD (λ q=>?_) (λ q=>?_)
  ·refine⟨⟨by decide,h1,by show g<4;exact q⟩,?_⟩;refine⟨rfl,⟨u1,v1⟩,⟨nofun,by decide⟩,λ t1 ht1 a2 b2 u2 v2=>?_⟩;refine⟨rfl,⟨u2,v2⟩,⟨nofun,by decide⟩,λ t2 ht2 a3 b3 u3 v3=>?_⟩;refine⟨hll,?_⟩;have hg:g=0\/g=1\/g=2\/g=3:=by lia
   rcases hg with rfl | rfl | rfl | rfl
   ·exact key 167772161 a3 b3 _ _ _ (by decide) (by decide) u3 v3 t1 ht1 t2 ht2
   ·exact key 3232235905 a3 b3 _ _ _ (by decide) (by decide) u3 v3 t1 ht1 t2 ht2
   ·exact key 2886732295 a3 b3 _ _ _ (by decide) (by decide) u3 v3 t1 ht1 t2 ht2
   ·exact key 167772414 a3 b3 _ _ _ (by decide) (by decide) u3 v3 t1 ht1 t2 ht2
  ·refine⟨rfl,⟨u1,v1⟩,λ ad hd1 hd2 a4 b4 u4 v4=>?_⟩;refine⟨rfl,⟨u4,v4⟩,⟨nofun,by decide⟩,λ t1 ht1 a2 b2 u2 v2=>?_⟩;refine⟨rfl,⟨u2,v2⟩,⟨nofun,by decide⟩,λ t2 ht2 a3 b3 u3 v3=>?_⟩;refine⟨hll,?_⟩;exact key ad a3 b3 _ _ _ hd1 hd2 u3 v3 t1 ht1 t2 ht2
theorem UB{K:Fl->St->Prop}{kx:KX}{us:List T}:∀(l:List Nat) (a b:Int) (fs:List jE) (ex:List (Str×V)),faEx ex->0<=b/\b<65287->fs.length+l.length<=50->(∀ f∈fs,f.Ok)->
  (∀(fs':List jE) (a' b':Int) ex',(∀ f∈fs',f.Ok)->fs'.length=fs.length+l.length->0<=b'/\b' < 65287->faEx ex'->K .next (faSt a' b' (fs'.map jM) ex'))->
  zm (ev spA 22) (wn (jY 1 (fB 931))) (wo (jY 1 (fB 931))) .fix us (l.map λ(i:Nat)=>T.int i) (faSt a b (fs.map jM) ex) K kx:=by
 intro l;induction l with
 | nil=>
   intro a b fs ex hex hb hl hok hk;exact hk fs a b ex hok rfl hb hex
 | cons i l ih=>
   intro a b fs ex hex hb hl hok hk;refine rwl BZ (rwl qE ?_);refine UA hex hb (by simp at hl;lia) λ f a' b' ex' ok hb' hex'=>?_;refine ih a' b' (fs++[f]) ex' hex' hb' (by simp at hl ⊢;lia) (λ g hg=>?_) λ fs' a2 b2 ex2 h1 h2 h3 h4=>hk fs' a2 b2 ex2 h1 (by simp at h2 ⊢;lia) h3 h4;rcases CJ.mp hg with hg | hg
   ·exact hok g hg
   ·refine rwl (BG.mp hg) ?_;exact ok
def gFaces:List V->(T->Prop)->Prop:=λ args K=>args=[.m 0]/\∀ fs:List jE,jc fs->fs.length<=3->K (.lst (fs.map jM))
theorem c_faces:∀ args K,gFaces args K->∀ a b:Int,0<=b->b<65287->ev spA 26 (.call 931 args [.plst [.int a,.int b]] (sK K) sX):=by
 rintro args K ⟨rfl,hk⟩ a b hb0 hb1;refine⟨rfl,⟨hb0,hb1⟩,by decide,λ g h1 h2 a1 b1 u1 v1=>?_⟩;refine⟨by unfold sm2;lia,?_⟩;conv=>whnf
 erw[yV];refine⟨by rw[BB,DE];lia,?_⟩;refine UB _ a1 b1 [] [] (.inl rfl) ⟨u1,v1⟩ (by refine rwl DE ?_;simp;lia) (C0 _) λ fs' a' b' ex' h3 h4 h5 h6=>?_;replace h4:=DE▸h4;have hf:jc fs':=⟨h3,λ e=>by replace h4:=e▸h4;simp at h4;lia,by simp at h4;lia⟩;have hr:=hk fs' hf (by simp at h4;lia);rcases h6 with rfl | ⟨x,y,z,rfl⟩
 all_goals exact⟨a',b',_,rfl,h5,rfl,hr⟩
inductive Vd where
 | loc (h:Hd) (p:List UInt8) (b:Bool)
 | tell (a b c:Int) (h:Hd) (p:List UInt8) (x:Bool)
 | out (f a:Int) (h:Hd) (p:List UInt8)
noncomputable def vdT:Vd->T
 | .loc h p b=>.tup [.str We,hdT h,.bytes p,.bool b]
 | .tell a b c h p x=>.tup [.str n195,.int a,.int b,.int c,hdT h,.bytes p,.bool x]
 | .out f a h p=>.tup [.str Wc,.int f,.int a,.bytes (qS h p)]
noncomputable def vdL:Vd->T
 | .loc h p b=>.tup [.str We,ua h,.bytes p,.bool b]
 | .tell a b c h p x=>.tup [.str n195,.int a,.int b,.int c,ua h,.bytes p,.bool x]
 | .out f a h p=>.tup [.str Wc,.int f,.int a,ua h,.bytes p]
def Vd.Ok:Vd->Prop
 | .out _ _ h p=>h.Ok/\p.length<=60000
 | _=>True
noncomputable abbrev seSt (vs:List Vd) (f:List T) (ex:List (Str×V)):St:=⟨(n283,.p (.lst (vs.map vdT)))::(n71,.m 0)::ex,[.plst f],fSc 986⟩
def seEx(ex:List (Str×V)):Prop:=ex=[]\/(∃ x,ex=[(yv,x)])\/Ex3 λ x y z=>ex=[(yv,x),(n61,y),(n67,z)]
theorem s_eq{x y:Str}(h:x=y):T.same 8 (.str x) (.str y)=true/\T.eqB (.str x) (.str y)=true:=⟨rfl,by subst h;simp[zu,uU,ye,uV,uT]⟩
theorem s_ne{x y:Str}(h:seq x y=false):T.same 8 (.str x) (.str y)=true/\T.eqB (.str x) (.str y)=false:=⟨rfl,by
 simp only[zu,uU,ye,uV,uT];have:x≠y:=λ e=>by
  subst e;unfold seq at h;have:=(Fast.sEq_iff (a:=x) (b:=x)).mpr rfl;rw[h] at this;exact ff this
 simpa using this⟩
theorem Xe{K:Fl->St->Prop}{kx:KX}{vs0:List Vd}{us:List T}:∀(vs:List Vd) (f:List T) (ex:List (Str×V)),seEx ex->f.length+vs.length<=90000->(∀ v∈vs,v.Ok)->
  (∀ ex',seEx ex'->K .next (seSt vs0 (f++vs.map vdL) ex'))->zm (ev spA 32) (wn (jY 1 (fB 986))) (wo (jY 1 (fB 986))) .fix us (vs.map vdT) (seSt vs0 f ex) K kx:=by
 intro vs;induction vs with
 | nil=>
   intro f ex hex hl hok hk;have:=hk ex hex;rw[List.map_nil,Cu] at this;exact this
 | cons v vs iH=>
   intro f ex hex hl hok hk;have ih:∀ ex',seEx ex'->zm (ev spA 32) (wn (jY 1 (fB 986))) (wo (jY 1 (fB 986))) .fix us (vs.map vdT) (seSt vs0 (f++[vdL v]) ex') K kx:=λ ex' hex'=>
    iH _ ex' hex' (rwl BV (rwl (Nat.add_assoc f.length 1 vs.length) (rwl (Nat.add_comm 1 vs.length) hl))) (λ v hv=>hok v (.tail _ hv)) λ ex2 h2=>by
     have:=hk ex2 h2;replace this:=BZ▸this;rw[D2];exact this
   have o:=hok v (.head _);have hf:f.length<=100000:=BF (Bi _ _) (BF hl (by decide));refine rwl BZ (rwl qE ?_);clear hl hk iH hok;induction v using Vd.casesOn with
   | loc h p b=>
     rcases hex with rfl | ⟨x,rfl⟩ | ⟨x,y,z,rfl⟩
     all_goals
      refine⟨rfl,?_⟩;refine rwl ((s_ne (x:=We) (y:=Wc) (by kernel_rfl)).2) ?_;refine⟨rfl,?_⟩;refine rwl ((s_eq (x:=We) (y:=We) rfl).2) ?_;refine⟨hf,?_⟩
     ·exact ih [(yv,_)] (.inr (.inl ⟨_,rfl⟩))
     ·exact ih [(yv,_)] (.inr (.inl ⟨_,rfl⟩))
     ·exact ih [(yv,_),(n61,y),(n67,z)] (.inr (.inr ⟨_,_,_,rfl⟩))
   | tell a b c h p w=>
     rcases hex with rfl | ⟨x,rfl⟩ | ⟨x,y,z,rfl⟩
     all_goals
      refine⟨rfl,?_⟩;refine rwl ((s_ne (x:=n195) (y:=Wc) (by kernel_rfl)).2) ?_;refine⟨rfl,?_⟩;refine rwl ((s_ne (x:=n195) (y:=We) (by kernel_rfl)).2) ?_;refine⟨by simp,⟨nofun,nofun,by simp⟩,by simp,⟨nofun,nofun,by simp⟩,hf,?_⟩
     ·exact ih [(yv,_)] (.inr (.inl ⟨_,rfl⟩))
     ·exact ih [(yv,_)] (.inr (.inl ⟨_,rfl⟩))
     ·exact ih [(yv,_),(n61,y),(n67,z)] (.inr (.inr ⟨_,_,_,rfl⟩))
   | out g a h p=>
     obtain⟨o1,o2⟩:h.Ok/\p.length<=60000:=o;rcases hex with rfl | ⟨x,rfl⟩ | ⟨x,y,z,rfl⟩
     all_goals
      refine⟨rfl,?_⟩;refine rwl ((s_eq (x:=Wc) (y:=Wc) rfl).2) ?_;refine⟨rfl,h,p,rfl,o1,o2,by simp,⟨nofun,nofun,by simp⟩,hf,?_⟩;exact ih [(yv,_),(n61,_),(n67,_)] (.inr (.inr ⟨_,_,_,rfl⟩))
def gSeen:List V->(T->Prop)->(Addr->Prop)->Prop:=λ args K _=>∃ vs:List Vd,jj (args=[.p (.lst (vs.map vdT))]) (∀ v∈vs,v.Ok) (vs.length<=80000) (K (.lst (vs.map vdL)))
theorem c_seen:∀ args K KX,gSeen args K KX->ev spA 36 (.call 986 args [] (pK K) (pX KX)):=by
 rintro args K KX ⟨vs,rfl,hok,hl,hk⟩;refine⟨by rw[BB];exact BF hl (by decide),?_⟩;refine Xe vs [] [] (.inl rfl) (BF (D7 (D6 _)) (BF hl (by decide))) hok λ ex' hex=>?_;rcases hex with rfl | ⟨x,rfl⟩ | ⟨x,y,z,rfl⟩
 all_goals exact jL hk
noncomputable abbrev p2:List (Nat×jJ):=[(506,jR gFind),(589,gAll),(905,jR gLAll),(912,jR gLMany),(919,jR gLLoop),(952,jR gRoad),(964,jR gParts),(1000,jR U0),(1007,yo gWords),(931,yo gFaces),(986,jR gSeen)]++p1
noncomputable abbrev spB:Addr->Option jJ:=lkS p2
theorem y0{X:Run}(ok:jv X):jN X spB 180:=by
 exact jN.lay (zh ok) (jD rfl) ⟨jO (n:=26) ok (zh ok) c_find (jD rfl),jQ (n:=20) ok (zh ok) c_all (jD rfl),jO (n:=30) ok (zh ok) c_lall (jD rfl),jO (n:=30) ok (zh ok) c_lmany (jD rfl),jO (n:=30) ok (zh ok) c_lloop (jD rfl),jO (n:=26) ok (zh ok) c_road (jD rfl),jO (n:=26) ok (zh ok) c_parts (jD rfl),jO (n:=30) ok (zh ok) c_packed (jD rfl),zX (n:=30) ok (zh ok) c_words (jD rfl),zX (n:=26) ok (zh ok) c_faces (jD rfl),jO (n:=36) ok (zh ok) c_seen (jD rfl),trivial⟩
noncomputable def jd (a:Int) (fs:List jE):Bool:=jX a fs||(jf a fs||(ju a||ji a))
def gMayb(args:List V)(mem:List jB)(k:KM)(kx:KXM)(o0:jB)(fs:List jE)(r s:V)(fw:Bool)(id:Int)(rest:List jB)(a:Int):Prop:=jj (args=[.m 1,.p (.int a)]) (mem=o0::yM fs r s fw id::rest) (jc fs) (k (.p (.bool (!jd a fs))) mem)
def gMay:jJ:=λ args mem k kx=>Ex8 λ(o0:jB) (fs:List jE) (r s:V) (fw:Bool) (id:Int) (rest:List jB) (a:Int)=>gMayb args mem k kx o0 fs r s fw id rest a
theorem c_may:∀ args mem k kx,gMay args mem k kx->ev spB 25 (.call 596 args mem k kx):=by
 rintro args mem k kx ⟨o0,fs,r,s,fw,id,rest,a,rfl,rfl,hf,hk⟩;refine⟨o0,fs,r,s,fw,id,rest,a,rfl,rfl,hf.len,?_⟩;conv=>whnf
 refine br (λ q1=>?_) (λ q1=>?_)
 ·have e:jd a fs=true:=by unfold jd;refine rwl q1 ?_;rfl
  replace hk:=e▸hk;exact jw (b:=false) (BN _) rfl hk
 refine⟨o0,fs,r,s,fw,id,rest,a,rfl,rfl,hf,?_⟩;conv=>whnf
 refine br (λ q2=>?_) (λ q2=>?_)
 ·have e:jd a fs=true:=by unfold jd;refine rwl q1 (rwl q2 ?_);rfl
  replace hk:=e▸hk;exact jw (b:=false) (BN _) rfl hk
 refine⟨rfl,?_⟩;conv=>whnf
 refine br (λ q3=>?_) (λ q3=>?_)
 ·have e:jd a fs=true:=by unfold jd;refine rwl q1 (rwl q2 (rwl q3 ?_));rfl
  replace hk:=e▸hk;exact jw (b:=false) (BN _) rfl hk
 refine⟨rfl,?_⟩;have e:jd a fs=ji a:=by unfold jd;refine rwl q1 (rwl q2 (rwl q3 ?_));rfl
 replace hk:=e▸hk;exact jw (b:=false) (BN _) rfl hk
noncomputable abbrev Ug:Expr:=cmR (asV (jY 0 (fB 924)))
theorem own_comp{us:List T}:∀(fs:List jE) (ex:List (Str×V)) (kc:List T->List jB->Prop),(ex=[]\/∃ x,ex=[(yZ,x)])->kc ((fs.map (·.addr)).map T.int) []->
  zK (ev spB 22) (lcT Ug) (lcE Ug) (lcI Ug) .fix us (fs.map jM) ⟨ex,[],lcS Ug⟩ kc:=by
 intro fs;induction fs with
 | nil=>
   intro ex kc hex hk;exact hk
 | cons f fs ih=>
   intro ex kc hex hk;refine rwl BZ (rwl jy ?_);rcases hex with rfl | ⟨x,rfl⟩
   all_goals
    conv=>whnf
    exact ih _ _ (.inr ⟨_,rfl⟩) hk
theorem yh(a:Int)(fs:List jE):((fs.map (·.addr)).any λ i=>i == a)=jX a fs:=by unfold jX;refine rwl List.any_map ?_;rfl
def gWrongb(args:List V)(K:T->Prop)(kx_:Addr->Prop)(a:Int)(fs:List jE):Prop:=jj (args=[.p (.int a),.p (.lst (fs.map jM))]) (0<=a/\a<4294967296) (jc fs) (K (.bool (jd a fs)))
def gWrong:List V->(T->Prop)->(Addr->Prop)->Prop:=λ args K kx_=>Ex2 λ(a:Int) (fs:List jE)=>gWrongb args K kx_ a fs
theorem c_wrong:∀ args K KX,gWrong args K KX->ev spB 28 (.call 924 args [] (pK K) (pX KX)):=by
 rintro args K KX ⟨a,fs,rfl,ha,hf,hk⟩;have hl:=hf.len;refine⟨by rw[BB];lia,?_⟩;refine own_comp fs [] _ (.inl rfl) ?_;conv=>whnf
 erw[zJ];conv=>whnf
 erw[yh];refine br (λ q1=>?_) (λ q1=>?_)
 ·have e:jd a fs=true:=by unfold jd;refine rwl q1 ?_;rfl
  replace hk:=e▸hk;have hh:pK K (.p (.bool (jX a fs))) []:=by refine rwl q1 ?_;exact jL hk
  first | exact jL hk | exact hh
 refine⟨rfl,a,fs,rfl,ha,hf,?_⟩;conv=>whnf
 refine br (λ q2=>?_) (λ q2=>?_)
 ·have e:jd a fs=true:=by unfold jd;refine rwl q1 (rwl q2 ?_);rfl
  replace hk:=e▸hk;exact jL hk
 refine⟨rfl,a,rfl,ha,?_⟩;conv=>whnf
 refine br (λ q3=>?_) (λ q3=>?_)
 ·have e:jd a fs=true:=by unfold jd;refine rwl q1 (rwl q2 (rwl q3 ?_));rfl
  replace hk:=e▸hk;exact jL hk
 refine⟨rfl,a,rfl,ha,?_⟩;have e:jd a fs=ji a:=by unfold jd;refine rwl q1 (rwl q2 (rwl q3 ?_));rfl
 replace hk:=e▸hk;exact jL hk
noncomputable def qh (p:List UInt8) (mtu:Int) (c:Int×Bool):Int×Bool×List UInt8:=(c.1,!c.2,xC p mtu c)
noncomputable def Yo (h:Hd) (p:List UInt8) (mtu:Int):Option (List (Int×Bool×List UInt8)):=
 if 20+(p.length:Int)<=mtu then some [(0,false,p)]
 else if(h.dont||decide (ja mtu<8))=true then none
 else some ((jx p.length mtu 70000 0).map (qh p mtu))
noncomputable def Hd.cut (h:Hd) (c:Int×Bool×List UInt8):Hd:={ h with off:=c.1,more:=c.2.1 }
noncomputable def xt (r:Row) (t:Int):Int:=if r.gw=0\/t=4294967295 then t else r.gw
noncomputable def qv (h:Hd) (p:List UInt8) (r:Row) (mtu:Int):Option (List Vd):=(Yo h p mtu).map λ l=>l.map λ c=>Vd.out r.face (xt r h.tgt) (h.cut c) c.2.2
set_option tactic.hygienic true in
theorem UO(n mtu:Int)(hr:8<=ja mtu):∀(m:Nat) (a:Int),n-a<=8*m-20->((jx n mtu m a).length:Int)<=max 0 ((n-a)/8)+1:=by
 intro m;induction m with
 | zero=>intro a h;exact Bp (Int.le_max_left _ _) (by decide)
 | succ m ih=>
   intro a h;rw[zb];split
   ·exact Int.le_add_of_nonneg_left (Int.le_max_left 0 _)
   ·rename_i q
    have:=ih (a+ja mtu) (by
     rw[<- Int.sub_sub]
     exact BM (Int.sub_le_sub h hr) (D8 (((Int.sub_sub _ 20 8).trans (Int.sub_sub _ 8 20).symm).trans (Bo (· - 20) (rwl (Dc 8 (m:Int) 1) (Int.add_sub_cancel _ _))))))
    rw[Bw];have y1:1<=(n-a)/8:=(D9 (by decide)).mpr (BM hr (Int.le_sub_left_of_add_le (cutA q)));have y2:(n-(a+ja mtu))/8+1<=(n-a)/8:=by
     rw[<- Int.add_mul_ediv_left _ 1 (show(8:Int)≠0 by decide),<- Int.sub_sub];exact Int.ediv_le_ediv (by decide) (BM (Int.add_le_add_left hr _) (D8 (De _ _)))
    exact DQ (BM this (BM (Int.add_le_of_le_sub_right (Int.max_le.mpr ⟨CP y1,Int.le_sub_right_of_add_le y2⟩)) (Int.le_max_right 0 _))) 1
set_option tactic.hygienic true in
theorem xh{h:Hd}{p:List UInt8}{mtu:Int}{l:List (Int×Bool×List UInt8)}(hp:p.length<=1000)(e:Yo h p mtu=some l):l.length<=1000:=by
 unfold Yo at e;split at e
 ·obtain rfl:=B9 e;simp
 ·split at e
  ·exact nsm e
  ·rename_i q;cases e;rw[BB];have hr:8<=ja mtu:=by
    have:decide (ja mtu<8)=false:=by
     cases hd:h.dont with
     | false=>rw[hd] at q;simpa using q
     | true=>rw[hd] at q;simp at q
    exact Bg.mp (of_decide_eq_false this)
   have:=UO p.length mtu hr 70000 0 (rwl (Int.sub_zero _) (BM (Bv.mpr hp) (by decide)));have e:((p.length:Int)-0)/8<126:=Cc (by decide) (rwl (Int.sub_zero _) (Bm (Bv.mpr hp) (by decide)));exact Bv.mp (BM this (DQ (Int.max_le.mpr ⟨show(0:Int)<=999 by decide,BM (Bk e) (by decide)⟩) 1))
noncomputable def pcT (c:Int×Bool×List UInt8):T:=.tup [.int c.1,.bool c.2.1,.bytes c.2.2]
noncomputable abbrev snE:Expr:=asV (jY 3 (fB 969))
def snEx(e0 ex:List (Str×V)):Prop:=ex=e0\/Ex3 λ x y z=>ex=e0++[(n51,x),(n50,y),(n17,z)]
theorem zx{us:List T}{A ttl:Int}{r:Row}{h:Hd}:∀(cs:List (Int×Bool×List UInt8)) (ex:List (Str×V)) (kc:List T->List jB->Prop),snEx [(qd,.p (.int A)),(n278,.p (qD r)),(n47,.p (.int ttl)),(Xx,.p (ua h))] ex->
  kc (cs.map λ c=>vdL (.out r.face A (({ h with ttl:=ttl }:Hd).cut c) c.2.2)) []->
  zK (ev spB 33) (lcT snE) (lcE snE) (lcI snE) .fix us (cs.map pcT) ⟨ex,[],lcS snE⟩ kc:=by
 intro cs;induction cs with
 | nil=>
   intro ex kc hex hk;exact hk
 | cons c cs ih=>
   intro ex kc hex hk;rw[BZ,jy];rcases hex with rfl | ⟨x,y,z,rfl⟩
   all_goals
    refine⟨by simp,⟨nofun,nofun,by simp⟩,by simp,⟨nofun,nofun,by simp⟩,⟨nofun,nofun,by simp⟩,?_⟩;exact ih _ _ (.inr ⟨_,_,_,rfl⟩) hk
theorem v9{fs:List jE}(h:fs≠[]):T.ints (fs.map jM)=none:=by
 induction fs using BA with
 | nil=>exact absurd rfl h
 | cons f r=>rfl
noncomputable def optL:Option (List Vd)->T
 | none=>.none
 | some l=>.lst (l.map vdL)
def gSentb(args:List V)(K:T->Prop)(kx_:Addr->Prop)(fs:List jE)(r:Row)(h:Hd)(p:List UInt8)(ttl:Int)(f:jE)(i:Nat):Prop:=And6 (args=[.p (.lst (fs.map jM)),.p (qD r),.p (ua h),.p (.bytes p),.p (.int ttl)]) (jc fs) (fs[i]?=some f) (r.face=i) (p.length<=1000) (K (optL (qv { h with ttl:=ttl } p r f.mtu)))
def gSent:List V->(T->Prop)->(Addr->Prop)->Prop:=λ args K kx_=>Ex7 λ(fs:List jE) (r:Row) (h:Hd) (p:List UInt8) (ttl:Int) (f:jE) (i:Nat)=>gSentb args K kx_ fs r h p ttl f i
theorem c_sent:∀ args K KX,gSent args K KX->ev spB 40 (.call 969 args [] (pK K) (pX KX)):=by
 rintro args K KX ⟨fs,r,h,p,ttl,f,i,rfl,hf,hfi,hri,hp,hk⟩;obtain⟨hi,hfi2⟩:=Cb.mp hfi;have ok:=hf.ok f (by rw[<- hfi2];exact Cy hi);have om:=ok.mtu;have hl:=hf.len;obtain⟨net,many,gw,face⟩:=r;have hri:face=i:=hri;subst hri;conv=>whnf
 erw[v9 hf.ne];conv=>whnf
 rw[BB];refine⟨⟨BF hl (by decide),Bb _,Cq.mpr hi⟩,λ t ht=>?_⟩;have ht:(fs.map jM)[i]?=some t:=ht;rw[Bq,hfi] at ht;obtain rfl:=B9 ht;refine⟨rfl,h,p,f.mtu,rfl,⟨BF hp (by decide),BM (by decide) om.1,om.2⟩,?_⟩;unfold qv at hk;have hlen:=λ l=>xh (h:={ h with ttl:=ttl }) (p:=p) (mtu:=f.mtu) (l:=l) hp;unfold Yo at hk hlen;refine brD (λ q1=>?_) (λ q1=>?_)
 ·rw[BJ q1] at hk;conv=>whnf
  refine brE (λ q3=>?_) (λ q3=>?_)
  ·refine⟨by simp,?_⟩;refine zx (A:=h.tgt) (ttl:=ttl) (r:=⟨net,many,gw,i⟩) (h:=h) [(0,false,p)] _ _ (.inl rfl) ?_;have e:xt ⟨net,many,gw,i⟩ h.tgt=h.tgt:=BJ (.inl q3);rw[e] at hk;exact jL hk
  ·refine⟨⟨.inl rfl,by decide,by decide⟩,?_⟩;conv=>whnf
   refine brE (λ q4=>?_) (λ q4=>?_)
   ·refine⟨by simp,?_⟩;refine zx (A:=h.tgt) (ttl:=ttl) (r:=⟨net,many,gw,i⟩) (h:=h) [(0,false,p)] _ _ (.inl rfl) ?_;have e:xt ⟨net,many,gw,i⟩ h.tgt=h.tgt:=BJ (.inr q4);rw[e] at hk;exact jL hk
   ·refine⟨by simp,?_⟩;refine zx (A:=gw) (ttl:=ttl) (r:=⟨net,many,gw,i⟩) (h:=h) [(0,false,p)] _ _ (.inl rfl) ?_;have e:xt ⟨net,many,gw,i⟩ h.tgt=gw:=BE (by rintro(z | z);exact q3 z;exact q4 z);rw[e] at hk;exact jL hk
 ·rw[BE q1] at hk hlen;refine br (λ q2=>?_) (λ q2=>?_)
  ·rw[BJ q2] at hk;exact jL hk
  ·rw[BE (by rw[q2];decide)] at hk hlen;have hlen:=hlen _ rfl;rw[BB] at hlen;have em:(jx p.length f.mtu 70000 0).map (Uf p f.mtu)=((jx p.length f.mtu 70000 0).map (qh p f.mtu)).map pcT:=by rw[CR];rfl
   rw[em];generalize jx p.length f.mtu 70000 0=cl at *;have hlen:((cl.map (qh p f.mtu)).map pcT).length<=100000:=by rw[BB,BB];exact BF hlen (by decide)
   conv=>whnf
   refine brE (λ q3=>?_) (λ q3=>?_)
   ·refine⟨hlen,?_⟩;refine zx (A:=h.tgt) (ttl:=ttl) (r:=⟨net,many,gw,i⟩) (h:=h) _ _ _ (.inl rfl) ?_;have e:xt ⟨net,many,gw,i⟩ h.tgt=h.tgt:=BJ (.inl q3);rw[e] at hk;refine jL (t:=.lst ((cl.map (qh p f.mtu)).map λ c=>vdL (.out i h.tgt (({ h with ttl:=ttl }:Hd).cut c) c.2.2))) ?_;have hk:K (.lst ((((cl.map (qh p f.mtu)).map λ c=>Vd.out i h.tgt (({ h with ttl:=ttl }:Hd).cut c) c.2.2)).map vdL)):=hk;rw[CR] at hk;exact hk
   ·refine⟨⟨.inl rfl,by decide,by decide⟩,?_⟩;conv=>whnf
    refine brE (λ q4=>?_) (λ q4=>?_)
    ·refine⟨hlen,?_⟩;refine zx (A:=h.tgt) (ttl:=ttl) (r:=⟨net,many,gw,i⟩) (h:=h) _ _ _ (.inl rfl) ?_;have e:xt ⟨net,many,gw,i⟩ h.tgt=h.tgt:=BJ (.inr q4);rw[e] at hk;refine jL (t:=.lst ((cl.map (qh p f.mtu)).map λ c=>vdL (.out i h.tgt (({ h with ttl:=ttl }:Hd).cut c) c.2.2))) ?_;have hk:K (.lst ((((cl.map (qh p f.mtu)).map λ c=>Vd.out i h.tgt (({ h with ttl:=ttl }:Hd).cut c) c.2.2)).map vdL)):=hk;rw[CR] at hk;exact hk
    ·refine⟨hlen,?_⟩;refine zx (A:=gw) (ttl:=ttl) (r:=⟨net,many,gw,i⟩) (h:=h) _ _ _ (.inl rfl) ?_;have e:xt ⟨net,many,gw,i⟩ h.tgt=gw:=BE (by rintro(z | z);exact q3 z;exact q4 z);rw[e] at hk;refine jL (t:=.lst ((cl.map (qh p f.mtu)).map λ c=>vdL (.out i gw (({ h with ttl:=ttl }:Hd).cut c) c.2.2))) ?_;have hk:K (.lst ((((cl.map (qh p f.mtu)).map λ c=>Vd.out i gw (({ h with ttl:=ttl }:Hd).cut c) c.2.2)).map vdL)):=hk;rw[CR] at hk;exact hk
noncomputable abbrev Lm (a b:Int) (fs:List jE) (tr:Tr) (cnt:Int) (fw:Bool) (id:Int):List jB:=L4 a b fs tr cnt fw id (.dict [] 0)
noncomputable def prT (h:Hd) (c:Int×Bool×List UInt8):T:=.tup [hdT (h.cut c),.bytes c.2.2]
theorem ZY{h:Hd}(ho:h.off=0)(hm:h.more=false)(p:List UInt8)(mtu:Int)(c:Int×Bool):UP h p mtu c=prT h (qh p mtu c):=by
 obtain⟨a,b⟩:=c;cases b
 ·show T.tup [hdT { h with off:=h.off+a,more:=true },_]=_;rw[ho,D0];rfl
 ·show T.tup [hdT { h with off:=h.off+a },_]=_;obtain⟨x1,x2,x3,x4,x5,x6,x7,x8,x9⟩:=h;have ho:x9=0:=ho;have hm:x8=false:=hm;subst ho hm;show T.tup [hdT ⟨x1,x2,x3,x4,x5,x6,x7,false,0+a⟩,_]=_;rw[D0];rfl
set_option tactic.hygienic true in
theorem cutsAt_ok(n mtu:Int)(hr:8<=ja mtu):∀(m:Nat) (a:Int),0<=a->a%8=0->a<=n->∀ c∈jx n mtu m a,0<=c.1/\c.1<=n/\c.1%8=0:=by
 intro m;induction m with
 | zero=>
   intro a _ _ _ c hc;cases hc
 | succ m ih=>
   intro a h0 h8 hn c hc;rw[zb] at hc;split at hc
   ·refine rwl (BG.mp hc) ?_;exact⟨h0,hn,h8⟩
   ·rename_i q;rcases BO.mp hc with rfl | hc
    ·exact⟨h0,hn,h8⟩
    ·exact ih (a+ja mtu) (Bp h0 (BM (by decide) hr)) ((Int.add_mul_emod_self_right a ((mtu-20)/8) 8).trans h8) (cutA q) c hc
theorem QF(p:List UInt8)(lo hi:Option Int):(jG p lo hi).length<=p.length:=by
 unfold jG;refine rwl DC (rwl Ca (BF (Nat.min_le_right _ _) (Nat.sub_le _ _)))
set_option tactic.hygienic true in
theorem XF{h:Hd}{p:List UInt8}{mtu:Int}{l:List (Int×Bool×List UInt8)}(ok:h.Ok)(hp:p.length<=1000)(e:Yo h p mtu=some l):∀ c∈l,(h.cut c).Ok/\c.2.2.length<=1000:=by
 have mk:∀ c:Int×Bool×List UInt8,0<=c.1->c.1<=1000->c.1%8=0->(h.cut c).Ok:=λ c h1 h2 h3=>⟨ok.src,ok.tgt,ok.proto,ok.ident,ok.ttl,ok.tos,⟨h1,Bm h2 (by decide),h3⟩⟩;unfold Yo at e;split at e
 ·obtain rfl:=B9 e;intro c hc;refine rwl (BG.mp hc) ?_;exact⟨mk _ (by show(0:Int)<=0;decide) (by show(0:Int)<=1000;decide) rfl,hp⟩
 ·split at e
  ·exact nsm e
  ·rename_i q;obtain rfl:=B9 e;intro c hc;obtain⟨c0,h0,rfl⟩:=DO.mp hc;have hr:8<=ja mtu:=by
    have:decide (ja mtu<8)=false:=by
     cases hd:h.dont with
     | false=>replace q:=hd▸q;simpa using q
     | true=>rw[hd] at q;simp at q
    exact Bg.mp (of_decide_eq_false this)
   obtain⟨h1,h2,h3⟩:=cutsAt_ok p.length mtu hr 70000 0 (by decide) rfl (Bb _) c0 h0;refine⟨mk _ h1 (BM h2 (Bv.mpr hp)) h3,?_⟩;show(xC p mtu c0).length<=1000;obtain⟨a,b⟩:=c0;cases b
   ·exact BF (QF p (some a) (some (a+ja mtu))) hp
   ·exact BF (QF p (some a) none) hp
noncomputable abbrev pkSt (h:Hd) (p:List UInt8) (r:Row) (nr:Bool) (A:Int) (M:List jB) (f:List T) (ex:List (Str×V)):St:=⟨(n4,.m 1)::(n61,.p (hdT h))::(n67,.p (.bytes p))::(w6,.p (jt r))::(n197,.p (.bool nr))::(qd,.p (.int A))::(n71,.m 4)::ex,jU M (.plst f),fSc 624⟩
theorem wW{K:Fl->St->Prop}{kx:KX}{us:List T}{h:Hd}{p:List UInt8}{r:Row}{nr:Bool}{A a b:Int}{fs:List jE}{tr:Tr}{cnt:Int}{fw:Bool}{id:Int}:∀(cs:List (Int×Bool×List UInt8)) (f:List T) (ex:List (Str×V)),(ex=[]\/Ex2 λ x y=>ex=[(n56,x),(n17,y)])->
  (∀ c∈cs,(h.cut c).Ok/\c.2.2.length<=1000)->f.length+cs.length<=90000->
  (∀ ex',(ex'=[]\/Ex2 λ x y=>ex'=[(n56,x),(n17,y)])->K .next (pkSt h p r nr A (Lm a b fs tr cnt fw id) (f++cs.map λ c=>vdT (.out r.face A (h.cut c) c.2.2)) ex'))->
  zm (ev spB 22) (wn (jY 3 (fB 624))) (wo (jY 3 (fB 624))) .fix us (cs.map (prT h)) (pkSt h p r nr A (Lm a b fs tr cnt fw id) f ex) K kx:=by
 intro cs;induction cs with
 | nil=>
   intro f ex hex hok hl hk;have:=hk ex hex;rw[List.map_nil,Cu] at this;exact this
 | cons c cs iH=>
   intro f ex hex hok hl hk;obtain⟨o1,o2⟩:=hok c (.head _);have ih:∀ x y,zm (ev spB 22) (wn (jY 3 (fB 624))) (wo (jY 3 (fB 624))) .fix us (cs.map (prT h)) (pkSt h p r nr A (Lm a b fs tr cnt fw id) (f++[vdT (.out r.face A (h.cut c) c.2.2)]) [(n56,x),(n17,y)]) K kx:=λ x y=>
    iH _ _ (.inr ⟨x,y,rfl⟩) (λ c hc=>hok c (.tail _ hc)) (rwl BV (rwl (Nat.add_assoc f.length 1 cs.length) (rwl (Nat.add_comm 1 cs.length) hl))) λ ex2 h2=>by
     have:=hk ex2 h2;replace this:=BZ▸this;rw[D2];exact this
   refine rwl BZ (rwl qE ?_);rcases hex with rfl | ⟨x,y,rfl⟩
   all_goals
    refine⟨rfl,h.cut c,c.2.2,rfl,o1,BF o2 (by decide),BF (Bi _ _) (BF hl (by decide)),?_⟩;exact ih _ _
def gPacketsb(args:List V)(mem:List jB)(k:KM)(kx:KXM)(h:Hd)(p:List UInt8)(r:Row)(a b:Int)(fs:List jE)(tr:Tr)(cnt:Int)(fw:Bool)(id:Int)(f:jE)(i:Nat):Prop:=And9 (args=[.m 1,.p (hdT h),.p (.bytes p),.p (jt r)]) (mem=Lm a b fs tr cnt fw id) (jT h.Ok (h.more=false) (h.off=0)) (jc fs) (fs[i]?=some f) (r.face=i) (p.length<=1000) (qv h p r f.mtu=none->kx 63 mem) (∀ l,qv h p r f.mtu=some l->k (.p (.lst (l.map vdT))) mem)
def YS:jJ:=λ args mem k kx=>Ex12 λ(h:Hd) (p:List UInt8) (r:Row) (a b:Int) (fs:List jE) (tr:Tr) (cnt:Int) (fw:Bool) (id:Int) (f:jE) (i:Nat)=>gPacketsb args mem k kx h p r a b fs tr cnt fw id f i
theorem c_packets:∀ args mem k kx,YS args mem k kx->ev spB 28 (.call 624 args mem k kx):=by
 rintro args mem k kx ⟨h,p,⟨net,many,gw,face⟩,a,b,fs,tr,cnt,fw,id,f,i,rfl,rfl,⟨ok,hm,ho⟩,hf,hfi,hri,hp,hx,hk⟩;obtain⟨hi,hfi2⟩:=Cb.mp hfi;have okf:=hf.ok f (rwl hfi2.symm (Cy hi));have om:=okf.mtu;have hl:=hf.len;have hri:face=i:=hri;subst hri;have hok:=λ l=>XF (p:=p) (mtu:=f.mtu) (l:=l) ok hp;have hlen:=λ l=>xh (h:=h) (p:=p) (mtu:=f.mtu) (l:=l) hp;unfold qv at hx hk;unfold Yo at hx hk hok hlen;conv=>whnf
 refine brE (λ q3=>?_) (λ q3=>?_)
 rotate_left
 conv=>whnf
 refine brE (λ q4=>?_) (λ q4=>?_)
 rotate_left 2
 ·have hw:xt ⟨net,many,gw,i⟩ h.tgt=h.tgt:=BJ (.inl q3);rw[hw] at hx hk;clear hw q3;conv=>whnf
  erw[zV hf.ne];conv=>whnf
  rw[BB];refine⟨⟨BF hl (by decide),Bb _,Cq.mpr hi⟩,λ t ht=>?_⟩;have ht:(fs.map yd)[i]?=some t:=ht
  (replace ht:=(Bq)▸ht;replace ht:=hfi▸ht)
  obtain rfl:=B9 ht;refine⟨rfl,h,p,f.mtu,rfl,⟨BF hp (by decide),BM (by decide) om.1,om.2⟩,?_⟩;refine brD (λ q1=>?_) (λ q1=>?_)
  ·rw[BJ q1] at hk hok;have e:[T.tup [hdT h,.bytes p]]=[((0,false,p):Int×Bool×List UInt8)].map (prT h):=by
    show _=[T.tup [hdT (h.cut (0,false,p)),.bytes p]];obtain⟨x1,x2,x3,x4,x5,x6,x7,x8,x9⟩:=h;have ho:x9=0:=ho;have hm:x8=false:=hm;subst ho hm;rfl
   refine rwl e ?_;refine⟨by simp,?_⟩;refine wW [(0,false,p)] [] [] (.inl rfl) (hok _ rfl) (by simp) λ ex' hex=>?_;have hk:=hk _ rfl;replace hk:=CR▸hk;rcases hex with rfl | ⟨x,y,rfl⟩
   all_goals exact hk
  ·rw[BE q1] at hk hok hx hlen;refine br (λ q2=>?_) (λ q2=>?_)
   ·replace hx:=(BJ q2)▸hx;exact hx rfl
   ·rw[BE (by refine rwl q2 ?_;decide)] at hk hok hlen;have e:(jx p.length f.mtu 70000 0).map (UP h p f.mtu)=((jx p.length f.mtu 70000 0).map (qh p f.mtu)).map (prT h):=by
     refine rwl CR ?_;exact DY λ c _=>ZY ho hm p f.mtu c
    refine rwl e ?_;have hok:=hok _ rfl;have hlen:=hlen _ rfl;have hk:=hk _ rfl;generalize (jx p.length f.mtu 70000 0).map (qh p f.mtu)=cs at hok hlen hk ⊢;refine⟨by rw[BB];exact BF hlen (by decide),?_⟩;refine wW cs [] [] (.inl rfl) hok (BF (D7 (D6 _)) (BF hlen (by decide))) λ ex' hex=>?_;replace hk:=CR▸hk;rcases hex with rfl | ⟨x,y,rfl⟩
    all_goals exact hk
 ·have hw:xt ⟨net,many,gw,i⟩ h.tgt=h.tgt:=BJ (.inr q4);rw[hw] at hx hk;clear hw q3 q4;conv=>whnf
  erw[zV hf.ne];conv=>whnf
  rw[BB];refine⟨⟨BF hl (by decide),Bb _,Cq.mpr hi⟩,λ t ht=>?_⟩;have ht:(fs.map yd)[i]?=some t:=ht
  (replace ht:=(Bq)▸ht;replace ht:=hfi▸ht)
  obtain rfl:=B9 ht;refine⟨rfl,h,p,f.mtu,rfl,⟨BF hp (by decide),BM (by decide) om.1,om.2⟩,?_⟩;refine brD (λ q1=>?_) (λ q1=>?_)
  ·rw[BJ q1] at hk hok;have e:[T.tup [hdT h,.bytes p]]=[((0,false,p):Int×Bool×List UInt8)].map (prT h):=by
    show _=[T.tup [hdT (h.cut (0,false,p)),.bytes p]];obtain⟨x1,x2,x3,x4,x5,x6,x7,x8,x9⟩:=h;have ho:x9=0:=ho;have hm:x8=false:=hm;subst ho hm;rfl
   refine rwl e ?_;refine⟨by simp,?_⟩;refine wW [(0,false,p)] [] [] (.inl rfl) (hok _ rfl) (by simp) λ ex' hex=>?_;have hk:=hk _ rfl;replace hk:=CR▸hk;rcases hex with rfl | ⟨x,y,rfl⟩
   all_goals exact hk
  ·rw[BE q1] at hk hok hx hlen;refine br (λ q2=>?_) (λ q2=>?_)
   ·replace hx:=(BJ q2)▸hx;exact hx rfl
   ·rw[BE (by refine rwl q2 ?_;decide)] at hk hok hlen;have e:(jx p.length f.mtu 70000 0).map (UP h p f.mtu)=((jx p.length f.mtu 70000 0).map (qh p f.mtu)).map (prT h):=by
     refine rwl CR ?_;exact DY λ c _=>ZY ho hm p f.mtu c
    refine rwl e ?_;have hok:=hok _ rfl;have hlen:=hlen _ rfl;have hk:=hk _ rfl;generalize (jx p.length f.mtu 70000 0).map (qh p f.mtu)=cs at hok hlen hk ⊢;refine⟨by rw[BB];exact BF hlen (by decide),?_⟩;refine wW cs [] [] (.inl rfl) hok (BF (D7 (D6 _)) (BF hlen (by decide))) λ ex' hex=>?_;replace hk:=CR▸hk;rcases hex with rfl | ⟨x,y,rfl⟩
    all_goals exact hk
 ·have hw:xt ⟨net,many,gw,i⟩ h.tgt=gw:=BE (by rintro(z | z);exact q3 z;exact q4 z);rw[hw] at hx hk;clear hw q3 q4;conv=>whnf
  erw[zV hf.ne];conv=>whnf
  rw[BB];refine⟨⟨BF hl (by decide),Bb _,Cq.mpr hi⟩,λ t ht=>?_⟩;have ht:(fs.map yd)[i]?=some t:=ht
  (replace ht:=(Bq)▸ht;replace ht:=hfi▸ht)
  obtain rfl:=B9 ht;refine⟨rfl,h,p,f.mtu,rfl,⟨BF hp (by decide),BM (by decide) om.1,om.2⟩,?_⟩;refine brD (λ q1=>?_) (λ q1=>?_)
  ·rw[BJ q1] at hk hok;have e:[T.tup [hdT h,.bytes p]]=[((0,false,p):Int×Bool×List UInt8)].map (prT h):=by
    show _=[T.tup [hdT (h.cut (0,false,p)),.bytes p]];obtain⟨x1,x2,x3,x4,x5,x6,x7,x8,x9⟩:=h;have ho:x9=0:=ho;have hm:x8=false:=hm;subst ho hm;rfl
   refine rwl e ?_;refine⟨by simp,?_⟩;refine wW [(0,false,p)] [] [] (.inl rfl) (hok _ rfl) (by simp) λ ex' hex=>?_;have hk:=hk _ rfl;replace hk:=CR▸hk;rcases hex with rfl | ⟨x,y,rfl⟩
   all_goals exact hk
  ·rw[BE q1] at hk hok hx hlen;refine br (λ q2=>?_) (λ q2=>?_)
   ·replace hx:=(BJ q2)▸hx;exact hx rfl
   ·rw[BE (by refine rwl q2 ?_;decide)] at hk hok hlen;have e:(jx p.length f.mtu 70000 0).map (UP h p f.mtu)=((jx p.length f.mtu 70000 0).map (qh p f.mtu)).map (prT h):=by
     refine rwl CR ?_;exact DY λ c _=>ZY ho hm p f.mtu c
    refine rwl e ?_;have hok:=hok _ rfl;have hlen:=hlen _ rfl;have hk:=hk _ rfl;generalize (jx p.length f.mtu 70000 0).map (qh p f.mtu)=cs at hok hlen hk ⊢;refine⟨by rw[BB];exact BF hlen (by decide),?_⟩;refine wW cs [] [] (.inl rfl) hok (BF (D7 (D6 _)) (BF hlen (by decide))) λ ex' hex=>?_;replace hk:=CR▸hk;rcases hex with rfl | ⟨x,y,rfl⟩
    all_goals exact hk
theorem getD_mem{l:List Int}{i:Nat}(h:i<l.length):l.getD i 0∈l:=by
 refine rwl (List.getD_eq_getElem?_getD) (rwl (BS h) (rwl Option.getD_some ?_));exact Cy _
theorem y5(k:Nat)(t:T):(List.replicate k [t]).flatten=List.replicate k t:=by
 induction k with
 | zero=>rfl
 | succ k ih=>rw[List.replicate_succ,List.flatten_cons,ih,List.replicate_succ];rfl
theorem xo{a m:Int}{x:Int}(h0:0<=m)(h1:m<=32):jG ((key a 32).map T.int) none (some m)++(List.replicate (32-m).toNat [T.int x]).flatten=(key a m.toNat++List.replicate (32-m).toNat x).map T.int:=by
 rw[zQ,yT _ h0,z9 a (by lia),y5,D4,List.map_replicate]
theorem xE{a m x:Int}(hx:x=0\/x=1):∀ y∈key a m.toNat++List.replicate (32-m).toNat x,y=0\/y=1:=λ y hy=>by
 rcases CJ.mp hy with hy | hy
 ·exact key_01 a _ y hy
 ·refine rwl (List.eq_of_mem_replicate hy) ?_;exact hx
theorem vI{a m x:Int}(h0:0<=m)(h1:m<=32):(key a m.toNat++List.replicate (32-m).toNat x).length=32:=by
 rw[BV,qB,DG];lia
theorem vp{a m x:Int}(hx:x=0\/x=1)(h0:0<=m)(h1:m<=32):0<=num (key a m.toNat++List.replicate (32-m).toNat x)/\num (key a m.toNat++List.replicate (32-m).toNat x)<4294967296:=by
 have:=Xt _ (xE (a:=a) (m:=m) hx);replace this:=(vI h0 h1)▸this;exact this
theorem sl32{bl:List Int}(h:bl.length=32)(m:Int):(jG (bl.map T.int) none (some m)).length<=32:=by
 unfold jG;rw[DC,Ca,BB,h];exact BF (Nat.min_le_right _ _) (Nat.sub_le _ _)
theorem nm1{m:Int}(h:0<=m/\m<=32):-1000<=32-m/\32-m<=1000:=⟨BM (by decide) (CP h.2),BM (DL 32 h.1) (by decide)⟩
theorem nm2{n:Nat}{m:Int}(h0:0<=m)(h:n<=32):n+(32-m).toNat<=100000:=BF (Nat.add_le_add h (Int.toNat_le.mpr (DL 32 h0))) (by decide)
def gAsked:List V->(T->Prop)->Prop:=λ args K=>∃ fs:List jE,jT (args=[.m 0,.p (.lst (fs.map jM))]) (jc fs) (∀ t:Int,0<=t->t<4294967296->K (.int t))
theorem c_asked:∀ args K,gAsked args K->∀ a b:Int,0<=b->b<65287->ev spB 30 (.call 938 args [.plst [.int a,.int b]] (sK K) sX):=by
 rintro args K ⟨fs,rfl,hf,hk⟩ a b hb0 hb1;have hl:=hf.len;refine⟨rfl,⟨hb0,hb1⟩,⟨λ e=>hf.ne (List.map_eq_nil_iff.mp e),by rw[BB];exact BF hl (by decide)⟩,λ t1 h1 a1 b1 u1 v1=>?_⟩;obtain⟨f,hfm,rfl⟩:=DO.mp h1;have ok:=hf.ok f hfm;have o1:=ok.addr;have o2:=ok.many;refine⟨rfl,λ bl hK=>?_⟩;refine⟨rfl,⟨u1,v1⟩,by decide,λ g h2 h3 a2 b2 u2 v2=>?_⟩;conv=>whnf
 refine brD (λ q=>?_) (λ q=>?_)
 ·refine⟨rfl,⟨u2,v2⟩,λ w w1 w2 a3 b3 u3 v3=>?_⟩;exact⟨a3,b3,_,rfl,⟨u3,v3⟩,rfl,hk w w1 w2⟩
 ·have hbl:(bl.map T.int).length<=100000:=by rw[hK,BB,qB];decide
  have hs:=λ m=>sl32 (bl:=bl) (by rw[hK,qB]) m;have hp:∀ x:Int,jG (bl.map T.int) none (some f.many)++(List.replicate (32-f.many).toNat [T.int x]).flatten=(key f.addr f.many.toNat++List.replicate (32-f.many).toNat x).map T.int:=λ x=>by refine rwl hK ?_;exact xo o2.1 o2.2
  refine⟨hbl,⟨by simp,nm1 o2⟩,?_⟩;refine⟨?_,?_⟩
  ·rw[y5,DG];exact nm2 o2.1 (hs f.many)
  refine⟨rfl,key f.addr f.many.toNat++List.replicate (32-f.many).toNat 1,by rw[hp];rfl,xE (.inr rfl),by rw[vI o2.1 o2.2];decide,hbl,⟨by simp,nm1 o2⟩,?_⟩;refine⟨?_,?_⟩
  ·rw[y5,DG];exact nm2 o2.1 (hs f.many)
  refine⟨rfl,key f.addr f.many.toNat++List.replicate (32-f.many).toNat 0,by rw[hp];rfl,xE (.inl rfl),by rw[vI o2.1 o2.2];decide,⟨.inl rfl,by decide,by decide⟩,⟨by simp,h2,Bm (Bg.mp q) (show(15:Int)<16 by decide)⟩,?_⟩;have r1:=vp (a:=f.addr) (m:=f.many) (.inr rfl) o2.1 o2.2;have r2:=vp (a:=f.addr) (m:=f.many) (.inl rfl) o2.1 o2.2;have r3:=bxor_1 o1.1 o1.2;generalize num (key f.addr f.many.toNat++List.replicate (32-f.many).toNat 1)=x1 at r1 ⊢;generalize num (key f.addr f.many.toNat++List.replicate (32-f.many).toNat 0)=x2 at r2 ⊢;have hm:=getD_mem (l:=[f.addr,x1,x2,Builtin.bitXor f.addr 1,4294967295,0,66051,2130706433,2147483647,2147483648,3758096385,3758096383,4026531840,134744072,167838211,134743044]) (i:=g.toNat) ((Int.toNat_lt h2).mpr (Bm (Bg.mp q) (show(15:Int)<16 by decide)));refine⟨a2,b2,.int (List.getD [f.addr,x1,x2,Builtin.bitXor f.addr 1,4294967295,0,66051,2130706433,2147483647,2147483648,3758096385,3758096383,4026531840,134744072,167838211,134743044] g.toNat 0),rfl,⟨u2,v2⟩,rfl,?_⟩;generalize List.getD [f.addr,x1,x2,Builtin.bitXor f.addr 1,4294967295,0,66051,2130706433,2147483647,2147483648,3758096385,3758096383,4026531840,134744072,167838211,134743044] g.toNat 0=z at hm ⊢;have:0<=z/\z<4294967296:=by
   simp only[BO,Ch,or_false] at hm;rcases hm with rfl | rfl | rfl | rfl | rfl | rfl | rfl | rfl | rfl | rfl | rfl | rfl | rfl | rfl | rfl | rfl
   ·exact o1
   ·exact r1
   ·exact r2
   ·exact r3
   all_goals exact⟨by decide,by decide⟩
  exact hk z this.1 this.2
def RDis(rs:List Row):Prop:=rs.Pairwise λ r' r=>¬(r'.gw=r.gw/\r'.face=r.face)
structure qI(rs:List Row)(fs:List jE):Prop where
 ok:∀ r∈rs,r.Ok
 dis:RDis rs
 face:∀ r∈rs,∃ i:Nat,i<fs.length/\r.face=i
 len:rs.length<=100
theorem qI.rows{rs:List Row}{fs:List jE}(h:qI rs fs):UW rs:=by
 refine⟨h.ok,λ l1 l2 r e r' hr'=>?_,h.len⟩;have:=h.dis;replace this:=e▸this;exact(List.pairwise_append.mp this).2.2 r' hr' r (.head _)
theorem RDis.snoc{l:List Row}{r:Row}(h:RDis l)(hn:∀ r'∈l,¬(r'.gw=r.gw/\r'.face=r.face)):RDis (l++[r]):=
 List.pairwise_append.mpr ⟨h,List.pairwise_singleton _ _,λ a ha b hb=>by refine rwl (BG.mp hb) ?_;exact hn a ha⟩
noncomputable abbrev rsSt (a b:Int) (fs:List jE) (f:List Row) (ex:List (Str×V)):St:=⟨(ud,.m 0)::(xL,.p (.lst (fs.map jM)))::(v0,.m 1)::ex,[.plst [.int a,.int b],.plst (f.map qD)],fSc 945⟩
def rsEx(ex:List (Str×V)):Prop:=ex=[]\/Ex4 λ x y z w=>ex=[(n18,x),(qd,y),(wk,z),(zG,w)]
structure vh(l:List Row)(i n:Nat):Prop where
 ok:∀ r∈l,r.Ok
 dis:RDis l
 gw:∀ r∈l,r.gw=0/\∃ j:Nat,j<i/\r.face=j
 len:l.length<=i
theorem vh.next{l:List Row}{i n:Nat}(h:vh l i n):vh l (i+1) n:=⟨h.ok,h.dis,λ r hr=>⟨(h.gw r hr).1,let ⟨j,h1,h2⟩:=(h.gw r hr).2;⟨j,by lia,h2⟩⟩,by have:=h.len;lia⟩
theorem vh.add{l:List Row}{i n:Nat}(h:vh l i n){r:Row}(ok:r.Ok)(hg:r.gw=0)(hf:r.face=i):vh (l++[r]) (i+1) n:=by
 refine⟨λ x hx=>?_,h.dis.snoc λ x hx q=>?_,λ x hx=>?_,by refine rwl BV ?_;have:=h.len;simp;lia⟩
 ·rcases CJ.mp hx with hx | hx
  ·exact h.ok x hx
  ·refine rwl (BG.mp hx) ?_;exact ok
 ·obtain⟨_,j,h1,h2⟩:=h.gw x hx;have:=q.2;lia
 ·rcases CJ.mp hx with hx | hx
  ·exact h.next (n:=n).gw x hx
  ·refine rwl (BG.mp hx) ?_;exact⟨hg,i,by lia,hf⟩
theorem WB{K:Fl->St->Prop}{kx:KX}{us:List T}{fs:List jE}(hf:jc fs):∀(l:List jE) (i:Nat) (a b:Int) (f:List Row) (ex:List (Str×V)),(∀ x∈l,x.Ok)->i+l.length=fs.length->rsEx ex->0<=b/\b<65287->vh f i fs.length->
  (∀(f':List Row) (a' b':Int) ex',vh f' fs.length fs.length->0<=b'/\b' < 65287->rsEx ex'->K .next (rsSt a' b' fs f' ex'))->
  zm (ev spB 24) (wn (jY 1 (fB 945))) (wo (jY 1 (fB 945))) .fix us (YO i (l.map jM)) (rsSt a b fs f ex) K kx:=by
 intro l;induction l with
 | nil=>
   intro i a b f ex hok hi hex hb hI hk;have hi:i=fs.length:=by simpa using hi
   replace hI:=hi▸hI;exact hk f a b ex hI hb hex
 | cons x l ih=>
   intro i a b f ex hok hi hex hb hI hk;have ok:=hok x (.head _);have o1:=ok.addr;have o2:=ok.many;have hlen:=hf.len;have hfl:=hI.len;replace hi:=Bw▸hi;have hW:∀(f':List Row) (a' b':Int) ex',vh f' (i+1) fs.length->0<=b'/\b' < 65287->rsEx ex'->zm (ev spB 24) (wn (jY 1 (fB 945))) (wo (jY 1 (fB 945))) .fix us (YO (i+1) (l.map jM)) (rsSt a' b' fs f' ex') K kx:=λ f' a' b' ex' h1 h2 h3=>
    ih (i+1) a' b' f' ex' (λ y hy=>hok y (.tail _ hy)) (by lia) h3 h2 h1 hk
   have nok:=netOf_ok (m:=x.many) o1.1 o1.2;have hrow:Row.Ok ⟨za x.addr x.many,x.many,0,i⟩:=⟨nok.1,⟨by show(0:Int)<=0;decide,by show(0:Int)<4294967296;decide⟩,o2,nok.2⟩;have hnum:=net_num o1.1 o1.2 o2.1 o2.2;show zm (ev spB 24) _ _ _ us (.tup [.int (i:Int),jM x]::YO (i+1) (l.map jM)) _ K kx;refine rwl qE ?_;rcases hex with rfl | ⟨x1,x2,x3,x4,rfl⟩
   all_goals
    refine⟨rfl,hb,by decide,λ g h2 h3 a2 b2 u2 v2=>?_⟩;conv=>whnf
    refine brD (λ q=>?_) (λ q=>?_)
    ·refine⟨rfl,λ bl hK=>?_⟩;have hbl:(bl.map T.int).length<=100000:=by rw[hK,BB,qB];decide
     have hs:=λ m=>sl32 (bl:=bl) (by rw[hK,qB]) m;have hp:∀ y:Int,jG (bl.map T.int) none (some x.many)++(List.replicate (32-x.many).toNat [T.int y]).flatten=(key x.addr x.many.toNat++List.replicate (32-x.many).toNat y).map T.int:=λ y=>by refine rwl hK ?_;exact xo o2.1 o2.2
     refine⟨hbl,⟨by simp,nm1 o2⟩,?_⟩;refine⟨?_,?_⟩
     ·rw[y5,DG];exact nm2 o2.1 (hs x.many)
     refine⟨rfl,key x.addr x.many.toNat++List.replicate (32-x.many).toNat 0,by rw[hp];rfl,xE (.inl rfl),by rw[vI o2.1 o2.2];decide,?_⟩;refine rwl hnum ?_;refine⟨by rw[BB];lia,?_⟩;have e:f.map qD++[qD (⟨za x.addr x.many,x.many,0,i⟩:Row)]=(f++[(⟨za x.addr x.many,x.many,0,i⟩:Row)]).map qD:=by refine rwl D4 ?_;rfl
     have:=hW (f++[(⟨za x.addr x.many,x.many,0,i⟩:Row)]) a2 b2 [(n18,.p (.int (i:Int))),(qd,.p (.int x.addr)),(wk,.p (.int x.many)),(zG,.p (.int x.mtu))] (hI.add hrow rfl rfl) ⟨u2,v2⟩ (.inr ⟨_,_,_,_,rfl⟩);unfold rsSt at this;replace this:=e.symm▸this;exact this
    ·exact hW f a2 b2 [(n18,.p (.int (i:Int))),(qd,.p (.int x.addr)),(wk,.p (.int x.many)),(zG,.p (.int x.mtu))] hI.next ⟨u2,v2⟩ (.inr ⟨_,_,_,_,rfl⟩)
def gRoads:List V->(T->Prop)->Prop:=λ args K=>∃ fs:List jE,jj (args=[.m 0,.p (.lst (fs.map jM))]) (jc fs) (fs.length<=50) (∀ rs:List Row,qI rs fs->K (.lst (rs.map qD)))
theorem c_roads:∀ args K,gRoads args K->∀ a b:Int,0<=b->b<65287->ev spB 28 (.call 945 args [.plst [.int a,.int b]] (sK K) sX):=by
 rintro args K ⟨fs,rfl,hf,hl,hk⟩ a b hb0 hb1;have hne:0<fs.length:=D5.mpr hf.ne;refine⟨by rw[BB];lia,?_⟩;refine WB hf fs 0 a b [] [] hf.ok (by lia) (.inl rfl) ⟨hb0,hb1⟩ ⟨C0 _,.nil,C0 _,BN _⟩ λ f a1 b1 ex' hI hb1 hex=>?_;have hfl:=hI.len;have r0:qI f fs:=⟨hI.ok,hI.dis,λ r hr=>(hI.gw r hr).2,by lia⟩;have add2:∀ l:List Row,qI l fs->l.length<=51->(∀ r∈l,r.gw≠167772413)->∀ j:Int,0<=j->j<fs.length->qI (l++[⟨0,0,167772413,j⟩]) fs:=λ l h hl2 hg j j0 j1=>by
  refine⟨λ x hx=>?_,h.dis.snoc λ x hx q=>hg x hx q.1,λ x hx=>?_,by refine rwl BV ?_;simp;lia⟩
  ·rcases CJ.mp hx with hx | hx
   ·exact h.ok x hx
   ·refine rwl (BG.mp hx) ?_;exact⟨by show(0:Int)<=0/\(0:Int)<_;decide,by show(0:Int)<=167772413/\(167772413:Int)<_;decide,by show(0:Int)<=0/\(0:Int)<=_;decide,by show za 0 0=0;decide⟩
  ·rcases CJ.mp hx with hx | hx
   ·exact h.face x hx
   ·refine rwl (BG.mp hx) ?_;exact⟨j.toNat,by lia,by show j=_;lia⟩
 have add3:∀ l:List Row,qI l fs->l.length<=52->(∀ r∈l,r.gw≠2886729739)->∀ j:Int,0<=j->j<fs.length->qI (l++[⟨167837696,16,2886729739,j⟩]) fs:=λ l h hl2 hg j j0 j1=>by
  refine⟨λ x hx=>?_,h.dis.snoc λ x hx q=>hg x hx q.1,λ x hx=>?_,by refine rwl BV ?_;simp;lia⟩
  ·rcases CJ.mp hx with hx | hx
   ·exact h.ok x hx
   ·refine rwl (BG.mp hx) ?_;exact⟨by show(0:Int)<=167837696/\(167837696:Int)<_;decide,by show(0:Int)<=2886729739/\(2886729739:Int)<_;decide,by show(0:Int)<=16/\(16:Int)<=_;decide,by show za 167837696 16=167837696;decide⟩
  ·rcases CJ.mp hx with hx | hx
   ·exact h.face x hx
   ·refine rwl (BG.mp hx) ?_;exact⟨j.toNat,by lia,by show j=_;lia⟩
 have g0:∀(n:Int),n≠0->∀ r∈f,r.gw≠n:=λ n hn r hr e=>hn (by refine rwl e.symm ?_;exact(hI.gw r hr).1);have g1:∀ j:Int,∀ r∈f++[(⟨0,0,167772413,j⟩:Row)],r.gw≠2886729739:=λ j r hr=>by
  rcases CJ.mp hr with hr | hr
  ·exact g0 _ (by decide) r hr
  ·refine rwl (BG.mp hr) ?_;show(167772413:Int)≠2886729739;decide
 have lf:(f.map qD).length<=100000:=by rw[BB];lia
 rcases hex with rfl | ⟨x1,x2,x3,x4,rfl⟩
 all_goals
  refine⟨rfl,hb1,by decide,λ g h2 h3 a2 b2 u2 v2=>?_⟩;conv=>whnf
  refine brD (λ q=>?_) (λ q=>?_)
  ·refine⟨by rw[BB];lia,?_⟩;rw[BB];refine⟨rfl,⟨u2,v2⟩,by lia,λ j j0 j1 a3 b3 u3 v3=>?_⟩;have r1:=add2 f r0 (by lia) (g0 _ (by decide)) j j0 j1;refine⟨lf,?_⟩;refine⟨rfl,⟨u3,v3⟩,by decide,λ g2 w2 w3 a4 b4 u4 v4=>?_⟩;conv=>whnf
   refine brE (λ q2=>?_) (λ q2=>?_)
   ·refine⟨by rw[BB];lia,?_⟩;rw[BB];refine⟨rfl,⟨u4,v4⟩,by lia,λ j2 j20 j21 a5 b5 u5 v5=>?_⟩;have r2:=hk _ (add3 _ r1 (by rw[BV];simp;lia) (g1 j) j2 j20 j21);refine⟨by rw[BV,BB];simp;lia,?_⟩;rw[D4,D4] at r2;exact⟨a5,b5,_,rfl,⟨u5,v5⟩,rfl,r2⟩
   ·have r2:=hk _ r1;replace r2:=D4▸r2;exact⟨a4,b4,_,rfl,⟨u4,v4⟩,rfl,r2⟩
  ·refine⟨rfl,⟨u2,v2⟩,by decide,λ g2 w2 w3 a4 b4 u4 v4=>?_⟩;conv=>whnf
   refine brE (λ q2=>?_) (λ q2=>?_)
   ·refine⟨by rw[BB];lia,?_⟩;rw[BB];refine⟨rfl,⟨u4,v4⟩,by lia,λ j2 j20 j21 a5 b5 u5 v5=>?_⟩;have r2:=hk _ (add3 _ r0 (by lia) (g0 _ (by decide)) j2 j20 j21);refine⟨lf,?_⟩;rw[D4] at r2;exact⟨a5,b5,_,rfl,⟨u5,v5⟩,rfl,r2⟩
   ·exact⟨a4,b4,_,rfl,⟨u4,v4⟩,rfl,hk _ r0⟩
theorem xW{i:Int}(h0:0<=i)(h1:i<4294967296):(xX i).length<=1000:=by
 obtain⟨m,rfl⟩:=CL h0;have e:=KIN.signs_num m;have e2:(xX (m:Int)).length=(xX (m:Int)).cps.toList.length:=BQ.symm;refine rwl e2 ?_;unfold xX;rw[e,BB];have:=(Nat.length_toDigits_le_iff (b:=10) (n:=m) (k:=10) (by decide) (by decide)).mpr (by lia);lia
def gRouteTob(args:List V)(mem:List jB)(k:KM)(kx:KXM)(t a b:Int)(fs:List jE)(tr:Tr)(cnt:Int)(fw:Bool)(id:Int)(rs:List Row):Prop:=And7 (args=[.m 1,.p (.int t)]) (mem=Lm a b fs tr cnt fw id) (0<=t/\t<4294967296) (J7 tr rs) (∀ r∈rs,0<=r.many/\r.many<=32) (ji t=true\/jb t rs none=none->kx 75 mem) (∀ r,ji t=false->jb t rs none=some r->k (.p (jt r)) mem)
def YR:jJ:=λ args mem k kx=>Ex9 λ(t a b:Int) (fs:List jE) (tr:Tr) (cnt:Int) (fw:Bool) (id:Int) (rs:List Row)=>gRouteTob args mem k kx t a b fs tr cnt fw id rs
theorem c_routeTo:∀ args mem k kx,YR args mem k kx->ev spB 30 (.call 631 args mem k kx):=by
 rintro args mem k kx ⟨t,a,b,fs,tr,cnt,fw,id,rs,rfl,rfl,ht,htr,hr,hx,hk⟩;refine⟨rfl,?_⟩;conv=>whnf
 refine br (λ q=>?_) (λ q=>?_)
 ·refine⟨by unfold sml;omega,?_⟩;refine⟨⟨by decide,xW ht.1 ht.2⟩,?_⟩;exact hx (.inl q)
 ·refine⟨rfl,tr,cnt,t,rfl,htr.node,htr.small,?_⟩;refine rwl (Qf htr hr) ?_;cases e:jb t rs none with
  | none=>
    refine⟨by unfold sml;omega,⟨by decide,xW ht.1 ht.2⟩,?_⟩;exact hx (.inr e)
  | some r=>exact hk r q e
noncomputable abbrev p3:List (Nat×jJ):=[(596,gMay),(924,jR gWrong),(969,jR gSent),(624,YS),(938,yo gAsked),(945,yo gRoads),(631,YR)]++p2
noncomputable abbrev spC:Addr->Option jJ:=lkS p3
theorem yz{X:Run}(ok:jv X):jN X spC 220:=by
 exact jN.lay (y0 ok) (jD rfl) ⟨jQ (n:=25) ok (y0 ok) c_may (jD rfl),jO (n:=28) ok (y0 ok) c_wrong (jD rfl),jO (n:=40) ok (y0 ok) c_sent (jD rfl),jQ (n:=28) ok (y0 ok) c_packets (jD rfl),zX (n:=30) ok (y0 ok) c_asked (jD rfl),zX (n:=28) ok (y0 ok) c_roads (jD rfl),jQ (n:=30) ok (y0 ok) c_routeTo (jD rfl),trivial⟩
noncomputable def ya (fs:List jE) (r:Row):Int:=match fs[r.face.toNat]? with
 | some f=>f.mtu
 | none=>0
noncomputable def YV (h:Hd) (p:List UInt8) (r:Row) (m:Int):List Vd:=match qv { h with ttl:=h.ttl-1 } p r m with
 | none=>[.tell 3 4 m h p false]
 | some l=>l
theorem Qb{h:Hd}{p:List UInt8}{r:Row}{m:Int}(e:qv { h with ttl:=h.ttl-1 } p r m=none):YV h p r m=[.tell 3 4 m h p false]:=by unfold YV;rw[e]
theorem Qa{h:Hd}{p:List UInt8}{r:Row}{m:Int}{l:List Vd}(e:qv { h with ttl:=h.ttl-1 } p r m=some l):YV h p r m=l:=by unfold YV;rw[e]
noncomputable def fwdV (fs:List jE) (rs:List Row) (h:Hd) (p:List UInt8):List Vd:=
 if h.ttl<2 then[.tell 11 0 0 h p false] else match jb h.tgt rs none with
  | none=>[.tell 3 0 0 h p false]
  | some r=>YV h p r (ya fs r)
noncomputable def vc (fs:List jE) (rs:List Row) (fw:Bool) (h:Hd) (p:List UInt8):List Vd:=
 if jd h.src fs=true then[] else if(jf h.tgt fs||jX h.tgt fs)=true then[.loc h p (jf h.tgt fs)]
 else if(!fw||(ju h.tgt||(ji h.tgt||decide (h.tgt<16777216))))=true then[] else fwdV fs rs h p
theorem road_mem{a:Int}:∀(rs:List Row) (acc:Option Row) (r:Row),jb a rs acc=some r->r∈rs\/acc=some r:=by
 intro rs;induction rs with
 | nil=>
   intro acc r h;exact .inr h
 | cons x rs ih=>
   intro acc r h;have h:jb a rs (if Mt a x/\(∀ b,acc=some b->b.many<x.many) then some x else acc)=some r:=h;rcases ih _ r h with h | h
   ·exact .inl (.tail _ h)
   ·split at h
    ·obtain rfl:=B9 h;exact .inl (.head _)
    ·exact .inr h
theorem QK{a:Int}{rs:List Row}{fs:List jE}{r:Row}(ok:qI rs fs)(h:jb a rs none=some r):Ex2 λ(i:Nat) (f:jE)=>jj (r.face=i) (fs[i]?=some f) (f∈fs) (ya fs r=f.mtu):=by
 rcases road_mem rs none r h with h | h
 ·obtain⟨i,h1,h2⟩:=ok.face r h;refine⟨i,fs[i],h2,BS h1,Cy h1,?_⟩;unfold ya;rw[h2,show(i:Int).toNat=i from rfl,BS h1]
 ·exact nsm h
noncomputable def zp (fs:List jE) (r:Row):jE:=match fs[r.face.toNat]? with
 | some f=>f
 | none=>⟨0,0,0⟩
theorem z5{a:Int}{rs:List Row}{fs:List jE}{r:Row}(ok:qI rs fs)(h:jb a rs none=some r):jj (r.face=(r.face.toNat:Int)) (fs[r.face.toNat]?=some (zp fs r)) (ya fs r=(zp fs r).mtu) (r.face.toNat<fs.length):=by
 obtain⟨i,f,h1,h2,h3,h4⟩:=QK ok h;have e:r.face.toNat=i:=by rw[h1];rfl
 have e2:zp fs r=f:=by unfold zp;rw[e,h2]
 exact⟨by rw[e,h1],by rw[e,e2,h2],by rw[e2,h4],by rw[e];exact(Cb.mp h2).1⟩
noncomputable abbrev coE:Expr:=cmR (boE (ifT (jY 2 (fB 974))) 1)
theorem Xq{us:List T}:∀(fs:List jE) (ex:List (Str×V)) (kc:List T->List jB->Prop),(ex=[]\/∃ x,ex=[(yZ,x)])->kc ((fs.map (·.addr)).map T.int) []->
  zK (ev spC 29) (lcT coE) (lcE coE) (lcI coE) .fix us (fs.map jM) ⟨ex,[],lcS coE⟩ kc:=by
 intro fs;induction fs with
 | nil=>
   intro ex kc hex hk;exact hk
 | cons f fs ih=>
   intro ex kc hex hk;rw[BZ,jy];rcases hex with rfl | ⟨x,rfl⟩
   all_goals
    conv=>whnf
    exact ih _ _ (.inr ⟨_,rfl⟩) hk
structure ym(fs:List jE)(rs:List Row)(h:Hd)(p:List UInt8):Prop where
 ff:jc fs
 rr:qI rs fs
 ok:h.Ok
 more:h.more=false
 off:h.off=0
 pl:p.length<=1000
def gComeb(args:List V)(K:T->Prop)(kx_:Addr->Prop)(fs:List jE)(rs:List Row)(fw:Bool)(h:Hd)(p:List UInt8):Prop:=jT (args=[.p (.lst (fs.map jM)),.p (.lst (rs.map qD)),.p (.bool fw),.p (ua h),.p (.bytes p)]) (ym fs rs h p) (K (.lst ((vc fs rs fw h p).map vdL)))
def gCome:List V->(T->Prop)->(Addr->Prop)->Prop:=λ args K kx_=>Ex5 λ(fs:List jE) (rs:List Row) (fw:Bool) (h:Hd) (p:List UInt8)=>gComeb args K kx_ fs rs fw h p
theorem c_come:∀ args K KX,gCome args K KX->ev spC 40 (.call 974 args [] (pK K) (pX KX)):=by
 rintro args K KX ⟨fs,rs,fw,h,p,rfl,c,hk⟩;have o1:=c.ok.src;have o2:=c.ok.tgt;have hl:=c.ff.len;have hrm:∀ r∈rs,0<=r.many/\r.many<=32:=λ r hr=>(c.rr.ok r hr).many;unfold vc at hk;refine⟨rfl,h.tgt,fs,rfl,o2,c.ff,rfl,h.src,fs,rfl,o1,c.ff,?_⟩;conv=>whnf
 refine br (λ q1=>?_) (λ q1=>?_)
 ·rw[BJ q1] at hk;exact jL hk
 rw[BE (by rw[q1];decide)] at hk;conv=>whnf
 have loc:(jf h.tgt fs||jX h.tgt fs)=true->K (.lst [vdL (.loc h p (jf h.tgt fs))]):=λ e=>by
  rw[BJ e] at hk;exact hk
 refine br (λ q2=>?_) (λ q2=>?_)
 ·have:=loc (by rw[q2];rfl);exact jL this
 refine⟨by rw[BB];lia,?_⟩;refine Xq fs [] _ (.inl rfl) ?_;conv=>whnf
 erw[zJ];conv=>whnf
 erw[yh];refine br (λ q3=>?_) (λ q3=>?_)
 ·have:=loc (by rw[q2,q3];rfl);exact jL this
 rw[BE (by rw[q2,q3];decide)] at hk;conv=>whnf
 have none_:(!fw||(ju h.tgt||(ji h.tgt||decide (h.tgt<16777216))))=true->K (.lst []):=λ e=>by
  rw[BJ e] at hk;exact hk
 refine br (λ q4=>?_) (λ q4=>?_)
 ·exact jL (none_ (by rw[q4];rfl))
 refine⟨rfl,h.tgt,rfl,o2,?_⟩;conv=>whnf
 refine br (λ q5=>?_) (λ q5=>?_)
 ·exact jL (none_ (by rw[q4,q5];rfl))
 refine⟨rfl,h.tgt,rfl,o2,?_⟩;conv=>whnf
 refine br (λ q6=>?_) (λ q6=>?_)
 ·exact jL (none_ (by rw[q4,q5,q6];rfl))
 refine⟨⟨.inl rfl,by decide,by decide⟩,?_⟩;conv=>whnf
 refine br (λ q7=>?_) (λ q7=>?_)
 ·have q7:decide (h.tgt<16777216)=true:=q7;exact jL (none_ (by rw[q4,q5,q6,q7];rfl))
 have q7:decide (h.tgt<16777216)=false:=q7;rw[BE (by rw[q4,q5,q6,q7];decide)] at hk;unfold fwdV at hk;conv=>whnf
 refine brD (λ q8=>?_) (λ q8=>?_)
 ·rw[BJ q8] at hk;exact jL hk
 rw[BE q8] at hk;refine⟨rfl,h.tgt,rs,rfl,hrm,c.rr.len,?_⟩;cases e:jb h.tgt rs none with
 | none=>
   rw[e] at hk;exact jL hk
 | some r=>
   rw[e] at hk;obtain⟨i,f,hi,hfi,hm,hmtu⟩:=QK c.rr e;replace hk:K (.lst (List.map vdL (YV h p r (ya fs r)))):=hk;rw[hmtu] at hk;refine⟨rfl,fs,r,h,p,h.ttl-1,f,i,rfl,c.ff,hfi,hi,c.pl,?_⟩;cases e2:qv { h with ttl:=h.ttl-1 } p r f.mtu with
   | some l=>
     rw[Qa e2] at hk;exact jL hk
   | none=>
     rw[Qb e2] at hk;obtain⟨net,many,gw,face⟩:=r;have hi:face=i:=hi;subst hi;obtain⟨hlt,_⟩:=Cb.mp hfi;conv=>whnf
     erw[v9 c.ff.ne];conv=>whnf
     rw[BB];refine⟨⟨by lia,by lia,by lia⟩,λ t ht=>?_⟩;have ht:(fs.map jM)[i]?=some t:=ht;rw[Bq,hfi] at ht;obtain rfl:=B9 ht;exact jL hk
noncomputable def fwdA (fs:List jE) (rs:List Row) (h:Hd) (p:List UInt8):List Vd:=if(ju h.tgt||(ji h.tgt||decide (h.tgt<16777216)))=true then[] else fwdV fs rs h p
def gForwardb(args:List V)(mem:List jB)(k:KM)(kx:KXM)(h:Hd)(p:List UInt8)(a b:Int)(fs:List jE)(tr:Tr)(cnt:Int)(fw:Bool)(id:Int)(rs:List Row):Prop:=vj (args=[.m 1,.p (hdT h),.p (.bytes p)]) (mem=Lm a b fs tr cnt fw id) (ym fs rs h p) (J7 tr rs) (k (.p (.lst ((fwdA fs rs h p).map vdT))) mem)
def YT:jJ:=λ args mem k kx=>Ex10 λ(h:Hd) (p:List UInt8) (a b:Int) (fs:List jE) (tr:Tr) (cnt:Int) (fw:Bool) (id:Int) (rs:List Row)=>gForwardb args mem k kx h p a b fs tr cnt fw id rs
theorem c_forward:∀ args mem k kx,YT args mem k kx->ev spC 32 (.call 617 args mem k kx):=by
 rintro args mem k kx ⟨h,p,a,b,fs,tr,cnt,fw,id,rs,rfl,rfl,c,htr,hk⟩;have o2:=c.ok.tgt;have hl:=c.ff.len;have hp:=c.pl;have hrm:∀ r∈rs,0<=r.many/\r.many<=32:=λ r hr=>(c.rr.ok r hr).many;unfold fwdA at hk;obtain⟨hsrc,htgt,hproto,hident,httl,htos,hdont,hmore,hoff⟩:=h;have em:hmore=false:=c.more;have eo:hoff=0:=c.off;subst em eo;have none_:(ju htgt||(ji htgt||decide (htgt<16777216)))=true->k (.p (.lst [])) (Lm a b fs tr cnt fw id):=λ e=>by
  replace hk:=(BJ e)▸hk;exact hk
 refine⟨rfl,?_⟩;conv=>whnf
 refine br (λ q5=>?_) (λ q5=>?_)
 ·exact none_ (by refine rwl q5 ?_;simp)
 refine⟨rfl,?_⟩;conv=>whnf
 refine br (λ q6=>?_) (λ q6=>?_)
 ·exact none_ (by refine rwl q6 ?_;simp)
 conv=>whnf
 refine br (λ q7=>?_) (λ q7=>?_)
 ·have q7:decide (htgt<16777216)=true:=q7;exact none_ (by refine rwl q7 ?_;simp)
 have q7:decide (htgt<16777216)=false:=q7;rw[BE (by show ¬(ju htgt||(ji htgt||decide (htgt<16777216)))=true;rw[q5,q6,q7];decide)] at hk;unfold fwdV at hk;conv=>whnf
 refine brD (λ q8=>?_) (λ q8=>?_)
 ·replace hk:=(BJ (show httl<2 by have:httl<=1:=q8;lia))▸hk;exact hk
 replace hk:=(BE (show ¬httl<2 by have:¬httl<=1:=q8;lia))▸hk;refine⟨rfl,tr,cnt,htgt,rfl,htr.node,htr.small,?_⟩;refine rwl (Qf htr hrm) ?_;cases e:jb htgt rs none with
 | none=>
   have e':jb (Hd.mk hsrc htgt hproto hident httl htos hdont false 0).tgt rs none=none:=e;replace hk:=e'▸hk;exact hk
 | some r=>
   have e':jb (Hd.mk hsrc htgt hproto hident httl htos hdont false 0).tgt rs none=some r:=e;replace hk:=e'▸hk;have hRF:=z5 c.rr e;replace hk:k (.p (.lst (List.map vdT (YV ⟨hsrc,htgt,hproto,hident,httl,htos,hdont,false,0⟩ p r (ya fs r))))) (Lm a b fs tr cnt fw id):=hk;replace hk:=hRF.3▸hk;have ok2:(Hd.mk hsrc htgt hproto hident (httl-1) htos hdont false 0).Ok:=by
    have o:=c.ok;have ot:=o.ttl;have:¬ httl<=1:=q8;exact⟨o.src,o.tgt,o.proto,o.ident,⟨by show 0<=httl-1;lia,by show httl-1<256;have:httl<256:=ot.2;lia⟩,o.tos,o.off⟩
   refine⟨⟨hsrc,htgt,hproto,hident,httl-1,htos,hdont,false,0⟩,p,r,a,b,fs,tr,cnt,fw,id,zp fs r,r.face.toNat,rfl,rfl,⟨ok2,rfl,rfl⟩,c.ff,hRF.2,hRF.1,c.pl,λ e2=>?_,λ l e2=>?_⟩
   ·replace hk:=(Qb (h:=⟨hsrc,htgt,hproto,hident,httl,htos,hdont,false,0⟩) e2)▸hk;have hlt:=hRF.4;have hfc:=hRF.1;conv=>whnf
    erw[zV c.ff.ne];conv=>whnf
    rw[BB];refine⟨⟨by lia,by lia,by lia⟩,λ t ht=>?_⟩;have ht:(fs.map yd)[r.face.toNat]?=some t:=ht
    (replace ht:=(Bq)▸ht;replace ht:=hRF.2▸ht)
    obtain rfl:=B9 ht;exact hk
   ·replace hk:=(Qa (h:=⟨hsrc,htgt,hproto,hident,httl,htos,hdont,false,0⟩) e2)▸hk;exact hk
def gNextb(args:List V)(mem:List jB)(k:KM)(kx:KXM)(a b:Int)(fs:List jE)(tr:Tr)(cnt:Int)(fw:Bool):Prop:=jT (args=[.m 1]) (mem=Lm a b fs tr cnt fw 0) (k (.p (.int 1)) (Lm a b fs tr cnt fw 1))
def gNext:jJ:=λ args mem k kx=>Ex6 λ(a b:Int) (fs:List jE) (tr:Tr) (cnt:Int) (fw:Bool)=>gNextb args mem k kx a b fs tr cnt fw
theorem next_eq(a b:Int)(fs:List jE)(tr:Tr)(cnt:Int)(fw:Bool)(k:KM)(kx:KXM):ev spC 20 (.call 570 [.m 1] (Lm a b fs tr cnt fw 0) k kx)=((65536:Int)≠0/\k (.p (.int 1)) (Lm a b fs tr cnt fw 1)):=by kernel_rfl
theorem c_next:∀ args mem k kx,gNext args mem k kx->ev spC 20 (.call 570 args mem k kx):=by
 rintro args mem k kx ⟨a,b,fs,tr,cnt,fw,rfl,rfl,hk⟩;rw[next_eq];exact⟨by decide,hk⟩
def gHdr:List V->(T->Prop)->(Addr->Prop)->Prop:=λ args K _=>∃ h:Hd,args=[.p (.int h.src),.p (.int h.tgt),.p (.int h.proto),.p (.int h.ident),.p (.int h.ttl),.p (.int h.tos),.p (.bool h.dont),.p (.bool h.more),.p (.int h.off),.p (.bytes [])]/\K (hdT h)
theorem hdr_eq(h:Hd)(k:KM)(kx:KXM):ev spC 30 (.call 188 [.p (.int h.src),.p (.int h.tgt),.p (.int h.proto),.p (.int h.ident),.p (.int h.ttl),.p (.int h.tos),.p (.bool h.dont),.p (.bool h.more),.p (.int h.off),.p (.bytes [])] [] k kx)=k (.p (hdT h)) []:=by kernel_rfl
theorem c_hdr:∀ args K KX,gHdr args K KX->ev spC 30 (.call 188 args [] (pK K) (pX KX)):=by
 rintro args K KX ⟨h,rfl,hk⟩;rw[hdr_eq];exact jL hk
noncomputable abbrev p3b:List (Nat×jJ):=[(617,YT),(570,gNext),(188,jR gHdr)]++p3
noncomputable abbrev spD:Addr->Option jJ:=lkS p3b
theorem u8{X:Run}(ok:jv X):jN X spD 252:=by
 exact jN.lay (yz ok) (jD rfl) ⟨jQ (n:=32) ok (yz ok) c_forward (jD rfl),jQ (n:=20) ok (yz ok) c_next (jD rfl),jO (n:=30) ok (yz ok) c_hdr (jD rfl),trivial⟩
def gInputb(args:List V)(mem:List jB)(k:KM)(kx:KXM)(h:Hd)(p:List UInt8)(fc:T)(now:Int)(a b:Int)(fs:List jE)(tr:Tr)(cnt:Int)(fw:Bool)(id:Int)(rs:List Row):Prop:=vj (args=[.m 1,.p (.bytes (qS h p)),.p fc,.p (.int now)]) (mem=Lm a b fs tr cnt fw id) (ym fs rs h p) (J7 tr rs) (k (.p (.lst ((vc fs rs fw h p).map vdT))) mem)
def gInput:jJ:=λ args mem k kx=>Ex12 λ(h:Hd) (p:List UInt8) (fc:T) (now:Int) (a b:Int) (fs:List jE) (tr:Tr) (cnt:Int) (fw:Bool) (id:Int) (rs:List Row)=>gInputb args mem k kx h p fc now a b fs tr cnt fw id rs
theorem c_input:∀ args mem k kx,gInput args mem k kx->ev spD 34 (.call 603 args mem k kx):=by
 rintro args mem k kx ⟨h,p,fc,now,a,b,fs,tr,cnt,fw,id,rs,rfl,rfl,c,htr,hk⟩;have o1:=c.ok.src;have o2:=c.ok.tgt;have hl:=c.ff.len;have hp:=c.pl;have hrm:∀ r∈rs,0<=r.many/\r.many<=32:=λ r hr=>(c.rr.ok r hr).many;unfold vc at hk;refine⟨rfl,h,p,rfl,c.ok,by lia,qj a b,fs,_,_,fw,id,_,h.src,rfl,rfl,c.ff,?_⟩;conv=>whnf
 refine br (λ q1=>?_) (λ q1=>?_)
 ·have q1:jd h.src fs=true:=by simpa using q1
  replace hk:=(BJ q1)▸hk;exact hk
 have q1:jd h.src fs=false:=by simpa using q1
 rw[BE (by rw[q1];decide)] at hk;refine⟨qj a b,fs,_,_,fw,id,_,h.tgt,rfl,rfl,c.ff,?_⟩;have loc:(jf h.tgt fs||jX h.tgt fs)=true->k (.p (.lst [vdT (.loc h p (jf h.tgt fs))])) (Lm a b fs tr cnt fw id):=λ e=>by
  replace hk:=(BJ e)▸hk;exact hk
 obtain⟨hsrc,htgt,hproto,hident,httl,htos,hdont,hmore,hoff⟩:=h;have em:hmore=false:=c.more;have eo:hoff=0:=c.off;subst em eo;conv=>whnf
 refine br (λ q2=>?_) (λ q2=>?_)
 ·have:=loc (by show(jf htgt fs||jX htgt fs)=true;refine rwl q2 ?_;rfl);exact this
 refine⟨qj a b,fs,_,_,fw,id,_,htgt,rfl,rfl,hl,?_⟩;conv=>whnf
 refine br (λ q3=>?_) (λ q3=>?_)
 ·have:=loc (by show(jf htgt fs||jX htgt fs)=true;refine rwl q2 (rwl q3 ?_);rfl);exact this
 rw[BE (by show ¬(jf htgt fs||jX htgt fs)=true;rw[q2,q3];decide)] at hk;have none_:(!fw||(ju htgt||(ji htgt||decide (htgt<16777216))))=true->k (.p (.lst [])) (Lm a b fs tr cnt fw id):=λ e=>by
  replace hk:=(BJ e)▸hk;exact hk
 conv=>whnf
 refine br (λ q4=>?_) (λ q4=>?_)
 ·exact none_ (by refine rwl q4 ?_;rfl)
 refine⟨⟨hsrc,htgt,hproto,hident,httl,htos,hdont,false,0⟩,p,a,b,fs,tr,cnt,fw,id,rs,rfl,rfl,c,htr,?_⟩;have e:(if(!fw||(ju htgt||(ji htgt||decide (htgt<16777216))))=true then[] else fwdV fs rs ⟨hsrc,htgt,hproto,hident,httl,htos,hdont,false,0⟩ p)=fwdA fs rs ⟨hsrc,htgt,hproto,hident,httl,htos,hdont,false,0⟩ p:=by
  refine rwl q4 ?_;rfl
 refine rwl e.symm ?_;exact hk
noncomputable def YQ (fs:List jE) (rs:List Row) (h:Hd):Option Row:=if ji h.tgt=true then none else jb h.tgt rs none
noncomputable def Zr (f:Vd->T):Option (List Vd)->T
 | none=>.str n19
 | some l=>.lst (l.map f)
noncomputable def yt (f:Vd->T) (fs:List jE) (rs:List Row) (h:Hd) (p:List UInt8):T:=
 if jX h.tgt fs=true then .lst [f (.loc h p false)] else match YQ fs rs h with
  | none=>.str w6
  | some r=>Zr f (qv h p r (ya fs r))
noncomputable abbrev goE:Expr:=cmR (ifT (jY 0 (fB 979)))
theorem Xp{us:List T}:∀(fs:List jE) (ex:List (Str×V)) (kc:List T->List jB->Prop),(ex=[]\/∃ x,ex=[(yZ,x)])->kc ((fs.map (·.addr)).map T.int) []->
  zK (ev spC 34) (lcT goE) (lcE goE) (lcI goE) .fix us (fs.map jM) ⟨ex,[],lcS goE⟩ kc:=by
 intro fs;induction fs with
 | nil=>
   intro ex kc hex hk;exact hk
 | cons f fs ih=>
   intro ex kc hex hk;rw[BZ,jy];rcases hex with rfl | ⟨x,rfl⟩
   all_goals
    conv=>whnf
    exact ih _ _ (.inr ⟨_,rfl⟩) hk
def gGoneb(args:List V)(K:T->Prop)(kx_:Addr->Prop)(fs:List jE)(rs:List Row)(h:Hd)(p:List UInt8):Prop:=jT (args=[.p (.lst (fs.map jM)),.p (.lst (rs.map qD)),.p (ua h),.p (.bytes p)]) (ym fs rs h p) (K (yt vdL fs rs h p))
def gGone:List V->(T->Prop)->(Addr->Prop)->Prop:=λ args K kx_=>Ex4 λ(fs:List jE) (rs:List Row) (h:Hd) (p:List UInt8)=>gGoneb args K kx_ fs rs h p
theorem c_gone:∀ args K KX,gGone args K KX->ev spC 40 (.call 979 args [] (pK K) (pX KX)):=by
 rintro args K KX ⟨fs,rs,h,p,rfl,c,hk⟩;have o2:=c.ok.tgt;have hl:=c.ff.len;have hrm:∀ r∈rs,0<=r.many/\r.many<=32:=λ r hr=>(c.rr.ok r hr).many;unfold yt at hk;refine⟨by rw[BB];lia,?_⟩;refine Xp fs [] _ (.inl rfl) ?_;conv=>whnf
 erw[zJ];conv=>whnf
 erw[yh];refine br (λ q1=>?_) (λ q1=>?_)
 ·rw[BJ q1] at hk;exact jL hk
 rw[BE (by rw[q1];decide)] at hk;unfold YQ at hk;refine⟨rfl,h.tgt,rfl,o2,?_⟩;conv=>whnf
 refine br (λ q2=>?_) (λ q2=>?_)
 ·rw[BJ q2] at hk;exact jL hk
 rw[BE (by rw[q2];decide)] at hk;refine⟨rfl,h.tgt,rs,rfl,hrm,c.rr.len,?_⟩;cases e:jb h.tgt rs none with
 | none=>
   rw[e] at hk;exact jL hk
 | some r=>
   rw[e] at hk;have hRF:=z5 c.rr e;replace hk:K (Zr vdL (qv h p r (ya fs r))):=hk;rw[hRF.3] at hk;refine⟨rfl,fs,r,h,p,h.ttl,zp fs r,r.face.toNat,rfl,c.ff,hRF.2,hRF.1,c.pl,?_⟩;have hk:K (Zr vdL (qv { h with ttl:=h.ttl } p r (zp fs r).mtu)):=hk;cases e2:qv { h with ttl:=h.ttl } p r (zp fs r).mtu with
   | none=>
     rw[e2] at hk;exact jL hk
   | some l=>
     rw[e2] at hk;exact jL hk
noncomputable def qR (s t:Int) (d:Bool):Hd:=⟨s,t,17,1,9,0,d,false,0⟩
def gOutputb(args:List V)(mem:List jB)(k:KM)(kx:KXM)(s t:Int)(d:Bool)(p:List UInt8)(a b:Int)(fs:List jE)(tr:Tr)(cnt:Int)(fw:Bool)(rs:List Row):Prop:=And8 (args=[.m 1,.p (.int 17),.p (.int s),.p (.int t),.p (.bytes p),.p (.int 9),.p (.bool d)]) (mem=Lm a b fs tr cnt fw 0) (ym fs rs (qR s t d) p) (J7 tr rs) (jX t fs=true->k (.p (.lst [vdT (.loc (qR s t d) p false)])) (Lm a b fs tr cnt fw 1)) (jX t fs=false->ji t=true\/jb t rs none=none->kx 75 (Lm a b fs tr cnt fw 1)) (∀ r,jX t fs=false->ji t=false->jb t rs none=some r->qv (qR s t d) p r (ya fs r)=none->kx 63 (Lm a b fs tr cnt fw 1)) (∀ r l,jX t fs=false->ji t=false->jb t rs none=some r->qv (qR s t d) p r (ya fs r)=some l->k (.p (.lst (l.map vdT))) (Lm a b fs tr cnt fw 1))
def U2:jJ:=λ args mem k kx=>Ex11 λ(s t:Int) (d:Bool) (p:List UInt8) (a b:Int) (fs:List jE) (tr:Tr) (cnt:Int) (fw:Bool) (rs:List Row)=>gOutputb args mem k kx s t d p a b fs tr cnt fw rs
theorem c_output:∀ args mem k kx,U2 args mem k kx->ev spD 40 (.call 653 args mem k kx):=by
 rintro args mem k kx ⟨s,t,d,p,a,b,fs,tr,cnt,fw,rs,rfl,rfl,c,htr,h1,h2,h3,h4⟩;have o2:0<=t/\t<4294967296:=c.ok.tgt;have hl:=c.ff.len;have hp:=c.pl;have hrm:∀ r∈rs,0<=r.many/\r.many<=32:=λ r hr=>(c.rr.ok r hr).many;refine⟨a,b,fs,tr,cnt,fw,rfl,rfl,rfl,qR s t d,rfl,by decide,by lia,?_⟩;conv=>whnf
 refine brF (BX (by show ¬65535<(20:Int)+p.length;lia)) ?_;refine⟨qj a b,fs,_,_,fw,1,_,t,rfl,rfl,hl,?_⟩;conv=>whnf
 refine br (λ q1=>?_) (λ q1=>?_)
 ·exact h1 q1
 refine⟨t,a,b,fs,tr,cnt,fw,1,rs,rfl,rfl,o2,htr,hrm,λ e=>?_,λ r q2 e=>?_⟩
 ·exact h2 q1 e
 ·have hRF:=z5 c.rr e;refine⟨qR s t d,p,r,a,b,fs,tr,cnt,fw,1,zp fs r,r.face.toNat,rfl,rfl,⟨c.ok,rfl,rfl⟩,c.ff,hRF.2,hRF.1,c.pl,λ e2=>?_,λ l e2=>?_⟩
  ·have h5:=h3 r q1 q2 e (by rw[hRF.3];exact e2);conv=>whnf
   exact h5
  ·have h5:=h4 r l q1 q2 e (by rw[hRF.3];exact e2);conv=>whnf
   exact h5
def gSourceb(args:List V)(mem:List jB)(k:KM)(kx:KXM)(t a b:Int)(fs:List jE)(tr:Tr)(cnt:Int)(fw:Bool)(id:Int)(rs:List Row):Prop:=And9 (args=[.m 1,.p (.int t)]) (mem=Lm a b fs tr cnt fw id) (0<=t/\t<4294967296) (jc fs) (qI rs fs) (J7 tr rs) (jX t fs=true->k (.p (.int t)) mem) (jX t fs=false->ji t=true\/jb t rs none=none->kx 75 mem) (∀ r,jX t fs=false->ji t=false->jb t rs none=some r->k (.p (.int (zp fs r).addr)) mem)
def Uz:jJ:=λ args mem k kx=>Ex9 λ(t a b:Int) (fs:List jE) (tr:Tr) (cnt:Int) (fw:Bool) (id:Int) (rs:List Row)=>gSourceb args mem k kx t a b fs tr cnt fw id rs
theorem c_source:∀ args mem k kx,Uz args mem k kx->ev spC 30 (.call 638 args mem k kx):=by
 rintro args mem k kx ⟨t,a,b,fs,tr,cnt,fw,id,rs,rfl,rfl,ht,hf,hr,htr,h1,h2,h3⟩;have hl:=hf.len;have hrm:∀ r∈rs,0<=r.many/\r.many<=32:=λ r hx=>(hr.ok r hx).many;refine⟨qj a b,fs,_,_,fw,id,_,t,rfl,rfl,hl,?_⟩;conv=>whnf
 refine br (λ q1=>?_) (λ q1=>?_)
 ·exact h1 q1
 refine⟨t,a,b,fs,tr,cnt,fw,id,rs,rfl,rfl,ht,htr,hrm,λ e=>?_,λ r q2 e=>?_⟩
 ·exact h2 q1 e
 ·have hRF:=z5 hr e;have hlt:=hRF.4;have hfc:=hRF.1;conv=>whnf
  erw[zV hf.ne];conv=>whnf
  rw[BB];refine⟨⟨by lia,by lia,by lia⟩,λ u hu=>?_⟩;have hu:(fs.map yd)[r.face.toNat]?=some u:=hu;rw[Bq,hRF.2] at hu;obtain rfl:=B9 hu;exact h3 r q1 q2 e
def gWantb(args:List V)(mem:List jB)(k:KM)(kx:KXM)(t a b:Int)(fs:List jE)(tr:Tr)(cnt:Int)(fw:Bool)(id:Int):Prop:=vj (args=[.m 1,.p (.int t)]) (mem=Lm a b fs tr cnt fw id) (jc fs) ((jf t fs||ju t)=true->kx 75 mem) ((jf t fs||ju t)=false->k (.p .none) mem)
def gWant:jJ:=λ args mem k kx=>Ex8 λ(t a b:Int) (fs:List jE) (tr:Tr) (cnt:Int) (fw:Bool) (id:Int)=>gWantb args mem k kx t a b fs tr cnt fw id
theorem c_want:∀ args mem k kx,gWant args mem k kx->ev spC 30 (.call 645 args mem k kx):=by
 rintro args mem k kx ⟨t,a,b,fs,tr,cnt,fw,id,rfl,rfl,hf,h1,h2⟩;refine⟨qj a b,fs,_,_,fw,id,_,t,rfl,rfl,hf,?_⟩;conv=>whnf
 refine br (λ q1=>?_) (λ q1=>?_)
 ·exact h1 (by rw[q1];rfl)
 refine⟨rfl,?_⟩;conv=>whnf
 refine br (λ q2=>?_) (λ q2=>?_)
 ·exact h1 (by rw[q1,q2];rfl)
 ·exact h2 (by rw[q1,q2];rfl)
noncomputable abbrev dgO (ah:Int) (fi:T) (sz:Int):jB:=.inst 773 [(n224,.p (.int 100)),(vN,.p (.int 65535)),(n225,.m 5),(n226,.m 6),(YB,.p .none),(n227,.p (.int ah)),(n73,.p fi),(n19,.p (.int sz))]
noncomputable abbrev hoO (v:V):jB:=.inst 719 [(vN,.p (.int 65535)),(v0,v)]
noncomputable abbrev ho0:jB:=hoO (.p (.lst [.tup [.int 0,.int 65535]]))
noncomputable abbrev mX (a b:Int) (fs:List jE) (tr:Tr) (cnt:Int) (fw:Bool) (w:jB) (r:List jB):List jB:=qj a b::yM fs (.p (rtT tr cnt)) (.m 2) fw 0::reO 3::w::r
section
variable(a b:Int)(fs:List jE)(tr:Tr)(cnt:Int)(fw:Bool)(w:jB)(k:KM)(kx:KXM)
theorem dg_eq:ev spD 30 (.call 773 [.p (.int 100),.p (.int 65535)] (mX a b fs tr cnt fw (.dict [] 0) []) k kx)=k (.m 4) (mX a b fs tr cnt fw (.dict [] 0) [dgO 0 .none 0,ho0,.plst []]):=by kernel_rfl
end
def gDgb(args:List V)(mem:List jB)(k:KM)(kx:KXM)(a b:Int)(fs:List jE)(tr:Tr)(cnt:Int)(fw:Bool):Prop:=jT (args=[.p (.int 100),.p (.int 65535)]) (mem=mX a b fs tr cnt fw (.dict [] 0) []) (k (.m 4) (mX a b fs tr cnt fw (.dict [] 0) [dgO 0 .none 0,ho0,.plst []]))
def gDg:jJ:=λ args mem k kx=>Ex6 λ(a b:Int) (fs:List jE) (tr:Tr) (cnt:Int) (fw:Bool)=>gDgb args mem k kx a b fs tr cnt fw
theorem c_dg:∀ args mem k kx,gDg args mem k kx->ev spD 30 (.call 773 args mem k kx):=by
 rintro args mem k kx ⟨a,b,fs,tr,cnt,fw,rfl,rfl,hk⟩;rw[dg_eq];exact hk
noncomputable abbrev keyT (h:Hd):T:=.tup [.int h.src,.int h.tgt,.int h.proto,.int h.ident]
noncomputable abbrev wK (h:Hd) (ep:Nat):jB:=.dict [(keyT h,.m 4)] ep
def gFillb(args:List V)(mem:List jB)(k:KM)(kx:KXM)(n a b:Int)(fs:List jE)(tr:Tr)(cnt:Int)(fw:Bool)(h:Hd)(ep:Nat):Prop:=jj (args=[.m 5,.p (.int 0),.p (.int n)]) (0<n/\n<1000) (mem=mX a b fs tr cnt fw (wK h ep) [dgO 0 .none 0,ho0,.plst []]) (k (.m 7) (mX a b fs tr cnt fw (wK h ep) [dgO 0 .none 0,hoO (.m 8),.plst [],.plst [.tup [.int 0,.int n]],.plst [.tup [.int n,.int 65535]]]))
def gFill:jJ:=λ args mem k kx=>Ex9 λ(n a b:Int) (fs:List jE) (tr:Tr) (cnt:Int) (fw:Bool) (h:Hd) (ep:Nat)=>gFillb args mem k kx n a b fs tr cnt fw h ep
theorem c_fill:∀ args mem k kx,gFill args mem k kx->ev spD 30 (.call 695 args mem k kx):=by
 rintro args mem k kx ⟨n,a,b,fs,tr,cnt,fw,h,ep,rfl,hn,rfl,hk⟩;have e1:max (0:Int) 0=0:=rfl;have e2:min (65535:Int) n=n:=by lia
 refine⟨by simp,?_⟩;conv=>whnf
 refine brF (BX (by show ¬ min (65535:Int) n<=max (0:Int) 0;lia)) ?_;refine⟨by simp,?_⟩;conv=>whnf
 refine brT (Bf (by show min (65535:Int) n<65535;lia)) ?_;refine⟨by simp,?_⟩;refine rwl e2 ?_;exact hk
noncomputable abbrev p5:List (Nat×jJ):=[(773,gDg),(695,gFill)]++p3b
noncomputable abbrev spE:Addr->Option jJ:=lkS p5
theorem Qw{X:Run}(ok:jv X):jN X spE 282:=by
 exact jN.lay (u8 ok) (jD rfl) ⟨jQ (n:=30) ok (u8 ok) c_dg (jD rfl),jQ (n:=30) ok (u8 ok) c_fill (jD rfl),trivial⟩
noncomputable def nn (p:List UInt8):Int:=0+p.length
noncomputable def pp (p:List UInt8):List UInt8:=jG p (some (0-0)) (some (nn p-0))
theorem pp_eq(p:List UInt8):pp p=p:=by
 have e:nn p-0=(p.length:Int):=by unfold nn;rw[Int.sub_zero,D0]
 unfold pp;refine rwl e ?_;unfold jG lim;simp
noncomputable abbrev dgR (h:Hd) (p:List UInt8):List jB:=[dgO (max 0 (nn p)) (hdT h) (0+nn p-0),hoO (.m 8),.plst [.tup [.int 0,.bytes (pp p)]],.plst [.tup [.int 0,.int (nn p)]],.plst [.tup [.int (nn p),.int 65535]]]
structure Frag(h:Hd)(p:List UInt8):Prop where
 ok:h.Ok
 more:h.more=true
 off:h.off=0
 p:8<=p.length/\p.length<=24/\p.length%8=0
def gDputb(args:List V)(mem:List jB)(k:KM)(kx:KXM)(a b:Int)(fs:List jE)(tr:Tr)(cnt:Int)(fw:Bool)(h:Hd)(p:List UInt8)(ep:Nat):Prop:=jj (args=[.m 4,.p (hdT h),.p (.bytes p)]) (Frag h p) (mem=mX a b fs tr cnt fw (wK h ep) [dgO 0 .none 0,ho0,.plst []]) (k (.p (.bool true)) (mX a b fs tr cnt fw (wK h ep) (dgR h p)))
def gDput:jJ:=λ args mem k kx=>Ex9 λ(a b:Int) (fs:List jE) (tr:Tr) (cnt:Int) (fw:Bool) (h:Hd) (p:List UInt8) (ep:Nat)=>gDputb args mem k kx a b fs tr cnt fw h p ep
theorem c_dput:∀ args mem k kx,gDput args mem k kx->ev spE 40 (.call 751 args mem k kx):=by
 rintro args mem k kx ⟨a,b,fs,tr,cnt,fw,h,p,ep,rfl,hF,rfl,hk⟩;have hp:=hF.p;obtain⟨hsrc,htgt,hproto,hident,httl,htos,hdont,hmore,hoff⟩:=h;have em:hmore=true:=hF.more;have eo:hoff=0:=hF.off;subst em eo;have hn:nn p=(p.length:Int):=D0 _;refine⟨CC hp.2.1 (by decide),by decide,?_⟩;conv=>whnf
 refine brF (BX (Bg.mpr (rwl hn (BM (Int.add_le_add_left (Bv.mpr hp.2.1) 20) (by decide)):(20:Int)+nn p<=65535))) ?_;conv=>whnf
 refine brF (BX (Bg.mpr (rwl hn (BM (Bv.mpr hp.2.1) (by decide)):nn p<=65535))) ?_;refine⟨nn p,a,b,fs,tr,cnt,fw,⟨hsrc,htgt,hproto,hident,httl,htos,hdont,true,0⟩,ep,rfl,⟨rwl hn (Cq.mpr (BY (by decide) hp.1)),rwl hn (Bm (Bv.mpr hp.2.1) (by decide))⟩,rfl,rfl,by simp,BF hp.2.1 (by decide),by simp,rfl,?_⟩;exact hk
def gToldOb(args:List V)(mem:List jB)(k:KM)(kx:KXM)(a b:Int)(fs:List jE)(tr:Tr)(cnt:Int)(fw:Bool)(h:Hd)(p:List UInt8)(w:jB)(r:List jB):Prop:=jj (args=[.m 4]) (p.length<=1000) (mem=mX a b fs tr cnt fw w (dgR h p++r)) (k (.p (.bytes (jG (pp p) none (some 8)))) mem)
def gToldO:jJ:=λ args mem k kx=>Ex10 λ(a b:Int) (fs:List jE) (tr:Tr) (cnt:Int) (fw:Bool) (h:Hd) (p:List UInt8) (w:jB) (r:List jB)=>gToldOb args mem k kx a b fs tr cnt fw h p w r
theorem c_toldO:∀ args mem k kx,gToldO args mem k kx->ev spE 40 (.call 770 args mem k kx):=by
 rintro args mem k kx ⟨a,b,fs,tr,cnt,fw,h,p,w,r,rfl,hp,rfl,hk⟩;have hpl:(pp p).length<=1000:=by rw[pp_eq];exact hp
 refine⟨by simp,by decide,by simp;lia,by simp;lia,?_⟩;exact jw (b:=false) (BN _) rfl hk
theorem vS(h:Hd):T.eqB (keyT h) (keyT h)=true:=by simp[zu,wg,uU,ye,uV,XC,uT,YY,YZ,XB]
def gMkRoomb(args:List V)(mem:List jB)(k:KM)(kx:KXM)(a b:Int)(fs:List jE)(tr:Tr)(cnt:Int)(fw:Bool)(h:Hd)(p:List UInt8)(ep:Nat):Prop:=jj (args=[.m 2]) (Frag h p) (mem=mX a b fs tr cnt fw (wK h ep) (dgR h p)) (k (.p .none) mem)
def U4:jJ:=λ args mem k kx=>Ex9 λ(a b:Int) (fs:List jE) (tr:Tr) (cnt:Int) (fw:Bool) (h:Hd) (p:List UInt8) (ep:Nat)=>gMkRoomb args mem k kx a b fs tr cnt fw h p ep
theorem c_mkRoom:∀ args mem k kx,U4 args mem k kx->ev spE 40 (.call 839 args mem k kx):=by
 rintro args mem k kx ⟨a,b,fs,tr,cnt,fw,h,p,ep,rfl,hF,rfl,hk⟩;have hp:=hF.p;have hn:nn p=0+(p.length:Int):=rfl;conv=>whnf
 refine rwl (show(70000:Nat)=69999+1 from rfl) (rwl ww ?_);refine⟨⟨rfl,rfl⟩,by show 1<=100000;decide,vS h,⟨rfl,rfl⟩,?_⟩;conv=>whnf
 refine brF (BX (by show ¬ 1000<List.sum [0+nn p-0];simp only[List.sum_cons,List.sum_nil];lia)) ?_;exact hk
noncomputable abbrev p6:List (Nat×jJ):=[(751,gDput),(770,gToldO),(839,U4)]++p5
noncomputable abbrev spF:Addr->Option jJ:=lkS p6
theorem Y8{X:Run}(ok:jv X):jN X spF 322:=by
 exact jN.lay (Qw ok) (jD rfl) ⟨jQ (n:=40) ok (Qw ok) c_dput (jD rfl),jQ (n:=40) ok (Qw ok) c_toldO (jD rfl),jQ (n:=40) ok (Qw ok) c_mkRoom (jD rfl),trivial⟩
def gPutb(args:List V)(mem:List jB)(k:KM)(kx:KXM)(a b:Int)(fs:List jE)(tr:Tr)(cnt:Int)(fw:Bool)(h:Hd)(p:List UInt8):Prop:=jj (args=[.m 2,.p (hdT h),.p (.bytes p),.p (.int 100)]) (Frag h p) (mem=mX a b fs tr cnt fw (.dict [] 0) []) (∀ ep,k (.p .none) (mX a b fs tr cnt fw (wK h ep) (dgR h p)))
def gPut:jJ:=λ args mem k kx=>Ex8 λ(a b:Int) (fs:List jE) (tr:Tr) (cnt:Int) (fw:Bool) (h:Hd) (p:List UInt8)=>gPutb args mem k kx a b fs tr cnt fw h p
theorem c_put:∀ args mem k kx,gPut args mem k kx->ev spF 40 (.call 820 args mem k kx):=by
 rintro args mem k kx ⟨a,b,fs,tr,cnt,fw,h,p,rfl,hF,rfl,hk⟩;have hp:=hF.p;have hne:(p == [])=false:=by
  induction p using BA with
  | nil=>simp at hp
  | cons x p=>rfl
 have hmod:Int.fmod (p.length:Int) 8=0:=by refine rwl (zn (by decide)) ?_;lia
 obtain⟨hsrc,htgt,hproto,hident,httl,htos,hdont,hmore,hoff⟩:=h;have em:hmore=true:=hF.more;have eo:hoff=0:=hF.off;subst em eo;refine⟨rfl,?_⟩;refine brF hne ?_;refine⟨by lia,by decide,?_⟩;refine rwl hmod ?_;refine⟨a,b,fs,tr,cnt,fw,rfl,rfl,?_⟩;conv=>whnf
 intro ep;refine⟨vS ⟨hsrc,htgt,hproto,hident,httl,htos,hdont,true,0⟩,a,b,fs,tr,cnt,fw,⟨hsrc,htgt,hproto,hident,httl,htos,hdont,true,0⟩,p,ep,rfl,hF,rfl,a,b,fs,tr,cnt,fw,⟨hsrc,htgt,hproto,hident,httl,htos,hdont,true,0⟩,p,ep,rfl,hF,rfl,?_⟩;exact hk ep
def gExpb(args:List V)(mem:List jB)(k:KM)(kx:KXM)(a b:Int)(fs:List jE)(tr:Tr)(cnt:Int)(fw:Bool)(h:Hd)(p:List UInt8)(ep:Nat)(now:Int):Prop:=jT (args=[.m 2,.p (.int now)]) (Frag h p) ((jT (now=129) (mem=mX a b fs tr cnt fw (wK h ep) (dgR h p++[.plst []])) (k (.p (.lst [])) mem))\/(jT (now=130) (mem=mX a b fs tr cnt fw (wK h ep) (dgR h p++[.plst []])) (∀ ep',k (.p (.lst [.tup [hdT h,.bytes (jG (pp p) none (some 8))]])) (mX a b fs tr cnt fw (.dict [] ep') (dgR h p++[.plst []]))))\/∃ r,jT (r=[.plst []]\/r=dgR h p++[.plst []]) (mem=mX a b fs tr cnt fw (.dict [] ep) r) (k (.p (.lst [])) mem))
def gExp:jJ:=λ args mem k kx=>Ex10 λ(a b:Int) (fs:List jE) (tr:Tr) (cnt:Int) (fw:Bool) (h:Hd) (p:List UInt8) (ep:Nat) (now:Int)=>gExpb args mem k kx a b fs tr cnt fw h p ep now
theorem c_exp:∀ args mem k kx,gExp args mem k kx->ev spF 40 (.call 846 args mem k kx):=by
 rintro args mem k kx ⟨a,b,fs,tr,cnt,fw,h,p,ep,now,rfl,hF,⟨rfl,rfl,hk⟩ | ⟨rfl,rfl,hk⟩ | ⟨r,rfl | rfl,rfl,hk⟩⟩
 ·refine⟨by simp,?_⟩;refine⟨vS h,?_⟩;conv=>whnf
  exact hk
 ·have hp:=hF.p;refine⟨by simp,vS h,?_⟩;refine⟨vS h,λ ep'=>?_⟩;refine⟨a,b,fs,tr,cnt,fw,h,p,.dict [] ep',[.plst [],.plst []],rfl,by lia,rfl,by simp,?_⟩;exact hk ep'
 ·refine⟨by simp,?_⟩;exact hk
 ·refine⟨by simp,?_⟩;exact hk
noncomputable abbrev p7:List (Nat×jJ):=[(820,gPut),(846,gExp)]++p6
noncomputable abbrev spG:Addr->Option jJ:=lkS p7
theorem Y7{X:Run}(ok:jv X):jN X spG 362:=by
 exact jN.lay (Y8 ok) (jD rfl) ⟨jQ (n:=40) ok (Y8 ok) c_put (jD rfl),jQ (n:=40) ok (Y8 ok) c_exp (jD rfl),trivial⟩
noncomputable def uP (h:Hd) (fs:List jE):Bool:=!jd h.src fs&&(jf h.tgt fs||jX h.tgt fs)
def gInputXb(args:List V)(mem:List jB)(k:KM)(kx:KXM)(h:Hd)(p:List UInt8)(a b:Int)(fs:List jE)(tr:Tr)(cnt:Int):Prop:=And6 (args=[.m 1,.p (.bytes (qS h p)),.p (.int 0),.p (.int 100)]) (mem=mX a b fs tr cnt false (.dict [] 0) []) (Frag h p) (jc fs) (uP h fs=false->k (.p (.lst [])) mem) (uP h fs=true->∀ ep,k (.p (.lst [])) (mX a b fs tr cnt false (wK h ep) (dgR h p)))
def U5:jJ:=λ args mem k kx=>Ex7 λ(h:Hd) (p:List UInt8) (a b:Int) (fs:List jE) (tr:Tr) (cnt:Int)=>gInputXb args mem k kx h p a b fs tr cnt
theorem c_inputX:∀ args mem k kx,U5 args mem k kx->ev spG 36 (.call 603 args mem k kx):=by
 rintro args mem k kx ⟨h,p,a,b,fs,tr,cnt,rfl,rfl,hF,hf,h1,h2⟩;have hp:=hF.p;have hl:=hf.len;unfold uP at h1 h2;have fin:(jf h.tgt fs||jX h.tgt fs)=true->jd h.src fs=false->∀ ep,k (.p (.lst [])) (mX a b fs tr cnt false (wK h ep) (dgR h p)):=λ e q=>h2 (by refine rwl e (rwl q ?_);rfl);have no1:jd h.src fs=true->k (.p (.lst [])) (mX a b fs tr cnt false (.dict [] 0) []):=λ q=>h1 (by refine rwl q ?_;rfl);have no2:(jf h.tgt fs||jX h.tgt fs)=false->k (.p (.lst [])) (mX a b fs tr cnt false (.dict [] 0) []):=λ q=>h1 (by refine rwl q ?_;simp);clear h1 h2;refine⟨rfl,h,p,rfl,hF.ok,by lia,qj a b,fs,_,_,false,0,_,h.src,rfl,rfl,hf,?_⟩;conv=>whnf
 refine br (λ q1=>?_) (λ q1=>?_)
 ·exact no1 (by simpa using q1)
 have q1:jd h.src fs=false:=by simpa using q1
 refine⟨qj a b,fs,_,_,false,0,_,h.tgt,rfl,rfl,hf,?_⟩;obtain⟨hsrc,htgt,hproto,hident,httl,htos,hdont,hmore,hoff⟩:=h;have em:hmore=true:=hF.more;have eo:hoff=0:=hF.off;subst em eo;have put:(jf htgt fs||jX htgt fs)=true->gPut [.m 2,.p (hdT ⟨hsrc,htgt,hproto,hident,httl,htos,hdont,true,0⟩),.p (.bytes p),.p (.int 100)] (mX a b fs tr cnt false (.dict [] 0) []) (λ _ mem=>k (.p (.lst [])) mem) kx:=λ e=>
  ⟨a,b,fs,tr,cnt,false,⟨hsrc,htgt,hproto,hident,httl,htos,hdont,true,0⟩,p,rfl,hF,rfl,λ ep=>fin e q1 ep⟩
 conv=>whnf
 refine br (λ q2=>?_) (λ q2=>?_)
 ·refine⟨a,b,fs,tr,cnt,false,⟨hsrc,htgt,hproto,hident,httl,htos,hdont,true,0⟩,p,rfl,hF,rfl,λ ep=>?_⟩;conv=>whnf
  exact fin (by show(jf htgt fs||jX htgt fs)=true;refine rwl q2 ?_;rfl) q1 ep
 refine⟨qj a b,fs,_,_,false,0,_,htgt,rfl,rfl,hl,?_⟩;conv=>whnf
 refine br (λ q3=>?_) (λ q3=>?_)
 ·refine⟨a,b,fs,tr,cnt,false,⟨hsrc,htgt,hproto,hident,httl,htos,hdont,true,0⟩,p,rfl,hF,rfl,λ ep=>?_⟩;conv=>whnf
  exact fin (by show(jf htgt fs||jX htgt fs)=true;refine rwl q2 (rwl q3 ?_);rfl) q1 ep
 ·exact no2 (by show(jf htgt fs||jX htgt fs)=false;refine rwl q2 (rwl q3 ?_);rfl)
def gLexpb(args:List V)(mem:List jB)(k:KM)(kx:KXM)(a b:Int)(fs:List jE)(tr:Tr)(cnt:Int)(fw:Bool)(h:Hd)(p:List UInt8)(ep:Nat)(now:Int):Prop:=jj (args=[.m 1,.p (.int now)]) (Frag h p) (jc fs) ((jT (now=129) (mem=mX a b fs tr cnt fw (wK h ep) (dgR h p)) (k (.p (.lst [])) mem))\/(jT (now=130) (mem=mX a b fs tr cnt fw (wK h ep) (dgR h p)) (∀ ep',k (.p (.lst [vdT (.tell 11 1 0 h (jG (pp p) none (some 8)) (jf h.tgt fs))])) (mX a b fs tr cnt fw (.dict [] ep') (dgR h p))))\/(mem=mX a b fs tr cnt fw (.dict [] ep) []/\k (.p (.lst [])) mem)\/(mem=mX a b fs tr cnt fw (.dict [] ep) (dgR h p)/\k (.p (.lst [])) mem))
def gLexp:jJ:=λ args mem k kx=>Ex10 λ(a b:Int) (fs:List jE) (tr:Tr) (cnt:Int) (fw:Bool) (h:Hd) (p:List UInt8) (ep:Nat) (now:Int)=>gLexpb args mem k kx a b fs tr cnt fw h p ep now
theorem c_lexp:∀ args mem k kx,gLexp args mem k kx->ev spG 40 (.call 667 args mem k kx):=by
 rintro args mem k kx ⟨a,b,fs,tr,cnt,fw,h,p,ep,now,rfl,hF,hf,⟨rfl,rfl,hk⟩ | ⟨rfl,rfl,hk⟩ | ⟨rfl,hk⟩ | ⟨rfl,hk⟩⟩
 ·refine⟨a,b,fs,tr,cnt,fw,h,p,ep,129,rfl,hF,.inl ⟨rfl,rfl,?_⟩⟩;refine⟨by simp,?_⟩;exact hk
 ·refine⟨a,b,fs,tr,cnt,fw,h,p,ep,130,rfl,hF,.inr (.inl ⟨rfl,rfl,λ ep'=>?_⟩)⟩;refine⟨by simp,qj a b,fs,_,_,fw,0,_,h.tgt,rfl,rfl,hf,by simp,?_⟩;exact hk ep'
 ·refine⟨a,b,fs,tr,cnt,fw,h,p,ep,now,rfl,hF,.inr (.inr ⟨_,.inl rfl,rfl,?_⟩)⟩;refine⟨by simp,?_⟩;exact hk
 ·refine⟨a,b,fs,tr,cnt,fw,h,p,ep,now,rfl,hF,.inr (.inr ⟨_,.inr rfl,rfl,?_⟩)⟩;refine⟨by simp,?_⟩;exact hk
def gIn:jJ:=λ args mem k kx=>gInput args mem k kx\/U5 args mem k kx
noncomputable abbrev p8:List (Nat×jJ):=[(957,gLayer),(603,gIn),(667,gLexp),(653,U2),(638,Uz),(645,gWant),(974,jR gCome),(979,jR gGone)]++p7
noncomputable abbrev spH:Addr->Option jJ:=lkS p8
theorem Qt{X:Run}(ok:jv X):jN X spH 402:=by
 exact jN.lay (Y7 ok) (jD rfl) ⟨λ args mem k kx hF=>(Den.tidy (sound ok (sp5_ok ok) 30 _ (c_layer args mem k kx hF))).mono (jD rfl),λ args mem k kx hF=>hF.elim (λ hF=>(sound ok (u8 ok) 34 _ (c_input args mem k kx hF)).mono (jD rfl)) (λ hF=>(sound ok (Y7 ok) 36 _ (c_inputX args mem k kx hF)).mono (jD rfl)),jQ (n:=40) ok (Y7 ok) c_lexp (jD rfl),jQ (n:=40) ok (u8 ok) c_output (jD rfl),jQ (n:=30) ok (yz ok) c_source (jD rfl),jQ (n:=30) ok (yz ok) c_want (jD rfl),jO (n:=40) ok (yz ok) c_come (jD rfl),jO (n:=40) ok (yz ok) c_gone (jD rfl),trivial⟩
theorem same_vdL(v:Vd):T.same 7 (vdL v) (vdL v)=true:=by cases v <;> rfl
theorem vG(l:List Vd):T.same 8 (.lst (l.map vdL)) (.lst (l.map vdL))=true:=by
 have h:∀ l:List Vd,T.same.sameL (T.same 7) (l.map vdL) (l.map vdL)=true:=λ l=>by
  induction l with
  | nil=>rfl
  | cons v l ih=>
    show(T.same 7 (vdL v) (vdL v)&&_)=true;rw[same_vdL,ih];rfl
 show(match yq (l.map vdL) (l.map vdL) with
   | true=>T.same.sameL (T.same 7) (l.map vdL) (l.map vdL)
   | false=>true)=true
 split
 ·exact h l
 ·rfl
theorem eqB_vdL(v:Vd):T.eqB (vdL v) (vdL v)=true:=by cases v <;> simp[vdL,ua,zu,wg,uU,ye,uV,XC,uT,YY,YZ,XB]
theorem uq(l:List Vd):T.eqB (.lst (l.map vdL)) (.lst (l.map vdL))=true:=by
 have h:∀ l:List Vd,T.eqL (l.map vdL) (l.map vdL)=true:=λ l=>by
  induction l with
  | nil=>rfl
  | cons v l ih=>
    show T.eqL (vdL v::l.map vdL) (vdL v::l.map vdL)=true;simp only[YY,YZ];rw[eqB_vdL,ih];rfl
 simp only[zu,uU,ye,uV,uT];exact h l
theorem Ue{h:Hd}{p:List UInt8}{r:Row}{m:Int}{l:List Vd}(ok:h.Ok)(hp:p.length<=1000)(e:qv h p r m=some l):(∀ v∈l,v.Ok)/\l.length<=1000:=by
 unfold qv at e;cases e2:Yo h p m with
 | none=>replace e:=e2▸e;exact nsm e
 | some cs=>
   replace e:=e2▸e;obtain rfl:=B9 e;refine⟨λ v hv=>?_,by rw[BB];exact xh hp e2⟩;obtain⟨c,hc,rfl⟩:=DO.mp hv;have:=XF ok hp e2 c hc;exact⟨this.1,by lia⟩
set_option tactic.hygienic true in
theorem come_ok{fs:List jE}{rs:List Row}{fw:Bool}{h:Hd}{p:List UInt8}(c:ym fs rs h p):(∀ v∈vc fs rs fw h p,v.Ok)/\(vc fs rs fw h p).length<=1000:=by
 have one:∀ v:Vd,v.Ok->(∀ x∈[v],x.Ok)/\[v].length<=1000:=λ v hv=>⟨λ x hx=>by rw[BG.mp hx];exact hv,by simp⟩;have nil:(∀ x∈([]:List Vd),x.Ok)/\([]:List Vd).length<=1000:=⟨C0 _,CN _⟩;unfold vc;split
 ·exact nil
 ·split
  ·exact one _ trivial
  ·split
   ·exact nil
   ·unfold fwdV;split
    ·exact one _ trivial
    ·rename_i q;split
     ·exact one _ trivial
     ·rename_i r e;unfold YV;split
      ·exact one _ trivial
      ·rename_i l e2;refine Ue (h:={ h with ttl:=h.ttl-1 }) ?_ c.pl e2;have o:=c.ok;have ot:=o.ttl;exact⟨o.src,o.tgt,o.proto,o.ident,⟨by show 0<=h.ttl-1;omega,by show h.ttl-1<256;omega⟩,o.tos,o.off⟩
def gInRb(args:List V)(K:T->Prop)(fs:List jE)(rs:List Row)(fw:Bool):Prop:=jj (args=[.m 0,.p (.lst (fs.map jM)),.p (.lst (rs.map qD)),.p (.bool fw)]) (jc fs) (qI rs fs) (K (.bool true))
def gInR:List V->(T->Prop)->Prop:=λ args K=>Ex3 λ(fs:List jE) (rs:List Row) (fw:Bool)=>gInRb args K fs rs fw
theorem c_inR:∀ args K,gInR args K->∀ a b:Int,0<=b->b<65287->ev spH 50 (.call 1014 args [.plst [.int a,.int b]] (sK K) sX):=by
 rintro args K ⟨fs,rs,fw,rfl,hf,hr,hk⟩ a b hb0 hb1;have hl:=hf.len;have hpos:0<fs.length:=D5.mpr hf.ne;refine⟨fs,rs,fw,a,b,rfl,rfl,hr.rows,hl,λ tr cnt htr=>?_⟩;refine⟨rfl,⟨hb0,hb1⟩,fs,rfl,hf,λ t1 t10 t11 a1 b1 u1 v1=>?_⟩;refine⟨rfl,⟨u1,v1⟩,⟨nofun,by simp⟩,λ t2 ht2 a2 b2 u2 v2=>?_⟩;obtain⟨s,rfl,hs⟩:∃ s:Int,t2=.int s/\0<=s/\s<4294967296:=by
  simp only[BO,Ch,or_false] at ht2;rcases ht2 with rfl | rfl | rfl
  ·exact⟨_,rfl,by decide,by decide⟩
  ·exact⟨_,rfl,by decide,by decide⟩
  ·exact⟨_,rfl,t10,t11⟩
 refine⟨rfl,⟨u2,v2⟩,fs,rfl,hf,λ t t0 t1' a3 b3 u3 v3=>?_⟩;refine⟨rfl,⟨u3,v3⟩,s,t,rfl,hs,⟨t0,t1'⟩,λ h hN a4 b4 u4 v4=>?_⟩;refine⟨rfl,⟨u4,v4⟩,by decide,λ g1 g10 g11 a5 b5 u5 v5=>?_⟩;refine⟨⟨by simp,λ i hi=>by refine rwl (BG.mp hi) ?_;exact⟨g10,g11⟩⟩,?_⟩;refine⟨rfl,⟨u5,v5⟩,by decide,λ g2 g20 g21 a6 b6 u6 v6=>?_⟩;refine⟨⟨by simp,by simp,by lia,by lia⟩,?_⟩;have hpl:((List.replicate g2.toNat (List.map (λ(i:Int)=>UInt8.ofNat i.toNat) [g1])).flatten).length<=40:=by
  refine rwl List.length_flatten (rwl List.map_replicate (rwl List.sum_replicate_nat ?_));simp;lia
 generalize hpp:(List.replicate g2.toNat (List.map (λ(i:Int)=>UInt8.ofNat i.toNat) [g1])).flatten=p at hpl;have case:ym fs rs h p:=⟨hf,hr,hN.ok,hN.more,hN.off,by lia⟩
 refine⟨rfl,h,p,by exact rwl hpp.symm rfl,hN.ok,by lia,by rw[BB];lia,?_⟩;rw[BB];refine⟨rfl,⟨u6,v6⟩,by lia,λ g3 g30 g31 a7 b7 u7 v7=>?_⟩;conv=>whnf
 refine .inl ⟨h,p,.int g3,5,a7,b7,fs,tr,cnt,fw,0,rs,rfl,rfl,case,htr,?_⟩;have cok:=come_ok (fw:=fw) case
 refine⟨rfl,vc fs rs fw h p,rfl,cok.1,by lia,rfl,fs,rs,fw,h,p,by exact rwl hpp.symm rfl,case,vG _,?_⟩;rw[uq];exact⟨a7,b7,.bool true,rfl,⟨u7,v7⟩,rfl,hk⟩
def gHeard:jJ:=λ args mem k kx=>∃ P:V->List jB->Prop,(∀ v m,P v m->k v m)/\ev spH 36 (.call 993 args mem P (λ _ _=>False))
noncomputable abbrev p9:List (Nat×jJ):=[(993,gHeard)]++p8
noncomputable abbrev spI:Addr->Option jJ:=lkS p9
theorem Y6{X:Run}(ok:jv X):jN X spI 438:=by
 refine jN.lay (Qt ok) (jD rfl) ⟨λ args mem k kx hF=>?_,trivial⟩;obtain⟨P,hP,hE⟩:=hF;have D:=sound ok (Qt ok) 36 _ hE;intro A fr d s vals R c a hh hv hR hX;exact D A fr d s vals R c a hh hv (λ v m d' val s' h=>hR v m d' val s' (hP v m h)) λ C m d' ea B a0 s' h=>h.elim
noncomputable def wN (fs:List jE) (rs:List Row) (t:Int):T:=if jX t fs=true then .int t else match(if ji t=true then none else jb t rs none) with
 | none=>.str w6
 | some r=>.int (zp fs r).addr
noncomputable abbrev ouE:Expr:=cmR (ifT (jY 5 (fB 1019)))
theorem vq{us:List T}{mem:List jB}:∀(fs:List jE) (ex:List (Str×V)) (kc:List T->List jB->Prop),(ex=[]\/∃ x,ex=[(yZ,x)])->kc ((fs.map (·.addr)).map T.int) mem->
  zK (ev spI 48) (lcT ouE) (lcE ouE) (lcI ouE) .fix us (fs.map jM) ⟨ex,mem,lcS ouE⟩ kc:=by
 intro fs;induction fs with
 | nil=>
   intro ex kc hex hk;exact hk
 | cons f fs ih=>
   intro ex kc hex hk;rw[BZ,jy];rcases hex with rfl | ⟨x,rfl⟩
   all_goals
    conv=>whnf
    exact ih _ _ (.inr ⟨_,rfl⟩) hk
theorem W0{fs:List jE}{f:jE}(h:fs[0]?=some f):item? (fs.map jM) 0=some (jM f):=by
 show item? (fs.map jM) ((0:Nat):Int)=_;rw[YJ _ _ (by decide),Bq,h];rfl
set_option tactic.hygienic true in
theorem cmp_gone{fs:List jE}{rs:List Row}{h:Hd}{p:List UInt8}{st:St}{k:Bool->Prop}(hk:k false):xk .NotEq (.p (yt vdL fs rs h p)) (.p (yt vdL fs rs h p)) st k:=by
 have sl:∀ l:List Vd,xk .NotEq (.p (.lst (l.map vdL))) (.p (.lst (l.map vdL))) st k:=λ l=>by
  show T.same 8 (.lst (l.map vdL)) (.lst (l.map vdL))=true/\k (!T.eqB (.lst (l.map vdL)) (.lst (l.map vdL)));rw[uq];exact⟨vG l,hk⟩
 have ss:∀ x:Str,xk .NotEq (.p (.str x)) (.p (.str x)) st k:=λ x=>by
  show T.same 8 (.str x) (.str x)=true/\k (!T.eqB (.str x) (.str x));have:(!T.eqB (.str x) (.str x))=false:=by simp[ye]
  rw[this];exact⟨rfl,hk⟩
 unfold yt;split
 ·exact sl [.loc h p false]
 ·split
  ·exact ss _
  ·rename_i r _;cases qv h p r (ya fs r) with
   | none=>exact ss _
   | some l=>exact sl l
noncomputable abbrev lamE:Expr->Expr
 | .Lambda _ b _ _=>b
 | _=>exN
noncomputable abbrev lamS:Expr->Scope
 | .Lambda _ _ s _=>s
 | _=>⟨.function,[],false,false,[]⟩
noncomputable abbrev lam2:Expr:=argE (cmL (ifT (jY 6 (fB 1019)))) 0
noncomputable abbrev lam3:Expr:=argE (cmL (asV (jY 7 (fB 1019)))) 0
theorem heard_src{fs:List jE}{rs:List Row}{t a b:Int}{tr:Tr}{cnt:Int}(hf:jc fs)(hr:qI rs fs)(htr:J7 tr rs)(ht:0<=t/\t<4294967296) :
  ev spH 36 (.call 993 [.lam (lamE lam2) (lamS lam2) [(n290,.m 1),(n44,.p (.int t))]] (Lm a b fs tr cnt false 1) (λ v m=>v=.p (wN fs rs t)/\m=Lm a b fs tr cnt false 1) (λ _ _=>False)):=by
 refine⟨t,a,b,fs,tr,cnt,false,1,rs,rfl,rfl,ht,hf,hr,htr,λ q=>?_,λ q1 q2=>?_,λ r q1 q2 q3=>?_⟩
 ·exact⟨by unfold wN;rw[BJ q],rfl⟩
 ·refine⟨?_,rfl⟩;unfold wN;rw[BE (by rw[q1];decide)];rcases q2 with q2 | q2
  ·rw[BJ q2]
  ·rw[q2];simp
 ·refine⟨?_,rfl⟩;unfold wN;rw[BE (by rw[q1];decide),BE (by rw[q2];decide),q3]
theorem W2{fs:List jE}{t a b:Int}{tr:Tr}{cnt:Int}(hf:jc fs) :
  ev spH 36 (.call 993 [.lam (lamE lam3) (lamS lam3) [(n290,.m 1),(n44,.p (.int t))]] (Lm a b fs tr cnt false 1) (λ v m=>v=.p (if(jf t fs||ju t)=true then T.str w6 else .none)/\m=Lm a b fs tr cnt false 1) (λ _ _=>False)):=by
 refine⟨t,a,b,fs,tr,cnt,false,1,rfl,rfl,hf,λ q=>?_,λ q=>?_⟩
 ·exact⟨by rw[BJ q],rfl⟩
 ·exact⟨by rw[BE (by rw[q];decide)],rfl⟩
def gOutRb(args:List V)(K:T->Prop)(fs:List jE)(rs:List Row):Prop:=jj (args=[.m 0,.p (.lst (fs.map jM)),.p (.lst (rs.map qD))]) (jc fs) (qI rs fs) (K (.bool true))
def gOutR:List V->(T->Prop)->Prop:=λ args K=>Ex2 λ(fs:List jE) (rs:List Row)=>gOutRb args K fs rs
set_option tactic.hygienic true in
theorem c_outR:∀ args K,gOutR args K->∀ a b:Int,0<=b->b<65287->ev spI 59 (.call 1019 args [.plst [.int a,.int b]] (sK K) sX):=by
 rintro args K ⟨fs,rs,rfl,hf,hr,hk⟩ a b hb0 hb1;have hl:=hf.len;have hpos:0<fs.length:=D5.mpr hf.ne;have hrm:∀ r∈rs,0<=r.many/\r.many<=32:=λ r hx=>(hr.ok r hx).many;obtain⟨f0,hf0,hm0⟩:∃ f0,fs[0]?=some f0/\f0∈fs:=⟨fs[0],BS hpos,Cy hpos⟩;have of0:=(hf.ok f0 hm0).addr;refine⟨fs,rs,false,a,b,rfl,rfl,hr.rows,hl,λ tr cnt htr=>?_⟩;refine⟨rfl,⟨hb0,hb1⟩,fs,rfl,hf,λ t t0 t1 a1 b1 u1 v1=>?_⟩;conv=>whnf
 erw[W0 hf0];refine⟨rfl,⟨u1,v1⟩,by decide,λ g1 g10 g11 a2 b2 u2 v2=>?_⟩;refine⟨⟨nofun,by decide,BM (by decide) g10,Bk (Bj g11 (by decide))⟩,?_⟩;have hpl:((List.replicate g1.toNat ([113]:List UInt8)).flatten).length<=40:=by
  rw[List.length_flatten,List.map_replicate,List.sum_replicate_nat];simp;exact Int.le_of_lt_add_one g11
 refine⟨rfl,⟨u2,v2⟩,by decide,λ g2 g20 g21 a3 b3 u3 v3=>?_⟩;have mkcase:∀ p:List UInt8,p.length<=40->ym fs rs (qR f0.addr t (g2 == 0)) p:=λ p hp=>⟨hf,hr,⟨of0,⟨t0,t1⟩,⟨by show(0:Int)<=17;decide,by show(17:Int)<256;decide⟩,⟨by show(0:Int)<=1;decide,by show(1:Int)<65536;decide⟩,⟨by show(0:Int)<=9;decide,by show(9:Int)<256;decide⟩,⟨by show(0:Int)<=0;decide,by show(0:Int)<256;decide⟩,⟨by show(0:Int)<=0;decide,by show(0:Int)<65536;decide,rfl⟩⟩,rfl,rfl,BF hp (by decide)⟩;obtain⟨p,hpp⟩:∃ p,p=(List.replicate g1.toNat ([113]:List UInt8)).flatten:=⟨_,rfl⟩;have case:=mkcase p (by rw[hpp];exact hpl)
 clear mkcase hpl;refine⟨rfl,?_⟩;refine⟨λ v m=>v=.p (yt vdL fs rs (qR f0.addr t (g2 == 0)) p)/\m=Lm a3 b3 fs tr cnt false 1,λ v m hP=>?_,?_⟩
 ·obtain⟨rfl,rfl⟩:=hP;have fin:∀ q:Bool,q=true->sK K (.p (.bool q)) [qj a3 b3]:=λ q e=>by rw[e];exact⟨a3,b3,_,rfl,⟨u3,v3⟩,rfl,hk⟩
  have want3:=W2 (t:=t) (a:=a3) (b:=b3) (tr:=tr) (cnt:=cnt) hf;have src2:=heard_src (a:=a3) (b:=b3) (cnt:=cnt) hf hr htr ⟨t0,t1⟩;refine⟨rfl,fs,rs,qR f0.addr t (g2 == 0),p,by rw[hpp];rfl,case,?_⟩;conv=>whnf
  show xk .NotEq (.p (yt vdL fs rs (qR f0.addr t (g2 == 0)) p)) (.p (yt vdL fs rs (qR f0.addr t (g2 == 0)) p)) _ _;refine cmp_gone ?_;refine⟨rfl,t,rfl,⟨t0,t1⟩,?_⟩;conv=>whnf
  have hlen:(fs.map jM).length<=100000:=by rw[BB];exact BF hl (by decide)
  refine br (λ q2=>?zzA) (λ q2=>?zzB)
  case' zzA=>
   refine⟨hlen,?_⟩;refine vq fs [] _ (.inl rfl) ?_;conv=>whnf
   erw[zJ];conv=>whnf
   erw[yh];refine br (λ q1=>?zzC) (λ q1=>?zzD)
  case' zzC=>have hdu:T.int t=wN fs rs t:=by unfold wN;rw[BJ q1]
  case' zzD=>have hdu:T.str w6=wN fs rs t:=by unfold wN;rw[BE (by rw[q1];decide),BJ q2]
  case' zzB=>
   refine⟨rfl,t,rs,rfl,hrm,hr.len,?_⟩;cases e:jb t rs none
  case' none=>
   refine⟨hlen,?_⟩;refine vq fs [] _ (.inl rfl) ?_;conv=>whnf
   erw[zJ];conv=>whnf
   erw[yh];refine br (λ q1=>?zzE) (λ q1=>?zzF)
  case' zzE=>have hdu:T.int t=wN fs rs t:=by unfold wN;rw[BJ q1]
  case' zzF=>have hdu:T.str w6=wN fs rs t:=by unfold wN;rw[BE (by rw[q1];decide),BE (by rw[q2];decide),e]
  case' some r=>
   have hRF:=z5 hr e;have hlt:=hRF.4;have hfc:=hRF.1;refine⟨hlen,?_⟩;refine vq fs [] _ (.inl rfl) ?_;conv=>whnf
   erw[zJ];conv=>whnf
   erw[yh];refine br (λ q1=>?zzG) (λ q1=>?zzH)
  case' zzG=>have hdu:T.int t=wN fs rs t:=by unfold wN;rw[BJ q1]
  case' zzH=>
   conv=>whnf
   erw[v9 hf.ne];conv=>whnf
   rw[BB];refine⟨⟨BF hl (by decide),rwl hRF.1 (Bb _),rwl hRF.1 (Cq.mpr (Cb.mp hRF.2).1)⟩,λ u hu=>?_⟩;have hu:(fs.map jM)[r.face.toNat]?=some u:=hu;rw[Bq,hRF.2] at hu;obtain rfl:=B9 hu;have hdu:T.int (zp fs r).addr=wN fs rs t:=by unfold wN;rw[BE (by rw[q1];decide),BE (by rw[q2];decide),e]
  all_goals
   refine⟨rfl,?_⟩;refine⟨λ v m=>v=.p (wN fs rs t)/\m=Lm a3 b3 fs tr cnt false 1,λ v m hP=>?_,src2⟩;obtain⟨rfl,rfl⟩:=hP;rw[<- hdu];conv=>whnf
   first | refine brF (by simp) ?_ | refine⟨rfl,brF (by simp[ye]) ?_⟩
   refine⟨rfl,?_⟩;refine⟨λ v m=>v=.p (if(jf t fs||ju t)=true then T.str w6 else .none)/\m=Lm a3 b3 fs tr cnt false 1,λ v m hP=>?_,want3⟩;obtain⟨rfl,rfl⟩:=hP;cases q0:(jf t fs||ju t) with
   | true=>
     rw[BJ rfl];refine⟨rfl,rfl,t,fs,rfl,⟨t0,t1⟩,hf,?_⟩;conv=>whnf
     refine br (λ q=>?_) (λ q=>?_)
     ·refine⟨rfl,?_⟩;exact fin _ (by first | rfl | simp[ye])
     ·have q2:ju t=true:=by rw[q] at q0;simpa using q0
      refine⟨rfl,t,rfl,⟨t0,t1⟩,rfl,?_⟩;exact fin _ (by rw[q2];first | rfl | simp[ye])
   | false=>
     rw[BE (by decide)];have q1:jf t fs=false:=by
      cases h:jf t fs with
      | true=>rw[h] at q0;exact ft q0
      | false=>rfl
     have q2:ju t=false:=by rw[q1] at q0;simpa using q0
     refine⟨rfl,rfl,t,fs,rfl,⟨t0,t1⟩,hf,?_⟩;rw[q1];refine⟨rfl,t,rfl,⟨t0,t1⟩,?_⟩;rw[q2];refine⟨rfl,?_⟩;exact fin _ (by first | rfl | simp[ye])
 ·refine⟨f0.addr,t,g2 == 0,p,a3,b3,fs,tr,cnt,false,rs,by rw[hpp],rfl,case,htr,λ q=>?_,λ q1 q2=>?_,λ r q1 q2 q3 q4=>?_,λ r l q1 q2 q3 q4=>?_⟩
  ·refine⟨rfl,[.loc (qR f0.addr t (g2 == 0)) p false],rfl,λ v hv=>by rw[BG.mp hv];trivial,by simp,?_⟩;refine⟨?_,rfl⟩;unfold yt;rw[BJ (show jX (qR f0.addr t (g2 == 0)).tgt fs=true from q)];rfl
  ·refine⟨?_,rfl⟩;unfold yt YQ;rw[BE (show ¬jX (qR f0.addr t (g2 == 0)).tgt fs=true by show ¬jX t fs=true;rw[q1];decide)];rcases q2 with q2 | q2
   ·rw[BJ (show ji (qR f0.addr t (g2 == 0)).tgt=true from q2)]
   ·rw[show jb (qR f0.addr t (g2 == 0)).tgt rs none=none from q2];simp
  ·refine⟨?_,rfl⟩;unfold yt YQ;rw[BE (show ¬jX (qR f0.addr t (g2 == 0)).tgt fs=true by show ¬jX t fs=true;rw[q1];decide),BE (show ¬ji (qR f0.addr t (g2 == 0)).tgt=true by show ¬ji t=true;rw[q2];decide),show jb (qR f0.addr t (g2 == 0)).tgt rs none=some r from q3];show V.p (T.str n19)=V.p (Zr vdL (qv (qR f0.addr t (g2 == 0)) p r (ya fs r)));rw[q4];rfl
  ·have so:=Ue case.ok case.pl q4
   refine⟨rfl,l,rfl,so.1,BF so.2 (by decide),?_⟩;refine⟨?_,rfl⟩;unfold yt YQ;rw[BE (show ¬jX (qR f0.addr t (g2 == 0)).tgt fs=true by show ¬jX t fs=true;rw[q1];decide),BE (show ¬ji (qR f0.addr t (g2 == 0)).tgt=true by show ¬ji t=true;rw[q2];decide),show jb (qR f0.addr t (g2 == 0)).tgt rs none=some r from q3];show V.p (T.lst (l.map vdL))=V.p (Zr vdL (qv (qR f0.addr t (g2 == 0)) p r (ya fs r)));rw[q4];rfl
noncomputable abbrev exE:Expr:=cmR (boE (boE (asV (jY 5 (fB 1024))) 1) 1)
theorem Xo{us:List T}{mem:List jB}:∀(fs:List jE) (ex:List (Str×V)) (kc:List T->List jB->Prop),(ex=[]\/∃ x,ex=[(yZ,x)])->kc ((fs.map (·.addr)).map T.int) mem->
  zK (ev spH 37) (lcT exE) (lcE exE) (lcI exE) .fix us (fs.map jM) ⟨ex,mem,lcS exE⟩ kc:=by
 intro fs;induction fs with
 | nil=>
   intro ex kc hex hk;exact hk
 | cons f fs ih=>
   intro ex kc hex hk;rw[BZ,jy];rcases hex with rfl | ⟨x,rfl⟩
   all_goals
    conv=>whnf
    exact ih _ _ (.inr ⟨_,rfl⟩) hk
noncomputable abbrev exH (h0:Hd):Hd:={ h0 with dont:=false,more:=true,off:=0 }
noncomputable abbrev exP (g1 g2:Int):List UInt8:=(List.replicate (8+8*g2).toNat (List.map (λ(i:Int)=>UInt8.ofNat i.toNat) [g1])).flatten
theorem g8{g:Int}(h0:0<=g)(h1:g<3):8<=(8+8*g).toNat/\(8+8*g).toNat<=24/\(8+8*g).toNat%8=0:=by
 obtain⟨n,rfl⟩:=CL h0;exact(show ∀ n<3,8<=8+8*n/\8+8*n<=24/\(8+8*n)%8=0 by decide) n (Cq.mp h1)
def gExR:List V->(T->Prop)->Prop:=λ args K=>∃ fs:List jE,jT (args=[.m 0,.p (.lst (fs.map jM))]) (jc fs) (K (.bool true))
theorem c_exR:∀ args K,gExR args K->∀ a b:Int,0<=b->b<65287->ev spH 54 (.call 1024 args [.plst [.int a,.int b]] (sK K) sX):=by
 rintro args K ⟨fs,rfl,hf,hk⟩ a b hb0 hb1;have hl:=hf.len;have hpos:0<fs.length:=D5.mpr hf.ne;refine⟨fs,[],false,a,b,rfl,rfl,⟨C0 _,λ l1 l2 r e=>by simp at e,by simp⟩,hl,λ tr cnt htr=>?_⟩;refine⟨rfl,⟨hb0,hb1⟩,⟨λ e=>hf.ne (List.map_eq_nil_iff.mp e),by rw[BB];exact BF hl (by decide)⟩,λ t1 ht1 a1 b1 u1 v1=>?_⟩;obtain⟨f,hfm,rfl⟩:=DO.mp ht1;have ok:=hf.ok f hfm;have o1:=ok.addr;have o2:=ok.many;refine⟨⟨.inl rfl,by decide,by decide⟩,?_⟩;refine⟨rfl,λ bl hK=>?_⟩;have hbl:(bl.map T.int).length<=100000:=by rw[hK,BB,qB];decide
 have hs:=λ m=>sl32 (bl:=bl) (by rw[hK,qB]) m;have hp:∀ x:Int,jG (bl.map T.int) none (some f.many)++(List.replicate (32-f.many).toNat [T.int x]).flatten=(key f.addr f.many.toNat++List.replicate (32-f.many).toNat x).map T.int:=λ x=>by rw[hK];exact xo o2.1 o2.2
 refine⟨hbl,⟨by simp,nm1 o2⟩,?_⟩;refine⟨?_,?_⟩
 ·rw[y5,DG];exact nm2 o2.1 (hs f.many)
 refine⟨rfl,key f.addr f.many.toNat++List.replicate (32-f.many).toNat 1,by rw[hp];rfl,xE (.inr rfl),by rw[vI o2.1 o2.2];decide,?_⟩;have r1:=vp (a:=f.addr) (m:=f.many) (.inr rfl) o2.1 o2.2;generalize num (key f.addr f.many.toNat++List.replicate (32-f.many).toNat 1)=x1 at r1 ⊢;refine⟨rfl,⟨u1,v1⟩,⟨nofun,by simp⟩,λ t2 ht2 a2 b2 u2 v2=>?_⟩;obtain⟨t,rfl,ht⟩:∃ t:Int,t2=.int t/\0<=t/\t<4294967296:=by
  simp only[BO,Ch,or_false] at ht2;rcases ht2 with rfl | rfl | rfl
  ·exact⟨_,rfl,o1⟩
  ·exact⟨_,rfl,by decide,by decide⟩
  ·exact⟨_,rfl,r1⟩
 refine⟨rfl,⟨u2,v2⟩,134744072,t,rfl,⟨by decide,by decide⟩,ht,λ h0 hN a3 b3 u3 v3=>?_⟩;refine⟨by simp,⟨nofun,nofun,by simp⟩,?_⟩;have htg:=hN.tgt;subst htg;have hok:(exH h0).Ok:=⟨hN.ok.src,hN.ok.tgt,hN.ok.proto,hN.ok.ident,hN.ok.ttl,hN.ok.tos,⟨by show(0:Int)<=0;decide,by show(0:Int)<65536;decide,rfl⟩⟩;have hsr:h0.src=134744072:=hN.src;refine⟨rfl,⟨u3,v3⟩,by decide,λ g1 g10 g11 a4 b4 u4 v4=>?_⟩;refine⟨⟨by simp,λ i hi=>by rw[BG.mp hi];exact⟨g10,g11⟩⟩,?_⟩;refine⟨rfl,⟨u4,v4⟩,by decide,λ g2 g20 g21 a5 b5 u5 v5=>?_⟩;have G8:=g8 g20 g21;refine⟨⟨by unfold sml;decide,y3 g20 (Bj g21 (by decide))⟩,?_⟩;have gb:=CQ (Bk g21) (show(0:Int)<=8 by decide);refine⟨⟨by simp,by simp,BM (by decide) (Bp (show(0:Int)<=8 by decide) (D1 (by decide) g20)),BM (Int.add_le_add_left gb 8) (by decide)⟩,?_⟩;have hpl:(exP g1 g2).length=(8+8*g2).toNat:=by
  show((List.replicate (8+8*g2).toNat (List.map (λ(i:Int)=>UInt8.ofNat i.toNat) [g1])).flatten).length=_;rw[List.length_flatten,List.map_replicate,List.sum_replicate_nat];simp
 have hF:Frag (exH h0) (exP g1 g2):=⟨hok,rfl,rfl,by rw[hpl];exact G8⟩;refine⟨rfl,h0.tgt,fs,rfl,ht,hf,rfl,134744072,fs,rfl,⟨by decide,by decide⟩,hf,?_⟩;conv=>whnf
 have hp8:(exP g1 g2).length<=100000:=by rw[hpl];exact BF G8.2.1 (by decide)
 have e8:jG (pp (exP g1 g2)) none (some 8)=jG (exP g1 g2) none (some 8):=by rw[pp_eq]
 have kv:uP (exH h0) fs=(!jd 134744072 fs&&(jf h0.tgt fs||jX h0.tgt fs)):=by
  show(!jd h0.src fs&&(jf h0.tgt fs||jX h0.tgt fs))=_;rw[hsr]
 refine br (λ q1=>?_) (λ q1=>?_)
 ·have q1:jd 134744072 fs=false:=by simpa using q1
  conv=>whnf
  refine br (λ q2=>?_) (λ q2=>?_)
  ·have ky:uP (exH h0) fs=true:=by rw[kv,q1,q2];rfl
   refine⟨rfl,(exH h0),(exP g1 g2),rfl,hok,by rw[hpl];exact BF G8.2.1 (by decide),?_⟩;conv=>whnf
   refine .inr ⟨(exH h0),(exP g1 g2),a5,b5,fs,tr,cnt,rfl,rfl,hF,hf,λ qk=>?_,λ qk ep=>?_⟩
   ·exact absurd (ky.symm.trans qk) (by decide)
   ·refine⟨rfl,?_⟩;refine⟨a5,b5,fs,tr,cnt,false,(exH h0),(exP g1 g2),ep,129,rfl,hF,hf,.inl ⟨rfl,rfl,?_⟩⟩;refine⟨rfl,hp8,?_⟩;refine⟨a5,b5,fs,tr,cnt,false,(exH h0),(exP g1 g2),ep,130,rfl,hF,hf,.inr (.inl ⟨rfl,rfl,λ ep'=>?_⟩)⟩;rw[e8];refine⟨rfl,[.tell 11 1 0 (exH h0) (jG (exP g1 g2) none (some 8)) (jf h0.tgt fs)],rfl,λ v hv=>by rw[BG.mp hv];trivial,by simp,vG [Vd.tell 11 1 0 (exH h0) (jG (exP g1 g2) none (some 8)) (jf h0.tgt fs)],?_⟩;refine brT (uq [Vd.tell 11 1 0 (exH h0) (jG (exP g1 g2) none (some 8)) (jf h0.tgt fs)]) ?_;refine⟨a5,b5,fs,tr,cnt,false,(exH h0),(exP g1 g2),ep',999,rfl,hF,hf,.inr (.inr (.inr ⟨rfl,?_⟩))⟩;refine⟨rfl,?_⟩;exact⟨a5,b5,_,rfl,⟨u5,v5⟩,rfl,hk⟩
  ·refine⟨by rw[BB];exact BF hl (by decide),?_⟩;refine Xo fs [] _ (.inl rfl) ?_;conv=>whnf
   erw[zJ];conv=>whnf
   erw[yh];cases q3:jX h0.tgt fs with
   | true=>
     have ky:uP (exH h0) fs=true:=by rw[kv,q1,q2,q3];rfl
     refine⟨rfl,(exH h0),(exP g1 g2),rfl,hok,by rw[hpl];exact BF G8.2.1 (by decide),?_⟩;conv=>whnf
     refine .inr ⟨(exH h0),(exP g1 g2),a5,b5,fs,tr,cnt,rfl,rfl,hF,hf,λ qk=>?_,λ qk ep=>?_⟩
     ·exact absurd (ky.symm.trans qk) (by decide)
     ·refine⟨rfl,?_⟩;refine⟨a5,b5,fs,tr,cnt,false,(exH h0),(exP g1 g2),ep,129,rfl,hF,hf,.inl ⟨rfl,rfl,?_⟩⟩;refine⟨rfl,hp8,?_⟩;refine⟨a5,b5,fs,tr,cnt,false,(exH h0),(exP g1 g2),ep,130,rfl,hF,hf,.inr (.inl ⟨rfl,rfl,λ ep'=>?_⟩)⟩;rw[e8];refine⟨rfl,[.tell 11 1 0 (exH h0) (jG (exP g1 g2) none (some 8)) (jf h0.tgt fs)],rfl,λ v hv=>by rw[BG.mp hv];trivial,by simp,vG [Vd.tell 11 1 0 (exH h0) (jG (exP g1 g2) none (some 8)) (jf h0.tgt fs)],?_⟩;refine brT (uq [Vd.tell 11 1 0 (exH h0) (jG (exP g1 g2) none (some 8)) (jf h0.tgt fs)]) ?_;refine⟨a5,b5,fs,tr,cnt,false,(exH h0),(exP g1 g2),ep',999,rfl,hF,hf,.inr (.inr (.inr ⟨rfl,?_⟩))⟩;refine⟨rfl,?_⟩;exact⟨a5,b5,_,rfl,⟨u5,v5⟩,rfl,hk⟩
   | false=>
     have ky:uP (exH h0) fs=false:=by rw[kv,q1,q2,q3];rfl
     refine⟨rfl,(exH h0),(exP g1 g2),rfl,hok,by rw[hpl];exact BF G8.2.1 (by decide),?_⟩;conv=>whnf
     refine .inr ⟨(exH h0),(exP g1 g2),a5,b5,fs,tr,cnt,rfl,rfl,hF,hf,λ qk=>?_,λ qk ep=>?_⟩
     ·refine⟨rfl,?_⟩;refine⟨a5,b5,fs,tr,cnt,false,(exH h0),(exP g1 g2),0,129,rfl,hF,hf,.inr (.inr (.inl ⟨rfl,?_⟩))⟩;refine⟨rfl,?_⟩;refine⟨a5,b5,fs,tr,cnt,false,(exH h0),(exP g1 g2),0,130,rfl,hF,hf,.inr (.inr (.inl ⟨rfl,?_⟩))⟩;refine⟨rfl,[],rfl,C0 _,CN _,rfl,?_⟩;refine⟨a5,b5,fs,tr,cnt,false,(exH h0),(exP g1 g2),0,999,rfl,hF,hf,.inr (.inr (.inl ⟨rfl,?_⟩))⟩;refine⟨rfl,?_⟩;exact⟨a5,b5,_,rfl,⟨u5,v5⟩,rfl,hk⟩
     ·exact absurd (ky.symm.trans qk) (by decide)
 ·have q1:jd 134744072 fs=true:=by simpa using q1
  have ky:uP (exH h0) fs=false:=by rw[kv,q1];rfl
  refine⟨rfl,(exH h0),(exP g1 g2),rfl,hok,by rw[hpl];exact BF G8.2.1 (by decide),?_⟩;conv=>whnf
  refine .inr ⟨(exH h0),(exP g1 g2),a5,b5,fs,tr,cnt,rfl,rfl,hF,hf,λ qk=>?_,λ qk ep=>?_⟩
  ·refine⟨rfl,?_⟩;refine⟨a5,b5,fs,tr,cnt,false,(exH h0),(exP g1 g2),0,129,rfl,hF,hf,.inr (.inr (.inl ⟨rfl,?_⟩))⟩;refine⟨rfl,?_⟩;refine⟨a5,b5,fs,tr,cnt,false,(exH h0),(exP g1 g2),0,130,rfl,hF,hf,.inr (.inr (.inl ⟨rfl,?_⟩))⟩;refine⟨rfl,[],rfl,C0 _,CN _,rfl,?_⟩;refine⟨a5,b5,fs,tr,cnt,false,(exH h0),(exP g1 g2),0,999,rfl,hF,hf,.inr (.inr (.inl ⟨rfl,?_⟩))⟩;refine⟨rfl,?_⟩;exact⟨a5,b5,_,rfl,⟨u5,v5⟩,rfl,hk⟩
  ·exact absurd (ky.symm.trans qk) (by decide)
def gSack:jJ:=λ args mem k kx=>∃ is:List Int,jj (args=[.p (.lst (is.map T.int))]) (is.length<=63) (mem=[]) (∀ a b:Int,0<=b->b<65287->k (.m 0) [qj a b])
theorem c_sack:∀ args mem k kx,gSack args mem k kx->ev spI 30 (.call 867 args mem k kx):=by
 rintro args mem k kx ⟨is,rfl,hl,rfl,hk⟩;have hm:∀ x:Int,0<=Int.fmod x 999917/\Int.fmod x 999917<999917:=λ x=>by rw[zn (by decide)];lia
 have hf:∀ x:Int,0<=Int.fmod x 65287/\Int.fmod x 65287<65287:=λ x=>by rw[zn (by decide)];lia
 induction is using BA with
 | nil=>
   refine⟨by decide,⟨.inr ⟨rfl,by decide⟩,by decide,by decide⟩,by decide,⟨by have:=hm 0;unfold sml;lia,by unfold sml;decide⟩,by decide,?_⟩;exact hk _ _ (hf _).1 (hf _).2
 | cons x r=>
   have hlen:((x::r).map T.int).length<2^40:=by rw[BB];lia
   have pos:decide ((0:Int)<((x::r).map T.int).length)=true:=Bf (by rw[BB,Bw];lia);refine⟨hlen,?_⟩;conv=>whnf
   refine brT pos ?_;conv=>whnf
   refine brD (λ q=>?_) (λ q=>?_)
   all_goals
    refine⟨⟨.inr ⟨rfl,by decide⟩,by decide,by decide⟩,?_⟩;conv=>whnf
    refine brD (λ q2=>?_) (λ q2=>?_)
    all_goals
     refine⟨by decide,⟨⟨Bz (by decide) (hm _).1,Bj (hm _).2 (by decide)⟩,by unfold sml;decide⟩,by decide,?_⟩;exact hk _ _ (hf _).1 (hf _).2
noncomputable abbrev p10:List (Nat×jJ):=[(867,gSack),(1014,yo gInR),(1019,yo gOutR),(1024,yo gExR)]++p9
noncomputable abbrev spJ:Addr->Option jJ:=lkS p10
theorem spJ_ok{X:Run}(ok:jv X):jN X spJ 498:=by
 exact jN.lay (Y6 ok) (jD rfl) ⟨jQ (n:=30) ok (Y6 ok) c_sack (jD rfl),zX (n:=50) ok (Qt ok) c_inR (jD rfl),zX (n:=59) ok (Y6 ok) c_outR (jD rfl),zX (n:=54) ok (Qt ok) c_exR (jD rfl),trivial⟩
noncomputable def xK:List jE:=[⟨167772161,24,1500⟩,⟨167772417,24,1500⟩]
noncomputable def QR (s:Int):Hd:=⟨s,167772161,17,1,9,0,false,false,0⟩
theorem nearF_ok:jc xK:=⟨λ f hf=>by
 rcases BO.mp hf with rfl | hf
 ·exact⟨by decide,by decide,by decide⟩
 ·rw[BG.mp hf];exact⟨by decide,by decide,by decide⟩,nofun,by decide⟩
theorem wZ{s:Int}(h0:0<=s)(h1:s<4294967296):ym xK [] (QR s) [120]:=
 ⟨nearF_ok,⟨C0 _,.nil,C0 _,by decide⟩,⟨⟨h0,h1⟩,by show(0:Int)<=167772161/\(167772161:Int)<_;decide,by show(0:Int)<=17/\(17:Int)<_;decide,by show(0:Int)<=1/\(1:Int)<_;decide,by show(0:Int)<=9/\(9:Int)<_;decide,by show(0:Int)<=0/\(0:Int)<_;decide,by show(0:Int)<=0/\(0:Int)<65536/\(0:Int)%8=0;decide⟩,rfl,rfl,by decide⟩
theorem QQ{s:Int}(h:jd s xK=true):vc xK [] true (QR s) [120]=[]:=BJ h
theorem law_ev(script:List Int)(hl:script.length<=63):ev spJ 60 (.call 1031 [.p (.lst (script.map T.int))] [] (λ v _=>v=.p (.bool true)) (λ _ _=>False)):=by
 refine⟨script,rfl,hl,rfl,λ a b hb0 hb1=>?_⟩;refine⟨xK,[],true,a,b,rfl,rfl,⟨C0 _,λ l1 l2 r e=>by simp at e,by decide⟩,by decide,λ tr cnt htr=>?_⟩;refine⟨by decide,rfl,QR 167772671,[120],rfl,(wZ (by decide) (by decide)).ok,by decide,?_⟩;conv=>whnf
 refine .inl ⟨QR 167772671,[120],.int 0,5,a,b,xK,tr,cnt,true,0,[],rfl,rfl,wZ (by decide) (by decide),htr,?_⟩;rw[QQ (by decide)];refine⟨rfl,rfl,QR 167772417,[120],rfl,(wZ (by decide) (by decide)).ok,by decide,?_⟩;conv=>whnf
 refine .inl ⟨QR 167772417,[120],.int 0,5,a,b,xK,tr,cnt,true,0,[],rfl,rfl,wZ (by decide) (by decide),htr,?_⟩;rw[QQ (by decide)];refine⟨rfl,?_⟩;refine⟨rfl,⟨hb0,hb1⟩,rfl,λ fs hf hl3 a1 b1 u1 v1=>?_⟩;refine⟨rfl,⟨u1,v1⟩,fs,rfl,hf,by lia,λ rs hr a2 b2 u2 v2=>?_⟩;refine⟨rfl,⟨u2,v2⟩,by decide,λ g g0 g1 a3 b3 u3 v3=>?_⟩;refine⟨by unfold sm2;decide,by decide,?_⟩;refine⟨rfl,⟨u3,v3⟩,fs,rs,decide (0<g),rfl,hf,hr,λ a4 b4 u4 v4=>?_⟩;refine⟨rfl,⟨u4,v4⟩,fs,rs,decide (0<g),rfl,hf,hr,λ a5 b5 u5 v5=>?_⟩;refine⟨rfl,⟨u5,v5⟩,fs,rs,rfl,hf,hr,λ a6 b6 u6 v6=>?_⟩;refine⟨rfl,⟨u6,v6⟩,fs,rfl,hf,λ a7 b7 u7 v7=>?_⟩;conv=>whnf
end Mine
end
open Mine
theorem PySem.Challenge.cw_sf0051_01_holds : PySem.Challenge.rw_sf0051_01.Holds :=
 holds_of (sp:=spJ) (R:=498) (n:=60) (by decide) (fun X ok=>spJ_ok ok) law_ev
