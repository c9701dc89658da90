import PyProof.Rows.All
import Wide.All
import OpenK.AllK
import Wide.FinOn
import Open.FastRun
import PyProof.GenObj
import PyProof.ListNew
import PyProof.Dict
import PyProof.DictKinds
import PyProof.Rows.StrInSeq
import PyProof.EqAt
import PyProof.P3Eq
import PyProof.PureInt
import PyProof.ListIndex
import PyProof.AutoSeq1
import PyProof.ListCopy
import PyProof.ListOps
import PyProof.AutoIntG6
import PyProof.AutoIntG4
import PyProof.ListTruth
import KE.KSortTup
import PyProof.Rows.SortShellK
import PyProof.PureStr
import PyProof.EqLayable
import Lean
import PySem.Challenge.RW_nt0135_01
set_option maxRecDepth 100000
set_option Elab.async false
set_option linter.all false
set_option genInjectivity false
set_option genSizeOf false
set_option genSizeOfSpec false
noncomputable section
namespace Mine
noncomputable def kq(l v n:Nat):Nat:=Nat.add v (Nat.mul (Nat.pow 256 l) n)
noncomputable def k_a:=kq 4 0
noncomputable def k_b(n:Nat):=kq 1 3 (k_a (kq 8 0x400030300000003 n))
noncomputable def k_c(n:Nat):=kq 1 7 (k_a n)
noncomputable def k_d(n:Nat):=kq 1 1 (k_a (kq 8 0x200010100000001 n))
noncomputable def k_e:=kq 4 0x7070707
noncomputable def k_f:=kq 6 0x500050505
noncomputable def k_g(n:Nat):=kq 3 0x20000 (k_b (kq 10 0x2000005000500050000 (k_b (kq 1 2 (k_f (kq 5 0x202020005 n))))))
noncomputable def k_h(n:Nat):=k_a (k_a n)
noncomputable def k_i:=kq 7 0x1000100010101
noncomputable def k_j(n:Nat):=kq 1 2 (k_a (kq 8 0x300020200000002 n))
noncomputable def k_k:=kq 6 0x700070707
noncomputable def k_l(n:Nat):=kq 9 0x10000000100000001 (k_a (kq 2 0x201 n))
noncomputable def k_m(n:Nat):=kq 4 0x2000202 (k_g n)
noncomputable def k_n:=kq 7 0xd000d000d0d0d
noncomputable def k_o:=kq 7 0xf000f000f0f0f
noncomputable def k_p:=kq 7 0x5000500050505
noncomputable def k_q:=kq 7 0xe000e000e0e0e
noncomputable def k_r:=kq 7 0x8000800080808
noncomputable def k_s(n:Nat):=kq 2 0x201 (k_b (kq 5 0x206060606 n))
noncomputable def k_t:=kq 6 0x20202020501
noncomputable def k_u:=kq 6 0x10000000202
noncomputable def k_v(n:Nat):=kq 11 0x7070007070e0e0e0e0e0e (k_i (kq 19 0x3000000030000000307020002000202020707 (k_a (kq 2 0x403 (k_c n)))))
noncomputable def k_w:=kq 7 0xc000c000c0c0c
noncomputable def k_x(n:Nat):=k_d (kq 2 0 n)
noncomputable def k_y(n:Nat):=k_a (kq 2 0x100 n)
noncomputable def k_z:=kq 7 0x9000900090909
noncomputable def k_A(n:Nat):=kq 3 0 (k_e (k_e (k_a (kq 53 0x909080909000900090a000a0a0a0909080909000900090a0009000800080800000200020002000007000001000100010000070000 n))))
noncomputable def k_B(n:Nat):=kq 4 0xa0a0a0c (k_e (k_c (k_c (kq 21 0xe000e000e000e0d0d0d000d000d0d0d000d000d0d (k_v (kq 10 0xf00000f00000f0f0f0f (k_b (kq 10 0xf000005000500050000 (k_b (kq 1 0xf (k_p (kq 6 0x70707010000 n))))))))))))
noncomputable def k_C(n:Nat):=kq 1 6 (k_a (kq 8 0x700060600000006 n))
noncomputable def k_D(n:Nat):=kq 7 0x6000600060606 (k_a n)
noncomputable def k_E:=kq 15 0x1d1c1b1a191817161514131211100f
noncomputable def k_F(n:Nat):=kq 9 0x20000000200000002 (k_a (kq 2 0x302 n))
noncomputable def k_G(n:Nat):=kq 13 0x1000000010101010101000000 (k_a (kq 5 0x200000202 n))
noncomputable def k_H(n:Nat):=kq 12 0x30000000300000003070000 (k_a (kq 2 0x403 (k_c n)))
noncomputable def k_I(n:Nat):=kq 16 0xe0d0c0b0a0908070605040302010105 (k_E n)
noncomputable def k_J(n:Nat):=k_x (kq 5 0x300030003 n)
noncomputable def k_K(n:Nat):=kq 4 0x1000101 (k_a (kq 8 0x300000300000303 (k_a n)))
noncomputable def k_L(n:Nat):=kq 1 1 (k_a (kq 14 0x202020001000000010001000001 n))
noncomputable def k_M:=kq 7 0x3010400040404
noncomputable def k_N:=kq 7 0xa000a000a0a0a
noncomputable def k_O:=kq 5 0x201000100
noncomputable def k_P:=kq 6 0x600060606
noncomputable def k_Q(n:Nat):=k_B (k_H (kq 10 0x10000010000010101010 (k_b (kq 7 0x6000600060000 (k_a (kq 1 0x10 (k_b (kq 1 0x10 (k_D (kq 4 0x7000000 n))))))))))
noncomputable def k_R(n:Nat):=kq 4 0x2010000 (k_a (kq 19 0x2010000040004000400000300020200000002 (k_a (kq 20 0x101010004000400040404010300020200000002 n))))
noncomputable def k_S(n:Nat):=kq 2 0x101 (k_j (kq 5 0x105050505 n))
noncomputable def k_T(n:Nat):=k_G (kq 3 0x20000 (k_a (kq 1 0 (k_K (kq 16 0x1010000000100000100000101010100 (k_a (kq 8 0x404000004040404 n)))))))
noncomputable def k_U(n:Nat):=kq 9 0x60000000600000006 (k_a (kq 1 6 (k_c n)))
noncomputable def k_V(n:Nat):=kq 9 0x160000001600000016 (k_a (kq 2 0x1716 n))
noncomputable def k_W:=kq 40 0x1000202000404040402030303030304030001000200030303030202020100020002020505010505
noncomputable def k_X:=kq 18 0x121212011212001200121212011212001200
noncomputable def k_Y(n:Nat):=kq 4 0x1000101 (k_R n)
noncomputable def k_Z(n:Nat):=kq 9 0x110000001100000011 (k_a (kq 2 0x1211 n))
noncomputable def k_0:=kq 7 0x10001000101010
noncomputable def k_1:=kq 7 0xb000b000b0b0b
noncomputable def k_2(n:Nat):=k_d (kq 4 0x3000303 n)
noncomputable def k_3(n:Nat):=kq 9 0x60000000600000006 (k_a (kq 2 0x706 n))
noncomputable def k_4(n:Nat):=kq 7 0x10401000100 (k_m (k_k (kq 3 0x20107 (k_k (kq 1 7 (k_s (k_k (kq 1 7 (k_t n)))))))))
noncomputable def k_5:=kq 11 0x24232221201f1e13121110
noncomputable def k_6(n:Nat):=k_A (kq 16 0x909080909000900090a000a0a0a0000 n)
noncomputable def k_7:=kq 8 0x3000300030303
noncomputable def k_8(n:Nat):=kq 4 0x8080808 (k_d (kq 17 0x1515141515001500150008010900090908 n))
noncomputable def k_9(n:Nat):=kq 18 0x10101010100010000000101010101010000 (k_a (kq 1 1 (k_a n)))
noncomputable def k_ba(n:Nat):=k_r (kq 2 0x201 (k_r (k_s (k_r (k_t n)))))
noncomputable def k_bb(n:Nat):=kq 10 0x200010401000100 (k_m n)
noncomputable def k_bc(n:Nat):=k_T (kq 4 0x4040000 n)
noncomputable def k_bd:=kq 38 0x1515001500150001010000010001000114141400140001000101010014141414010101151507
noncomputable def k_be(n:Nat):=k_6 (k_Q n)
noncomputable def k_bf(n:Nat):=k_A (kq 13 0x909080909000900090a000000 (k_Q n))
noncomputable def k_bg(n:Nat):=kq 1 6 (k_a (kq 14 0x707070006000000060006000006 n))
noncomputable def k_bh(n:Nat):=kq 9 0x100000001000000010 (k_a (kq 2 0x1110 n))
noncomputable def k_bi:=kq 12 0x500050004040404040400
noncomputable def k_bj(n:Nat):=k_h (k_h (k_h (k_h n)))
noncomputable def k_bk(n:Nat):=k_A (kq 13 0x909080909000900090a000000 (k_B (kq 8 0xe000e000e000000 (k_v (kq 10 0x10000010000010101010 (k_b (kq 10 0x10000005000500050000 (k_b (kq 1 0x10 (k_p (kq 6 0x70707010000 n)))))))))))
noncomputable def k_bl(n:Nat):=kq 9 0xf0000000f0000000f (k_a (kq 2 0x100f n))
noncomputable def k_bm(n:Nat):=kq 12 0x20200000200010401000100 (k_I (kq 7 0x24232221201f1e n))
noncomputable def k_bn(n:Nat):=kq 10 0x1010000010101010000 (k_a (kq 35 0x100000101010303030303030300030003000302020200020002020200020002020000 (k_a (kq 20 0x100000100000101010000010101000001010000 (k_a (kq 7 0x1010000010101 n))))))
noncomputable def k_bo(n:Nat):=kq 4 0x2020000 (k_h (kq 13 0x2020303030303030403000303 (k_a (kq 27 0x500050005000100010102020204040404040404040004040000 (k_W n)))))
noncomputable def k_bp(n:Nat):=kq 5 0x505010505 (k_c (kq 16 0x2000001000100030003000300000200 (k_a (kq 10 0x3030303030303030303 (k_a (kq 3 0x20000 (k_a (kq 10 0x4040404040404040404 n))))))))
noncomputable def k_bq(n:Nat):=kq 6 0x90900000909 (k_a (kq 3 0x90909 (k_F (kq 15 0x10009070605040302010001000909 n))))
noncomputable def k_br(n:Nat):=k_l (k_a n)
noncomputable def k_bs(n:Nat):=kq 11 0x1000001010101010100000 (k_i (k_y (kq 1 0x10 (k_F n))))
noncomputable def k_bt(n:Nat):=kq 8 0x1212000100010101 (k_X (k_X (kq 29 0x1111111111111111111111141212011212001200121212011212001200 n)))
noncomputable def k_bu(n:Nat):=k_j (kq 9 0xd0000000d0000000d (k_a (kq 2 0xe0d n)))
noncomputable def k_bv:=kq 11 0x232221201f1e1d1211100f
noncomputable def k_bw(n:Nat):=kq 2 0x200 (k_g (k_q (kq 2 0x201 (k_q (kq 4 0x2000001 (k_b (kq 9 0x150000001500000015 (k_a (kq 3 0x21615 (k_q (kq 1 2 (k_q (kq 6 0x11615140100 n)))))))))))))
noncomputable def k_bx(n:Nat):=kq 3 0x20025 (k_g (k_o (kq 2 0x201 (k_o (kq 4 0x2000001 (k_b (k_V (kq 1 2 (k_o (kq 1 2 (k_o (kq 6 0x11716150100 n))))))))))))
noncomputable def k_by:=kq 8 0x2f74646665706460
noncomputable def k_bz(n:Nat):=k_9 (kq 14 0x100000001000000010000010000 (k_a n))
noncomputable def k_bA:=kq 7 0x66657064666560
noncomputable def k_bB(n:Nat):=k_2 (kq 4 0x3000300 n)
noncomputable def k_bC:=kq 11 0x2221201f1e1d1c11100f0e
noncomputable def k_bD(n:Nat):=kq 7 0x808080810100f (k_d (kq 14 0x1010001000100008010900090908 n))
noncomputable def k_bE(n:Nat):=k_a (kq 3 0 n)
noncomputable def k_bF(n:Nat):=k_7 (k_f (kq 2 5 n))
noncomputable def k_bG:=kq 35 0xb09090809090009000909090809090009000909090809090009000909000800080808
noncomputable def k_bH(n:Nat):=k_bk (k_H (kq 10 0x11000011000011111111 (k_b (kq 7 0x6000600060000 (k_a (kq 1 0x11 (k_b (kq 1 0x11 (k_D (kq 4 0x7000000 n))))))))))
noncomputable def k_bI:=kq 18 0xf000f0f0f010f0f000f000f0f0f010f0f
noncomputable def k_bJ:=kq 9 0x60607371667360602f
noncomputable def k_bK:=kq 7 0xb0a0908070605
noncomputable def k_bL(n:Nat):=kq 6 0x10101010401 (k_bh (kq 6 0x10000000101 n))
noncomputable def k_bM(n:Nat):=kq 6 0x10101010401 (k_Z (kq 6 0x10000000101 n))
noncomputable def k_bN(n:Nat):=k_t (kq 9 0x120000001200000012 (k_a (kq 2 0x1312 (k_u n))))
noncomputable def k_bO(n:Nat):=kq 8 0x100000001010000 (k_a (kq 5 0x200000202 n))
noncomputable def k_bP(n:Nat):=kq 6 0x10101010000 (k_a (kq 1 1 (k_a n)))
noncomputable def k_bQ(n:Nat):=kq 8 0x100000001010000 (k_a (kq 51 0x20000020202020206040403040400040004040403040400040004040403040400040004040003000303030100020000000202 (k_a (kq 18 0x10002020000000202000202000002020000 (k_bG (kq 5 0x202020202 (k_e (kq 31 0xc0d0d000d000d0d000c000c0c0c0100020200000002020007070700070002 (k_n (kq 2 0xc0d (k_n (kq 10 0x2020202020f0d0d0c0d (k_e (kq 73 0x15150015001500150007000707010101010101011311111011110011001111111011110011001111111011110011001111001000101010020200000202000002020007070700070002 (k_bd (k_bd (kq 9 0x10000010017151507 (k_a (kq 3 0x10000 n)))))))))))))))))))
noncomputable def k_bR(n:Nat):=kq 55 0x1000001010101010503030203030003000303030203030003000303030203030003000303000200020202010001000000010101010000 (k_a (kq 21 0x10001010000000101000101010101000001010000 (k_P (kq 8 0x607070007000707 (k_k (kq 3 0x60707 (k_k (kq 20 0x100010101000000010101010101090707060707 n))))))))
noncomputable def k_bS(n:Nat):=k_G (kq 3 0x20000 (k_h (k_a (kq 1 2 (k_a (kq 1 0 (k_K n)))))))
noncomputable def k_bT:=kq 16 0x40004000404040003000300030303
noncomputable def k_bU(n:Nat):=kq 6 0x90900000909 (k_a (kq 3 0x90909 (k_d (kq 1 9 n))))
noncomputable def k_bV(n:Nat):=k_a (kq 10 0x4000400040000030000 (k_a n))
noncomputable def k_bW(n:Nat):=kq 7 0x2002221201f1e (k_g (k_w (kq 2 0x201 (k_w (kq 4 0x2000001 (k_b (kq 9 0x130000001300000013 (k_a (kq 3 0x21413 (k_w (kq 1 2 (k_w (kq 6 0x11413120100 n)))))))))))))
noncomputable def k_bX(n:Nat):=kq 8 0x200232221201f1e (k_g (k_n (kq 2 0x201 (k_n (kq 4 0x2000001 (k_b (kq 9 0x140000001400000014 (k_a (kq 3 0x21514 (k_n (kq 1 2 (k_n (kq 6 0x11514130100 n)))))))))))))
noncomputable def k_bY(n:Nat):=k_d (kq 8 0x30104000404 n)
noncomputable def k_bZ:=kq 6 0x30104000404
noncomputable def k_b0(n:Nat):=k_d (kq 6 0x30104000404 n)
noncomputable def k_b1:=kq 12 0xe0e0e141403141400140014
noncomputable def k_b2(n:Nat):=k_bz (kq 3 0x10101 (k_a (kq 15 0x20202000002020000020202020202 (k_a (kq 36 0x20200000202020404040404040400040004000403030300030003030300030003030000 (k_a (kq 17 0x202000002000604040400040004000202 (k_a (kq 3 0x20000 n)))))))))
noncomputable def k_b3(n:Nat):=k_bS (k_h (kq 1 3 (k_a (kq 11 0x100000100000101010100 (k_a (kq 2 0x101 (k_a (kq 13 0x1010004000004000004040404 (k_a (kq 10 0x5000005000005050505 (k_a (kq 8 0x606000006060606 n))))))))))))
noncomputable def k_b4(n:Nat):=kq 15 0x90000090900000909090909090000 (k_j (kq 10 0x90904000400040000 n))
noncomputable def k_b5(n:Nat):=k_bs (kq 1 0x10 (k_a (kq 7 0x11000011111111 (k_bt (kq 6 0x110000110000 n)))))
noncomputable def k_b6(n:Nat):=k_bu (kq 2 0x1111 (k_j (kq 10 0x11040105001105050505 (k_j (kq 1 0x11 (k_M (kq 1 0 n)))))))
noncomputable def k_b7(n:Nat):=kq 15 0xe0000000e0000000e010101010401 (k_a (kq 8 0x100000001010f0e n))
noncomputable def k_b8(n:Nat):=kq 6 0x10101010401 (k_bl (kq 6 0x10000000101 n))
noncomputable def k_b9(n:Nat):=kq 13 0x26262626010426002626000000 (k_4 (k_Z (k_u (kq 1 6 (k_5 (k_m n))))))
noncomputable def k_ca(n:Nat):=kq 13 0x27272727010427002727000000 (k_4 (k_V (k_u (kq 4 0x17161506 (k_m (k_ba (kq 9 0x120000001200000012 (k_a (kq 2 0x1312 (k_u (kq 15 0x1716152524232221201f1413121107 (k_m n))))))))))))
noncomputable def k_cb(n:Nat):=kq 14 0x301000200000002020201000100 (k_a (kq 5 0x5000505 (k_f (kq 5 0x6050505 n))))
noncomputable def k_cc:=kq 7 0x6060606060606
noncomputable def k_cd(n:Nat):=k_bo (kq 13 0x50005000404040404040400 (k_W n))
noncomputable def k_ce(n:Nat):=k_7 (k_P (kq 2 6 n))
noncomputable def k_cf:=kq 18 0x161600160016161601161600160016161601
noncomputable def k_cg:=kq 18 0x1b1b1b011b1b001b001b1b1b011b1b001b
noncomputable def k_ch(n:Nat):=k_Y (k_N (kq 2 0x101 (k_N (k_S (k_N n)))))
noncomputable def k_ci(n:Nat):=k_b9 (k_ba (kq 9 0x150000001500000015 (k_a (kq 2 0x1615 (k_u (kq 4 0x16151407 n))))))
noncomputable def k_cj(n:Nat):=k_ca (k_z (kq 2 0x201 (k_z (k_s (k_z (k_t (k_V (k_u (kq 1 8 n)))))))))
noncomputable def k_ck:=kq 10 0x3010400040404
noncomputable def k_cl(n:Nat):=k_x (kq 8 0x300030003 n)
noncomputable def k_cm(n:Nat):=kq 1 3 (k_a (kq 14 0x202020003000000030003000003 n))
noncomputable def k_cn(n:Nat):=k_d (kq 4 0x3030303 n)
noncomputable def k_co(n:Nat):=kq 1 0x13 (k_a (kq 14 0x1212120013000000130013000013 n))
noncomputable def k_cp(n:Nat):=k_bs (kq 2 0x1010 (k_a (kq 9 0x110000111111111111 (k_bt (k_j (kq 1 0x11 (k_M (kq 11 0x1114011500151511111100 n))))))))
noncomputable def k_cq(n:Nat):=k_Y (k_z (kq 2 0x101 (k_z (k_S (k_z n)))))
noncomputable def k_cr(n:Nat):=k_ci (kq 2 0x202 (k_I (kq 7 0x24232221201f1e (k_bw (kq 4 0x26262626 n)))))
noncomputable def k_cs(n:Nat):=k_bb (k_o (kq 2 0x201 (k_o (k_s (k_o (k_t (k_Z (k_u (kq 1 0xe (k_5 (k_m n)))))))))))
noncomputable def k_ct(n:Nat):=k_cj (kq 5 0x202171615 (k_I (kq 7 0x24232221201f1e (k_bx (kq 4 0x27272727 n)))))
noncomputable def k_cu(n:Nat):=k_bb (k_0 (kq 2 0x201 (k_0 (k_s (k_0 (k_bN (kq 12 0x2524232221201f141312110f (k_m n))))))))
noncomputable def k_cv:=kq 13 0xc0c0c12120312120012001200
noncomputable def k_cw:=kq 13 0xd0d0d13130313130013001300
noncomputable def k_cx(n:Nat):=k_bO (kq 3 0x20000 (k_a (kq 11 0x100000001000001010100 (k_a (kq 4 0x303 n)))))
noncomputable def k_cy(n:Nat):=k_bP (k_h (kq 1 1 (k_a (k_a (kq 12 0x10102000202000001010000 n)))))
noncomputable def k_cz(n:Nat):=k_bz (kq 5 0x101010100 (k_a (kq 5 0x202020202 (k_a (kq 5 0x101010000 (k_a (kq 2 0x100 (k_a (kq 13 0x3000003000303030300000303 (k_a (kq 5 0x303000000 (k_a (kq 21 0x30000030300030303030305000005000005050000 (k_a (k_e (kq 5 0x700000707 (k_P (kq 38 0xa08080608080008000808080608080008000808080608080008000808080608080008000808 (k_e (k_e (k_a (k_c (k_a (kq 2 0x707 (k_c (kq 56 0x303040404000400000003000004040404030303030700000700000707000e0c0c0c000c000c000c0b0b0b000b000b0b0b000b000b0b0000 (k_D (kq 7 0x3000003000303 (k_a (kq 7 0x4040000030000 n))))))))))))))))))))))))))))))
noncomputable def k_cA(n:Nat):=k_a (kq 1 1 (k_a (kq 4 0x1000100 (k_y (k_a (kq 8 0x404000004040404 n))))))
noncomputable def k_cB(n:Nat):=k_b3 (kq 4 0x6060000 n)
noncomputable def k_cC(n:Nat):=k_6 (k_B (kq 11 0x110e0e0e000e000e000000 n))
noncomputable def k_cD(n:Nat):=k_bk (kq 11 0x120e0e0e000e000e000000 n)
noncomputable def k_cE(n:Nat):=kq 1 0x10 (k_a (kq 14 0xf0f0f0010000000100010000010 n))
noncomputable def k_cF(n:Nat):=kq 1 0x11 (k_a (kq 14 0x1010100011000000110011000011 n))
noncomputable def k_cG(n:Nat):=kq 1 0xa (k_a (kq 14 0x90909000a0000000a000a00000a n))
noncomputable def k_cH(n:Nat):=kq 11 0xd00000d0d0d0d0d0d0000 (k_i (k_y (kq 1 0xd (k_F (kq 2 0xd0d (k_a (kq 20 0xf000f0f0001000101010e00000e0e0e0e0e0e (k_bI (k_bI (kq 26 0xe0e0e0e0e0e0e0e0e0e0e110f0f010f0f000f000f0f0f010f0f (k_j (kq 1 0xe (k_M (kq 11 0xe1101120012120e0e0e00 (k_j (kq 14 0x1201130013130e0401050005050e n))))))))))))))))
noncomputable def k_cI(n:Nat):=k_Y (k_1 (kq 2 0x101 (k_1 (k_S (k_1 n)))))
noncomputable def k_cJ(n:Nat):=kq 12 0x20200000200010401000100 (k_I (k_bW n))
noncomputable def k_cK(n:Nat):=kq 12 0x20200000200010401000100 (k_I (k_bX n))
noncomputable def k_cL(n:Nat):=k_y (kq 13 0xf0f0f15150315150015001500 n)
noncomputable def k_cM:=kq 18 0x60606000600060003010605070301060507
noncomputable def k_cN:=kq 18 0x141314140014001414141314140014001414
noncomputable def k_cO(n:Nat):=kq 7 0x4000400040000 (k_a n)
noncomputable def k_cP(n:Nat):=k_b5 (k_b6 (k_3 (kq 1 0x11 (k_a (kq 8 0x1500000015151515 (k_U (kq 5 0x1600001616 (k_C (kq 1 0x16 (k_C (kq 8 0x7010800080808 n)))))))))))
noncomputable def k_cQ:=kq 9 0x100e0d0c0100010015
noncomputable def k_cR:=kq 11 0x21201f1e1d1c1b100f0e0d
noncomputable def k_cS(n:Nat):=kq 13 0x24242424010424002424000000 (k_4 (k_bl (k_u (kq 1 6 (k_bC n)))))
noncomputable def k_cT(n:Nat):=kq 13 0x25252525010425002525000000 (k_4 (kq 9 0x140000001400000014 (k_a (kq 2 0x1514 (k_u (kq 4 0x15141306 (k_m (k_ba (k_bh (k_u (kq 1 7 (k_bv (kq 3 0x151413 n)))))))))))))
noncomputable def k_cU(n:Nat):=k_cr (k_bm (k_bw (kq 4 0x26262628 n)))
noncomputable def k_cV(n:Nat):=k_ct (k_bm (k_bx (kq 4 0x27272729 n)))
noncomputable def k_cW(n:Nat):=kq 7 0x10000010101010 (k_d (kq 7 0x10000010101010 (k_L n)))
noncomputable def k_cX(n:Nat):=k_y (kq 1 0 (k_b1 n))
noncomputable def k_cY(n:Nat):=k_cx (kq 4 0x3000003 (k_a (k_a (kq 31 0x3000303050505050505050005000500050404040004000404040004000404 (k_a (k_bE (kq 12 0x30000030000030000030303 n)))))))
noncomputable def k_cZ(n:Nat):=k_cy (kq 4 0x1000100 (k_h (kq 11 0x303000003030303000000 (k_a (kq 7 0x3000003030303 (k_a (kq 5 0x5000505 (k_f (kq 9 0x600060006050505 (k_cc (kq 45 0x30000040404000400040404040300080606060006000600030300000304040400040000000304040404030303 (k_a (kq 38 0xa0c090904090900090009000a0a0a0909040909000900090004040900040004040404040404 n)))))))))))))
noncomputable def k_c0(n:Nat):=k_bo (k_bi (k_W (k_bi (k_bp n))))
noncomputable def k_c1(n:Nat):=k_bo (k_bi (k_W (kq 13 0x50005000404040404040400 (k_bp n))))
noncomputable def k_c2(n:Nat):=k_cd (k_bi (k_bp n))
noncomputable def k_c3(n:Nat):=k_cd (kq 13 0x50005000404040404040400 (k_bp n))
noncomputable def k_c4(n:Nat):=k_bq (kq 9 0x90000090900090909 n)
noncomputable def k_c5(n:Nat):=k_bq (kq 11 0x900000909000909000009 n)
noncomputable def k_c6(n:Nat):=kq 11 0x800000808000008080808 (k_J (kq 9 0x80800000808000808 (k_a (kq 3 0x80808 (k_d (kq 1 8 (k_bF n)))))))
noncomputable def k_c7(n:Nat):=kq 23 0x500000005000000050101010202020202020200020002 (k_a (kq 3 0x10605 (k_a (kq 14 0x100030102010300030303010100 n))))
noncomputable def k_c8(n:Nat):=kq 1 0x14 (k_a (kq 14 0x1313130014000000140014000014 n))
noncomputable def k_c9(n:Nat):=kq 8 0x404040405050000 (k_a (kq 3 0x40404 (k_a (kq 7 0x60006060000 (k_P (kq 5 0x7060606 n))))))
noncomputable def k_da:=kq 19 0x909090b070707000700070002010004070608
noncomputable def k_db(n:Nat):=kq 9 0x80000080808080000 (k_bB (kq 1 8 (k_l (kq 1 8 (k_a (kq 11 0x900000909000009090909 (k_J (kq 3 0x909 (k_bU (k_ce n))))))))))
noncomputable def k_dc(n:Nat):=kq 6 0x80000080808 (k_J (kq 3 0x80000 (k_l (kq 1 8 (k_a (kq 8 0xa0a00000a0a0a0a (k_L (kq 1 0xa (k_L (kq 1 0xa (k_br (kq 5 0xb00000b0b (k_d (kq 1 0xb (k_d (k_a (kq 1 0xb (k_J (kq 3 0x80000 (k_d (kq 1 8 n)))))))))))))))))))))
noncomputable def k_dd(n:Nat):=kq 11 0x1400001414141414140000 (k_i (k_y (kq 1 0x14 (k_F (kq 2 0x1414 (k_a (kq 22 0x16160016001616000100010101150000151515151515 (k_cf (k_cf (kq 24 0x151515151515151515151518161601161600160016161601 (k_j (kq 1 0x15 (k_M (kq 11 0x1518011900191915151500 (k_j (kq 31 0x150000150000151a011b001b1b1500001519011a001a1a1504010500050515 (k_F (kq 2 0x1515 (k_a (kq 9 0x1c00001c1c1c1c1c1c (k_j (kq 1 0x1c (k_i (k_M (kq 1 0 (k_U (kq 6 0x1d0000001d1d (k_U (kq 5 0x1e00001e1e (k_C (kq 1 0x1e (k_C (kq 23 0x1c1c1c001f001f001f1f1f000001000007010800080808 (k_j (kq 1 0x1c (k_i (kq 7 0x1c040105000505 (k_j (kq 1 0x1c (k_i (k_M (kq 10 0xd0000000d0000000d00 (k_a (kq 8 0xe0d0c01001c0e0d n))))))))))))))))))))))))))))))))))))))))))))
noncomputable def k_de(n:Nat):=k_b5 (kq 3 0x110000 (k_b6 (k_U (kq 5 0x1500001515 (k_C (kq 1 0x15 (k_C (kq 8 0x7010800080808 n))))))))
noncomputable def k_df(n:Nat):=k_cp (k_j (kq 45 0x111801190019191117011800181811000011000011160117001717110000111501160016161104010500050511 (k_F (kq 2 0x1111 (k_a (kq 18 0x1b1b0001000101011a00001a1a1a1a1a1a (k_cg (k_cg (kq 31 0x1a00001a1a1a1a1a1a1a1a1a1a1a1d1b1b011b1b001b001b1b1b011b1b001b (k_bu (kq 13 0x1a00001a1a1a0e0d0c01001a1a n)))))))))))
noncomputable def k_dg(n:Nat):=k_3 (kq 1 0x1a (k_a (kq 7 0x1f00001f1f1f1f (k_3 (kq 1 0x1f (k_3 (kq 4 0x1d01001f (k_bK n))))))))
noncomputable def k_dh(n:Nat):=k_a (kq 8 0x2020000020202020 (k_bg (kq 1 0x20 (k_bg (kq 1 0x20 (k_U (kq 5 0x2100002121 (k_C (kq 1 0x21 (k_C (kq 2 0x100 n)))))))))))
noncomputable def k_di:=kq 18 0x40004000404040204040004000404040204
noncomputable def k_dj(n:Nat):=k_Y (k_r (kq 2 0x101 (k_r (k_S (k_r n)))))
noncomputable def k_dk(n:Nat):=k_bb (k_n (kq 2 0x201 (k_n (k_s (k_n (k_t (k_bl (k_u (kq 1 0xc (k_bC (k_m (k_q (kq 1 1 n)))))))))))))
noncomputable def k_dl(n:Nat):=k_bb (k_q (kq 2 0x201 (k_q (k_s (k_q (k_t (k_bh (k_u (kq 1 0xd (k_bv (k_m (k_o (kq 1 1 n)))))))))))))
noncomputable def k_dm(n:Nat):=k_cu (kq 8 0x111001100111111 n)
noncomputable def k_dn(n:Nat):=k_z (kq 2 0x201 (k_z (k_s (k_z (k_t (k_Z (k_u (kq 1 8 (k_5 (kq 3 0x161514 (k_m (k_0 (kq 1 1 n)))))))))))))
noncomputable def k_do(n:Nat):=k_N (kq 2 0x201 (k_N (k_s (k_N (k_bN (kq 15 0x1716152524232221201f1413121109 (k_m (kq 8 0x111001100111111 n))))))))
noncomputable def k_dp(n:Nat):=kq 7 0x11000011111111 (k_d (kq 7 0x11000011111111 (k_L n)))
noncomputable def k_dq:=kq 18 0x131312131300130013131312131300130013
noncomputable def k_dr(n:Nat):=k_d (kq 8 0x404040004000404 n)
noncomputable def k_ds(n:Nat):=k_cb (kq 6 0x60006000606 n)
noncomputable def k_dt(n:Nat):=kq 13 0x2000000020000000201000000 (k_a (kq 5 0x101000302 n))
noncomputable def k_du(n:Nat):=k_j (kq 3 0x10100 (k_bj (kq 2 0 n)))
noncomputable def k_dv(n:Nat):=k_bO (kq 3 0x20000 (k_h (k_a (kq 1 2 (k_a (kq 10 0x1000001000001010100 (k_a (kq 3 0x10000 (k_a (kq 2 0x303 (k_h (kq 44 0x304040404030000030303000003000003030505050500050005000500000303030404040404040404000404 (k_bi (kq 9 0x30000000705050505 (k_a (kq 10 0x4040404040404040404 n))))))))))))))))
noncomputable def k_dw(n:Nat):=k_bP (kq 3 0x10000 (k_a (kq 2 0x202 (k_h (kq 65 0x200000006040404040004000400030303030403000203030303020000020202000002000002020404040400040004000400000202020303030303030403000303 (k_a (kq 10 0x3030303030303030303 n)))))))
noncomputable def k_dx(n:Nat):=k_9 (kq 10 0x1000000010000010000 n)
noncomputable def k_dy(n:Nat):=k_e (kq 7 0x7000007070000 (k_J (kq 9 0x70700000707000707 (k_a (kq 3 0x70707 (k_d (kq 1 7 (k_bF n))))))))
noncomputable def k_dz:=kq 22 0x1000000010004000400040404020103000303030101
noncomputable def k_dA(n:Nat):=k_c (kq 14 0x606060007000000070007000007 n)
noncomputable def k_dB(n:Nat):=kq 1 8 (k_a (kq 14 0x707070008000000080008000008 n))
noncomputable def k_dC(n:Nat):=k_h (k_h (k_h (k_a (kq 2 0 n))))
noncomputable def k_dD:=kq 35 0x201e1e1d1e1e001e001e1e1e1d1e1e001e001e1e1e1d1e1e001e001e1e001d001d1d1d
noncomputable def k_dE(n:Nat):=kq 2 0x90a (k_a (kq 14 0x808080009000000090009000009 n))
noncomputable def k_dF(n:Nat):=kq 2 0x1213 (k_a (kq 14 0x1111110012000000120012000012 n))
noncomputable def k_dG:=kq 35 0x2422222122220022002222222122220022002222222122220022002222002100212121
noncomputable def k_dH(n:Nat):=kq 1 0xb (k_a (kq 14 0xa0a0a000b0000000b000b00000b n))
noncomputable def k_dI:=kq 13 0x1010202020202020200020002
noncomputable def k_dJ(n:Nat):=kq 2 0 (k_e (kq 3 0x70000 (k_bB (kq 1 7 (k_l (k_c (k_c6 n)))))))
noncomputable def k_dK(n:Nat):=kq 11 0x700000707070800000808 (k_J (kq 3 0x70000 (k_l (k_c (kq 8 0x909000009090909 (k_L (kq 1 9 (k_L (kq 1 9 (k_br (kq 5 0xa00000a0a (k_d (kq 1 0xa (k_d (k_a (kq 1 0xa (k_J (kq 3 0x70000 (k_d (kq 1 7 n))))))))))))))))))))
noncomputable def k_dL(n:Nat):=k_cp (k_F (kq 2 0x1111 (k_a (kq 9 0x160000161616161616 (k_3 (kq 1 0x16 (k_bu (kq 1 0x16 (k_i (kq 1 0x16 (k_i (kq 5 0xe0d0c0100 (k_a (kq 7 0x18000018181818 (k_3 (kq 1 0x18 (k_C (kq 4 0x16010018 (k_bK (kq 3 0x161616 (k_i (kq 3 0x160000 n))))))))))))))))))))))
noncomputable def k_dM(n:Nat):=kq 8 0x1616000016161616 (k_bg (kq 1 0x16 (k_bg (kq 1 0x16 (k_U (kq 5 0x1700001717 (k_C (kq 1 0x17 (k_C (kq 2 0x100 n))))))))))
noncomputable def k_dN(n:Nat):=k_U (kq 5 0x1400001414 (k_C (kq 1 0x14 (k_3 (kq 3 0x140000 n)))))
noncomputable def k_dO(n:Nat):=kq 48 0x171717191616151616001600161700010016161516160016001617001717171616151616001600161700160015001515 (k_a (kq 8 0x1a1a00001a1a1a1a (k_bg (kq 1 0x1a (k_bg (kq 1 0x1a (k_U (kq 5 0x1b00001b1b (k_C (kq 1 0x1b (k_C (kq 2 0x100 n))))))))))))
noncomputable def k_dP:=kq 16 0x1000100030003000303030100020101
noncomputable def k_dQ(n:Nat):=k_cS (kq 2 0x202 (k_I (k_bW (kq 4 0x24242424 (k_cJ (kq 4 0x24242426 n))))))
noncomputable def k_dR(n:Nat):=k_cT (kq 2 0x202 (k_I (k_bX (kq 4 0x25252525 (k_cK (kq 4 0x25252527 n))))))
noncomputable def k_dS(n:Nat):=k_cU (k_bm (k_bw (kq 4 0x2626262a n)))
noncomputable def k_dT(n:Nat):=k_cV (k_bm (k_bx (kq 4 0x2727272b n)))
noncomputable def k_dU(n:Nat):=k_bD (k_bD (k_bD (k_bD n)))
noncomputable def k_dV(n:Nat):=k_8 (k_8 (k_8 (k_8 (k_8 (k_8 (k_8 (k_8 n)))))))
noncomputable def k_dW(n:Nat):=kq 7 0xf00000f0f0f0f (k_d (kq 7 0xf00000f0f0f0f (k_L (kq 1 0xf n))))
noncomputable def k_dX:=kq 12 0xf0f0f151503151500150015
noncomputable def k_dY(n:Nat):=k_a (kq 5 0x100020000 (k_h (kq 31 0x4040304040004000405000505050404030404000400040500040003000303 n)))
noncomputable def k_dZ(n:Nat):=kq 6 0x20205050507 (k_a (kq 1 2 (k_a (kq 8 0x201000201000000 (k_O (kq 8 0x100010001000100 (k_a (kq 14 0x100000002000002020201000000 (k_a (k_y (kq 1 2 n)))))))))))
noncomputable def k_d0(n:Nat):=k_dt (kq 10 0xb0a0908070605040302 n)
noncomputable def k_d1(n:Nat):=kq 15 0x10101010100000001000001010000 (k_a (kq 37 0x1000002020200020002020202010000010001010000010202020002000000010202020201 (k_a (kq 38 0x406030302030300030003000404040303020303000300030002020300020002020202020202 n))))
noncomputable def k_d2(n:Nat):=kq 20 0x101010200020200000100000001000001010000 (k_a (k_h (kq 2 0x100 n)))
noncomputable def k_d3:=kq 19 0x1010200020200000100000001000001010000
noncomputable def k_d4(n:Nat):=kq 5 0x100010100 (k_a (kq 9 0x10101010300000303 (k_cA (kq 4 0x4040000 n))))
noncomputable def k_d5(n:Nat):=kq 13 0x8010008000000080808080000 (k_d (kq 9 0x40000000400000004 (k_a (kq 2 0x504 (k_a (kq 2 0xa0a (k_a (kq 2 0x40a (k_a (kq 31 0x8080800090b0b0b0b0b000900090909060006000600000500040400000004 (k_l (kq 17 0x80000080808060504030201000b010008 (k_J n)))))))))))))
noncomputable def k_d6(n:Nat):=kq 3 0x80100 (k_cn (kq 7 0x8020103000808 (k_d (kq 2 0x808 (k_d (kq 2 0x100 n))))))
noncomputable def k_d7(n:Nat):=k_l (kq 1 5 (k_a (kq 11 0x600000606000006060606 (k_J (kq 9 0x60600000606000606 (k_a (kq 3 0x60606 (k_d (kq 1 6 (k_bT (kq 3 6 n)))))))))))
noncomputable def k_d8(n:Nat):=kq 20 0x600000606060700000707000707000007000007 (k_J n)
noncomputable def k_d9(n:Nat):=kq 15 0x80800000808000808000008000008 (k_a (kq 3 0x80808 (k_d (kq 1 8 (k_ce n)))))
noncomputable def k_ea(n:Nat):=kq 2 0xd0e (k_a (kq 14 0xc0c0c000d0000000d000d00000d n))
noncomputable def k_eb:=kq 35 0x1e1c1c1b1c1c001c001c1c1c1b1c1c001c001c1c1c1b1c1c001c001c1c001b001b1b1b
noncomputable def k_ec(n:Nat):=kq 2 0xe0f (k_a (kq 14 0xd0d0d000e0000000e000e00000e n))
noncomputable def k_ed(n:Nat):=k_bj (kq 5 0x1100110000 (k_a (kq 7 0x12121212000000 n)))
noncomputable def k_ee(n:Nat):=kq 2 0xf10 (k_a (kq 14 0xe0e0e000f0000000f000f00000f n))
noncomputable def k_ef:=kq 35 0x2220201f20200020002020201f20200020002020201f20200020002020001f001f1f1f
noncomputable def k_eg(n:Nat):=k_bj (kq 5 0x1300130000 (k_bE (kq 8 0x1414000014141414 n)))
noncomputable def k_eh:=kq 30 0x1a1818171818001800181818171818001800181818171818001800181800
noncomputable def k_ei(n:Nat):=kq 16 0x2010004070608020100040706080305 (k_da n)
noncomputable def k_ej(n:Nat):=kq 9 0x60000060606060000 (k_bB (kq 1 6 (k_l (kq 1 6 (k_a (k_dy (kq 13 0x7070000070700070707000007 (k_a (kq 3 0x70707 (k_d (kq 1 7 (k_bT n))))))))))))
noncomputable def k_ek(n:Nat):=kq 3 0x60000 (k_l (kq 1 6 (k_a (kq 8 0x808000008080808 (k_L (kq 1 8 (k_L (kq 1 8 (k_l (k_a (kq 5 0x900000909 (k_d (kq 1 9 (k_d (k_a (kq 1 9 (k_J (kq 3 0x60000 n))))))))))))))))))
noncomputable def k_el(n:Nat):=k_dJ (kq 13 0x8080000080800080808000008 (k_a (kq 3 0x80808 (k_d (kq 1 8 (k_bT n))))))
noncomputable def k_em(n:Nat):=k_db (kq 7 0x90909000009 (k_bU (k_bF (kq 7 0x90909000009 (k_bU (kq 17 0x900040004000404040003000300030303 n))))))
noncomputable def k_en(n:Nat):=k_cH (kq 14 0xe00000e1301140014140e00000e (k_U (kq 5 0x1500001515 (k_3 (kq 3 0x150000 (k_C (kq 5 0x100070100 (k_a n))))))))
noncomputable def k_eo(n:Nat):=k_dg (k_dh (kq 3 0x210000 (k_C (kq 6 0x110100070100 n))))
noncomputable def k_ep(n:Nat):=k_cH (kq 4 0xe00000e (k_dN (k_C (kq 2 0x100 (k_a n)))))
noncomputable def k_eq(n:Nat):=kq 14 0x405050005000505000400040404 (k_f (kq 3 0x40505 (k_f (kq 10 0x1010101070505040505 n))))
noncomputable def k_er(n:Nat):=kq 13 0x4000400040400020002020201 (k_di (k_di (kq 14 0x101010101010101010604040204 n)))
noncomputable def k_es:=kq 27 0x101090701000909090c0707070007000700040302010706080105
noncomputable def k_et:=kq 35 0x1010b0a0801000a0a0a0e080808000800080005030201080709040302010807090205
noncomputable def k_eu(n:Nat):=k_bV (kq 16 0x90808080008000808080008000808 n)
noncomputable def k_ev:=kq 43 0x1010d0c0b0901000b0b0b1009090900090009000603020109080a0503020109080a0403020109080a0305
noncomputable def k_ew:=kq 51 0x1010f0e0d0c0a01000c0c0c120a0a0a000a000a00070302010a090b060302010a090b050302010a090b040302010a090b0405
noncomputable def k_ex(n:Nat):=kq 5 0x5000505 (k_f (kq 13 0x6060600060006000006050505 n))
noncomputable def k_ey(n:Nat):=k_k (kq 3 0x10107 (k_k (kq 1 7 (k_S (k_k (kq 1 7 (k_b7 (kq 1 6 (k_cR (kq 7 0x1a191817161514 (k_dj (k_b7 (kq 15 0x1312111a191817161514100f0e0d07 (k_cq (k_b7 (kq 15 0x1312111a191817161514100f0e0d08 (k_ch (k_b7 (kq 1 9 (k_cR (kq 6 0x30101131211 n)))))))))))))))))))))
noncomputable def k_ez(n:Nat):=kq 1 1 (k_R (k_r (kq 2 0x101 (k_r (k_S (k_r n))))))
noncomputable def k_eA(n:Nat):=k_b8 (kq 1 7 (k_bC (kq 7 0x1b1a1918171615 (k_cq (k_b8 (kq 15 0x1413121b1a191817161511100f0e08 (k_ch (k_b8 (kq 15 0x1413121b1a191817161511100f0e09 (k_cI (k_b8 (kq 1 0xa (k_bC (kq 6 0x30101141312 n))))))))))))))
noncomputable def k_eB(n:Nat):=k_bL (kq 1 7 (k_bv (kq 3 0x151413 (k_cq (k_bL (kq 1 8 (k_bv (kq 7 0x1c1b1a19181716 (k_ch (k_bL (kq 15 0x1514131c1b1a191817161211100f09 (k_cI (k_bL (kq 15 0x1514131c1b1a191817161211100f0a (k_Y (k_w (kq 2 0x101 (k_w (k_S (k_w (k_bL (kq 1 0xb (k_bv (kq 6 0x30101151413 n))))))))))))))))))))))))
noncomputable def k_eC(n:Nat):=k_bM (kq 1 8 (k_5 (kq 3 0x161514 (k_ch (k_bM (kq 1 9 (k_5 (kq 7 0x1d1c1b1a191817 (k_cI (k_bM (kq 15 0x1615141d1c1b1a191817131211100a (k_Y (k_w (kq 2 0x101 (k_w (k_S (k_w (k_bM (kq 15 0x1615141d1c1b1a191817131211100b (k_Y (k_n (kq 2 0x101 (k_n (k_S (k_n (k_bM (kq 1 0xc (k_5 (kq 6 0x30101161514 n)))))))))))))))))))))))))))))
noncomputable def k_eD:=kq 18 0xb000b0b0b050b0b000b000b0b0b050b0b
noncomputable def k_eE(n:Nat):=kq 2 0 (k_e (kq 4 0x707 (k_bG (k_e (kq 1 7 (k_f (kq 8 0x50c0c000c000c0c (k_w (kq 2 0x50c (k_w (kq 2 0x50c (k_w (kq 2 0x50c (k_w (kq 5 0xe0c0c050c (k_e (k_e (kq 1 7 (k_l (k_a (kq 1 0 (k_dW (kq 1 7 (k_l (k_a (kq 1 0 (k_cW (kq 2 0x710 (k_l (k_a (kq 1 0 (k_dp (kq 8 0x1300120012121211 (k_dq (k_dq (kq 1 0x15 (k_e (kq 3 0x70707 (k_br (kq 5 0x1600001616 (k_d (kq 6 0x160000161616 (k_L (kq 2 0x716 (k_l (k_a (kq 5 0x1700001717 (k_d (kq 6 0x170000171717 (k_L (kq 36 0x1b1919181919001900191919181919001900191919181919001900191900180018181817 (k_e (kq 38 0x1f1d1d1c1d1d001d001d1d1d1c1d1d001d001d1d1d1c1d1d001d001d1d001c001c1c1c070707 (k_e (kq 38 0x2321212021210021002121212021210021002121212021210021002121002000202020070707 (k_e (kq 2 0x707 (k_l n))))))))))))))))))))))))))))))))))))))))))))))))))))))))))
noncomputable def k_eF(n:Nat):=kq 11 0x2626000026000026262626 (k_x (kq 2 0x2626 (k_bY (kq 1 0x26 (k_J (kq 1 0x26 (k_d (kq 1 0x26 (k_bZ n)))))))))
noncomputable def k_eG(n:Nat):=k_O (kq 1 7 (k_l (kq 2 0x707 (k_O (kq 1 7 (k_l (kq 2 0x707 n)))))))
noncomputable def k_eH(n:Nat):=kq 8 0x702010001000000 (k_l (kq 10 0x7020100010000000707 (k_l (kq 1 7 (k_O (kq 1 7 (k_l (kq 3 0x70707 (k_O (kq 1 7 (k_l (k_c n))))))))))))
noncomputable def k_eI(n:Nat):=kq 50 0x8080808080c0a0a090a0a000a000a0a0a090a0a000a000a0a0a090a0a000a000a0a00090009090900000808080808080000 (k_f (kq 8 0x50d0d000d000d0d (k_n (kq 2 0x50d (k_n (kq 2 0x50d (k_n (kq 2 0x50d (k_n (kq 14 0x808080808080808080f0d0d050d (k_l (k_a (kq 1 0 (k_cW (kq 2 0x810 (k_l (k_a (kq 1 0 (k_dp (kq 2 0x811 (k_l (k_a (kq 8 0x1200001212121200 (k_d (kq 7 0x12000012121212 (k_L (kq 7 0x130013131312 (k_cN (k_cN (kq 9 0x80808080808081614 (k_br (kq 5 0x1700001717 (k_d (kq 6 0x170000171717 (k_L (kq 2 0x817 (k_l (k_a (kq 5 0x1800001818 (k_d (kq 6 0x180000181818 (k_L (kq 43 0x80808080808081c1a1a191a1a001a001a1a1a191a1a001a001a1a1a191a1a001a001a1a00190019191918 (k_dD (kq 7 0x8080808080808 (k_dG (kq 6 0x80808080808 (k_l (kq 2 0x808 n)))))))))))))))))))))))))))))))))))))))))))))))))
noncomputable def k_eJ(n:Nat):=k_O (kq 5 0x808080808 (k_l (kq 4 0x8080808 (k_O (kq 2 0x808 (k_l (kq 2 0x808 n)))))))
noncomputable def k_eK(n:Nat):=k_O (kq 1 8 (k_l (kq 1 8 (k_a (kq 11 0x2828000028000028282828 (k_x (kq 2 0x2828 (k_bY (kq 1 0x28 (k_J (kq 1 0x28 (k_d (kq 1 0x28 (k_bZ (kq 6 0x80808080808 (k_l (kq 4 0x8080808 (k_O (kq 1 8 (k_l (kq 2 0x808 (k_O (kq 1 8 (k_l (kq 2 0x808 (k_O (kq 1 8 (k_l (kq 10 0x8020100010000000808 (k_l (kq 10 0x8020100010000000808 (k_l (kq 1 8 (k_O (kq 1 8 (k_l (kq 3 0x80808 (k_O (kq 1 8 (k_l (kq 1 8 (k_a (kq 11 0x3030000030000030303030 (k_x (kq 2 0x3030 (k_bY (kq 1 0x30 (k_J (kq 1 0x30 (k_d (kq 1 0x30 (k_bZ n))))))))))))))))))))))))))))))))))))))))))))))))))))
noncomputable def k_eL(n:Nat):=kq 12 0xc0c0c0f0f0f0f0f04040f0f (k_d (kq 1 0xc (k_ck (kq 1 0xc (k_cl (kq 4 0xf000f n))))))
noncomputable def k_eM(n:Nat):=kq 10 0xd0d0d10101010100404 (k_d (kq 1 0xd (k_ck (kq 1 0xd (k_cl (kq 6 0x101000100010 n))))))
noncomputable def k_eN(n:Nat):=kq 14 0xe0e0e1111111111040411110011 (k_d (kq 1 0xe (k_ck (kq 1 0xe (k_cl (kq 2 0x11 n))))))
noncomputable def k_eO(n:Nat):=kq 10 0xf0f0f12121212120404 (k_d (kq 1 0xf (k_ck (kq 1 0xf (k_cl (kq 6 0x121200120012 n))))))
noncomputable def k_eP(n:Nat):=kq 9 0x20000020202020000 (k_i (kq 5 0x200000100 (k_i n)))
noncomputable def k_eQ(n:Nat):=kq 30 0x20200010100010101020201000001000200000202020000020202020000 (k_a (kq 1 2 (k_a (k_dY n))))
noncomputable def k_eR:=kq 21 0x8080801010b060606000600060003010605070105
noncomputable def k_eS(n:Nat):=kq 12 0x30106050703010605070405 (k_cM (kq 6 0x8080801010e n))
end Mine
namespace Mine
open PySem PySem.W PySem.W.X
inductive LT where
 |nil
 |node (a:Addr) (o:Obj) (l r:LT)
namespace LT
noncomputable def get(t:LT):Nat→Option (Addr×Obj):=@LT.rec (fun _=>Nat→Option (Addr×Obj)) (fun _=>none)
 (fun a o _ _ gl gr i=>@Bool.rec (fun _=>Option (Addr×Obj)) (@Bool.rec (fun _=>Option (Addr×Obj)) (gr (Nat.sub (Nat.div i 2) 1)) (gl (Nat.div i 2)) (Nat.beq (Nat.mod i 2) 1)) (some (a,o)) (Nat.beq i 0)) t
noncomputable def set(t:LT)(f:Obj→Obj):Nat→LT:=@LT.rec (fun _=>Nat→LT) (fun _=>.nil)
 (fun a o l r gl gr i=>@Bool.rec (fun _=>LT) (@Bool.rec (fun _=>LT) (.node a o l (gr (Nat.sub (Nat.div i 2) 1))) (.node a o (gl (Nat.div i 2)) r) (Nat.beq (Nat.mod i 2) 1)) (.node a (f o) l r) (Nat.beq i 0)) t
noncomputable def ins(t:LT)(b:Addr)(x:Obj):Nat→LT:=@LT.rec (fun _=>Nat→LT) (fun _=>.node b x .nil .nil)
 (fun a o l r gl gr i=>@Bool.rec (fun _=>LT) (@Bool.rec (fun _=>LT) (.node a o l (gr (Nat.sub (Nat.div i 2) 1))) (.node a o (gl (Nat.div i 2)) r) (Nat.beq (Nat.mod i 2) 1)) (.node b x l r) (Nat.beq i 0)) t
end LT
set_option genInjectivity true in
inductive Oh where
 |a (x:Nat)
 |o (x:Obj)
 |c (x:Code)
 |g (x:List GenState)
 |v (x:Value)
 |b (x:Bool)
 |os (x:List Obj)
 |t (x:Sem PySem.Fin)
 |bad
inductive Ob where
 |a (x y:Nat)
 |o (x y:Obj)
 |c (x y:Code)
 |g (x y:List GenState)
 |t (x y:Sem PySem.Fin)
noncomputable def Ob.ok:Ob→Prop
 |.a x y=>x=y
 |.o x y=>x=y
 |.c x y=>x=y
 |.g x y=>x=y
 |.t x y=>x=y
noncomputable def Ob.l(x:Ob):Oh:=@Ob.rec (fun _=>Oh) (fun x _=>.a x) (fun x _=>.o x) (fun x _=>.c x) (fun x _=>.g x) (fun x _=>.t x) x
noncomputable def Ob.r(x:Ob):Oh:=@Ob.rec (fun _=>Oh) (fun _ x=>.a x) (fun _ x=>.o x) (fun _ x=>.c x) (fun _ x=>.g x) (fun _ x=>.t x) x
structure Con where
 code:Code
 pre:List (Addr×Obj)
 val:(Nat→Nat)→Value
 post:(Nat→Nat)→List Obj
 new:(Nat→Nat)→List Obj
 need:Nat
 g:Option (List GenState×List GenState)
 jump:Bool
 seg:Bool
structure Sup where
 n:Nat→Nat
 z:Nat
 t:Nat
 p:Pos
 b:List (Code×Pos)
inductive K where
 |base
 |seg
 |ret (c:Code) (k:Result→Sem PySem.Fin) (κ:K)
 |gen (g:Nat) (c:Code) (k:GenResult→Sem PySem.Fin) (κ:K)
structure St where
 T:LT
 z:Nat
 t:Nat
 gl:List GenState
inductive Out where
 |ob (x:Ob) (o:Out)
 |done (r:Result) (s:St)
 |again (c:Code) (md:Option (List Frame)) (κ:K) (s:St)
 |stop (n:Nat)
structure Par where
 prog:Program
 P:Params
 kt:KT
 tree:Code→Sem PySem.Fin
 alt:Code→Sem PySem.Fin
 quiet:Code→Bool
 plain:Code→Bool
 need:Nat
 P2:Option Params
abbrev Fam:=Code→LT→Nat→Con
abbrev Rest:=Nat→List Fam→(Nat→Sup)→LT→Nat→Nat→Nat→Nat→Nat→List GenState→Out
abbrev Rst2:=List Fam→(Nat→Sup)→LT→Nat→Nat→Nat→Nat→Nat→List GenState→Out
abbrev Sim:=Code→Option (List Frame)→K→Sem PySem.Fin→Rest
abbrev Stp:=Par→Sim→Code→Option (List Frame)→K→Rest
noncomputable def stop(n:Nat):Rest:=fun _ _ _ _ _ _ _ _ _ _=>.stop n
noncomputable def stop2(n:Nat):Rst2:=fun _ _ _ _ _ _ _ _ _=>.stop n
noncomputable def nay(n:Nat):Stp:=fun _ _ _ _ _=>stop n
noncomputable def okF(pl:Code→Bool)(fs:List Frame)(go:Nat→Bool):Nat→Bool:=
 @List.rec Frame (fun _=>Nat→Bool) go (fun f _ ih n=>@Nat.rec (fun _=>Bool) false (fun n _=>@Frame.rec (fun _=>Bool) (fun _ h _ _ c _ _=>@Option.rec Value (fun _=>Bool) (@Bool.rec (fun _=>Bool) false (ih n) (pl c)) (fun _=>false) h) (fun _ _ _ _ _=>false) f) n) fs
noncomputable def okK(pl:Code→Bool)(κ:K):Nat→Bool:=
 @K.rec (fun _=>Nat→Bool) (fun _=>true) (fun _=>true)
  (fun c _ _ ih n=>@Nat.rec (fun _=>Bool) false (fun n _=>@Bool.rec (fun _=>Bool) false (ih n) (pl c)) n)
  (fun _ c _ _ ih n=>@Nat.rec (fun _=>Bool) false (fun n _=>@Bool.rec (fun _=>Bool) false (ih n) (pl c)) n) κ
noncomputable def okM(pl:Code→Bool)(md:Option (List Frame))(κ:K)(n:Nat):Bool:=
 @Option.rec (List Frame) (fun _=>Bool) (okK pl κ n) (fun fs=>okF pl fs (okK pl κ) n) md
noncomputable def okA(pl:Code→Bool)(c:Code)(md:Option (List Frame))(κ:K):Bool:=@Bool.rec (fun _=>Bool) false (okM pl md κ 10) (pl c)
noncomputable def preGo(k:Nat→LT→Out)(ps:List (Addr×Obj)):List Obj→Nat→LT→Out:=
 @List.rec (Addr×Obj) (fun _=>List Obj→Nat→LT→Out) (fun _ sc T=>k sc T)
  (fun p _ ih os sc T=>@Option.rec (Addr×Obj) (fun _=>Out) (.stop 50) (fun ao=>@List.rec Obj (fun _=>Out) (.stop 51) (fun o os _=>.ob (.a ao.1 p.1) (.ob (.o ao.2 p.2) (ih os (Nat.div sc 256) (T.set (fun _=>o) (Nat.mod sc 256))))) os) (T.get (Nat.mod sc 256))) ps
noncomputable def newGo(X:Nat→Nat)(k:LT→Nat→Out)(os:List Obj):Nat→LT→Nat→Out:=
 @List.rec Obj (fun _=>Nat→LT→Nat→Out) (fun _ T m=>k T m) (fun o _ ih i T m=>@Option.rec (Addr×Obj) (fun _=>Out) (.stop 53) (fun _=>ih (Nat.succ i) (T.ins (X i) o m) (Nat.succ m)) ((T.ins (X i) o m).get m)) os
noncomputable def genGo(k:List GenState→Out)(g:Option (List GenState×List GenState))(gl:List GenState):Out:=
 @Option.rec (List GenState×List GenState) (fun _=>Out) (k gl) (fun p=>.ob (.g gl p.1) (k p.2)) g
noncomputable def memS(x:Nat)(n:Nat):Nat→Bool:=@Nat.rec (fun _=>Nat→Bool) (fun _=>false) (fun _ ih sc=>@Bool.rec (fun _=>Bool) (ih (Nat.div sc 256)) true (Nat.beq (Nat.mod sc 256) x)) n
noncomputable def nodS(n:Nat):Nat→Bool:=@Nat.rec (fun _=>Nat→Bool) (fun _=>true) (fun n ih sc=>@Bool.rec (fun _=>Bool) (ih (Nat.div sc 256)) false (memS (Nat.mod sc 256) n (Nat.div sc 256))) n
noncomputable def andB(a b:Bool):Bool:=@Bool.rec (fun _=>Bool) false b a
noncomputable def notB(a:Bool):Bool:=@Bool.rec (fun _=>Bool) true false a
noncomputable def eqB(a b:Bool):Bool:=@Bool.rec (fun _=>Bool) (notB b) b a
noncomputable def isSomeB{α:Type}(a:Option α):Bool:=@Option.rec α (fun _=>Bool) false (fun _=>true) a
noncomputable def lenB{α:Type}(l:List α):Nat:=@List.rec α (fun _=>Nat) 0 (fun _ _ n=>Nat.succ n) l
noncomputable def fitB(V:Par)(want:Bool)(md:Option (List Frame))(C:Con)(sc:Nat):Bool:=
 andB (Nat.ble (Nat.succ C.need) V.need) (andB (nodS (lenB C.pre) sc) (andB (eqB C.jump want) (@Bool.rec (fun _=>Bool) true (eqB C.seg (isSomeB md)) want)))
noncomputable def conGo(C:Con)(cs:List Fam)(S:Sup)(U:Nat→Sup)(T:LT)(m:Nat)(gl:List GenState)(cont:Value→Rest)(sc:Nat):Out:=
 genGo (fun gl=>preGo (fun sc T=>newGo S.n (fun T m=>cont (C.val S.n) sc cs (fun i=>U (Nat.succ i)) T m S.z 0 S.t 0 gl) (C.new S.n) 0 T m) C.pre (C.post S.n) sc T) C.g gl
noncomputable def useC(C:Con)(V:Par)(want:Bool)(md:Option (List Frame))(c':Code)(cont:Value→Rest)(sc:Nat)(cs:List Fam)(U:Nat→Sup)(T:LT)(m:Nat)(gl:List GenState):Out:=
 @Bool.rec (fun _=>Out) (.stop 54) (.ob (.c c' C.code) (conGo C cs (U 0) U T m gl cont sc)) (fitB V want md C sc)
noncomputable def useCon(V:Par)(want:Bool)(md:Option (List Frame))(c':Code)(cont:Value→Rest)(sc:Nat):Rst2:=fun cs U T m _ _ _ _ gl=>
 @List.rec Fam (fun _=>Out) (.stop 52) (fun F cs _=>useC (F c' T sc) V want md c' cont sc cs U T m gl) cs
noncomputable def ifOk(b:Bool)(r:Rst2):Rst2:=@Bool.rec (fun _=>Rst2) (stop2 55) r b
noncomputable def wakeS(ih:Sim)(e:End)(κ:K):Rest:=
 @K.rec (fun _=>Rest) (stop 20) (stop 20) (fun _ _ _ _=>stop 20)
  (fun g c k κ _ sc cs U T m zb zk tb tk gl=>ih c none κ (k e.result) sc cs U T m zb zk tb tk (gl.set g e.genState)) κ
noncomputable def retN(ih:Sim)(r:Result)(κ:K):Rest:=
 @K.rec (fun _=>Rest) (fun _ _ _ T _ zb zk tb tk gl=>.done r ⟨T,Nat.add zb zk,Nat.add tb tk,gl⟩) (stop 21) (fun c k κ _=>ih c none κ (k r)) (fun _ _ _ _ _=>stop 21) κ
noncomputable def retF(ih:Sim)(r:Result)(κ:K)(f:Frame)(fs:List Frame):Rest:=
 @Frame.rec (fun _=>Rest) (fun k _ _ _ c₁ _ _=>ih c₁ (some fs) κ (k r)) (fun _ _ _ _ _=>stop 22) f
noncomputable def retL(ih:Sim)(r:Result)(κ:K)(fs:List Frame):Rest:=
 @List.rec Frame (fun _=>Rest) (wakeS ih (.ret r) κ) (fun f fs _=>retF ih r κ f fs) fs
noncomputable def retS(ih:Sim)(r:Result)(md:Option (List Frame))(κ:K):Rest:=
 @Option.rec (List Frame) (fun _=>Rest) (retN ih r κ) (fun fs=>retL ih r κ fs) md
noncomputable def stDone(f:Flow):Stp:=fun _ ih _ md κ=>retS ih (.ok f) md κ
noncomputable def isDef(c:Code):Bool:=@Code.rec (fun _=>Bool) (fun f _=>@Value.rec (fun _=>Bool) false false false (fun _=>false) (fun _ _=>false) (fun _ _=>false) (fun _ _=>false) (fun _ _=>false) (fun _=>false) (fun _=>false) (fun _=>true) f)
 (fun _ _=>false) (fun _ _=>false) (fun _ _=>false) (fun _ _ _=>false) (fun _ _ _ _ _=>false) (fun _ _=>false) (fun _ _=>false) (fun _ _ _ _=>false) (fun _ _ _ _ _=>false) (fun _ _ _ _ _=>false) (fun _ _ _ _ _=>false) (fun _ _ _ _ _=>false) c
noncomputable def inl(V:Par)(ih:Sim)(c':Code)(md:Option (List Frame))(κ:K)(sc:Nat):Rst2:=
 @Bool.rec (fun _=>Rst2) (ih c' md κ (V.tree c') sc) (ifOk (andB (notB (isSomeB md)) (okA V.plain c' md κ)) (ih c' md κ (V.tree c') sc)) (isDef c')
noncomputable def jmpN(V:Par)(ih:Sim)(md:Option (List Frame))(κ:K)(c':Code)(fin:Rst2)(k:Nat):Rest:=
 @Nat.rec (fun _=>Rest) (fun sc=>@Nat.rec (fun _=>Rst2) (ih c' md κ (V.tree c') (Nat.div sc 256)) (fun _ _=>fin) (Nat.mod sc 256)) (fun _ r=>useCon V true md c' (fun _=>r)) k
noncomputable def how(V:Par)(ih:Sim)(md:Option (List Frame))(κ:K)(c':Code)(con:Nat→Rst2)(fin:Rst2)(sc:Nat):Rst2:=
 @Nat.rec (fun _=>Rst2) (inl V ih c' md κ (Nat.div sc 256)) (fun j _=>@Nat.rec (fun _=>Rst2) (con (Nat.div sc 256)) (fun j _=>@Nat.rec (fun _=>Rst2)
   (ifOk (andB (notB (isDef c')) (okM V.plain md κ 10)) (useCon V true md c' (fun _=>ih c' md κ (V.tree c')) (Nat.div sc 256))) (fun j _=>@Nat.rec (fun _=>Rst2) fin (fun j _=>@Nat.rec (fun _=>Rst2) (ifOk (andB (notB (isSomeB md)) (okA V.plain c' md κ)) (ih c' md κ (V.alt c') (Nat.div sc 256)))
    (fun _ _=>ifOk (andB (notB (isDef c')) (okM V.plain md κ 10)) (jmpN V ih md κ c' fin (Nat.mod (Nat.div sc 256) 256) (Nat.div sc 65536))) j) j) j) j) (Nat.mod sc 256)
noncomputable def endA(c':Code)(md:Option (List Frame))(κ:K):Rst2:=fun _ _ T _ zb zk tb tk gl=>.again c' md κ ⟨T,Nat.add zb zk,Nat.add tb tk,gl⟩
noncomputable def stAgain(c':Code):Stp:=fun V ih _ md κ sc=>@Bool.rec (fun _=>Rst2) (stop2 5)
  (how V ih md κ c' (fun sc=>ifOk (andB (notB (isSomeB md)) (okM V.plain md κ 10)) (useCon V false none c' (fun v=>retS ih (.ok (.ret v)) md κ) sc)) (endA c' md κ) sc) (V.quiet c')
noncomputable def stPure(fin:PySem.Fin):Stp:=@PySem.Fin.rec (fun _=>Stp) stDone stAgain fin
noncomputable def stRaise(e:Value):Stp:=fun _ ih _ md κ=>retS ih (.error e) md κ
noncomputable def stRule(_:String)(k:Unit→Sem PySem.Fin)(_:Unit→Stp):Stp:=fun _ ih c md κ=>ih c md κ (k ())
noncomputable def stAt(_:Pos)(k:Unit→Sem PySem.Fin)(_:Unit→Stp):Stp:=fun _ ih c md κ=>ih c md κ (k ())
noncomputable def stPoint(_:List Value)(k:Unit→Sem PySem.Fin)(_:Unit→Stp):Stp:=fun _ ih c md κ=>ih c md κ (k ())
noncomputable def stAsk(k:Setting→Sem PySem.Fin)(_:Setting→Stp):Stp:=fun V ih c md κ sc cs U T m zb zk tb tk gl=>
 @Option.rec Params (fun _=>Out) (ih c md κ (k ⟨V.prog,V.P⟩) sc cs U T m zb zk tb tk gl) (fun P2=>.ob (.t (k ⟨V.prog,V.P⟩) (k ⟨V.prog,P2⟩)) (ih c md κ (k ⟨V.prog,V.P⟩) sc cs U T m zb zk tb tk gl)) V.P2
noncomputable def ldTop(V:Par)(ih:Sim)(c:Code)(md:Option (List Frame))(κ:K)(a:Addr)(k:Obj→Sem PySem.Fin)(sc:Nat):Rst2:=
 @Option.rec Obj (fun _=>Rst2) (stop2 1) (fun o=>ih c md κ (k o) (Nat.div sc 256)) (V.kt.get a)
noncomputable def ldOwn(ih:Sim)(c:Code)(md:Option (List Frame))(κ:K)(a:Addr)(k:Obj→Sem PySem.Fin)(sc j:Nat):Rst2:=fun cs U T m zb zk tb tk gl=>
 @Option.rec (Addr×Obj) (fun _=>Out) (.stop 2) (fun ao=>.ob (.a a ao.1) (ih c md κ (k ao.2) (Nat.div sc 256) cs U T m zb zk tb tk gl)) (T.get j)
noncomputable def stLoad(a:Addr)(_:Option Value)(k:Obj→Sem PySem.Fin)(_:Obj→Stp):Stp:=fun V ih c md κ sc=>
 @Nat.rec (fun _=>Rst2) (ldTop V ih c md κ a k sc) (fun j _=>ldOwn ih c md κ a k sc j) (Nat.mod sc 256)
noncomputable def upOwn(ih:Sim)(c:Code)(md:Option (List Frame))(κ:K)(a:Addr)(f:Obj→Obj)(k:Unit→Sem PySem.Fin)(sc j:Nat):Rst2:=fun cs U T m zb zk tb tk gl=>
 @Option.rec (Addr×Obj) (fun _=>Out) (.stop 8) (fun ao=>@Bool.rec (fun _=>Out) (.ob (.a a ao.1) (ih c md κ (k ()) (Nat.div sc 256) cs U (T.set f j) m zb zk tb tk gl)) (.stop 7) (f ao.2).isFreed) (T.get j)
noncomputable def stUpdate(a:Addr)(_:Option Value)(f:Obj→Obj)(k:Unit→Sem PySem.Fin)(_:Unit→Stp):Stp:=fun _ ih c md κ sc=>
 @Nat.rec (fun _=>Rst2) (stop2 6) (fun j _=>upOwn ih c md κ a f k sc j) (Nat.mod sc 256)
noncomputable def alGo(ih:Sim)(c:Code)(md:Option (List Frame))(κ:K)(k:Addr→Sem PySem.Fin)(sc:Nat)(cs:List Fam)(U:Nat→Sup)(T:LT)(m zb zk tb tk:Nat)(gl:List GenState):Out:=
 @Option.rec (Addr×Obj) (fun _=>Out) (.stop 4) (fun _=>ih c md κ (k (Nat.add zb zk)) sc cs U T (Nat.succ m) zb (Nat.succ zk) tb tk gl) (T.get m)
noncomputable def stAlloc(o:Obj)(k:Addr→Sem PySem.Fin)(_:Addr→Stp):Stp:=fun _ ih c md κ sc cs U T m zb zk tb tk gl=>
 @Bool.rec (fun _=>Out) (alGo ih c md κ k sc cs U (T.ins (Nat.add zb zk) o m) m zb zk tb tk gl) (.stop 3) o.isFreed
noncomputable def stFresh(k:Tok→Sem PySem.Fin)(_:Tok→Stp):Stp:=fun _ ih c md κ sc cs U T m zb zk tb tk gl=>ih c md κ (k (Nat.add tb tk)) sc cs U T m zb zk tb (Nat.succ tk) gl
noncomputable def stHandled(own:Bool)(k:Option Value→Sem PySem.Fin)(_:Option Value→Stp):Stp:=fun V ih c md κ sc=>
 @Bool.rec (fun _=>Rst2) (ifOk (okA V.plain c md κ) (ih c md κ (k none) sc)) (stop2 9) own
noncomputable def callIn(V:Par)(ih:Sim)(c:Code)(md:Option (List Frame))(κ:K)(c':Code)(g:Bool)(l:List Value)(k:Result→Sem PySem.Fin)(sc:Nat):Rst2:=
 @Option.rec (List Frame) (fun _=>Rst2)
  (how V ih none (.ret c k κ) c' (fun sc=>ifOk (okA V.plain c none κ) (useCon V false none c' (fun v=>ih c none κ (k (.ok (.ret v)))) sc)) (stop2 56) sc)
  (fun fs cs U=>how V ih (some (.ret k none g l c (U 0).p []::fs)) κ c' (fun sc=>ifOk (okA V.plain c (some fs) κ) (useCon V false none c' (fun v=>ih c (some fs) κ (k (.ok (.ret v)))) sc)) (stop2 56) sc cs (fun i=>U (Nat.succ i))) md
noncomputable def stCall(c':Code)(hd:Option Value)(g:Bool)(l:List Value)(k:Result→Sem PySem.Fin)(_:Result→Stp):Stp:=fun V ih c md κ=>
 @Option.rec Value (fun _=>Rest) (callIn V ih c md κ c' g l k) (fun _=>stop 10) hd
noncomputable def stStack(k:List (Code×Pos)→Sem PySem.Fin)(_:List (Code×Pos)→Stp):Stp:=fun _ ih c md κ sc cs U T m zb zk tb tk gl=>
 ih c md κ (k ((c,(U 0).p)::(U 0).b)) sc cs (fun i=>U (Nat.succ i)) T m zb zk tb tk gl
noncomputable def stNewGen(c':Code)(k:Nat→Sem PySem.Fin)(_:Nat→Stp):Stp:=fun _ ih c md κ sc cs U T m zb zk tb tk gl=>
 ih c md κ (k gl.length) sc cs U T m zb zk tb tk (gl++[.fresh c'])
noncomputable def stGenState(g:Nat)(k:GenStatus×Option (List (Code×Pos))→Sem PySem.Fin)(_:GenStatus×Option (List (Code×Pos))→Stp):Stp:=fun _ ih c md κ sc cs U T m zb zk tb tk gl=>
 @Option.rec GenState (fun _=>Out) (.stop 13) (fun gs=>ih c md κ (k gs.seen) sc cs U T m zb zk tb tk gl) gl[g]?
noncomputable def resGo(g:Nat)(r:Resume)(k:GenResult→Sem PySem.Fin)(V:Par)(ih:Sim)(c:Code)(κ:K):Rest:=fun sc cs U T m zb zk tb tk gl=>
 @Option.rec GenState (fun _=>Out) (.stop 14) (fun gs=>@GenState.rec (fun _=>Out)
  (fun c₀=>@Bool.rec (fun _=>Out) (match r with|.send .none=>ih c₀ (some []) (.gen g c k κ) (V.tree c₀) sc cs U T m zb zk tb tk (gl.set g .running)|_=>.stop 15) (.stop 26) (isDef c₀))
  (fun k₀ _ c₀ _ fs₀ _=>ih c₀ (some fs₀) (.gen g c k κ) (k₀ r) sc cs U T m zb zk tb tk (gl.set g .running)) (.stop 16) (.stop 17) gs) gl[g]?
noncomputable def stResume(g:Nat)(r:Resume)(_:List Value)(k:GenResult→Sem PySem.Fin)(_:GenResult→Stp):Stp:=fun V ih c md κ=>
 @Option.rec (List Frame) (fun _=>Rest) (resGo g r k V ih c κ) (fun _=>stop 25) md
noncomputable def yieldGo(ih:Sim)(v:Value)(l:List Value)(k:Resume→Sem PySem.Fin)(c:Code)(fs:List Frame)(κ:K):Rest:=fun sc cs U=>
 match splitAtGen fs with
 |some _=>stop 18 sc cs U
 |none=>@Bool.rec (fun _=>LT→Nat→Nat→Nat→Nat→Nat→List GenState→Out) (wakeS ih (.susp v false l k c (U 0).p fs) κ sc cs (fun i=>U (Nat.succ i))) (stop 19 sc cs U) (fs.any Frame.guarded)
noncomputable def stYield(v:Value)(gd:Bool)(l:List Value)(k:Resume→Sem PySem.Fin)(_:Resume→Stp):Stp:=fun _ ih c md κ=>
 @Option.rec (List Frame) (fun _=>Rest) (stop 23) (fun fs=>@Bool.rec (fun _=>Rest) (yieldGo ih v l k c fs κ) (stop 24) gd) md
noncomputable def stepT(t:Sem PySem.Fin):Stp:=@Sem.rec PySem.Fin (fun _=>Stp) stPure stRaise (fun _=>nay 12) (fun _=>nay 12) stRule stAt stLoad stUpdate stAlloc (fun _ _ _=>nay 12) stPoint (fun _ _ _=>nay 12) stFresh stAsk (fun _ _ _ _=>nay 12) (fun _ _ _ _=>nay 12) stCall stHandled stNewGen stGenState stResume stYield stStack (fun _ _ _=>nay 12) (fun _ _=>nay 12) (fun _ _ _ _ _ _=>nay 12) t
noncomputable def run(V:Par)(n:Nat):Sim:=@Nat.rec (fun _=>Sim) (fun _ _ _ _=>stop 40) (fun _ ih c md κ t=>stepT t V ih c md κ) n
inductive Wt where
 |adr (j:Nat)
 |ret
 |itm (j i:Nat)
 |ent (j i:Nat)
 |key (j i:Nat)
 |fld (j i:Nat)
 |num (n:Nat)
noncomputable def tokOf(v:Value):Nat:=@Value.rec (fun _=>Nat) 0 0 0 (fun _=>0) (fun _ t=>t) (fun _ t=>t) (fun _ t=>t) (fun _ t=>t) (fun _=>0) (fun _=>0) (fun _=>0) v
noncomputable def adrAt(T:LT)(j:Nat):Nat:=@Option.rec (Addr×Obj) (fun _=>Nat) 0 (fun p=>p.1) (T.get j)
noncomputable def objAt(T:LT)(j:Nat):Obj:=@Option.rec (Addr×Obj) (fun _=>Obj) ⟨.none,none,.plain,#[]⟩ (fun p=>p.2) (T.get j)
noncomputable def seqOf(o:Obj):List Value:=match o.data with
 |.seq xs _=>xs.toList
 |.fields xs=>xs.toList
 |_=>[]
noncomputable def entOf(o:Obj):List DictEntry:=match o.data with
 |.dict es _=>es.toList
 |_=>[]
noncomputable def nthD{α:Type}(d:α)(l:List α):Nat→α:=@List.rec α (fun _=>Nat→α) (fun _=>d) (fun a _ ih i=>@Nat.rec (fun _=>α) a (fun i _=>ih i) i) l
noncomputable def wtv(T:LT)(v:Value)(x:Wt):Nat:=
 @Wt.rec (fun _=>Nat) (adrAt T) (tokOf v) (fun j i=>tokOf (nthD .none (seqOf (objAt T j)) i)) (fun j i=>tokOf (nthD ⟨0,.none,.none⟩ (entOf (objAt T j)) i).val) (fun j i=>tokOf (nthD ⟨0,.none,.none⟩ (entOf (objAt T j)) i).key) (fun j i=>tokOf (nthD .none (seqOf (objAt T j)) i)) (fun n=>n) x
noncomputable def mapB{α β:Type}(f:α→β)(l:List α):List β:=@List.rec α (fun _=>List β) [] (fun a _ ih=>f a::ih) l
noncomputable def appB{α:Type}(l l':List α):List α:=@List.rec α (fun _=>List α) l' (fun a _ ih=>a::ih) l
noncomputable def upB(n:Nat):Nat→List Nat:=@Nat.rec (fun _=>Nat→List Nat) (fun _=>[]) (fun _ ih i=>i::ih (Nat.succ i)) n
noncomputable def memB(x:Nat)(l:List Nat):Bool:=@List.rec Nat (fun _=>Bool) false (fun a _ ih=>@Bool.rec (fun _=>Bool) ih true (Nat.beq a x)) l
noncomputable def niB(w:Nat)(l:List Nat):Bool:=@List.rec Nat (fun _=>Bool) true (fun a l ih=>andB (Nat.ble w a) (andB (notB (memB a l)) ih)) l
noncomputable def allSome(T:LT)(l:List Nat):Bool:=@List.rec Nat (fun _=>Bool) true (fun a _ ih=>andB (isSomeB (T.get a)) ih) l
structure Unit0 where
 C:Con
 ni:List Nat
 ws:List Wt
noncomputable def wit(u:Unit0)(T:LT)(v:Value):Nat→Nat:=nthD 0 (appB (mapB (adrAt T) u.ni) (mapB (wtv T v) u.ws))
noncomputable def glOf(C:Con)(gl:List GenState):List GenState:=@Option.rec (List GenState×List GenState) (fun _=>List GenState) gl (fun p=>p.1) C.g
noncomputable def glTo(C:Con)(gl:List GenState):List GenState:=@Option.rec (List GenState×List GenState) (fun _=>List GenState) gl (fun p=>p.2) C.g
noncomputable def endL(u:Unit0)(T:LT)(gl:List GenState):List Oh:=
 [.b (niB (lenB u.C.pre) u.ni),.b (allSome T u.ni),.os (mapB (objAt T) (upB (lenB u.C.pre) 0)),.os (mapB (objAt T) u.ni),.g gl]
noncomputable def endR(u:Unit0)(X:Nat→Nat)(gl:List GenState):List Oh:=
 [.b true,.b true,.os (u.C.post X),.os (u.C.new X),.g (glTo u.C gl)]
noncomputable def retL1(u:Unit0)(s:St)(r:Result):List Oh:=match r with
 |.ok (.ret v)=>.b u.C.jump::.v v::endL u s.T s.gl
 |_=>[.bad]
noncomputable def retR1(u:Unit0)(gl:List GenState)(s:St)(r:Result):List Oh:=match r with
 |.ok (.ret v)=>.b false::.v (u.C.val (wit u s.T v))::endR u (wit u s.T v) gl
 |_=>[]
noncomputable def mdOk(md:Option (List Frame))(κ:K)(seg:Bool):Bool:=match md,κ,seg with
 |none,.base,false=>true
 |some [],.seg,true=>true
 |_,_,_=>false
noncomputable def lhs(u:Unit0)(o:Out):List Oh:=@Out.rec (fun _=>List Oh) (fun x _ ih=>x.l::ih) (fun r s=>retL1 u s r) (fun c md κ s=>.b u.C.jump::.b (mdOk md κ u.C.seg)::.c c::endL u s.T s.gl) (fun _=>[.bad]) o
noncomputable def rhs(u:Unit0)(gl:List GenState)(o:Out):List Oh:=@Out.rec (fun _=>List Oh) (fun x _ ih=>x.r::ih) (fun r s=>retR1 u gl s r) (fun _ _ _ s=>.b true::.b true::.c u.C.code::endR u (wit u s.T .none) gl) (fun _=>[]) o
noncomputable def layGo(k:LT→Out)(ps:List (Addr×Obj)):Nat→LT→Out:=
 @List.rec (Addr×Obj) (fun _=>Nat→LT→Out) (fun _ T=>k T) (fun p _ ih i T=>@Option.rec (Addr×Obj) (fun _=>Out) (.stop 57) (fun _=>ih (Nat.succ i) (T.ins p.1 p.2 i)) ((T.ins p.1 p.2 i).get i)) ps
noncomputable def md0(C:Con):Option (List Frame):=@Bool.rec (fun _=>Option (List Frame)) none (some []) (andB C.jump C.seg)
noncomputable def κ0(C:Con):K:=@Bool.rec (fun _=>K) .base .seg (andB C.jump C.seg)
noncomputable def evU(V:Par)(u:Unit0)(n sc:Nat)(cs:List Fam)(U:Nat→Sup)(z t:Nat)(gl:List GenState):Out:=
 layGo (fun T=>run V n u.C.code (md0 u.C) (κ0 u.C) (V.tree u.C.code) sc cs U T (lenB u.C.pre) z 0 t 0 (glOf u.C gl)) u.C.pre 0 .nil
end Mine
namespace Mine
open PySem PySem.W PySem.W.X PySem.Spec PySem.Calls PyProof.Rows
noncomputable def nd:Code→Prop
 |.builtin id _=>PySem.Builtin.Bytes.decodersThatHold.contains id=false
 |_=>True
noncomputable def Cl(l:List (Code×Pos)):Prop:=∀x∈l,nd x.1
theorem Cl.cons{c:Code}{p:Pos}{l:List (Code×Pos)}(h:nd c)(hl:Cl l):Cl ((c,p)::l):=fun x hx=>by
 rcases List.mem_cons.mp hx with rfl|hx
 ·exact h
 ·exact hl x hx
structure Ar where
 a:Around
 p:Prop
namespace Ar
noncomputable def handled(A:Ar):=A.a.handled
noncomputable def guards(A:Ar):=A.a.guards
noncomputable def depth(A:Ar):=A.a.depth
noncomputable def units(A:Ar):=A.a.units
noncomputable def under(A:Ar)(c:Code):Ar:=⟨A.a.under c,A.p∧nd c⟩
noncomputable def mark(A:Ar)(h:Option Value):Ar:=⟨A.a.mark h,A.p⟩
noncomputable def over(A:Ar)(c:Code)(fs:List Frame):Ar:=⟨A.a.over c fs,A.p∧nd c∧∀f∈fs,nd f.where_.1⟩
end Ar
noncomputable def Bel(Γ:PySem.Ctx)(A:Ar):Prop:=Γ.Below A.a∧(A.p→Cl Γ.below)
noncomputable def Inn(Γ:PySem.Ctx)(A:Ar):Prop:=Γ.In A.a∧(A.p→nd Γ.code∧Cl Γ.below)
noncomputable def Wok(Γ:PySem.Ctx)(A:Ar):Prop:=Γ.Woken A.a∧(A.p→Cl Γ.below)
section
variable{Γ:PySem.Ctx}{A:Ar}
include Γ A
theorem Bel.inn(h:Bel Γ A):Inn Γ (A.under Γ.code):=⟨h.1.in,fun q=>⟨q.2,h.2 q.1⟩⟩
theorem Inn.enter(h:Inn Γ A)(c:Code)(hd:Option Value)(p:Pos)(hnb:hd≠some byPass):Bel (Γ.enter c hd p) (A.mark hd):=
 ⟨h.1.enter c hd p hnb,fun q=>(h.2 q).2.cons (h.2 q).1⟩
theorem Inn.wake(h:Inn Γ A)(c:Code)(p:Pos):Wok (Γ.wake c p) A:=⟨h.1.wake c p,fun q=>(h.2 q).2.cons (h.2 q).1⟩
theorem Wok.over(h:Wok Γ A)(fs:List Frame):Inn (Γ.over fs) (A.over Γ.code fs):=by
 refine⟨h.1.over fs,fun q=>⟨q.2.1,fun x hx=> ?_⟩⟩
 have hx:x∈fs.map Frame.where_++Γ.below:=hx
 rcases List.mem_append.mp hx with hx|hx
 ·obtain⟨f,hf,rfl⟩:=List.mem_map.mp hx
  exact q.2.2 f hf
 ·exact h.2 q.1 x hx
theorem Bel.goto(h:Bel Γ A)(c:Code):Bel (Γ.goto c) A:=h
theorem Wok.goto(h:Wok Γ A)(c:Code):Wok (Γ.goto c) A:=h
end
noncomputable def wpAny{α:Type}(M:Model)(A:Ar)(t:Sem α)(Q:α→Shared→Prop)(E:Value→Shared→Prop)(s:Shared):Prop:=
 ∀Γ p,Inn Γ A→Sem.wp M Γ t (fun a _ s'=>Q a s') (fun e _ s'=>E e s') p s
noncomputable def wpOwn{α:Type}(M:Model)(A:Ar)(c:Code)(t:Sem α)(Q:α→Shared→Prop)(E:Value→Shared→Prop)(s:Shared):Prop:=
 ∀Γ p,Γ.code=c→Bel Γ A→Sem.wp M Γ t (fun a _ s'=>Q a s') (fun e _ s'=>E e s') p s
noncomputable def codeAny(M:Model)(A:Ar)(c:Code)(R:Result→Shared→Prop)(s:Shared):Prop:=
 ∀Γ p,Γ.code=c→Bel Γ A→wpCode M Γ R p s
noncomputable def SegX(M:Model)(A:Ar)(c:Code)(t:Sem PySem.Fin)(fs:List Frame)(s:Shared)(P:End→Shared→Prop):Prop:=
 ∀Γ p,Γ.code=c→Wok Γ A→∃e s',Runs M Γ p t fs s e s'∧e.quiet=true∧P e s'
section
variable{α:Type}{M:Model}{A:Ar}
include α M A
theorem wpAny_of{t:Sem α}{Q:α→Shared→Prop}{E:Value→Shared→Prop}{s:Shared}(h:PySem.wpAny M A.a t Q E s):wpAny M A t Q E s:=fun Γ p hΓ=>h Γ p hΓ.1
theorem wpOwn_of_wpAny{c:Code}{t:Sem α}{Q:α→Shared→Prop}{E:Value→Shared→Prop}{s:Shared}(h:wpAny M (A.under c) t Q E s):wpOwn M A c t Q E s:=
 fun Γ p hc hΓ=>h Γ p (hc▸hΓ.inn)
theorem wpAny_pure{a:α}{Q:α→Shared→Prop}{E:Value→Shared→Prop}{s:Shared}(h:Q a s):wpAny M A (pure a) Q E s:=fun _ _ _=>h
end
section
variable{M:Model}{A:Ar}{E:Value→Shared→Prop}{s:Shared}
include M A E s
theorem wpAny_updatePart{a:Addr}{part:Option Value}{f:Obj→Obj}{o:Obj}{Q:Unit→Shared→Prop}(ho:s.heap.get? a=some o)
  (h:Q () {s with heap:=s.heap.update a f}):wpAny M A (updatePart a part f) Q E s:=wpAny_of (PySem.wpAny_updatePart ho h)
theorem wpAny_alloc{o:Obj}{Q:Addr→Shared→Prop}(h:Q s.heap.objs.size {s with heap:=s.heap.push o}):wpAny M A (PySem.alloc o) Q E s:=wpAny_of (PySem.wpAny_alloc h)
end
theorem wpOwn_bind{α β:Type}{M:Model}{A:Ar}{E:Value→Shared→Prop}{s:Shared}{c:Code}{m:Sem α}{f:α→Sem β}{Q:β→Shared→Prop}(h:wpOwn M A c m (fun a s'=>wpOwn M A c (f a) Q E s') E s):wpOwn M A c (m >>= f) Q E s:=
 fun Γ p hc hΓ=>by
  rw[Sem.wp_bind']
  exact Sem.wp_mono M Γ m (fun a p' s' h'=>h' Γ p' hc hΓ) (fun _ _ _ h'=>h') p s (h Γ p hc hΓ)
theorem wpOwn_mono{α:Type}{M:Model}{A:Ar}{E:Value→Shared→Prop}{s:Shared}{c:Code}{t:Sem α}{Q Q':α→Shared→Prop}{E':Value→Shared→Prop}(h:wpOwn M A c t Q E s)(hQ:∀a s,Q a s→Q' a s)(hE:∀e s,E e s→E' e s):wpOwn M A c t Q' E' s:=
 fun Γ p hc hΓ=>Sem.wp_mono M Γ t (fun a _ s=>hQ a s) (fun e _ s=>hE e s) p s (h Γ p hc hΓ)
theorem codeAny_of_own{M:Model}{A:Ar}{s:Shared}{c:Code}{R:Result→Shared→Prop}
  (h:wpOwn M A c (M.den c) (fun fin s'=>match fin with|.done f=>R (.ok f) s'|.again c'=>c'.quiet=true∧codeAny M A c' R s') (fun e s'=>R (.error e) s') s):codeAny M A c R s:=fun Γ p hc hΓ=>by
 rw[wpCode_iff_wp,hc]
 refine Sem.wp_mono M Γ _ (fun fin p' s' h'=> ?_) (fun _ _ _ h'=>h') p s (h Γ p hc hΓ)
 cases fin with
 |done f=>exact h'
 |again c'=>exact⟨h'.1,h'.2 (Γ.goto c') p' rfl (hΓ.goto c')⟩
noncomputable def postR{α:Type}(prog:Program)(w:World)(A:Ar)(c:Code)(Q:α→Shared→Prop)(E:Value→Shared→Prop)(k:Result→Sem α):Result→Shared→Prop:=fun r s'=>wpOwn (model prog w) A c (k r) Q E s'
noncomputable def postC(prog:Program)(w:World)(A:Ar)(R:Result→Shared→Prop):PySem.Fin→Shared→Prop:=fun fin s'=>match fin with
 |.done f=>R (.ok f) s'
 |.again c'=>c'.quiet=true∧codeAny (model prog w) A c' R s'
noncomputable def postE(R:Result→Shared→Prop):Value→Shared→Prop:=fun e s'=>R (.error e) s'
noncomputable def postG{α:Type}(prog:Program)(w:World)(A:Ar)(c:Code)(Q:α→Shared→Prop)(E:Value→Shared→Prop)(k:GenResult→Sem α)(g:Nat):End→Shared→Prop:=
 fun e s₁=>wpOwn (model prog w) A c (k e.result) Q E (s₁.setGen g e.genState)
section
variable(α:Type)(prog:Program)(w:World)(A:Ar)(c:Code)(Q:α→Shared→Prop)(E:Value→Shared→Prop)
section
variable(s:Shared)
include s
theorem y_pure(a:α)(h:Q a s):wpOwn (model prog w) A c (Sem.pure a) Q E s:=fun _ _ _ _=>h
theorem y_raise(e:Value)(h:E e s):wpOwn (model prog w) A c (Sem.raise e:Sem α) Q E s:=fun _ _ _ _=>h
theorem y_rule(tag:String)(k:Unit→Sem α)(h:wpOwn (model prog w) A c (k ()) Q E s):wpOwn (model prog w) A c (.rule tag k) Q E s:=fun Γ p hc hΓ=>h Γ p hc hΓ
theorem y_at(q:Pos)(k:Unit→Sem α)(h:wpOwn (model prog w) A c (k ()) Q E s):wpOwn (model prog w) A c (.at q k) Q E s:=fun Γ _ hc hΓ=>h Γ q hc hΓ
theorem y_point(l:List Value)(k:Unit→Sem α)(h:wpOwn (model prog w) A c (k ()) Q E s):wpOwn (model prog w) A c (.point l k) Q E s:=fun Γ p hc hΓ=>h Γ p hc hΓ
theorem y_ask(k:Setting→Sem α)(h:wpOwn (model prog w) A c (k ⟨prog,w.params⟩) Q E s):wpOwn (model prog w) A c (.ask k) Q E s:=fun Γ p hc hΓ=>h Γ p hc hΓ
end
theorem y_fresh(h:Heap)(g:Array GenState)(d:Drawn)(t:Nat)(os:OsState)(k:Tok→Sem α)(x:wpOwn (model prog w) A c (k t) Q E ⟨h,g,d,t+1,os⟩):wpOwn (model prog w) A c (.fresh k) Q E ⟨h,g,d,t,os⟩:=fun Γ p hc hΓ=>x Γ p hc hΓ
theorem y_handled(s:Shared)(k:Option Value→Sem α)(x:wpOwn (model prog w) A c (k A.handled) Q E s):wpOwn (model prog w) A c (.handled false k) Q E s:=
 wpOwn_bind (m:=PySem.handled) (f:=k) (wpOwn_of_wpAny (wpAny_of (PySem.wpAny_handled (by exact x))))
theorem y_stack(s:Shared)(k:List (Code×Pos)→Sem α)(x:∀(p:Pos)(below:List (Code×Pos)),wpOwn (model prog w) A c (k ((c,p)::below)) Q E s):wpOwn (model prog w) A c (.stack k) Q E s:=fun Γ p hc hΓ=>by
 subst hc
 exact x p Γ.below Γ p rfl hΓ
theorem y_load(h:Heap)(g:Array GenState)(d:Drawn)(t:Nat)(os:OsState)(a:Addr)(q:Option Value)(k:Obj→Sem α)(o:Obj)(ho:h.get? a=some o)(x:wpOwn (model prog w) A c (k o) Q E ⟨h,g,d,t,os⟩):
  wpOwn (model prog w) A c (.load a q k) Q E ⟨h,g,d,t,os⟩:=wpOwn_bind (m:=loadPart a q) (f:=k) (wpOwn_of_wpAny (wpAny_of (PySem.wpAny_loadPart ho x)))
theorem y_call(s:Shared)(c':Code)(hd:Option Value)(g:Bool)(l:List Value)(k:Result→Sem α)(hnb:hd≠some byPass)(x:codeAny (model prog w) ((A.under c).mark hd) c' (postR prog w A c Q E k) s):wpOwn (model prog w) A c (.call c' hd g l k) Q E s:=
 fun Γ p hc hΓ=>wpCode_mono (fun _ _ q=>q Γ p hc hΓ) (x _ p rfl ((hc▸hΓ.inn:Inn Γ (A.under c)).enter c' hd p hnb))
section
variable(A':Ar)(R:Result→Shared→Prop)(s:Shared)
include A' R s
theorem y_code(c':Code)(x:wpOwn (model prog w) A' c' (denote table c') (postC prog w A' R) (postE R) s):codeAny (model prog w) A' c' R s:=
 codeAny_of_own (wpOwn_mono x (fun fin s' h=>by cases fin<;>exact h) (fun _ _ h=>h))
theorem y_done(f:Flow)(x:R (.ok f) s):postC prog w A' R (.done f) s:=x
theorem y_again(c':Code)(hq:c'.quiet=true)(x:codeAny (model prog w) A' c' R s):postC prog w A' R (.again c') s:=⟨hq,x⟩
end
theorem y_err(R:Result→Shared→Prop)(s:Shared)(e:Value)(x:R (.error e) s):postE R e s:=x
theorem y_newGen(h:Heap)(g:Array GenState)(d:Drawn)(t:Nat)(os:OsState)(c':Code)(k:Nat→Sem α)(x:wpOwn (model prog w) A c (k g.size) Q E ⟨h,g.push (.fresh c'),d,t,os⟩):wpOwn (model prog w) A c (.newGen c' k) Q E ⟨h,g,d,t,os⟩:=fun Γ p hc hΓ=>x Γ p hc hΓ
theorem y_genState(s:Shared)(g:Nat)(k:GenStatus×Option (List (Code×Pos))→Sem α)(gs:GenState)(hg:s.gens[g]?=some gs)(x:wpOwn (model prog w) A c (k gs.seen) Q E s):wpOwn (model prog w) A c (.genState g k) Q E s:=fun Γ p hc hΓ=>⟨gs,hg,x Γ p hc hΓ⟩
theorem y_resume_f(s:Shared)(g:Nat)(l:List Value)(k:GenResult→Sem α)(c₀:Code)(hg:s.gens[g]?=some (.fresh c₀))(x:SegX (model prog w) (A.under c) c₀ (denote table c₀) [] (s.setGen g .running) (postG prog w A c Q E k g)):
  wpOwn (model prog w) A c (.resume g (.send .none) l k) Q E s:=fun Γ p hc hΓ=>by
 rw[Sem.wp_resume]
 obtain⟨e₁,s₁,hr,hqt,he⟩:=x (Γ.wake c₀ p) p rfl ((hc▸hΓ.inn:Inn Γ (A.under c)).wake c₀ p)
 exact⟨_,_,by unfold Wakes;rw[hg];exact⟨e₁,s₁,hr,hqt,rfl,rfl⟩,he Γ p hc hΓ⟩
theorem y_resume_s(s:Shared)(g:Nat)(r:Resume)(l:List Value)(k:GenResult→Sem α)(k₀:Resume→Sem PySem.Fin)(l₀:List Value)(c₀:Code)(p₀:Pos)(fs₀:List Frame)(cl:Bool)(hg:s.gens[g]?=some (.suspended k₀ l₀ c₀ p₀ fs₀ cl))
  (x:SegX (model prog w) (A.under c) c₀ (k₀ r) fs₀ (s.setGen g .running) (postG prog w A c Q E k g)):wpOwn (model prog w) A c (.resume g r l k) Q E s:=fun Γ p hc hΓ=>by
 rw[Sem.wp_resume]
 obtain⟨e₁,s₁,hr,hqt,he⟩:=x (Γ.wake c₀ p) p₀ rfl ((hc▸hΓ.inn:Inn Γ (A.under c)).wake c₀ p)
 exact⟨_,_,by unfold Wakes;rw[hg];exact⟨e₁,s₁,hr,hqt,rfl,rfl⟩,he Γ p hc hΓ⟩
end
section
variable(prog:Program)(w:World)(A:Ar)(c:Code)(fs:List Frame)(P:End→Shared→Prop)
theorem s_cmd{α:Type}{s:Shared}{m:Sem α}{k:α→Sem PySem.Fin}(h:wpAny (model prog w) (A.over c fs) m (fun a s'=>SegX (model prog w) A c (k a) fs s' P) (fun x s'=>SegX (model prog w) A c (.raise x) fs s' P) s):
  SegX (model prog w) A c (m.wrap k .raise id id) fs s P:=by
 rintro Γ p rfl hΓ
 obtain⟨e,s',hr,hq⟩:=runs_wrap_of_wp (Φ:=fun e s'=>e.quiet=true∧P e s') k .raise id id m (h (Γ.over fs) p (hΓ.over fs)) (fun a p' s' h'=>h' Γ p' rfl hΓ) (fun x p' s' h'=>h' Γ p' rfl hΓ)
 exact⟨e,s',hr,hq⟩
theorem s_rule(s:Shared)(tag:String)(k:Unit→Sem PySem.Fin)(h:SegX (model prog w) A c (k ()) fs s P):SegX (model prog w) A c (.rule tag k) fs s P:=s_cmd prog w A c fs P (m:=PySem.rule tag) (k:=k) (wpAny_of (PySem.wpAny_rule h))
theorem s_at(s:Shared)(q:Pos)(k:Unit→Sem PySem.Fin)(h:SegX (model prog w) A c (k ()) fs s P):SegX (model prog w) A c (.at q k) fs s P:=s_cmd prog w A c fs P (m:=standAt q) (k:=k) (wpAny_of (PySem.wpAny_standAt h))
theorem s_point(s:Shared)(l:List Value)(k:Unit→Sem PySem.Fin)(h:SegX (model prog w) A c (k ()) fs s P):SegX (model prog w) A c (.point l k) fs s P:=fun Γ p hc hΓ=>by
 subst hc
 obtain⟨e,s',hr,hq⟩:=h Γ p rfl hΓ
 exact⟨e,s',Runs.head' (fun _ _ y=>.point y) hr,hq⟩
theorem s_ask(s:Shared)(k:Setting→Sem PySem.Fin)(h:SegX (model prog w) A c (k ⟨prog,w.params⟩) fs s P):SegX (model prog w) A c (.ask k) fs s P:=s_cmd prog w A c fs P (m:=PySem.ask) (k:=k) (wpAny_of (PySem.wpAny_askSetting h))
theorem s_fresh(h:Heap)(g:Array GenState)(d:Drawn)(t:Nat)(os:OsState)(k:Tok→Sem PySem.Fin)(x:SegX (model prog w) A c (k t) fs ⟨h,g,d,t+1,os⟩ P):SegX (model prog w) A c (.fresh k) fs ⟨h,g,d,t,os⟩ P:=
 s_cmd prog w A c fs P (m:=PySem.fresh) (k:=k) (wpAny_of (PySem.wpAny_fresh x))
theorem s_handled(s:Shared)(k:Option Value→Sem PySem.Fin)(x:SegX (model prog w) A c (k (A.over c fs).handled) fs s P):SegX (model prog w) A c (.handled false k) fs s P:=
 s_cmd prog w A c fs P (m:=PySem.handled) (k:=k) (wpAny_of (PySem.wpAny_handled x))
theorem s_stack(s:Shared)(k:List (Code×Pos)→Sem PySem.Fin)(x:∀(p:Pos)(below:List (Code×Pos)),SegX (model prog w) A c (k ((c,p)::below)) fs s P):SegX (model prog w) A c (.stack k) fs s P:=by
 rintro Γ p rfl hΓ
 obtain⟨e,s',hr,hq⟩:=x p (Γ.over fs).below Γ p rfl hΓ
 exact⟨e,s',Runs.head' (fun _ _ y=>.stack y) hr,hq⟩
theorem s_load(h:Heap)(g:Array GenState)(d:Drawn)(t:Nat)(os:OsState)(a:Addr)(q:Option Value)(k:Obj→Sem PySem.Fin)(o:Obj)(ho:h.get? a=some o)(x:SegX (model prog w) A c (k o) fs ⟨h,g,d,t,os⟩ P):
  SegX (model prog w) A c (.load a q k) fs ⟨h,g,d,t,os⟩ P:=s_cmd prog w A c fs P (m:=loadPart a q) (k:=k) (wpAny_of (PySem.wpAny_loadPart ho x))
theorem s_call(s:Shared)(c':Code)(hd:Option Value)(g:Bool)(l:List Value)(k:Result→Sem PySem.Fin)(x:∀p,SegX (model prog w) A c' (denote table c') (.ret k hd g l c p []::fs) s P):SegX (model prog w) A c (.call c' hd g l k) fs s P:=by
 rintro Γ p rfl hΓ
 obtain⟨e,s',hr,hq⟩:=x p (Γ.goto c') p rfl (hΓ.goto c')
 exact⟨e,s',runs_call_seg hr,hq⟩
theorem s_again(s:Shared)(c':Code)(hq:c'.quiet=true)(x:SegX (model prog w) A c' (denote table c') fs s P):SegX (model prog w) A c (.pure (.again c')) fs s P:=by
 rintro Γ p rfl hΓ
 obtain⟨e,s',hr,hq'⟩:=x (Γ.goto c') p rfl (hΓ.goto c')
 exact⟨e,s',Runs.head (c₁:=c') (fun _ _ y=>.again hq y) hr,hq'⟩
section
variable(s:Shared)(r:Result)(t:Sem PySem.Fin)(ht:t=leafOf r)
include s r t ht
theorem s_pop(k:Result→Sem PySem.Fin)(hd:Option Value)(g:Bool)(l:List Value)(c₁:Code)(p₁:Pos)(kp)(x:SegX (model prog w) A c₁ (k r) fs s P):SegX (model prog w) A c t (.ret k hd g l c₁ p₁ kp::fs) s P:=by
 subst ht
 rintro Γ p rfl hΓ
 obtain⟨e,s',hr,hq⟩:=x (Γ.goto c₁) p₁ rfl (hΓ.goto c₁)
 exact⟨e,s',Runs.pop r hr,hq⟩
theorem s_end(x:P (.ret r) s):SegX (model prog w) A c t [] s P:=by
 subst ht
 rintro Γ p rfl _
 exact⟨.ret r,s,Runs.leaf r,rfl,x⟩
end
theorem s_yield(s:Shared)(v:Value)(l:List Value)(k:Resume→Sem PySem.Fin)(hfs:splitAtGen fs=none)(hfg:fs.any Frame.guarded=false)(x:∀p,P (.susp v false l k c p fs) s):SegX (model prog w) A c (.yield v false l k) fs s P:=by
 rintro Γ p rfl _
 exact⟨_,s,Runs.yield' fs hfs,by simp[End.quiet,hfg],x p⟩
theorem s_newGen(h:Heap)(g:Array GenState)(d:Drawn)(t:Nat)(os:OsState)(c':Code)(k:Nat→Sem PySem.Fin)(x:SegX (model prog w) A c (k g.size) fs ⟨h,g.push (.fresh c'),d,t,os⟩ P):SegX (model prog w) A c (.newGen c' k) fs ⟨h,g,d,t,os⟩ P:=fun Γ p hc hΓ=>by
 obtain⟨e,s',hr,hq⟩:=x Γ p hc hΓ
 exact⟨e,s',Runs.head' (fun _ _ y=>.newGen y) hr,hq⟩
theorem s_genState(s:Shared)(g:Nat)(k:GenStatus×Option (List (Code×Pos))→Sem PySem.Fin)(gs:GenState)(hg:s.gens[g]?=some gs)(x:SegX (model prog w) A c (k gs.seen) fs s P):SegX (model prog w) A c (.genState g k) fs s P:=fun Γ p hc hΓ=>by
 obtain⟨e,s',hr,hq⟩:=x Γ p hc hΓ
 exact⟨e,s',Runs.head' (fun _ _ y=>.genState hg y) hr,hq⟩
end
section
variable{α:Type}{prog:Program}{w:World}{A:Ar}{Q:α→Shared→Prop}{E:Value→Shared→Prop}{s:Shared}
theorem x_call{c:Code}{hd:Option Value}{g:Bool}{l:List Value}{k:Result→Sem α}(hc:codeAny (model prog w) (A.mark hd) c (fun r s'=>wpAny (model prog w) A (k r) Q E s') s)(hnb:hd≠some byPass):
  wpAny (model prog w) A (.call c hd g l k) Q E s:=fun Γ p hΓ=>wpCode_mono (fun _ _ q=>q Γ p hΓ) (hc _ p rfl (hΓ.enter c hd p hnb))
end
end Mine
open PySem PySem.W PySem.W.X PyProof.Rows
namespace Mh
open Mine
open PySem PySem.Spec PySem.Calls
noncomputable def Ar0:Ar:=⟨callerA,True⟩
noncomputable def Ctx0:PySem.Ctx:=⟨.builtin "claim.caller" {},none,none,[],none⟩
theorem ctx0_in:Inn Ctx0 Ar0:=⟨caller_in,fun _=>⟨rfl,fun _ h=>nomatch h⟩⟩
theorem wpAny_up{α:Type}{M:Model}{A:Ar}{t:Sem α}{Q Q':α→Shared→Prop}{E E':Value→Shared→Prop}{s:Shared}(h:wpAny M A t Q E s)(hQ:∀a s,Q a s→Q' a s)(hE:∀e s,E e s→E' e s):wpAny M A t Q' E' s:=
 fun Γ p hΓ=>Sem.wp_mono M Γ t (fun a _ s=>hQ a s) (fun e _ s=>hE e s) p s (h Γ p hΓ)
theorem wpAny_then{α β:Type}{M:Model}{A:Ar}{E:Value→Shared→Prop}{s:Shared}{m:Sem α}{f:α→Sem β}{Q:β→Shared→Prop}(h:wpAny M A m (fun a s'=>wpAny M A (f a) Q E s') E s):wpAny M A (m >>= f) Q E s:=fun Γ p hΓ=>by
 rw[Sem.wp_bind']
 exact Sem.wp_mono M Γ m (fun a p' s' h'=>h' Γ p' hΓ) (fun _ _ _ h'=>h') p s (h Γ p hΓ)
theorem ends0{prog:Program}{w:World}{t:Sem PySem.Fin}{s:Shared}{R:Result→Shared→Prop}(hz:s.asleep)
  (h:wpAny (model prog w) Ar0 t (fun fin s'=>∃f,fin=.done f∧(R (.ok f) s'∧AllBare s'.gens)) (fun e s'=>R (.error e) s'∧AllBare s'.gens) s):
  ∃n r s' s'',runN (denote table) prog w n s ⟨t,.builtin "claim.caller" {},default,[]⟩=.halted (outcomeOf r) s'∧
   schedN (denote table) prog w n (.single s ⟨t,.builtin "claim.caller" {},default,[]⟩)=.halted (outcomeOf r) s'∧s'.forget=s''.forget∧R r s'':=by
 have key:Sem.wp (model prog w) Ctx0 t (Sem.finPost (model prog w) Ctx0 fun r s'=>R r s'∧leftWithCleanup s'.gens=false) (fun e _ s'=>R (.error e) s'∧leftWithCleanup s'.gens=false) default s:=by
  refine Sem.wp_mono (model prog w) Ctx0 t (fun fin p' s' q=> ?_) (fun e p' s' q=>⟨q.1,leftWithCleanup_false_of_bare q.2⟩) default s (h Ctx0 default ctx0_in)
  obtain⟨f,rfl,q1,q2⟩:=q
  exact⟨q1,leftWithCleanup_false_of_bare q2⟩
 obtain⟨n,r,s',s'',e1,e2,e3,e4⟩:=wp_halts_full (M:=model prog w) hz key
 exact⟨n,r,s'',s',e2,e1,e3,e4⟩
theorem callFrom0{c:ClaimW}{tree:List Value→Sem PySem.Fin}{w:World}{s:Shared}{free:Addr→Prop}{gens:Prop}{kept:Heap→Prop}(hz:s.asleep)(hgens:s.gens= #[])
  (hspec:∀args,c.pre args=true→WData.layableAll args=true→∀ord:List DictEntry→List DictEntry,(∀l,(ord l).Perm l)→
   ∃vs s₁,layAllW c.records (classAt s.heap) w.params ord args s=some (vs,s₁)∧
    wpAny (model c.prog w) Ar0 (tree vs) (fun fin s'=>∃f,fin=.done f∧((c.Ends s args vs s₁ (.ok f) s'∧s'.os=s.os∧kept s'.heap)∧AllBare s'.gens))
     (fun e s'=>(c.Ends s args vs s₁ (.error e) s'∧s'.os=s.os∧kept s'.heap)∧AllBare s'.gens) s₁):
  c.CallFrom (fun vs=>⟨tree vs,.builtin "claim.caller" {},default,[]⟩) w free gens kept s:=by
 intro args hpre hlay ord hord
 obtain⟨vs,s₁,hlaid,hc⟩:=hspec args hpre hlay ord hord
 have rest:=layAllW_rest _ _ _ hlaid
 obtain⟨n,r,s',s'',e1,e2,e3,he,ho,hk⟩:=ends0 (R:=fun r s'=>c.Ends s args vs s₁ r s'∧s'.os=s.os∧kept s'.heap) (Shared.asleep_of_life rest.2.2.2 hz) hc
 have fg:=Shared.forget_eq e3
 have eh:s'.heap=s''.heap:=fg.1
 have eo:s'.os=s''.os:=fg.2.2.2.1
 have life:s'.heap.life=s.heap.life:=(runN_life _ _ _ e1).trans rest.2.2.2
 refine⟨vs,s₁,hlaid,n,_,s',e2,?_,fun _ i x hx=> ?_,by rw[eh];exact hk,by rw[life],Shared.rest_eq (eo.trans ho)⟩
 ·rcases he.congr eh with⟨v,rfl,a1,a2,a3,a4,a5⟩|⟨e,ob,cls,rfl,a1,a2,a3,a4,a5⟩
  ·exact .inl ⟨v,rfl,a1,a2,a3,fun b o y _=>a4 b o y,a5⟩
  ·exact .inr ⟨e,ob,cls,rfl,a1,a2,a3,a4,fun b o y _=>a5 b o y⟩
 ·rw[hgens]at hx;simp at hx
noncomputable def Walk0(q:Program)(loose:List Str)(XP:(Str→Option Value)→Heap→Prop){α:Type}(Yf:Shared→α)(Ya:World→α)(r:RowW)(d:DefRec)(kwd:List (Str×Expr)):Prop:=
 ∀(w:World)(s₀ s₁:Shared)(mg mb:Str→Option Value),Ground q loose r.records XP w s₀ mg mb s₁.heap→Yf s₀=Ya w→∀(a:Addr)(o:Obj)(pm cd doc dV kV:Value),s₁.heap.get? a=some o→
  o.data=.func {docDef d.name d.params d.body d.scope pm cd doc with defaults:=dV,kwdefaults:=kV}→s₁.heap.CodeRec cd d.name→Dflts mg s₁.heap d.params kwd dV kV→mg d.name=some (.ref a)→s₁.gens= #[]→
  ∀(args:List WData)(vals:List Value)(as:List Addr),Laid r.records w s₀ s₁ args vals as→r.claim.pre args=true→WData.layableAll args=true→ReadsAllW r.records (classAt s₀.heap) s₁.heap vals args as→WellAll w.params s₁.heap vals args→(∀a∈as,(a==sysModules)=false)→
   wpAny (model r.prog w) Ar0 (PySem.call (.ref a) vals) (fun v s'=>GoodWG r.claim (classAt s₀.heap) (ExcName.means s₀.heap) args s₁ (.ok (.ret v)) s')
    (fun e s'=>GoodWG r.claim (classAt s₀.heap) (ExcName.means s₀.heap) args s₁ (.error e) s') s₁
noncomputable def Keep{H:Prop}(_:PLift H)(T:Prop):Prop:=T
theorem PySem.W.holds_openX{H:Prop}{r:OpenRow}{q:Program}{loose:List Str}{Xt:Shared→Bool}{XP:(Str→Option Value)→Heap→Prop}{α:Type}{Yf:Shared→α}{Ya:World→α}{d:DefRec}{kwd:List (Str×Expr)}{N:Nat}
  (left:LeftO r.prog q loose Xt Yf Ya N)
  (hX:∀s,Xt s=true→XP (s.heap.nsMap mainGlobals) s.heap) (hXk:∀mg h h',XP mg h→(∀b o,h.get? b=some o→h'.get? b=some o)→XP mg h')
  (hdef:defOf q r.name=some (d,kwd)) (hp:r.prog.theDef r.name=some (d.params,d.body,d.scope)) (hk:kwWritten? d.params.kwonlyargs d.params.kw_defaults=some kwd) (hRf:∀s,Xt s=true→RecFacts r.records s.heap) (hwr:(!r.writes||r.records.isEmpty)=true)
  (keep:PLift H) (ok:(r.wellSaid&&(chainsOk q&&opensWell r.prog&&(frees r.toRowW&&r.within.isEmpty)))=true) (hb:r.prog.bare) (hw:r.toRowW.promised)
  (call:Keep keep (Walk0 q loose XP Yf Ya r.toRowW d kwd)):r.Holds:=by
 simp only[Bool.and_eq_true]at ok
 obtain⟨said,⟨chains,opens⟩,free,within⟩:=ok
 obtain⟨same,hu,ha,hap,makers⟩:=frees_parts free
 have within:r.toRowW.claim.within=[]:=List.isEmpty_iff.mp within
 have idf:=ident_freeW hu ha hap
 refine⟨said,hw,⟨hb,opens,by show r.toRowW.makers.map _=[];rw[makers];rfl⟩,hw.witness,fun w=> ?_⟩
 have top:=left.behind (XP:=fun mg h=>XP mg h∧RecFacts r.records h) (fun s hs=>⟨hX s hs,hRf s hs⟩) chains w
 refine⟨top.1,fun s hs=> ?_⟩
 obtain⟨s₀,fence,g0,t,ran,asleep,gens,main,G,y⟩:=top.2 s hs
 have facts:=G.X.2
 have G1:Ground q loose [] XP w t (t.heap.nsMap mainGlobals) (t.heap.nsMap builtinsNs) t.heap:={G with X:=G.X.1}
 have gens:t.gens= #[]:=Array.eq_empty_of_size_eq_zero (beq_iff_eq.mp gens)
 have G2:Ground q loose r.records XP w t _ _ t.heap:=facts.ground G1
 refine⟨s₀,fence,g0,t,ran,fun n hn=> ?_,facts.1,facts.2.1,callFrom0 (c:=r.toRowW.claim) asleep gens fun args hpre hlay ord hord=> ?_⟩
 ·have e:n=r.name:=by
   by_cases pin:r.pinned=true
   ·simpa[pin]using hn
   ·simp[pin]at hn
  rw[e];exact pinned_of_view main G1 hdef hp hk
 ·obtain⟨⟨vs,s₁⟩,laid⟩:=Option.isSome_iff_exists.mp (layAllW_isSome (P:=w.params) (ord:=ord) G2.has args r.args t (pre_splitW hpre).1)
  have keeps:=layAllW_keeps _ _ _ laid
  have rest:=layAllW_rest _ _ _ laid
  obtain⟨as,reads,new,old⟩:=reads_layAllW hord _ _ _ laid hlay s₁.heap (fun _ _ e=>e)
  have L:Laid r.records w t s₁ args vs as:=⟨⟨ord,hord,laid⟩,reads,new,old,keeps,rest.1.trans gens,rest.2.2.1⟩
  have G3:=G2.keeps hXk keeps
  obtain⟨a,o,pm,cd,doc,dV,kV,h1,h2,h3,h4,h5⟩:=G3.fn hdef
  have go:=call w t s₁ _ _ G3 y a o pm cd doc dV kV h2 h3 h4 h5 (defOf_name hdef▸h1) L.gens args vs as L hpre hlay L.reads L.well (L.low G2.low)
  refine⟨vs,s₁,laid,wpAny_then (wpAny_of (wpAny_nsGet G3.T.g ?_))⟩
  rw[h1]
  refine wpAny_then (wpAny_up go (fun v s' g=> ?_) fun e s' g=> ?_)
  ·refine wpAny_pure ⟨_,rfl,?_⟩
   have z:=g.laid (c:=r.toRowW.claim) same within idf L
   exact⟨⟨z.1,z.2.1,fun q=>⟨namesKept_of ran main r.keeps keeps g.2.1.old,noTable hwr q⟩⟩,z.2.2⟩
  ·have z:=g.laid (c:=r.toRowW.claim) same within idf L
   exact⟨⟨z.1,z.2.1,fun q=>⟨namesKept_of ran main r.keeps keeps g.2.1.old,noTable hwr q⟩⟩,z.2.2⟩
end Mh
namespace Mine
open PySem PySem.W PySem.W.X PySem.Spec PySem.Calls PyProof.Rows
abbrev pw:Program:=PySem.Challenge.pw_nt0135_01
noncomputable def kS(l:List Nat)(t:Nat):Value:=.str ⟨⟨l⟩⟩ t
noncomputable def kE(P:Params)(l:List Nat)(t:Nat)(v:Value):DictEntry:=⟨PyData.keyHash P ⟨⟨l⟩⟩,.str ⟨⟨l⟩⟩ t,v⟩
noncomputable def kNth:List Stmt→Nat→Stmt
 |[],_=>.Pass default
 |s::_,0=>s
 |_::l,n+1=>kNth l n
noncomputable def kIn:Stmt→List Stmt|.ClassDef _ _ _ b .. =>b|_=>[]
noncomputable def kF(i:Nat):Stmt:=kNth pw.main.body i
noncomputable def kM(i j:Nat):Stmt:=kNth (kIn (kF i)) j
noncomputable def kA:Stmt→Arguments|.FunctionDef _ a .. =>a|_=>⟨[],[],none,[],[],none,[]⟩
noncomputable def kB:Stmt→List Stmt|.FunctionDef _ _ b .. =>b|_=>[]
noncomputable def kC:Stmt→Scope|.FunctionDef _ _ _ _ _ _ s .. =>s|_=>⟨.function,[],false,false,[]⟩
noncomputable def kFn(st:Stmt)(n q:List Nat)(df md:Value)(code:Nat):Obj:=⟨.type "function",none,.func {name:=⟨⟨n⟩⟩,qualname:=⟨⟨q⟩⟩,params:=kA st,body:=.stmts (kB st),scope:=kC st,globals:=3,closure:=[],defaults:=df,kwdefaults:=.none,pyModule:=md,code:=.ref code},#[]⟩
noncomputable def kCut(t:Nat):Value:=kS [47,99,108,97,105,109,47,99,117,116,46,112,121] t
noncomputable def kCd(n q:List Nat)(t:Nat)(line argc fl:Int)(a b c d e:Value)(N:Int)(t2:Nat):Obj:=
 ⟨.type "code",none,.fields ⟨[kS n t,kS q (t+1),kCut (t+2),.int line 0,.int argc 0,.int 0 0,.int 0 0,.int fl 0,a,.bool true,.int 181 0,b,.none,c,d,e,.int N 0,.int line 0,kCut t2]⟩,#[]⟩
noncomputable def kD:Nat→Nat→List Nat
 |0,_=>[]
 |f+1,n=>Nat.mod n 256::kD f (Nat.div n 256)
noncomputable def kQ(p n:List Nat):List Nat:=p++46::n
noncomputable def kCe(n q:List Nat)(t:Nat)(line argc fl:Int)(N:Nat)(a:Nat):Obj:=kCd n q t line argc fl (.ref (a-5)) (.ref (a-4)) (.ref (a-3)) (.ref (a-2)) (.ref (a-1)) N (N+1)
noncomputable def z0:=kD 4 0x65707974
noncomputable def z1:=kD 26 0x302e6e6f697470656378452e5f5f73657373616c636275735f5f
noncomputable def z2:=kD 26 0x6e2e6e6f697470656378452e5f5f73657373616c636275735f5f
noncomputable def z3:=kD 8 0x5f5f656d616e5f5f
noncomputable def z4:=kD 13 0x31305f35333130746e5f77616c
noncomputable def z5:=kD 7 0x5f5f636f645f5f
noncomputable def z6:=kD 11 0x5f5f6567616b6361705f5f
noncomputable def z7:=kD 10 0x5f5f726564616f6c5f5f
noncomputable def z8:=kD 8 0x5f5f636570735f5f
noncomputable def z9:=kD 15 0x5f5f736e6f697461746f6e6e615f5f
noncomputable def z10:=kD 12 0x5f5f736e69746c6975625f5f
noncomputable def z11:=kD 8 0x5f5f656c69665f5f
noncomputable def z12:=kD 13 0x79702e7475632f6d69616c632f
noncomputable def z13:=kD 10 0x5f5f6465686361635f5f
noncomputable def z14:=kD 5 0x6c6c61775f
noncomputable def z15:=kD 13 0x726f7272456573616265676150
noncomputable def z16:=kD 8 0x726f7272456c7153
noncomputable def z17:=kD 13 0x726f727245686374616d73694d
noncomputable def z18:=kD 12 0x726f72724574707572726f43
noncomputable def z19:=kD 11 0x726f72724565737573694d
noncomputable def z20:=kD 6 0x72656e6e7552
noncomputable def z21:=kD 4 0x44524f57
noncomputable def z22:=kD 13 0x534b4e41525f454741524f5453
noncomputable def z23:=kD 11 0x544e454d4543414c504552
noncomputable def z24:List Nat:=[65533]
noncomputable def z25:=kD 4 0x38667475
noncomputable def z26:=kD 7 0x666f5f6461656c
noncomputable def z27:=kD 7 0x666f5f74786574
noncomputable def z28:=kD 7 0x74615f65646f63
noncomputable def z29:=kD 10 0x69696373615f646c6f66
noncomputable def z30:=kD 13 0x7373616c635f656761726f7473
noncomputable def z31:=kD 7 0x6574616c6c6f63
noncomputable def z32:=kD 7 0x666f5f6e676973
noncomputable def z33:=kD 14 0x7365756c61765f657261706d6f63
noncomputable def z34:=kD 12 0x53455a49535f5245424d554e
noncomputable def z35:=kD 9 0x455059545f4f52455a
noncomputable def z36:=kD 8 0x455059545f454e4f
noncomputable def z37:=kD 9 0x455059545f424f4c42
noncomputable def z38:=kD 9 0x455059545f54584554
noncomputable def z39:=kD 10 0x746e697261765f747570
noncomputable def z40:=kD 10 0x746e697261765f746567
noncomputable def z41:=kD 9 0x64657869665f747570
noncomputable def z42:=kD 9 0x64657869665f746567
noncomputable def z43:=kD 11 0x657079745f7265626d756e
noncomputable def z44:=kD 11 0x657079745f6c6169726573
noncomputable def z45:=kD 11 0x657a69735f6c6169726573
noncomputable def z46:=kD 7 0x666f5f79646f62
noncomputable def z47:=kD 8 0x666f5f65756c6176
noncomputable def z48:=kD 9 0x657a69735f64616568
noncomputable def z49:=kD 13 0x64726f6365725f65646f636e65
noncomputable def z50:=kD 7 0x666f5f64616568
noncomputable def z51:=kD 13 0x64726f6365725f65646f636564
noncomputable def z52:=kD 13 0x6e6d756c6f635f64726f636572
noncomputable def z53:=kD 7 0x6f666e4979654b
noncomputable def z54:=kD 12 0x7379656b5f657261706d6f63
noncomputable def z55:=kD 13 0x7379654b6c6172656d65687045
noncomputable def z56:=kD 13 0x73776f526c6172656d65687045
noncomputable def z57:=kD 4 0x574f4c46
noncomputable def z58:=kD 5 0x4e49414c50
noncomputable def z59:=kD 4 0x65726f43
noncomputable def z60:=kD 5 0x5345564f4d
noncomputable def z61:=kD 5 0x5344414552
noncomputable def z62:=kD 5 0x7365766f4d
noncomputable def z63:=kD 5 0x53504d554a
noncomputable def z64:=kD 7 0x6d6172676f7250
noncomputable def z65:=kD 9 0x6c6f6f705f77616c5f
noncomputable def z66:=kD 9 0x656b61745f77616c5f
noncomputable def z67:=kD 8 0x656e6f5f77616c5f
noncomputable def z68:=kD 10 0x65756c61765f77616c5f
noncomputable def z69:=kD 9 0x6b6e61725f77616c5f
noncomputable def z70:=kD 11 0x64656c6c69665f77616c5f
noncomputable def z71:=kD 11 0x6465676e61725f77616c5f
noncomputable def z72:=kD 8 0x6575645f77616c5f
noncomputable def z73:=kD 3 0x77616c
noncomputable def z74:=kD 8 0x5f5f74696e695f5f
noncomputable def z75:=kD 8 0x6573616265676170
noncomputable def z76:=kD 6 0x72656e6e7572
noncomputable def z77:=kD 4 0x73776f72
noncomputable def z78:=kD 10 0x5f5f656c75646f6d5f5f
noncomputable def z79:=kD 15 0x5f5f6f6e656e696c74737269665f5f
noncomputable def z80:=kD 21 0x5f5f736574756269727474615f6369746174735f5f
noncomputable def z81:=kD 8 0x5f5f746369645f5f
noncomputable def z82:=kD 11 0x5f5f6665726b6165775f5f
noncomputable def z83:=kD 4 0x6c6c756e
noncomputable def z84:=kD 7 0x72656765746e69
noncomputable def z85:=kD 4 0x74786574
noncomputable def z86:=kD 4 0x626f6c62
noncomputable def z87:=kD 6 0x7365756c6176
noncomputable def z88:=kD 6 0x7972616e6962
noncomputable def z89:=kD 7 0x7364726f636572
noncomputable def z90:=kD 5 0x746e756f63
noncomputable def z91:=kD 9 0x6e6f6974616c6c6f63
noncomputable def z92:=kD 13 0x676e69646e65637365645f7369
noncomputable def z93:=kD 14 0x7379656b5f6c6172656d65687065
noncomputable def z94:=kD 10 0x74615f657261706d6f63
noncomputable def z95:=kD 8 0x666f5f6563616c70
noncomputable def z96:=kD 6 0x747265736e69
noncomputable def z97:=kD 5 0x646e617473
noncomputable def z98:=kD 5 0x7473726966
noncomputable def z99:=kD 4 0x7473616c
noncomputable def z100:=kD 4 0x7478656e
noncomputable def z101:=kD 8 0x73756f6976657270
noncomputable def z102:=kD 7 0x65675f6b656573
noncomputable def z103:=kD 7 0x74675f6b656573
noncomputable def z104:=kD 7 0x656c5f6b656573
noncomputable def z105:=kD 7 0x746c5f6b656573
noncomputable def z106:=kD 11 0x657261706d6f635f79656b
noncomputable def z107:=kD 5 0x64696c6176
noncomputable def z108:=kD 6 0x64726f636572
noncomputable def z109:=kD 5 0x65756c6176
noncomputable def z110:=kD 10 0x79656b5f6574656c6564
noncomputable def z111:=kD 14 0x73776f725f6c6172656d65687065
noncomputable def z112:=kD 10 0x776f725f747265736e69
noncomputable def z113:=kD 4 0x6b656573
noncomputable def z114:=kD 5 0x6469776f72
noncomputable def z115:=kD 6 0x6574656c6564
noncomputable def z116:=kD 4 0x6f746f47
noncomputable def z117:=kD 5 0x6275736f47
noncomputable def z118:=kD 6 0x6e7275746552
noncomputable def z119:=kD 4 0x65636e4f
noncomputable def z120:=kD 6 0x6c6c754e7349
noncomputable def z121:=kD 7 0x6c6c754e746f4e
noncomputable def z122:=kD 5 0x736f506649
noncomputable def z123:=kD 4 0x72636544
noncomputable def z124:=kD 9 0x746e4965427473754d
noncomputable def z125:=kD 5 0x65756c6156
noncomputable def z126:=kD 4 0x6c6c754e
noncomputable def z127:=kD 4 0x79706f43
noncomputable def z128:=kD 8 0x656c626169726156
noncomputable def z129:=kD 6 0x746e49646441
noncomputable def z130:=kD 12 0x65726f635f656e696863616d
noncomputable def z131:=kD 5 0x73656d616e
noncomputable def z132:=kD 3 0x747570
noncomputable def z133:=kD 11 0x6d6f72665f7365756c6176
noncomputable def z134:=kD 4 0x70657473
noncomputable def z135:=kD 4 0x6c6c6966
noncomputable def z136:=kD 3 0x746567
noncomputable def z137:=kD 4 0x776f6c66
noncomputable def z138:=kD 7 0x706d756a5f7369
noncomputable def z139:=kD 6 0x646e69776552
noncomputable def z140:=kD 4 0x7473614c
noncomputable def z141:=kD 4 0x7478654e
noncomputable def z142:=kD 4 0x76657250
noncomputable def z143:=kD 9 0x6469776f526b656553
noncomputable def z144:=kD 6 0x45476b656553
noncomputable def z145:=kD 6 0x54476b656553
noncomputable def z146:=kD 6 0x454c6b656553
noncomputable def z147:=kD 6 0x544c6b656553
noncomputable def z148:=kD 5 0x5447786449
noncomputable def z149:=kD 5 0x4547786449
noncomputable def z150:=kD 5 0x544c786449
noncomputable def z151:=kD 5 0x454c786449
noncomputable def z152:=kD 5 0x646e756f46
noncomputable def z153:=kD 8 0x646e756f46746f4e
noncomputable def z154:=kD 10 0x7463696c666e6f436f4e
noncomputable def z155:=kD 9 0x737473697845746f4e
noncomputable def z156:=kD 10 0x74726f53726574726f53
noncomputable def z157:=kD 10 0x7478654e726574726f53
noncomputable def z158:=kD 11 0x7864496d6f72466b656553
noncomputable def z159:=kD 7 0x776f526c6c754e
noncomputable def z160:=kD 6 0x6e6d756c6f43
noncomputable def z161:=kD 5 0x6469776f52
noncomputable def z162:=kD 8 0x6469776f52786449
noncomputable def z163:=kD 15 0x73726f737275635f656e696863616d
noncomputable def z164:=kD 4 0x65766f6d
noncomputable def z165:=kD 9 0x646e6f7965625f7369
noncomputable def z166:=kD 15 0x7865646e695f6d6f72665f6b656573
noncomputable def z167:=kD 4 0x64616572
noncomputable def z168:=kD 8 0x726f665f6b6f6f6c
noncomputable def z169:=kD 2 0x6649
noncomputable def z170:=kD 5 0x746f4e6649
noncomputable def z171:=kD 11 0x706d754a657261706d6f43
noncomputable def z172:=kD 13 0x73776f52797469726765746e49
noncomputable def z173:=kD 7 0x6d6172676f7270
noncomputable def z174:=kD 3 0x646461
noncomputable def z175:=kD 5 0x6c6562616c
noncomputable def z176:=kD 5 0x6563616c70
noncomputable def z177:=kD 8 0x7265747369676572
noncomputable def z178:=kD 6 0x6873696e6966
noncomputable def z179:=kD 4 0x65726568
noncomputable def z180:=kD 6 0x726f73727563
noncomputable def z181:=kD 4 0x746f6c73
noncomputable def y0:=kS (kQ z75 z76) 289
noncomputable def y1:=kS (kQ z75 z87) 336
noncomputable def y2:=kS (kQ z75 z89) 444
noncomputable def y3:=kS (kQ z75 z93) 669
noncomputable def y4:=kS (kQ z75 z111) 847
noncomputable def y5:=kS (kQ z75 z130) 1020
noncomputable def y6:=kS (kQ z75 z163) 1153
noncomputable def y7:=kS (kQ z75 z173) 1311
noncomputable def oT0(P:Params):Obj:=boot_o_0 P
noncomputable def oT2(P:Params):Obj:=⟨.none,none,(.dict ⟨[kE P (kQ z0 z1) 221 (.int 38 0),kE P (kQ z0 z2) 222 (.int 1 0)]⟩ 2),#[]⟩
noncomputable def oT3(P:Params):Obj:=⟨(.type "dict"),none,(.dict ⟨[kE P z3 165 (kS z4 1530),kE P z5 166 .none,kE P z6 167 .none,kE P z7 168 (.builtin "__main__.__loader__#opaque"),kE P z8 169 .none,kE P z9 170 (.ref 6),kE P z10 171 (.ref 4),kE P z11 173 (kS z12 172),kE P z13 174 .none,kE P z14 193 (.ref 21),kE P z15 224 (.ref 38),kE P z16 240 (.ref 51),kE P z17 256 (.ref 63),kE P z18 272 (.ref 75),kE P z19 288 (.ref 87),kE P z20 335 (.ref 113),kE P z21 341 (.int 18446744073709551616 340),kE P z22 354 (.ref 118),kE P z23 357 (kS z24 356),kE P z25 367 (.ref 125),kE P z26 374 (.ref 132),kE P z27 385 (.ref 139),kE P z28 398 (.ref 146),kE P z29 407 (.ref 153),kE P z30 414 (.ref 160),kE P z31 423 (.ref 167),kE P z32 431 (.ref 174),kE P z33 443 (.ref 182),kE P z34 453 (.ref 183),kE P z35 455 (.int 8 454),kE P z36 457 (.int 9 456),kE P z37 459 (.int 12 458),kE P z38 461 (.int 13 460),kE P z39 471 (.ref 190),kE P z40 482 (.ref 197),kE P z41 493 (.ref 204),kE P z42 504 (.ref 211),kE P z43 513 (.ref 218),kE P z44 521 (.ref 225),kE P z45 528 (.ref 232),kE P z46 536 (.ref 239),kE P z47 547 (.ref 246),kE P z48 555 (.ref 253),kE P z49 566 (.ref 260),kE P z50 577 (.ref 267),kE P z51 588 (.ref 274),kE P z52 601 (.ref 281),kE P z53 655 (.ref 319),kE P z54 668 (.ref 331),kE P z55 846 (.ref 474),kE P z56 1019 (.ref 621),kE P z57 1031 (.ref 626),kE P z58 1037 (.ref 627),kE P z59 1152 (.ref 700),kE P z60 1175 (.ref 705),kE P z61 1180 (.ref 706),kE P z62 1310 (.ref 779),kE P z63 1403 (.ref 784),kE P z64 1529 (.ref 875),kE P z65 1542 (.ref 886),kE P z66 1551 (.ref 893),kE P z67 1559 (.ref 900),kE P z68 1566 (.ref 907),kE P z69 1573 (.ref 914),kE P z70 1585 (.ref 921),kE P z71 1610 (.ref 928),kE P z72 1616 (.ref 933),kE P z73 1622 (.ref 938)]⟩ 68),#[]⟩
noncomputable def oT102:=kCe z74 (kQ z20 z74) 303 20 4 3 312 102
noncomputable def oT103:=kFn (kM 8 0) z74 (kQ z20 z74) .none y0 102
noncomputable def oT109:=kCe z77 (kQ z20 z77) 315 28 1 35 322 109
noncomputable def oT110:=kFn (kM 8 1) z77 (kQ z20 z77) .none y0 109
noncomputable def oT112(P:Params):Obj:=⟨(.type "dict"),none,(.dict ⟨[kE P z78 298 y0,kE P z79 302 (.int 18 301),kE P z74 314 (.ref 103),kE P z77 324 (.ref 110),kE P z80 328 (.ref 111),kE P z81 330 (.ref 114),kE P z82 332 (.ref 115),kE P z5 333 .none]⟩ 4),#[]⟩
noncomputable def oT113:Obj:=⟨(.type "type"),none,(.cls ⟨⟨⟨z20⟩⟩,[(.type "object")],[(.ref 113),(.type "object")],112,⟨⟨z20⟩⟩,true,[],[],false,none,false⟩),#[none,none,some (kS z20 291),some (kS z20 299),some (.builtin "object.__new__"),some (.bool true)]⟩
noncomputable def oT118(P:Params):Obj:=⟨(.type "dict"),none,(.dict ⟨[kE P z83 342 (.int 0 343),kE P z84 344 (.int 1 345),kE P z85 346 (.int 2 347),kE P z86 348 (.int 3 349)]⟩ 4),#[]⟩
noncomputable def oT124:=kCe z25 z25 358 46 1 3 365 124
noncomputable def oT125:=kFn (kF 13) z25 z25 .none y1 124
noncomputable def oT131:=kCe z26 z26 368 65 1 3 372 131
noncomputable def oT132:=kFn (kF 14) z26 z26 .none y1 131
noncomputable def oT138:=kCe z27 z27 375 75 1 3 383 138
noncomputable def oT139:=kFn (kF 15) z27 z27 .none y1 138
noncomputable def oT145:=kCe z28 z28 386 90 3 3 396 145
noncomputable def oT146:=kFn (kF 16) z28 z28 .none y1 145
noncomputable def oT159:=kCe z30 z30 408 109 1 3 412 159
noncomputable def oT160:=kFn (kF 18) z30 z30 .none y1 159
noncomputable def oT166:=kCe z31 z31 415 119 2 3 421 166
noncomputable def oT167:=kFn (kF 19) z31 z31 .none y1 166
noncomputable def oT173:=kCe z32 z32 424 130 2 3 429 173
noncomputable def oT174:=kFn (kF 20) z32 z32 .none y1 173
noncomputable def oT175:Obj:=⟨(.type "tuple"),none,(.seq ⟨[(kS z88 432)]⟩ 0),#[]⟩
noncomputable def oT181:=kCe z33 z33 433 136 3 3 441 181
noncomputable def oT182:=kFn (kF 21) z33 z33 (.ref 175) y1 181
noncomputable def oT183:Obj:=⟨(.type "tuple"),none,(.seq ⟨[(.int 0 446),(.int 1 447),(.int 2 448),(.int 3 449),(.int 4 450),(.int 6 451),(.int 8 452)]⟩ 0),#[]⟩
noncomputable def oT189:=kCe z39 z39 462 152 1 3 469 189
noncomputable def oT190:=kFn (kF 28) z39 z39 .none y2 189
noncomputable def oT196:=kCe z40 z40 472 169 2 3 480 196
noncomputable def oT197:=kFn (kF 29) z40 z40 .none y2 196
noncomputable def oT203:=kCe z41 z41 483 182 2 3 491 203
noncomputable def oT204:=kFn (kF 30) z41 z41 .none y2 203
noncomputable def oT210:=kCe z42 z42 494 190 3 3 502 210
noncomputable def oT211:=kFn (kF 31) z42 z42 .none y2 210
noncomputable def oT217:=kCe z43 z43 505 197 1 3 511 217
noncomputable def oT218:=kFn (kF 32) z43 z43 .none y2 217
noncomputable def oT224:=kCe z44 z44 514 207 1 3 519 224
noncomputable def oT225:=kFn (kF 33) z44 z44 .none y2 224
noncomputable def oT231:=kCe z45 z45 522 216 1 3 526 231
noncomputable def oT232:=kFn (kF 34) z45 z45 .none y2 231
noncomputable def oT238:=kCe z46 z46 529 224 2 3 534 238
noncomputable def oT239:=kFn (kF 35) z46 z46 .none y2 238
noncomputable def oT245:=kCe z47 z47 537 232 3 3 545 245
noncomputable def oT246:=kFn (kF 36) z47 z47 .none y2 245
noncomputable def oT252:=kCe z48 z48 548 248 1 3 553 252
noncomputable def oT253:=kFn (kF 37) z48 z48 .none y2 252
noncomputable def oT259:=kCe z49 z49 556 253 1 3 564 259
noncomputable def oT260:=kFn (kF 38) z49 z49 .none y2 259
noncomputable def oT266:=kCe z50 z50 567 261 1 3 575 266
noncomputable def oT267:=kFn (kF 39) z50 z50 .none y2 266
noncomputable def oT273:=kCe z51 z51 578 272 1 3 586 273
noncomputable def oT274:=kFn (kF 40) z51 z51 .none y2 273
noncomputable def oT280:=kCe z52 z52 589 281 2 3 599 280
noncomputable def oT281:=kFn (kF 41) z52 z52 .none y2 280
noncomputable def oT294:=kCe z74 (kQ z53 z74) 614 296 3 3 620 294
noncomputable def oT295:=kFn (kM 42 0) z74 (kQ z53 z74) .none y2 294
noncomputable def oT301:=kCe z90 (kQ z53 z90) 623 302 1 3 627 301
noncomputable def oT302:=kFn (kM 42 1) z90 (kQ z53 z90) .none y2 301
noncomputable def oT308:=kCe z91 (kQ z53 z91) 630 305 2 3 635 308
noncomputable def oT309:=kFn (kM 42 2) z91 (kQ z53 z91) .none y2 308
noncomputable def oT315:=kCe z92 (kQ z53 z92) 638 310 2 3 643 315
noncomputable def oT316:=kFn (kM 42 3) z92 (kQ z53 z92) .none y2 315
noncomputable def oT318(P:Params):Obj:=⟨(.type "dict"),none,(.dict ⟨[kE P z78 609 y2,kE P z79 613 (.int 294 612),kE P z74 622 (.ref 295),kE P z90 629 (.ref 302),kE P z91 637 (.ref 309),kE P z92 645 (.ref 316),kE P z80 648 (.ref 317),kE P z81 650 (.ref 320),kE P z82 652 (.ref 321),kE P z5 653 .none]⟩ 4),#[]⟩
noncomputable def oT319:Obj:=⟨(.type "type"),none,(.cls ⟨⟨⟨z53⟩⟩,[(.type "object")],[(.ref 319),(.type "object")],318,⟨⟨z53⟩⟩,true,[],[],false,none,false⟩),#[none,none,some (kS z53 602),some (kS z53 610),some (.builtin "object.__new__"),some (.bool true)]⟩
noncomputable def oT324:Obj:=⟨(.type "tuple"),none,(.seq ⟨[.none]⟩ 0),#[]⟩
noncomputable def oT330:=kCe z54 z54 656 312 4 3 666 330
noncomputable def oT331:=kFn (kF 43) z54 z54 (.ref 324) y2 330
noncomputable def oT344:=kCe z74 (kQ z55 z74) 683 326 2 3 688 344
noncomputable def oT345:=kFn (kM 45 0) z74 (kQ z55 z74) .none y3 344
noncomputable def oT351:=kCe z94 (kQ z55 z94) 691 332 3 3 697 351
noncomputable def oT352:=kFn (kM 45 1) z94 (kQ z55 z94) .none y3 351
noncomputable def oT358:=kCe z95 (kQ z55 z95) 700 335 3 3 709 358
noncomputable def oT359:=kFn (kM 45 2) z95 (kQ z55 z95) .none y3 358
noncomputable def oT365:=kCe z96 (kQ z55 z96) 712 346 2 3 719 365
noncomputable def oT366:=kFn (kM 45 3) z96 (kQ z55 z96) .none y3 365
noncomputable def oT379:=kCe z97 (kQ z55 z97) 730 359 2 3 735 379
noncomputable def oT380:=kFn (kM 45 5) z97 (kQ z55 z97) .none y3 379
noncomputable def oT386:=kCe z98 (kQ z55 z98) 738 364 1 3 742 386
noncomputable def oT387:=kFn (kM 45 6) z98 (kQ z55 z98) .none y3 386
noncomputable def oT393:=kCe z99 (kQ z55 z99) 745 367 1 3 749 393
noncomputable def oT394:=kFn (kM 45 7) z99 (kQ z55 z99) .none y3 393
noncomputable def oT400:=kCe z100 (kQ z55 z100) 752 370 1 3 756 400
noncomputable def oT401:=kFn (kM 45 8) z100 (kQ z55 z100) .none y3 400
noncomputable def oT407:=kCe z101 (kQ z55 z101) 759 375 1 3 763 407
noncomputable def oT408:=kFn (kM 45 9) z101 (kQ z55 z101) .none y3 407
noncomputable def oT414:=kCe z102 (kQ z55 z102) 766 380 2 3 771 414
noncomputable def oT415:=kFn (kM 45 10) z102 (kQ z55 z102) .none y3 414
noncomputable def oT421:=kCe z103 (kQ z55 z103) 774 383 2 3 779 421
noncomputable def oT422:=kFn (kM 45 11) z103 (kQ z55 z103) .none y3 421
noncomputable def oT428:=kCe z104 (kQ z55 z104) 782 386 2 3 787 428
noncomputable def oT429:=kFn (kM 45 12) z104 (kQ z55 z104) .none y3 428
noncomputable def oT435:=kCe z105 (kQ z55 z105) 790 389 2 3 795 435
noncomputable def oT436:=kFn (kM 45 13) z105 (kQ z55 z105) .none y3 435
noncomputable def oT442:=kCe z106 (kQ z55 z106) 798 392 2 3 803 442
noncomputable def oT443:=kFn (kM 45 14) z106 (kQ z55 z106) .none y3 442
noncomputable def oT449:=kCe z107 (kQ z55 z107) 806 395 1 3 810 449
noncomputable def oT450:=kFn (kM 45 15) z107 (kQ z55 z107) .none y3 449
noncomputable def oT456:=kCe z108 (kQ z55 z108) 813 398 1 3 817 456
noncomputable def oT457:=kFn (kM 45 16) z108 (kQ z55 z108) .none y3 456
noncomputable def oT463:=kCe z87 (kQ z55 z87) 820 401 1 3 824 463
noncomputable def oT464:=kFn (kM 45 17) z87 (kQ z55 z87) .none y3 463
noncomputable def oT470:=kCe z109 (kQ z55 z109) 827 404 2 3 832 470
noncomputable def oT471:=kFn (kM 45 18) z109 (kQ z55 z109) .none y3 470
noncomputable def oT473(P:Params):Obj:=⟨(.type "dict"),none,(.dict ⟨[kE P z78 678 y3,kE P z79 682 (.int 324 681),kE P z74 690 (.ref 345),kE P z94 699 (.ref 352),kE P z95 711 (.ref 359),kE P z96 721 (.ref 366),kE P z110 729 (.ref 373),kE P z97 737 (.ref 380),kE P z98 744 (.ref 387),kE P z99 751 (.ref 394),kE P z100 758 (.ref 401),kE P z101 765 (.ref 408),kE P z102 773 (.ref 415),kE P z103 781 (.ref 422),kE P z104 789 (.ref 429),kE P z105 797 (.ref 436),kE P z106 805 (.ref 443),kE P z107 812 (.ref 450),kE P z108 819 (.ref 457),kE P z87 826 (.ref 464),kE P z109 834 (.ref 471),kE P z80 839 (.ref 472),kE P z81 841 (.ref 475),kE P z82 843 (.ref 476),kE P z5 844 .none]⟩ 4),#[]⟩
noncomputable def oT474:Obj:=⟨(.type "type"),none,(.cls ⟨⟨⟨z55⟩⟩,[(.type "object")],[(.ref 474),(.type "object")],473,⟨⟨z55⟩⟩,true,[],[],false,none,false⟩),#[none,none,some (kS z55 671),some (kS z55 679),some (.builtin "object.__new__"),some (.bool true)]⟩
noncomputable def oT491:=kCe z74 (kQ z56 z74) 861 409 1 3 865 491
noncomputable def oT492:=kFn (kM 47 0) z74 (kQ z56 z74) .none y4 491
noncomputable def oT498:=kCe z112 (kQ z56 z112) 868 414 3 3 875 498
noncomputable def oT499:=kFn (kM 47 1) z112 (kQ z56 z112) .none y4 498
noncomputable def oT505:=kCe z95 (kQ z56 z95) 878 423 2 3 886 505
noncomputable def oT506:=kFn (kM 47 2) z95 (kQ z56 z95) .none y4 505
noncomputable def oT519:=kCe z97 (kQ z56 z97) 896 437 2 3 901 519
noncomputable def oT520:=kFn (kM 47 4) z97 (kQ z56 z97) .none y4 519
noncomputable def oT554:=kCe z113 (kQ z56 z113) 932 458 2 3 938 554
noncomputable def oT555:=kFn (kM 47 9) z113 (kQ z56 z113) .none y4 554
noncomputable def oT589:=kCe z107 (kQ z56 z107) 973 480 1 3 977 589
noncomputable def oT590:=kFn (kM 47 14) z107 (kQ z56 z107) .none y4 589
noncomputable def oT596:=kCe z114 (kQ z56 z114) 980 483 1 3 984 596
noncomputable def oT597:=kFn (kM 47 15) z114 (kQ z56 z114) .none y4 596
noncomputable def oT603:=kCe z108 (kQ z56 z108) 987 486 1 3 991 603
noncomputable def oT604:=kFn (kM 47 16) z108 (kQ z56 z108) .none y4 603
noncomputable def oT617:=kCe z109 (kQ z56 z109) 1001 492 2 3 1006 617
noncomputable def oT618:=kFn (kM 47 18) z109 (kQ z56 z109) .none y4 617
noncomputable def oT620(P:Params):Obj:=⟨(.type "dict"),none,(.dict ⟨[kE P z78 856 y4,kE P z79 860 (.int 407 859),kE P z74 867 (.ref 492),kE P z112 877 (.ref 499),kE P z95 888 (.ref 506),kE P z115 895 (.ref 513),kE P z97 903 (.ref 520),kE P z98 910 (.ref 527),kE P z99 917 (.ref 534),kE P z100 924 (.ref 541),kE P z101 931 (.ref 548),kE P z113 940 (.ref 555),kE P z102 948 (.ref 562),kE P z103 956 (.ref 569),kE P z104 964 (.ref 576),kE P z105 972 (.ref 583),kE P z107 979 (.ref 590),kE P z114 986 (.ref 597),kE P z108 993 (.ref 604),kE P z87 1000 (.ref 611),kE P z109 1008 (.ref 618),kE P z80 1012 (.ref 619),kE P z81 1014 (.ref 622),kE P z82 1016 (.ref 623),kE P z5 1017 .none]⟩ 4),#[]⟩
noncomputable def oT621:Obj:=⟨(.type "type"),none,(.cls ⟨⟨⟨z56⟩⟩,[(.type "object")],[(.ref 621),(.type "object")],620,⟨⟨z56⟩⟩,true,[],[],false,none,false⟩),#[none,none,some (kS z56 849),some (kS z56 857),some (.builtin "object.__new__"),some (.bool true)]⟩
noncomputable def oT626:Obj:=⟨(.type "tuple"),none,(.seq ⟨[(kS z116 1022),(kS z117 1023),(kS z118 1024),(kS z119 1025),(kS z120 1026),(kS z121 1027),(kS z122 1028),(kS z123 1029),(kS z124 1030)]⟩ 0),#[]⟩
noncomputable def oT627:Obj:=⟨(.type "tuple"),none,(.seq ⟨[(kS z125 1032),(kS z126 1033),(kS z127 1034),(kS z128 1035),(kS z129 1036)]⟩ 0),#[]⟩
noncomputable def oT636:Obj:=⟨(.type "tuple"),none,(.seq ⟨[(.ref 635)]⟩ 0),#[]⟩
noncomputable def oT642:=kCe z74 (kQ z59 z74) 1050 499 2 3 1055 642
noncomputable def oT643:=kFn (kM 51 0) z74 (kQ z59 z74) (.ref 636) y5 642
noncomputable def oT649:=kCe z131 (kQ z59 z131) 1058 504 1 3 1062 649
noncomputable def oT650:=kFn (kM 51 1) z131 (kQ z59 z131) .none y5 649
noncomputable def oT663:=kCe z132 (kQ z59 z132) 1073 510 3 3 1079 663
noncomputable def oT664:=kFn (kM 51 3) z132 (kQ z59 z132) .none y5 663
noncomputable def oT668:=kCd z133 (kQ z59 z133) 1082 513 3 3 (.ref 665) (.ref 666) .none .none (.ref 667) 1085 1086
noncomputable def oT669:=kFn (kM 51 4) z133 (kQ z59 z133) .none y5 668
noncomputable def oT675:=kCe z134 (kQ z59 z134) 1088 516 3 3 1094 675
noncomputable def oT676:=kFn (kM 51 5) z134 (kQ z59 z134) .none y5 675
noncomputable def oT696:=kCe z135 (kQ z59 z135) 1125 557 2 3 1139 696
noncomputable def oT697:=kFn (kM 51 8) z135 (kQ z59 z135) .none y5 696
noncomputable def oT699(P:Params):Obj:=⟨(.type "dict"),none,(.dict ⟨[kE P z78 1045 y5,kE P z79 1049 (.int 497 1048),kE P z74 1057 (.ref 643),kE P z131 1064 (.ref 650),kE P z136 1072 (.ref 657),kE P z132 1081 (.ref 664),kE P z133 1087 (.ref 669),kE P z134 1096 (.ref 676),kE P z137 1110 (.ref 683),kE P z138 1124 (.ref 690),kE P z135 1141 (.ref 697),kE P z80 1145 (.ref 698),kE P z81 1147 (.ref 701),kE P z82 1149 (.ref 702),kE P z5 1150 .none]⟩ 4),#[]⟩
noncomputable def oT700:Obj:=⟨(.type "type"),none,(.cls ⟨⟨⟨z59⟩⟩,[(.type "object")],[(.ref 700),(.type "object")],699,⟨⟨z59⟩⟩,true,[],[],false,none,false⟩),#[none,none,some (kS z59 1038),some (kS z59 1046),some (.builtin "object.__new__"),some (.bool true)]⟩
noncomputable def oT705:Obj:=⟨(.type "tuple"),none,(.seq ⟨[(kS z139 1155),(kS z140 1156),(kS z141 1157),(kS z142 1158),(kS z143 1159),(kS z144 1160),(kS z145 1161),(kS z146 1162),(kS z147 1163),(kS z148 1164),(kS z149 1165),(kS z150 1166),(kS z151 1167),(kS z152 1168),(kS z153 1169),(kS z154 1170),(kS z155 1171),(kS z156 1172),(kS z157 1173),(kS z158 1174)]⟩ 0),#[]⟩
noncomputable def oT706:Obj:=⟨(.type "tuple"),none,(.seq ⟨[(kS z159 1176),(kS z160 1177),(kS z161 1178),(kS z162 1179)]⟩ 0),#[]⟩
noncomputable def oT719:=kCe z74 (kQ z62 z74) 1193 577 2 3 1198 719
noncomputable def oT720:=kFn (kM 55 0) z74 (kQ z62 z74) .none y6 719
noncomputable def oT726:=kCe z131 (kQ z62 z131) 1201 582 1 3 1205 726
noncomputable def oT727:=kFn (kM 55 1) z131 (kQ z62 z131) .none y6 726
noncomputable def oT733:=kCe z134 (kQ z62 z134) 1208 585 3 3 1214 733
noncomputable def oT734:=kFn (kM 55 2) z134 (kQ z62 z134) .none y6 733
noncomputable def oT740:=kCe z164 (kQ z62 z164) 1217 591 3 3 1231 740
noncomputable def oT741:=kFn (kM 55 3) z164 (kQ z62 z164) .none y6 740
noncomputable def oT747:=kCe z165 (kQ z62 z165) 1234 615 3 3 1241 747
noncomputable def oT748:=kFn (kM 55 4) z165 (kQ z62 z165) .none y6 747
noncomputable def oT754:=kCe z166 (kQ z62 z166) 1244 625 3 3 1251 754
noncomputable def oT755:=kFn (kM 55 5) z166 (kQ z62 z166) .none y6 754
noncomputable def oT768:=kCe z113 (kQ z62 z113) 1272 644 3 3 1284 768
noncomputable def oT769:=kFn (kM 55 7) z113 (kQ z62 z113) .none y6 768
noncomputable def oT775:=kCe z167 (kQ z62 z167) 1287 662 2 3 1297 775
noncomputable def oT776:=kFn (kM 55 8) z167 (kQ z62 z167) .none y6 775
noncomputable def oT778(P:Params):Obj:=⟨(.type "dict"),none,(.dict ⟨[kE P z78 1188 y6,kE P z79 1192 (.int 575 1191),kE P z74 1200 (.ref 720),kE P z131 1207 (.ref 727),kE P z134 1216 (.ref 734),kE P z164 1233 (.ref 741),kE P z165 1243 (.ref 748),kE P z166 1253 (.ref 755),kE P z168 1271 (.ref 762),kE P z113 1286 (.ref 769),kE P z167 1299 (.ref 776),kE P z80 1303 (.ref 777),kE P z81 1305 (.ref 780),kE P z82 1307 (.ref 781),kE P z5 1308 .none]⟩ 4),#[]⟩
noncomputable def oT779:Obj:=⟨(.type "type"),none,(.cls ⟨⟨⟨z62⟩⟩,[(.type "object")],[(.ref 779),(.type "object")],778,⟨⟨z62⟩⟩,true,[],[],false,none,false⟩),#[none,none,some (kS z62 1181),some (kS z62 1189),some (.builtin "object.__new__"),some (.bool true)]⟩
noncomputable def oT784(P:Params):Obj:=⟨(.type "dict"),none,(.dict ⟨[kE P z116 1313 (.int 1 1314),kE P z117 1316 (.int 1 1317),kE P z119 1319 (.int 1 1320),kE P z169 1322 (.int 1 1323),kE P z170 1325 (.int 1 1326),kE P z120 1328 (.int 1 1329),kE P z121 1331 (.int 1 1332),kE P z122 1334 (.int 1 1335),kE P z124 1337 (.int 1 1338),kE P z171 1340 (.int 1 1341),kE P z139 1343 (.int 1 1344),kE P z140 1346 (.int 1 1347),kE P z141 1349 (.int 1 1350),kE P z142 1352 (.int 1 1353),kE P z143 1355 (.int 1 1356),kE P z144 1358 (.int 1 1359),kE P z145 1361 (.int 1 1362),kE P z146 1364 (.int 1 1365),kE P z147 1366 (.int 1 1367),kE P z148 1368 (.int 1 1369),kE P z149 1370 (.int 1 1371),kE P z150 1372 (.int 1 1373),kE P z151 1374 (.int 1 1375),kE P z152 1376 (.int 1 1377),kE P z153 1378 (.int 1 1379),kE P z154 1380 (.int 1 1381),kE P z155 1382 (.int 1 1383),kE P z156 1384 (.int 1 1385),kE P z157 1386 (.int 1 1387),kE P z172 1388 (.int 1 1389)]⟩ 30),#[]⟩
noncomputable def oT798:=kCe z74 (kQ z64 z74) 1416 676 1 3 1420 798
noncomputable def oT799:=kFn (kM 58 0) z74 (kQ z64 z74) .none y7 798
noncomputable def oT800:Obj:=⟨(.type "tuple"),none,(.seq ⟨[(.int 0 1423),(.int 0 1424),(.int 0 1425),.none]⟩ 0),#[]⟩
noncomputable def oT806:=kCe z174 (kQ z64 z174) 1426 686 6 3 1435 806
noncomputable def oT807:=kFn (kM 58 1) z174 (kQ z64 z174) (.ref 800) y7 806
noncomputable def oT820:=kCe z175 (kQ z64 z175) 1445 693 1 3 1450 820
noncomputable def oT821:=kFn (kM 58 3) z175 (kQ z64 z175) .none y7 820
noncomputable def oT827:=kCe z176 (kQ z64 z176) 1453 698 2 3 1458 827
noncomputable def oT828:=kFn (kM 58 4) z176 (kQ z64 z176) .none y7 827
noncomputable def oT829:Obj:=⟨(.type "tuple"),none,(.seq ⟨[(.int 1 1461)]⟩ 0),#[]⟩
noncomputable def oT835:=kCe z177 (kQ z64 z177) 1462 705 2 3 1468 835
noncomputable def oT836:=kFn (kM 58 5) z177 (kQ z64 z177) (.ref 829) y7 835
noncomputable def oT871:=kCe z178 (kQ z64 z178) 1505 728 1 3 1511 871
noncomputable def oT872:=kFn (kM 58 10) z178 (kQ z64 z178) .none y7 871
noncomputable def oT874(P:Params):Obj:=⟨(.type "dict"),none,(.dict ⟨[kE P z78 1411 y7,kE P z79 1415 (.int 674 1414),kE P z74 1422 (.ref 799),kE P z174 1437 (.ref 807),kE P z179 1444 (.ref 814),kE P z175 1452 (.ref 821),kE P z176 1460 (.ref 828),kE P z177 1470 (.ref 836),kE P z180 1478 (.ref 843),kE P z181 1485 (.ref 850),kE P z109 1494 (.ref 857),kE P z83 1504 (.ref 865),kE P z178 1513 (.ref 872),kE P z80 1522 (.ref 873),kE P z81 1524 (.ref 876),kE P z82 1526 (.ref 877),kE P z5 1527 .none]⟩ 4),#[]⟩
noncomputable def oT875:Obj:=⟨(.type "type"),none,(.cls ⟨⟨⟨z64⟩⟩,[(.type "object")],[(.ref 875),(.type "object")],874,⟨⟨z64⟩⟩,true,[],[],false,none,false⟩),#[none,none,some (kS z64 1404),some (kS z64 1412),some (.builtin "object.__new__"),some (.bool true)]⟩
noncomputable def oT885:=kCe z65 z65 1532 742 2 3 1540 885
noncomputable def oT886:=kFn (kF 60) z65 z65 .none (kS z4 1530) 885
noncomputable def oT892:=kCe z66 z66 1543 749 2 3 1549 892
noncomputable def oT893:=kFn (kF 61) z66 z66 .none (kS z4 1530) 892
noncomputable def oT899:=kCe z67 z67 1552 756 2 3 1557 899
noncomputable def oT900:=kFn (kF 62) z67 z67 .none (kS z4 1530) 899
noncomputable def oT906:=kCe z68 z68 1560 758 1 3 1564 906
noncomputable def oT907:=kFn (kF 63) z68 z68 .none (kS z4 1530) 906
noncomputable def oT913:=kCe z69 z69 1567 760 1 3 1571 913
noncomputable def oT914:=kFn (kF 64) z69 z69 .none (kS z4 1530) 913
noncomputable def oT920:=kCe z70 z70 1574 762 3 3 1583 920
noncomputable def oT921:=kFn (kF 65) z70 z70 .none (kS z4 1530) 920
noncomputable def oT927:=kCe z71 z71 1586 768 3 3 1608 927
noncomputable def oT928:=kFn (kF 66) z71 z71 .none (kS z4 1530) 927
noncomputable def oT932:=kCd z72 z72 1611 794 4 3 (.ref 929) (.ref 930) .none .none (.ref 931) 1614 1615
noncomputable def oT933:=kFn (kF 67) z72 z72 .none (kS z4 1530) 932
noncomputable def oT937:=kCd z73 z73 1617 805 1 3 (.ref 934) (.ref 935) .none .none (.ref 936) 1620 1621
noncomputable def oT938:=kFn (kF 68) z73 z73 .none (kS z4 1530) 937
noncomputable def KTp(P:Params):KT:=(.node (some (oT0 P)) (.node none (.node (some (oT3 P)) (.node none (.node none (.node none (.node none .nil (.node none (.node (some oT319) .nil .nil) .nil)) (.node none (.node (some oT159) (.node none .nil (.node (some oT799) .nil .nil)) (.node (some oT415) .nil (.node (some oT927) .nil .nil))) (.node none (.node (some oT351) .nil .nil) .nil))) (.node none (.node none .nil (.node none .nil (.node (some oT463) (.node (some oT719) .nil .nil) .nil))) (.node none (.node (some oT175) .nil .nil) (.node (some oT239) .nil .nil)))) (.node none (.node none (.node none (.node none (.node none (.node (some oT519) .nil .nil) (.node (some oT775) .nil .nil)) .nil) .nil) (.node (some oT103) (.node (some oT167) (.node (some oT295) .nil (.node (some oT807) .nil .nil)) .nil) (.node (some oT231) (.node (some oT359) .nil (.node (some oT871) .nil .nil)) .nil))) (.node none (.node none (.node none .nil (.node (some oT407) (.node (some oT663) .nil .nil) .nil)) (.node none .nil (.node (some oT471) (.node (some oT727) .nil .nil) .nil))) (.node none (.node (some oT183) .nil .nil) .nil)))) (.node none (.node none (.node none (.node none (.node (some oT131) (.node (some oT259) .nil .nil) (.node (some oT387) (.node (some oT643) .nil .nil) (.node (some oT899) .nil .nil))) (.node none (.node none .nil (.node (some oT835) .nil .nil)) .nil)) (.node none (.node none .nil (.node none (.node (some oT675) .nil .nil) .nil)) .nil)) (.node none (.node none .nil (.node (some oT211) .nil .nil)) (.node none (.node none .nil (.node (some oT435) .nil .nil)) (.node none (.node none (.node (some oT627) .nil .nil) .nil) (.node (some oT499) (.node (some oT755) .nil .nil) .nil))))) (.node none (.node none (.node none (.node (some oT139) (.node (some oT267) .nil (.node (some oT779) .nil .nil)) (.node none .nil (.node (some oT907) .nil .nil))) (.node (some oT203) (.node (some oT331) .nil .nil) .nil)) (.node none (.node none (.node none (.node (some oT555) .nil .nil) .nil) .nil) (.node none (.node none .nil (.node (some oT875) .nil .nil)) (.node (some oT491) (.node (some oT747) .nil .nil) .nil)))) (.node none (.node none .nil (.node none (.node none (.node (some oT603) .nil .nil) .nil) .nil)) (.node none (.node none (.node (some oT315) .nil (.node (some oT827) .nil .nil)) (.node (some oT443) (.node (some (oT699 P)) .nil .nil) .nil)) (.node none (.node (some oT379) .nil .nil) .nil)))))) (.node none (.node none (.node none (.node none (.node none (.node none (.node none .nil (.node (some oT769) .nil .nil)) .nil) (.node none .nil (.node (some oT449) (.node (some oT705) .nil .nil) .nil))) (.node none .nil (.node (some oT225) .nil .nil))) (.node none (.node none (.node (some oT145) (.node (some oT273) .nil .nil) (.node (some oT401) .nil (.node (some oT913) .nil .nil))) .nil) (.node (some oT113) .nil .nil))) (.node none (.node none (.node none (.node none .nil (.node (some oT393) (.node (some oT649) .nil .nil) .nil)) (.node none .nil (.node (some oT457) .nil .nil))) (.node none (.node none .nil (.node none .nil (.node (some oT937) .nil .nil))) (.node none (.node none (.node (some oT617) .nil .nil) .nil) .nil))) (.node none (.node none (.node none (.node (some oT281) .nil .nil) (.node none .nil (.node (some oT921) .nil .nil))) (.node (some oT217) (.node (some oT345) .nil .nil) (.node (some (oT473 P)) .nil .nil))) (.node none (.node none .nil (.node none (.node (some oT697) .nil .nil) .nil)) (.node none .nil (.node (some oT505) .nil .nil)))))) (.node none (.node none (.node none (.node none .nil (.node (some oT197) .nil .nil)) (.node none (.node none .nil (.node (some oT421) .nil (.node (some oT933) .nil .nil))) (.node none .nil (.node none (.node (some oT741) .nil .nil) .nil)))) (.node none (.node none .nil (.node none (.node none (.node (some oT597) .nil .nil) .nil) .nil)) (.node none (.node (some oT181) (.node (some oT309) .nil (.node (some oT821) .nil .nil)) .nil) (.node (some oT245) (.node none .nil (.node (some oT885) .nil .nil)) .nil)))) (.node none (.node none (.node none .nil (.node none (.node none (.node (some oT589) .nil .nil) .nil) .nil)) (.node (some oT109) (.node (some oT173) (.node (some oT301) .nil .nil) (.node (some oT429) .nil .nil)) (.node none (.node (some oT365) (.node (some oT621) .nil .nil) .nil) .nil))) (.node none (.node none (.node none .nil (.node none (.node (some oT669) .nil .nil) .nil)) (.node none .nil (.node none (.node (some oT733) .nil .nil) .nil))) (.node (some oT125) (.node (some oT189) (.node none .nil (.node (some oT829) .nil .nil)) .nil) (.node (some oT253) (.node none .nil (.node (some oT893) .nil .nil)) .nil))))))) (.node (some (oT2 P)) (.node none (.node none (.node none (.node none (.node none (.node none (.node none .nil (.node (some oT768) .nil .nil)) .nil) .nil) (.node none (.node (some oT160) (.node none .nil (.node (some oT800) .nil .nil)) (.node none .nil (.node (some oT928) .nil .nil))) (.node (some oT224) (.node (some oT352) .nil .nil) .nil))) (.node none (.node none (.node none (.node none .nil (.node (some (oT784 P)) .nil .nil)) (.node (some oT400) .nil .nil)) (.node none .nil (.node (some oT464) (.node (some oT720) .nil .nil) .nil))) (.node (some (oT112 P)) .nil .nil))) (.node none (.node none (.node none (.node none (.node none (.node (some oT520) .nil .nil) (.node (some oT776) .nil .nil)) .nil) (.node none .nil (.node (some oT456) .nil .nil))) (.node none .nil (.node (some oT232) (.node none .nil (.node (some oT872) .nil .nil)) .nil))) (.node none (.node none (.node none (.node (some oT280) .nil .nil) (.node (some oT408) (.node (some oT664) .nil .nil) (.node (some oT920) .nil .nil))) (.node none (.node (some oT344) .nil .nil) .nil)) (.node none (.node none .nil (.node none (.node (some oT696) .nil .nil) .nil)) .nil)))) (.node none (.node none (.node none (.node none (.node (some oT132) (.node (some oT260) .nil .nil) (.node none .nil (.node (some oT900) .nil .nil))) (.node (some oT196) (.node (some oT324) .nil (.node (some oT836) .nil .nil)) .nil)) (.node none (.node none .nil (.node none (.node (some oT676) .nil .nil) (.node (some oT932) .nil .nil))) (.node none .nil (.node none (.node (some oT740) .nil .nil) .nil)))) (.node none (.node none .nil (.node none (.node none (.node (some oT596) .nil .nil) .nil) .nil)) (.node none (.node none (.node (some oT308) .nil (.node (some oT820) .nil .nil)) (.node (some oT436) .nil .nil)) .nil))) (.node none (.node none (.node none .nil (.node (some oT204) .nil .nil)) (.node none (.node none .nil (.node (some oT428) .nil .nil)) (.node none (.node none (.node (some (oT620 P)) .nil .nil) .nil) (.node (some oT492) (.node (some oT748) .nil .nil) .nil)))) (.node none (.node none (.node none .nil (.node none (.node (some oT668) .nil .nil) .nil)) (.node none (.node none (.node (some oT604) .nil .nil) .nil) .nil)) (.node (some oT124) (.node none (.node (some oT316) .nil (.node (some oT828) .nil .nil)) (.node none (.node (some oT700) .nil .nil) .nil)) (.node (some oT252) (.node (some oT380) (.node (some oT636) .nil .nil) (.node (some oT892) .nil .nil)) .nil)))))) (.node none (.node none (.node none (.node none (.node none (.node none .nil (.node (some oT386) (.node (some oT642) .nil .nil) .nil)) (.node none .nil (.node (some oT450) (.node (some oT706) .nil .nil) .nil))) .nil) (.node none (.node none (.node (some oT146) (.node (some oT274) .nil .nil) (.node none .nil (.node (some oT914) .nil .nil))) (.node (some oT210) .nil .nil)) (.node none .nil (.node none (.node none (.node (some oT626) .nil .nil) .nil) (.node (some oT498) (.node (some oT754) .nil .nil) .nil))))) (.node none (.node none (.node none (.node (some oT138) (.node (some oT266) .nil (.node (some (oT778 P)) .nil .nil)) (.node (some oT394) (.node (some oT650) .nil .nil) (.node (some oT906) .nil .nil))) (.node none (.node (some oT330) .nil .nil) .nil)) (.node none (.node none (.node none (.node (some oT554) .nil .nil) .nil) (.node none .nil (.node (some oT938) .nil .nil))) (.node none (.node none (.node (some oT618) .nil .nil) (.node (some (oT874 P)) .nil .nil)) .nil))) (.node none (.node none .nil (.node (some oT218) .nil (.node (some oT474) .nil .nil))) (.node none (.node none .nil (.node (some oT442) .nil .nil)) (.node none .nil (.node (some oT506) .nil .nil)))))) (.node none (.node none (.node none .nil (.node (some oT102) (.node (some oT166) (.node (some oT294) .nil (.node (some oT806) .nil .nil)) (.node (some oT422) .nil .nil)) (.node none (.node (some oT358) .nil .nil) .nil))) (.node none (.node none .nil (.node none .nil (.node (some oT470) (.node (some oT726) .nil .nil) .nil))) (.node (some (oT118 P)) (.node (some oT182) .nil .nil) (.node (some oT246) (.node none .nil (.node (some oT886) .nil .nil)) .nil)))) (.node none (.node none (.node none .nil (.node none (.node none (.node (some oT590) .nil .nil) .nil) .nil)) (.node (some oT110) (.node (some oT174) (.node (some oT302) .nil .nil) .nil) (.node (some oT238) (.node (some oT366) .nil .nil) .nil))) (.node none (.node none (.node none (.node none .nil (.node (some oT798) .nil .nil)) (.node (some oT414) .nil .nil)) (.node none .nil (.node none (.node (some oT734) .nil .nil) .nil))) (.node none (.node (some oT190) (.node (some (oT318 P)) .nil .nil) .nil) .nil)))))))
noncomputable def KTl(P:Params):List (Nat×Obj):=[(0,oT0 P),(2,oT2 P),(3,oT3 P),(102,oT102),(103,oT103),(109,oT109),(110,oT110),(112,oT112 P),(113,oT113),(118,oT118 P),(124,oT124),(125,oT125),(131,oT131),(132,oT132),(138,oT138),(139,oT139),(145,oT145),(146,oT146),(159,oT159),(160,oT160),(166,oT166),(167,oT167),(173,oT173),(174,oT174),(175,oT175),(181,oT181),(182,oT182),(183,oT183),(189,oT189),(190,oT190),(196,oT196),(197,oT197),(203,oT203),(204,oT204),(210,oT210),(211,oT211),(217,oT217),(218,oT218),(224,oT224),(225,oT225),(231,oT231),(232,oT232),(238,oT238),(239,oT239),(245,oT245),(246,oT246),(252,oT252),(253,oT253),(259,oT259),(260,oT260),(266,oT266),(267,oT267),(273,oT273),(274,oT274),(280,oT280),(281,oT281),(294,oT294),(295,oT295),(301,oT301),(302,oT302),(308,oT308),(309,oT309),(315,oT315),(316,oT316),(318,oT318 P),(319,oT319),(324,oT324),(330,oT330),(331,oT331),(344,oT344),(345,oT345),(351,oT351),(352,oT352),(358,oT358),(359,oT359),(365,oT365),(366,oT366),(379,oT379),(380,oT380),(386,oT386),(387,oT387),(393,oT393),(394,oT394),(400,oT400),(401,oT401),(407,oT407),(408,oT408),(414,oT414),(415,oT415),(421,oT421),(422,oT422),(428,oT428),(429,oT429),(435,oT435),(436,oT436),(442,oT442),(443,oT443),(449,oT449),(450,oT450),(456,oT456),(457,oT457),(463,oT463),(464,oT464),(470,oT470),(471,oT471),(473,oT473 P),(474,oT474),(491,oT491),(492,oT492),(498,oT498),(499,oT499),(505,oT505),(506,oT506),(519,oT519),(520,oT520),(554,oT554),(555,oT555),(589,oT589),(590,oT590),(596,oT596),(597,oT597),(603,oT603),(604,oT604),(617,oT617),(618,oT618),(620,oT620 P),(621,oT621),(626,oT626),(627,oT627),(636,oT636),(642,oT642),(643,oT643),(649,oT649),(650,oT650),(663,oT663),(664,oT664),(668,oT668),(669,oT669),(675,oT675),(676,oT676),(696,oT696),(697,oT697),(699,oT699 P),(700,oT700),(705,oT705),(706,oT706),(719,oT719),(720,oT720),(726,oT726),(727,oT727),(733,oT733),(734,oT734),(740,oT740),(741,oT741),(747,oT747),(748,oT748),(754,oT754),(755,oT755),(768,oT768),(769,oT769),(775,oT775),(776,oT776),(778,oT778 P),(779,oT779),(784,oT784 P),(798,oT798),(799,oT799),(800,oT800),(806,oT806),(807,oT807),(820,oT820),(821,oT821),(827,oT827),(828,oT828),(829,oT829),(835,oT835),(836,oT836),(871,oT871),(872,oT872),(874,oT874 P),(875,oT875),(885,oT885),(886,oT886),(892,oT892),(893,oT893),(899,oT899),(900,oT900),(906,oT906),(907,oT907),(913,oT913),(914,oT914),(920,oT920),(921,oT921),(927,oT927),(928,oT928),(932,oT932),(933,oT933),(937,oT937),(938,oT938)]
noncomputable def hP0:Pos:=⟨0,0,0,0⟩
noncomputable def hP1:Pos:=⟨805,0,817,54⟩
noncomputable def hBody:List Stmt:=behindTheImports pw
noncomputable def hEnv:Env:={scope:=pw.main.scope,locals:=mainNs,globals:=mainNs,cells:=[],code:=.ref 13,frame:=some 14}
noncomputable def hC:Code:=.body hBody hEnv
noncomputable def hB:List Frame:=[topFrame hP0]
noncomputable def hObs0(P:Params):List Obj:=[boot_o_0 P,boot_o_1 P,boot_o_2 P,boot_o_3 P,boot_o_4 P,boot_o_5 P,boot_o_6 P,boot_o_7 P,boot_o_8 P,boot_o_9 P,boot_o_10 P]
noncomputable def hObs1(P:Params):List Obj:=hObs0 P++[⟨.type "tuple",none,.seq ⟨[]⟩ 0,#[]⟩,⟨.none,none,.fields ⟨[]⟩,#[]⟩,
 ⟨.type "code",none,.fields ⟨[kS [60,109,111,100,117,108,101,62] 182,kS [60,109,111,100,117,108,101,62] 183,kCut 184,.int 1 0,.int 0 0,.int 0 0,.int 0 0,.int 0 0,.ref 11,.bool false,.int 181 0,.ref 12,.none,.none,.none,.none,.int 185 0,.int 1 0,kCut 186]⟩,#[]⟩,
 ⟨.type "frame",none,.plain,#[some (.ref 13),some (.ref 3),some (.ref 3),none,some (kS [95,95,109,97,105,110,95,95] 164),none,some (.ref 0)]⟩]
section
noncomputable def hIns:_root_.Nat→List Obj→PySem.W.BT→PySem.W.BT
 |_,[],t=>t
 |n,o::l,t=>hIns (n+1) l (t.ins n o)
noncomputable def hS1(P:Params)(os:OsState):SharedT:=⟨hIns 0 (hObs1 P) .nil,15,{},#[],boot_drawn,187,os⟩
noncomputable def q0:Program:=view pw [68]
noncomputable def loose0:List Str:=pw.boundNames.filter fun n=> !(n==Str.ofString "law")
noncomputable def KTas:List Nat:=[0,2,3,102,103,109,110,112,113,118,124,125,131,132,138,139,145,146,159,160,166,167,173,174,175,181,182,183,189,190,196,197,203,204,210,211,217,218,224,225,231,232,238,239,245,246,252,253,259,260,266,267,273,274,280,281,294,295,301,302,308,309,315,316,318,319,324,330,331,344,345,351,352,358,359,365,366,379,380,386,387,393,394,400,401,407,408,414,415,421,422,428,429,435,436,442,443,449,450,456,457,463,464,470,471,473,474,491,492,498,499,505,506,519,520,554,555,589,590,596,597,603,604,617,618,620,621,626,627,636,642,643,649,650,663,664,668,669,675,676,696,697,699,700,705,706,719,720,726,727,733,734,740,741,747,748,754,755,768,769,775,776,778,779,784,798,799,800,806,807,820,821,827,828,829,835,836,871,872,874,875,885,886,892,893,899,900,906,907,913,914,920,921,927,928,932,933,937,938]
noncomputable def mods0:List Str:=importedModules pw.main.body
noncomputable def hSeen(P:Params)(s:SharedT):=
 ((staticsOk mods0 (boot_heap P) s.abs.heap&&namesBound pw s.abs.heap&&gensDone s.abs&&laidKept (boot_heap P) s.abs.heap),
  PySem.W.Fast.tw4187177175401517315 q0 loose0 mods0 (fun _=>true) true s.abs,
  (KTas.map (fun a=>(s.tree.get a).bind alive),s.n,s.toks))
set_option maxHeartbeats 0
noncomputable def Ya0(w:World):List (Option Obj)×Nat×Nat:=((KTl w.params).map (fun p=>some p.2),939,1623)
end
namespace LT
section
variable(a:Addr)(o:Obj)(l r:LT)
include a o l r
theorem get_node(i:Nat):(node a o l r).get i=if i=0 then some (a,o)else if i%2=1 then l.get (i/2)else r.get (i/2-1):=by
 show(@Bool.rec (fun _=>Option (Addr×Obj)) (@Bool.rec (fun _=>Option (Addr×Obj)) (r.get (i/2-1)) (l.get (i/2)) (Nat.beq (i%2) 1)) (some (a,o)) (Nat.beq i 0))=_
 rw[BT.beq_eq,BT.beq_eq]
 by_cases h:i=0
 ·simp[h]
 ·by_cases q:i%2=1<;>simp[h,q]
theorem set_node(f:Obj→Obj)(i:Nat):(node a o l r).set f i=if i=0 then node a (f o) l r else if i%2=1 then node a o (l.set f (i/2)) r else node a o l (r.set f (i/2-1)):=by
 show(@Bool.rec (fun _=>LT) (@Bool.rec (fun _=>LT) (node a o l (r.set f (i/2-1))) (node a o (l.set f (i/2)) r) (Nat.beq (i%2) 1)) (node a (f o) l r) (Nat.beq i 0))=_
 rw[BT.beq_eq,BT.beq_eq]
 by_cases h:i=0
 ·simp[h]
 ·by_cases q:i%2=1<;>simp[h,q]
theorem ins_node(b:Addr)(x:Obj)(i:Nat):(node a o l r).ins b x i=if i=0 then node b x l r else if i%2=1 then node a o (l.ins b x (i/2)) r else node a o l (r.ins b x (i/2-1)):=by
 show(@Bool.rec (fun _=>LT) (@Bool.rec (fun _=>LT) (node a o l (r.ins b x (i/2-1))) (node a o (l.ins b x (i/2)) r) (Nat.beq (i%2) 1)) (node b x l r) (Nat.beq i 0))=_
 rw[BT.beq_eq,BT.beq_eq]
 by_cases h:i=0
 ·simp[h]
 ·by_cases q:i%2=1<;>simp[h,q]
end
theorem get_nil(i:Nat):LT.nil.get i=none:=rfl
theorem set_nil(f:Obj→Obj)(i:Nat):LT.nil.set f i=.nil:=rfl
theorem ins_nil(b:Addr)(x:Obj)(i:Nat):LT.nil.ins b x i=.node b x .nil .nil:=rfl
theorem h2o{i:Nat}(h:i%2=1):2*(i/2)+1=i:=by have d:=Nat.div_add_mod i 2;rw[h]at d;exact d
theorem h2e{i:Nat}(h:i≠0)(p:¬i%2=1):2*(i/2-1)+2=i:=by
 have d:=Nat.div_add_mod i 2
 rw[(Nat.mod_two_eq_zero_or_one i).resolve_right p]at d
 generalize i/2=x at*
 cases x with
 |zero=>exact absurd d.symm h
 |succ k=>exact d
theorem get_set(f:Obj→Obj):∀(t:LT)(j i:Nat),(t.set f j).get i=if i=j then(t.get j).map (fun p=>(p.1,f p.2))else t.get i
 |.nil,j,i=>by simp[set_nil,get_nil]
 |.node a o l r,j,i=>by
  rw[set_node,get_node a o l r j,get_node a o l r i]
  by_cases hj:j=0
  ·subst hj
   rw[if_pos rfl,get_node]
   by_cases hi:i=0
   ·simp[hi]
   ·simp[hi]
  ·rw[if_neg hj]
   by_cases pj:j%2=1
   ·rw[if_pos pj,get_node]
    by_cases hi:i=0
    ·simp[hi,Ne.symm hj]
    ·by_cases pi:i%2=1
     ·simp only[hi,pi,hj,pj,if_true,if_false,get_set f l]
      by_cases e:i=j
      ·simp[e]
      ·have:i/2≠j/2:=fun q=>e (by rw[←h2o pi,←h2o pj,q])
       simp[e,this]
     ·have:i≠j:=fun q=>pi (q▸pj)
      simp[hi,pi,this]
   ·rw[if_neg pj,get_node]
    by_cases hi:i=0
    ·simp[hi,Ne.symm hj]
    ·by_cases pi:i%2=1
     ·have:i≠j:=fun q=>pj (q▸pi)
      simp[hi,pi,this]
     ·simp only[hi,pi,hj,pj,if_false,get_set f r]
      by_cases e:i=j
      ·simp[e]
      ·have:i/2-1≠j/2-1:=fun q=>e (by rw[←h2e hi pi,←h2e hj pj,q])
       simp[e,this]
theorem get_ins(b:Addr)(x:Obj):∀(t:LT)(j:Nat),((t.ins b x j).get j).isSome=true→∀i,(t.ins b x j).get i=if i=j then some (b,x)else t.get i
 |.nil,j,h,i=>by
  rw[ins_nil]at h ⊢
  rw[get_node]at h
  have hj:j=0:=by
   by_cases q:j=0
   ·exact q
   ·exfalso;revert h;by_cases p:j%2=1<;>simp[q,p,get_nil]
  subst hj
  rw[get_node]
  by_cases hi:i=0
  ·simp[hi]
  ·by_cases p:i%2=1<;>simp[hi,p,get_nil]
 |.node a o l r,j,h,i=>by
  rw[ins_node]at h ⊢
  rw[get_node a o l r i]
  by_cases hj:j=0
  ·subst hj
   rw[if_pos rfl,get_node]
   by_cases hi:i=0<;>simp[hi]
  ·rw[if_neg hj]at h ⊢
   by_cases pj:j%2=1
   ·rw[if_pos pj]at h ⊢
    rw[get_node,if_neg hj,if_pos pj]at h
    rw[get_node]
    by_cases hi:i=0
    ·simp[hi,Ne.symm hj]
    ·by_cases pi:i%2=1
     ·simp only[hi,pi,if_true,if_false,get_ins b x l _ h]
      by_cases e:i=j
      ·simp[e]
      ·have:i/2≠j/2:=fun q=>e (by rw[←h2o pi,←h2o pj,q])
       simp[e,this]
     ·have:i≠j:=fun q=>pi (q▸pj)
      simp[hi,pi,this]
   ·rw[if_neg pj]at h ⊢
    rw[get_node,if_neg hj,if_neg pj]at h
    rw[get_node]
    by_cases hi:i=0
    ·simp[hi,Ne.symm hj]
    ·by_cases pi:i%2=1
     ·have:i≠j:=fun q=>pj (q▸pi)
      simp[hi,pi,this]
     ·simp only[hi,pi,if_false,get_ins b x r _ h]
      by_cases e:i=j
      ·simp[e]
      ·have:i/2-1≠j/2-1:=fun q=>e (by rw[←h2e hi pi,←h2e hj pj,q])
       simp[e,this]
end LT
noncomputable def TopF(kt:KT)(nt:Nat)(h:Heap):Prop:=(∀a o,kt.get a=some o→a<nt∧h.get? a=some o)∧h.NoLimit∧2<nt
theorem noLimit_same{h h':Heap}(H:h.NoLimit)(e:∀o,h.get? cStatics=some o→h'.get? cStatics=some o):h'.NoLimit:=by
 obtain⟨mc,⟨o,es,ep,ho,r⟩,hn⟩:=H
 exact⟨mc,⟨o,es,ep,e o ho,r⟩,hn⟩
theorem TopF.change{kt:KT}{nt:Nat}{h h':Heap}(H:TopF kt nt h)(e:∀b o,b<nt→h.get? b=some o→h'.get? b=some o):TopF kt nt h':=
 ⟨fun a o q=>⟨(H.1 a o q).1,e a o (H.1 a o q).1 (H.1 a o q).2⟩,noLimit_same H.2.1 fun o q=>e _ o H.2.2 q,H.2.2⟩
structure Ini where
 h₀:Heap
 pre:List Addr
structure Rep(kt:KT)(nt:Nat)(I:Ini)(h:Heap)(T:LT)(m z:Nat):Prop where
 size:h.objs.size=z
 grow:I.h₀.objs.size≤z
 own:∀i a o,T.get i=some (a,o)→i<m∧h.get? a=some o∧nt≤a
 inj:∀i j a o o',T.get i=some (a,o)→T.get j=some (a,o')→i=j
 adr:∀i a,I.pre[i]?=some a→∃o,T.get i=some (a,o)
 fresh:∀i a o,T.get i=some (a,o)→I.pre.length≤i→I.h₀.objs.size≤a
 top:TopF kt nt h
 keep:∀b o,I.h₀.get? b=some o→b∉I.pre→h.get? b=some o
 wm:I.pre.length≤m
 nz:nt≤z
section
variable{kt:KT}{nt:Nat}{I:Ini}{h:Heap}{T:LT}{m z:Nat}
theorem Rep.lt(D:Rep kt nt I h T m z){i:Nat}{a:Addr}{o:Obj}(e:T.get i=some (a,o)):a<z:=D.size▸Heap.lt_size (D.own i a o e).2.1
theorem Rep.alloc(D:Rep kt nt I h T m z){o:Obj}(hf:o.isFreed=false)(hg:((T.ins z o m).get m).isSome=true):Rep kt nt I (h.push o) (T.ins z o m) (m+1) (z+1):=by
 have G:=LT.get_ins z o T m hg
 refine⟨by rw[Heap.size_push,D.size],Nat.le_succ_of_le D.grow,?_,?_,?_,?_,?_,?_,Nat.le_succ_of_le D.wm,Nat.le_succ_of_le D.nz⟩
 ·intro i a o' e
  rw[G]at e
  by_cases hi:i=m
  ·rw[if_pos hi]at e
   cases e
   exact⟨by omega,by rw[←D.size];exact Heap.get?_push_size _ hf,D.nz⟩
  ·rw[if_neg hi]at e
   have y:=D.own i a o' e
   exact⟨Nat.lt_succ_of_lt y.1,Heap.get?_push_of_some _ y.2.1,y.2.2⟩
 ·intro i j a o1 o2 e1 e2
  rw[G]at e1 e2
  by_cases hi:i=m
  ·rw[if_pos hi]at e1
   cases e1
   by_cases hj:j=m
   ·rw[hi,hj]
   ·rw[if_neg hj]at e2
    exact absurd (D.lt e2) (Nat.lt_irrefl _)
  ·rw[if_neg hi]at e1
   by_cases hj:j=m
   ·rw[if_pos hj]at e2
    cases e2
    exact absurd (D.lt e1) (Nat.lt_irrefl _)
   ·rw[if_neg hj]at e2
    exact D.inj i j a o1 o2 e1 e2
 ·intro i a e
  obtain⟨o',y⟩:=D.adr i a e
  have:i≠m:=Nat.ne_of_lt (D.own i a o' y).1
  exact⟨o',by rw[G,if_neg this];exact y⟩
 ·intro i a o' e hp
  rw[G]at e
  by_cases hi:i=m
  ·rw[if_pos hi]at e
   cases e
   exact D.grow
  ·rw[if_neg hi]at e
   exact D.fresh i a o' e hp
 ·exact D.top.change fun b o' _ e=>Heap.get?_push_of_some _ e
 ·exact fun b o' e hp=>Heap.get?_push_of_some _ (D.keep b o' e hp)
theorem Rep.update(D:Rep kt nt I h T m z){j:Nat}{a:Addr}{o:Obj}{f:Obj→Obj}(e:T.get j=some (a,o))(hf:(f o).isFreed=false):Rep kt nt I (h.update a f) (T.set f j) m z:=by
 have ho:=(D.own j a o e).2
 have hs:Heap.SameBut a h (h.update a f):=Heap.SameBut.update ..
 have ge:(h.update a f).get? a=some (f o):=by first|exact Heap.get?_update_self f ho.1 hf|exact Heap.get?_update_self _ ho.1 hf
 have G:=LT.get_set f T j
 have gj:∀i b x,(T.set f j).get i=some (b,x)→∃x',T.get i=some (b,x'):=by
  intro i b x q
  rw[G]at q
  by_cases hi:i=j
  ·rw[if_pos hi,e]at q
   cases q
   exact⟨o,hi▸e⟩
  ·rw[if_neg hi]at q
   exact⟨x,q⟩
 refine⟨by rw[hs.1,D.size],D.grow,?_,?_,?_,?_,?_,?_,D.wm,D.nz⟩
 ·intro i b x q
  rw[G]at q
  by_cases hi:i=j
  ·rw[if_pos hi,e]at q
   cases q
   exact⟨hi▸(D.own j a o e).1,ge,ho.2⟩
  ·rw[if_neg hi]at q
   have y:=D.own i b x q
   refine⟨y.1,?_,y.2.2⟩
   have:b≠a:=fun z=>hi (D.inj i j a x o (z▸q) e)
   rw[hs.2 b this];exact y.2.1
 ·intro i i' b x x' q q'
  obtain⟨y,hy⟩:=gj i b x q
  obtain⟨y',hy'⟩:=gj i' b x' q'
  exact D.inj i i' b y y' hy hy'
 ·intro i b q
  obtain⟨x,y⟩:=D.adr i b q
  by_cases hi:i=j
  ·subst hi
   have hx:=Option.some.inj (y.symm.trans e)
   cases hx
   exact⟨f _,by rw[G,if_pos rfl,y];rfl⟩
  ·exact⟨x,by rw[G,if_neg hi];exact y⟩
 ·intro i b x q hp
  obtain⟨y,hy⟩:=gj i b x q
  exact D.fresh i b y hy hp
 ·refine D.top.change fun b x hb q=> ?_
  have:b≠a:=by omega
  rw[hs.2 b this];exact q
 ·intro b x q hp
  have y:=D.keep b x q hp
  by_cases hb:b=a
  ·subst hb
   exfalso
   by_cases hj:I.pre.length≤j
   ·exact absurd (Heap.lt_size q) (Nat.not_lt.mpr (D.fresh j b o e hj))
   ·have hl:j<I.pre.length:=by omega
    obtain⟨x',hx⟩:=D.adr j I.pre[j] (List.getElem?_eq_getElem hl)
    rw[hx]at e
    cases e
    exact hp (List.getElem_mem hl)
  ·rw[hs.2 b hb];exact y
end
section
structure Rm(need n:Nat)(A:Ar):Prop where
 cl:A.p
 hd:A.handled=none
 gd:A.guards=some []
 dp:A.depth+24*need≤930+2*n
 un:A.units+48*need≤8500+4*n
structure RmS(need n:Nat)(A:Ar)(fs:List Frame):Prop where
 cl:A.p∧∀f∈fs,nd f.where_.1
 hd:(marksOver fs (A.handled,A.handled)).1=none
 gd:A.guards=some []
 gf:guardsOf (fs.map Frame.where_)=[]
 dp:A.depth+frameCount (fs.map Frame.where_)+24*need≤930+2*n
 un:A.units+unitsOf (fs.map Frame.where_)+48*need≤8500+4*n
theorem weight_le{c:Code}(hf:c.frames≤1)(hg:c.isGuard=false)(hc:c.isCaller=false):c.weight≤2:=by
 unfold Code.weight
 rw[hg,hc]
 cases c.isCreation<;>simp<;>omega
theorem units_le{c:Code}(hf:c.frames≤1):c.cUnits≤4:=by
 unfold Code.cUnits
 split<;>omega
theorem guards_nil{c:Code}(hg:c.isGuard=false):c.guards=[]:=by simp[Code.guards,hg]
variable{pl:Code→Bool}
noncomputable def PlainOk(pl:Code→Bool):Prop:=∀c,pl c=true→((c.isGuard=false∧c.isCaller=false)∧c.frames≤1)∧nd c
theorem Rm.mono{need n n':Nat}{A:Ar}(H:Rm need n A)(h:n≤n'):Rm need n' A:=⟨H.cl,H.hd,H.gd,by have:=H.dp;omega,by have:=H.un;omega⟩
section
variable{need n:Nat}{A:Ar}(H:Rm need n A)
include need n A H
theorem Rm.under{c:Code}(hc:((c.isGuard=false∧c.isCaller=false)∧c.frames≤1)∧nd c):Rm need (n+1) (A.under c):=by
 refine⟨⟨H.cl,hc.2⟩,H.hd,?_,?_,?_⟩
 ·show pushGuards c.guards A.guards=some []
  rw[guards_nil hc.1.1.1];exact H.gd
 ·show A.depth+c.weight+24*need≤_
  have:=weight_le hc.1.2 hc.1.1.1 hc.1.1.2
  have:=H.dp
  omega
 ·show A.units+c.cUnits+48*need≤_
  have:=units_le (c:=c) hc.1.2
  have:=H.un
  omega
theorem Rm.mark:Rm need n (A.mark none):=⟨H.cl,H.hd,H.gd,H.dp,H.un⟩
theorem Rm.seg:RmS need n A []:=⟨⟨H.cl,fun _ h=>nomatch h⟩,H.hd,H.gd,rfl,H.dp,H.un⟩
end
theorem RmS.mono{need n n':Nat}{A:Ar}{fs:List Frame}(H:RmS need n A fs)(h:n≤n'):RmS need n' A fs:=⟨H.cl,H.hd,H.gd,H.gf,by have:=H.dp;omega,by have:=H.un;omega⟩
theorem RmS.over{need n:Nat}{A:Ar}{fs:List Frame}(H:RmS need n A fs){c:Code}(hc:((c.isGuard=false∧c.isCaller=false)∧c.frames≤1)∧nd c):Rm need (n+1) (A.over c fs):=by
 refine⟨⟨H.cl.1,hc.2,H.cl.2⟩,H.hd,?_,?_,?_⟩
 ·show pushGuards c.guards (pushGuards (guardsOf (fs.map Frame.where_)) A.guards)=some []
  rw[guards_nil hc.1.1.1,H.gf,H.gd];rfl
 ·show A.depth+frameCount (fs.map Frame.where_)+c.weight+24*need≤_
  have:=weight_le hc.1.2 hc.1.1.1 hc.1.1.2
  have:=H.dp
  omega
 ·show A.units+unitsOf (fs.map Frame.where_)+c.cUnits+48*need≤_
  have:=units_le (c:=c) hc.1.2
  have:=H.un
  omega
theorem RmS.cons{need n:Nat}{A:Ar}{fs:List Frame}(H:RmS need n A fs){k:Result→Sem PySem.Fin}{g:Bool}{l:List Value}{c:Code}{p:Pos}{kp:List Value}(hc:((c.isGuard=false∧c.isCaller=false)∧c.frames≤1)∧nd c):
  RmS need (n+1) A (.ret k none g l c p kp::fs):=by
 refine⟨⟨H.cl.1,fun f hf=>by
  rcases List.mem_cons.mp hf with rfl|hf
  ·exact hc.2
  ·exact H.cl.2 f hf⟩,H.hd,H.gd,?_,?_,?_⟩
 ·show guardsOf ((c,p)::fs.map Frame.where_)=[]
  rw[guardsOf_cons,guards_nil hc.1.1.1,H.gf];rfl
 ·show A.depth+frameCount ((c,p)::fs.map Frame.where_)+24*need≤_
  rw[frameCount_cons]
  have:=weight_le hc.1.2 hc.1.1.1 hc.1.1.2
  have:=H.dp
  omega
 ·show A.units+unitsOf ((c,p)::fs.map Frame.where_)+48*need≤_
  rw[unitsOf_cons]
  have:=units_le (c:=c) hc.1.2
  have:=H.un
  omega
structure Bs where
 prog:Program
 w:World
 A:Ar
 R:Result→Shared→Prop
 FS:List Frame
 PE:End→Shared→Prop
 d:Drawn
 os:OsState
noncomputable def arN(B:Bs):K→Ar
 |.base=>B.A
 |.seg=>B.A
 |.ret c _ κ=>((arN B κ).under c).mark none
 |.gen .. =>B.A
noncomputable def arS(B:Bs):K→Ar
 |.gen _ c _ κ=>(arN B κ).under c
 |_=>B.A
noncomputable def fr(B:Bs):K→List Frame→List Frame
 |.seg,fs=>fs++B.FS
 |_,fs=>fs
noncomputable def endN(B:Bs):K→Result→Shared→Prop
 |.base=>B.R
 |.ret c k κ=>postR B.prog B.w (arN B κ) c (postC B.prog B.w (arN B κ) (endN B κ)) (postE (endN B κ)) k
 |_=>fun _ _=>False
noncomputable def wakeN(B:Bs):K→End→Shared→Prop
 |.gen g c k κ=>postG B.prog B.w (arN B κ) c (postC B.prog B.w (arN B κ) (endN B κ)) (postE (endN B κ)) k g
 |.seg=>B.PE
 |_=>fun _ _=>False
noncomputable def Mn(B:Bs)(c:Code)(md:Option (List Frame))(κ:K)(t:Sem PySem.Fin)(s:Shared):Prop:=match md with
 |none=>wpOwn (model B.prog B.w) (arN B κ) c t (postC B.prog B.w (arN B κ) (endN B κ)) (postE (endN B κ)) s
 |some fs=>SegX (model B.prog B.w) (arS B κ) c t (fr B κ fs) s (wakeN B κ)
theorem fr_cons(B:Bs)(κ:K)(f:Frame)(fs:List Frame):fr B κ (f::fs)=f::fr B κ fs:=by cases κ<;>rfl
noncomputable def BRm(B:Bs)(need:Nat):Prop:=Rm need 0 B.A∧RmS need 0 B.A B.FS
theorem okK_room{B:Bs}{need:Nat}(hp:PlainOk pl)(H:BRm B need):∀(κ:K)(n:Nat),okK pl κ n=true→Rm need n (arN B κ)
 |.base,n,_=>H.1.mono (Nat.zero_le _)
 |.seg,n,_=>H.1.mono (Nat.zero_le _)
 |.gen ..,n,_=>H.1.mono (Nat.zero_le _)
 |.ret c k κ,0,h=>by cases h
 |.ret c k κ,n+1,h=>by
  have h:@Bool.rec (fun _=>Bool) false (okK pl κ n) (pl c)=true:=h
  cases q:pl c with
  |false=>rw[q]at h;cases h
  |true=>
   rw[q]at h
   exact((okK_room hp H κ n h).under (hp c q)).mark
theorem okK_seg{B:Bs}{need:Nat}(hp:PlainOk pl)(H:BRm B need):∀(κ:K)(n:Nat),okK pl κ n=true→RmS need n (arS B κ) (fr B κ [])
 |.base,n,_=>H.1.seg.mono (Nat.zero_le _)
 |.seg,n,_=>H.2.mono (Nat.zero_le _)
 |.ret c k κ,n,h=>H.1.seg.mono (Nat.zero_le _)
 |.gen g c k κ,0,h=>by cases h
 |.gen g c k κ,n+1,h=>by
  have h:@Bool.rec (fun _=>Bool) false (okK pl κ n) (pl c)=true:=h
  cases q:pl c with
  |false=>rw[q]at h;cases h
  |true=>
   rw[q]at h
   exact((okK_room hp H κ n h).under (hp c q)).seg
theorem okF_seg{B:Bs}{need:Nat}(hp:PlainOk pl)(H:BRm B need)(κ:K):∀(fs:List Frame)(n:Nat),okF pl fs (okK pl κ) n=true→RmS need n (arS B κ) (fr B κ fs)
 |[],n,h=>okK_seg hp H κ n h
 |.gen .. ::fs,0,h=>by cases h
 |.gen .. ::fs,n+1,h=>by cases h
 |.ret k hd g l c p kp::fs,0,h=>by cases h
 |.ret k (some v) g l c p kp::fs,n+1,h=>by cases h
 |.ret k none g l c p kp::fs,n+1,h=>by
  have h:@Bool.rec (fun _=>Bool) false (okF pl fs (okK pl κ) n) (pl c)=true:=h
  cases q:pl c with
  |false=>rw[q]at h;cases h
  |true=>
   rw[q]at h
   rw[fr_cons]
   exact(okF_seg hp H κ fs n h).cons (hp c q)
section
variable{B:Bs}{need:Nat}(hp:PlainOk pl)(H:BRm B need)
include B need hp H
theorem okA_none{c:Code}{κ:K}(h:okA pl c none κ=true):Rm need 10 (arN B κ)∧Rm need 11 ((arN B κ).under c):=by
 have h:@Bool.rec (fun _=>Bool) false (okK pl κ 10) (pl c)=true:=h
 cases q:pl c with
 |false=>rw[q]at h;cases h
 |true=>
  rw[q]at h
  have z:=okK_room hp H κ 10 h
  exact⟨z,z.under (hp c q)⟩
theorem okA_some{c:Code}{κ:K}{fs:List Frame}(h:okA pl c (some fs) κ=true):Rm need 11 ((arS B κ).over c (fr B κ fs)):=by
 have h:@Bool.rec (fun _=>Bool) false (okF pl fs (okK pl κ) 10) (pl c)=true:=h
 cases q:pl c with
 |false=>rw[q]at h;cases h
 |true=>
  rw[q]at h
  exact(okF_seg hp H κ fs 10 h).over (hp c q)
theorem okM_none{κ:K}(h:okM pl none κ 10=true):Rm need 10 (arN B κ):=okK_room hp H κ 10 h
theorem okM_some{κ:K}{fs:List Frame}(h:okM pl (some fs) κ 10=true):RmS need 10 (arS B κ) (fr B κ fs):=okF_seg hp H κ fs 10 h
end
theorem Rm.down{need need' n:Nat}{A:Ar}(H:Rm need n A)(hn:n≤11)(h:need'+1≤need):Rm need' 0 A:=⟨H.cl,H.hd,H.gd,by have:=H.dp;omega,by have:=H.un;omega⟩
theorem RmS.down{need need' n:Nat}{A:Ar}{fs:List Frame}(H:RmS need n A fs)(hn:n≤11)(h:need'+1≤need):RmS need' 0 A fs:=⟨H.cl,H.hd,H.gd,H.gf,by have:=H.dp;omega,by have:=H.un;omega⟩
theorem okK_arS{B:Bs}{need:Nat}(hp:PlainOk pl)(H:BRm B need):∀(κ:K)(n:Nat),okK pl κ n=true→Rm need n (arS B κ)
 |.base,n,_=>H.1.mono (Nat.zero_le _)
 |.seg,n,_=>H.1.mono (Nat.zero_le _)
 |.ret c k κ,n,h=>H.1.mono (Nat.zero_le _)
 |.gen g c k κ,0,h=>by cases h
 |.gen g c k κ,n+1,h=>by
  have h:@Bool.rec (fun _=>Bool) false (okK pl κ n) (pl c)=true:=h
  cases q:pl c with
  |false=>rw[q]at h;cases h
  |true=>
   rw[q]at h
   exact(okK_room hp H κ n h).under (hp c q)
theorem okF_arS{B:Bs}{need:Nat}(hp:PlainOk pl)(H:BRm B need)(κ:K):∀(fs:List Frame)(n:Nat),okF pl fs (okK pl κ) n=true→Rm need n (arS B κ)
 |[],n,h=>okK_arS hp H κ n h
 |.gen .. ::fs,0,h=>by cases h
 |.gen .. ::fs,n+1,h=>by cases h
 |.ret k hd g l c p kp::fs,0,h=>by cases h
 |.ret k (some v) g l c p kp::fs,n+1,h=>by cases h
 |.ret k none g l c p kp::fs,n+1,h=>by
  have h:@Bool.rec (fun _=>Bool) false (okF pl fs (okK pl κ) n) (pl c)=true:=h
  cases q:pl c with
  |false=>rw[q]at h;cases h
  |true=>
   rw[q]at h
   exact(okF_arS hp H κ fs n h).mono (Nat.le_succ _)
structure RmL(A:Ar):Prop where
 cl:A.p
 hd:A.handled=none
 gd:A.guards=some []
 dp:A.depth<recursionLimit
 un:A.units<cLine
theorem Rm.l{need n:Nat}{A:Ar}(H:Rm need n A)(hn:n≤11):RmL A:=⟨H.cl,H.hd,H.gd,by have:=H.dp;show A.depth<1000;omega,by have:=H.un;show A.units<9900;omega⟩
noncomputable def TreeOk(prog:Program)(w:World)(tree:Code→Sem PySem.Fin):Prop:=
 (∀c,isDef c=false→tree c=denote table c)∧
 ∀c,isDef c=true→∀(A:Ar)(Q:PySem.Fin→Shared→Prop)(E:Value→Shared→Prop)(s:Shared),RmL (A.under c)→s.heap.NoLimit→wpOwn (model prog w) A c (tree c) Q E s→wpOwn (model prog w) A c (denote table c) Q E s
noncomputable def AltOk(prog:Program)(w:World)(tree:Code→Sem PySem.Fin):Prop:=
 ∀c (A:Ar) (Q:PySem.Fin→Shared→Prop) (E:Value→Shared→Prop) (s:Shared),RmL (A.under c)→s.heap.NoLimit→wpOwn (model prog w) A c (tree c) Q E s→wpOwn (model prog w) A c (denote table c) Q E s
structure PostOk(C:Con)(h h':Heap)(X:Nat→Nat):Prop where
 grow:h.objs.size≤h'.objs.size
 post:∀(i:Nat)(p:Addr×Obj)(o:Obj),C.pre[i]?=some p→(C.post X)[i]?=some o→h'.get? p.1=some o
 new:∀i o,(C.new X)[i]?=some o→h'.get? (X i)=some o∧h.objs.size≤X i
 inj:∀i j,i<(C.new X).length→j<(C.new X).length→X i=X j→i=j
 keep:∀b o,h.get? b=some o→b∉C.pre.map (·.1)→h'.get? b=some o
noncomputable def gensAfter(C:Con)(g:Array GenState):Array GenState:=match C.g with
 |some p=>⟨p.2⟩
 |none=>g
structure PreOk(kt:KT)(nt:Nat)(C:Con)(s:Shared):Prop where
 top:TopF kt nt s.heap
 nz:nt≤s.heap.objs.size
 pre:∀p∈C.pre,s.heap.get? p.1=some p.2∧nt≤p.1
 nd:(C.pre.map (·.1)).Nodup
 gens:∀g,C.g=some g→s.gens=⟨g.1⟩
noncomputable def COk(prog:Program)(w:World)(kt:KT)(nt:Nat)(C:Con):Prop:=
 ∀(A:Ar)(s:Shared)(R:Result→Shared→Prop),Rm C.need 0 A→PreOk kt nt C s→
  (∀X h' t',PostOk C s.heap h' X→R (.ok (.ret (C.val X))) ⟨h',gensAfter C s.gens,s.drawn,t',s.os⟩)→codeAny (model prog w) A C.code R s
noncomputable def JOkN(prog:Program)(w:World)(kt:KT)(nt:Nat)(C:Con):Prop:=
 ∀(A:Ar)(s:Shared)(R:Result→Shared→Prop),Rm C.need 0 A→PreOk kt nt C s→
  (∀X h' t',PostOk C s.heap h' X→wpOwn (model prog w) A C.code (denote table C.code) (postC prog w A R) (postE R) ⟨h',gensAfter C s.gens,s.drawn,t',s.os⟩)→
  wpOwn (model prog w) A C.code (denote table C.code) (postC prog w A R) (postE R) s
noncomputable def JOkS(prog:Program)(w:World)(kt:KT)(nt:Nat)(C:Con):Prop:=
 ∀(A:Ar)(fs:List Frame)(s:Shared)(P:End→Shared→Prop),Rm C.need 0 A→RmS C.need 0 A fs→PreOk kt nt C s→
  (∀X h' t',PostOk C s.heap h' X→SegX (model prog w) A C.code (denote table C.code) fs ⟨h',gensAfter C s.gens,s.drawn,t',s.os⟩ P)→
  SegX (model prog w) A C.code (denote table C.code) fs s P
noncomputable def ConOk(prog:Program)(w:World)(kt:KT)(nt:Nat)(C:Con):Prop:=match C.jump,C.seg with
 |false,_=>COk prog w kt nt C
 |true,false=>JOkN prog w kt nt C
 |true,true=>JOkS prog w kt nt C
noncomputable def FamOk(prog:Program)(w:World)(kt:KT)(nt:Nat)(F:Fam):Prop:=∀c T sc,ConOk prog w kt nt (F c T sc)
end
structure Sys where
 V:Par
 B:Bs
 nt:Nat
 I:Ini
structure Sys.Ok(S:Sys):Prop where
 prog:S.B.prog=S.V.prog
 par:S.B.w.params=S.V.P∧S.V.P2=none∨∃P2,S.V.P2=some P2∧(S.B.w.params=S.V.P∨S.B.w.params=P2)
 tree:TreeOk S.B.prog S.B.w S.V.tree
 alt:AltOk S.B.prog S.B.w S.V.alt
 quiet:∀c,S.V.quiet c=true→c.quiet=true
 plain:PlainOk S.V.plain
 room:BRm S.B S.V.need
noncomputable def Good(S:Sys):Out→Prop
 |.ob x o=>x.ok∧Good S o
 |.done r st=>∀h m,Rep S.V.kt S.nt S.I h st.T m st.z→S.B.R r ⟨h,⟨st.gl⟩,S.B.d,st.t,S.B.os⟩
 |.again c md κ st=>∀h m,Rep S.V.kt S.nt S.I h st.T m st.z→Mn S.B c md κ (denote table c) ⟨h,⟨st.gl⟩,S.B.d,st.t,S.B.os⟩
 |.stop _=>False
theorem andB_true{a b:Bool}(h:andB a b=true):a=true∧b=true:=by
 cases a
 ·cases h
 ·exact⟨rfl,h⟩
theorem notB_true{a:Bool}(h:notB a=true):a=false:=by cases a<;>first|rfl|cases h
theorem eqB_true{a b:Bool}(h:eqB a b=true):a=b:=by cases a<;>cases b<;>first|rfl|cases h
noncomputable def idxs:Nat→Nat→List Nat
 |0,_=>[]
 |n+1,sc=>(sc%256)::idxs n (sc/256)
theorem memS_iff(x:Nat):∀(n sc:Nat),memS x n sc=true↔x∈idxs n sc
 |0,sc=>by constructor<;>intro h<;>first|cases h|(simp[idxs]at h)
 |n+1,sc=>by
  show(@Bool.rec (fun _=>Bool) (memS x n (sc/256)) true (Nat.beq (sc%256) x))=true↔_
  rw[BT.beq_eq]
  by_cases q:sc%256=x
  ·simp[q,idxs]
  ·simp only[q,decide_false,memS_iff x n (sc/256),idxs,List.mem_cons]
   constructor
   ·exact .inr
   ·rintro(e|e)
    ·exact absurd e.symm q
    ·exact e
theorem nodS_iff:∀(n sc:Nat),nodS n sc=true→(idxs n sc).Nodup
 |0,sc,_=>List.nodup_nil
 |n+1,sc,h=>by
  have h:(@Bool.rec (fun _=>Bool) (nodS n (sc/256)) false (memS (sc%256) n (sc/256)))=true:=h
  cases q:memS (sc%256) n (sc/256)with
  |true=>rw[q]at h;cases h
  |false=>
   rw[q]at h
   refine List.nodup_cons.mpr ⟨fun e=> ?_,nodS_iff n (sc/256) h⟩
   rw[(memS_iff _ _ _).mpr e]at q
   cases q
theorem lenB_eq{α:Type}:∀l:List α,lenB l=l.length
 |[]=>rfl
 |_::l=>congrArg Nat.succ (lenB_eq l)
noncomputable def setL:List Nat→List Obj→LT→LT
 |j::js,o::os,T=>setL js os (T.set (fun _=>o) j)
 |_,_,T=>T
theorem setL_get:∀(js:List Nat)(os:List Obj)(T:LT)(x:Nat),x∉js→(setL js os T).get x=T.get x
 |[],_,_,_,_=>by unfold setL;rfl
 |_::_,[],_,_,_=>by unfold setL;rfl
 |j::js,o::os,T,x,hx=>by
  have hne:x≠j:=fun q=>hx (by rw[q];exact List.mem_cons_self)
  rw[setL,setL_get js os _ x (fun q=>hx (List.mem_cons_of_mem _ q)),LT.get_set,if_neg hne]
theorem setL_at:∀(js:List Nat)(os:List Obj)(T:LT)(i j:Nat)(o:Obj)(p:Addr×Obj),js.Nodup→js[i]?=some j→os[i]?=some o→T.get j=some p→(setL js os T).get j=some (p.1,o)
 |[],_,_,_,_,_,_,_,e,_,_=>by simp at e
 |_::_,[],_,_,_,_,_,_,_,e,_=>by simp at e
 |j'::js,o'::os,T,0,j,o,p,hn,e,e',ht=>by
  simp only[List.getElem?_cons_zero,Option.some.injEq]at e e'
  subst e e'
  rw[setL,setL_get _ _ _ _ (List.nodup_cons.mp hn).1,LT.get_set,if_pos rfl,ht];rfl
 |j'::js,o'::os,T,i+1,j,o,p,hn,e,e',ht=>by
  simp only[List.getElem?_cons_succ]at e e'
  have hne:j≠j':=fun q=>(List.nodup_cons.mp hn).1 (q▸List.mem_of_getElem? e)
  rw[setL]
  exact setL_at js os _ i j o p (List.nodup_cons.mp hn).2 e e' (by rw[LT.get_set,if_neg hne];exact ht)
noncomputable def shf:Nat→Nat→Nat
 |0,sc=>sc
 |n+1,sc=>shf n (sc/256)
theorem preGo_good{S:Sys}{k:Nat→LT→Out}:∀(ps:List (Addr×Obj))(os:List Obj)(sc:Nat)(T:LT),(idxs ps.length sc).Nodup→Good S (preGo k ps os sc T)→
  ps.length≤os.length∧(∀(i:Nat)(p:Addr×Obj)(j:Nat),ps[i]?=some p→(idxs ps.length sc)[i]?=some j→T.get j=some p)∧Good S (k (shf ps.length sc) (setL (idxs ps.length sc) os T))
 |[],os,sc,T,_,h=>⟨Nat.zero_le _,fun i p j e=>by simp at e,by unfold idxs setL;exact h⟩
 |p::ps,os,sc,T,hn,h=>by
  have h:Good S (@Option.rec (Addr×Obj) (fun _=>Out) (.stop 50) (fun ao=>@List.rec Obj (fun _=>Out) (.stop 51) (fun o os _=>.ob (.a ao.1 p.1) (.ob (.o ao.2 p.2) (preGo k ps os (sc/256) (T.set (fun _=>o) (sc%256))))) os) (T.get (sc%256))):=h
  cases q:T.get (sc%256)with
  |none=>rw[q]at h;cases h
  |some ao=>
   rw[q]at h
   cases os with
   |nil=>cases h
   |cons o os=>
    obtain⟨e1,e2,h⟩:=h
    have e1:ao.1=p.1:=e1
    have e2:ao.2=p.2:=e2
    have ea:ao=p:=Prod.ext e1 e2
    have hn':=List.nodup_cons.mp hn
    obtain⟨y1,y2,y3⟩:=preGo_good ps os (sc/256) (T.set (fun _=>o) (sc%256)) hn'.2 h
    refine⟨Nat.succ_le_succ y1,?_,?_⟩
    ·intro i p' j ep ej
     cases i with
     |zero=>
      simp only[List.getElem?_cons_zero,Option.some.injEq]at ep
      simp only[List.length_cons,idxs,List.getElem?_cons_zero,Option.some.injEq]at ej
      subst ep ej
      rw[q,ea]
     |succ i=>
      simp only[List.getElem?_cons_succ]at ep
      simp only[List.length_cons,idxs,List.getElem?_cons_succ]at ej
      have z:=y2 i p' j ep ej
      have hne:j≠sc%256:=fun w=>hn'.1 (w▸List.mem_of_getElem? ej)
      rw[LT.get_set,if_neg hne]at z
      exact z
    ·show Good S (k (shf ps.length (sc/256)) (setL ((sc%256)::idxs ps.length (sc/256)) (o::os) T))
     rw[setL];exact y3
noncomputable def insL(X:Nat→Nat):List Obj→Nat→LT→Nat→LT
 |[],_,T,_=>T
 |o::os,i,T,m=>insL X os (i+1) (T.ins (X i) o m) (m+1)
theorem newGo_good{S:Sys}{X:Nat→Nat}{k:LT→Nat→Out}:∀(os:List Obj)(i:Nat)(T:LT)(m:Nat),Good S (newGo X k os i T m)→
  Good S (k (insL X os i T m) (m+os.length))∧∀(n:Nat),n≤os.length→∀(o:Obj),os[n]?=some o→(((insL X (os.take n) i T m).ins (X (i+n)) o (m+n)).get (m+n)).isSome=true
 |[],i,T,m,h=>⟨h,fun n _ o e=>by simp at e⟩
 |o::os,i,T,m,h=>by
  have h:Good S (@Option.rec (Addr×Obj) (fun _=>Out) (.stop 53) (fun _=>newGo X k os (i+1) (T.ins (X i) o m) (m+1)) ((T.ins (X i) o m).get m)):=h
  cases q:(T.ins (X i) o m).get m with
  |none=>rw[q]at h;cases h
  |some p=>
   rw[q]at h
   obtain⟨y1,y2⟩:=newGo_good os (i+1) (T.ins (X i) o m) (m+1) h
   refine⟨?_,?_⟩
   ·have:m+(o::os).length=m+1+os.length:=by simp only[List.length_cons];omega
    rw[this,insL];exact y1
   ·intro n hn o' e
    cases n with
    |zero=>
     simp only[List.getElem?_cons_zero,Option.some.injEq]at e
     subst e
     show((T.ins (X i) o m).get m).isSome=true
     rw[q];rfl
    |succ n=>
     simp only[List.getElem?_cons_succ]at e
     have z:=y2 n (by simp only[List.length_cons]at hn;omega) o' e
     have e1:i+(n+1)=i+1+n:=by omega
     have e2:m+(n+1)=m+1+n:=by omega
     rw[List.take_succ_cons,insL,e1,e2];exact z
section
variable{kt:KT}{nt:Nat}{I:Ini}{h h':Heap}{T:LT}{m z:Nat}{C:Con}{X:Nat→Nat}{js:List Nat}
theorem idxs_length:∀(n sc:Nat),(idxs n sc).length=n
 |0,_=>rfl
 |n+1,sc=>by simp only[idxs,List.length_cons,idxs_length n]
section
variable(D:Rep kt nt I h T m z)(hl:js.length=C.pre.length)(hn:js.Nodup)(hp:∀(i:Nat)(p:Addr×Obj)(j:Nat),C.pre[i]?=some p→js[i]?=some j→T.get j=some p)
include D hl hn hp
theorem pre_nodup:(C.pre.map (·.1)).Nodup:=by
 rw[List.Nodup,List.pairwise_iff_getElem]
 intro i i' hi hi' hlt e
 rw[List.length_map]at hi hi'
 rw[List.getElem_map,List.getElem_map]at e
 have g1:=hp i C.pre[i] (js[i]'(hl▸hi)) (List.getElem?_eq_getElem hi) (List.getElem?_eq_getElem _)
 have g2:=hp i' C.pre[i'] (js[i']'(hl▸hi')) (List.getElem?_eq_getElem hi') (List.getElem?_eq_getElem _)
 have:js[i]'(hl▸hi)=js[i']'(hl▸hi'):=D.inj _ _ C.pre[i].1 C.pre[i].2 C.pre[i'].2 g1 (by rw[g2,e])
 exact(List.pairwise_iff_getElem.mp hn) i i' _ _ hlt this
theorem rep_set
  (ho:C.pre.length≤(C.post X).length) (P:PostOk C h h' X):Rep kt nt I h' (setL js (C.post X) T) m h'.objs.size:=by
 have key:∀x a o,(setL js (C.post X) T).get x=some (a,o)→(∃o',T.get x=some (a,o'))∧h'.get? a=some o:=by
  intro x a o e
  by_cases hx:x∈js
  ·obtain⟨i,hi,rfl⟩:=List.mem_iff_getElem.mp hx
   have hi':i<C.pre.length:=hl▸hi
   have ej:js[i]?=some js[i]:=List.getElem?_eq_getElem hi
   have ep:C.pre[i]?=some C.pre[i]:=List.getElem?_eq_getElem hi'
   have eo:(C.post X)[i]?=some ((C.post X)[i]'(Nat.lt_of_lt_of_le hi' ho)):=List.getElem?_eq_getElem _
   have ht:=hp i _ _ ep ej
   rw[setL_at js (C.post X) T i js[i] _ C.pre[i] hn ej eo ht]at e
   cases e
   exact⟨⟨_,ht⟩,P.post i _ _ ep eo⟩
  ·rw[setL_get js _ T x hx]at e
   refine⟨⟨o,e⟩,P.keep a o (D.own x a o e).2.1 ?_⟩
   intro hm
   obtain⟨p,hpm,rfl⟩:=List.mem_map.mp hm
   obtain⟨i,hi,rfl⟩:=List.mem_iff_getElem.mp hpm
   have ht:=hp i C.pre[i] (js[i]'(hl▸hi)) (List.getElem?_eq_getElem hi) (List.getElem?_eq_getElem _)
   have:=D.inj x (js[i]'(hl▸hi)) C.pre[i].1 o C.pre[i].2 e ht
   exact hx (this▸List.getElem_mem _)
 have back:∀x a o,T.get x=some (a,o)→∃o',(setL js (C.post X) T).get x=some (a,o'):=by
  intro x a o e
  by_cases hx:x∈js
  ·obtain⟨i,hi,rfl⟩:=List.mem_iff_getElem.mp hx
   have hi':i<C.pre.length:=hl▸hi
   exact⟨_,setL_at js (C.post X) T i js[i] _ (a,o) hn (List.getElem?_eq_getElem hi) (List.getElem?_eq_getElem (Nat.lt_of_lt_of_le hi' ho)) e⟩
  ·exact⟨o,by rw[setL_get js _ T x hx];exact e⟩
 refine⟨rfl,Nat.le_trans D.grow (D.size▸P.grow),?_,?_,?_,?_,?_,?_,D.wm,Nat.le_trans D.nz (D.size▸P.grow)⟩
 ·intro i a o e
  obtain⟨⟨o',e'⟩,q⟩:=key i a o e
  exact⟨(D.own i a o' e').1,q,(D.own i a o' e').2.2⟩
 ·intro i j a o o' e e'
  obtain⟨⟨y,ey⟩,_⟩:=key i a o e
  obtain⟨⟨y',ey'⟩,_⟩:=key j a o' e'
  exact D.inj i j a y y' ey ey'
 ·intro i a e
  obtain⟨o,y⟩:=D.adr i a e
  exact back i a o y
 ·intro i a o e hi
  obtain⟨⟨y,ey⟩,_⟩:=key i a o e
  exact D.fresh i a y ey hi
 ·refine D.top.change fun b o hb e=>P.keep b o e ?_
  intro hm
  obtain⟨p,hpm,rfl⟩:=List.mem_map.mp hm
  obtain⟨i,hi,rfl⟩:=List.mem_iff_getElem.mp hpm
  have ht:=hp i C.pre[i] (js[i]'(hl▸hi)) (List.getElem?_eq_getElem hi) (List.getElem?_eq_getElem _)
  exact absurd hb (Nat.not_lt.mpr (D.own _ _ _ ht).2.2)
 ·intro b o e hb
  refine P.keep b o (D.keep b o e hb) ?_
  intro hm
  obtain⟨p,hpm,rfl⟩:=List.mem_map.mp hm
  obtain⟨i,hi,rfl⟩:=List.mem_iff_getElem.mp hpm
  have ht:=hp i C.pre[i] (js[i]'(hl▸hi)) (List.getElem?_eq_getElem hi) (List.getElem?_eq_getElem _)
  by_cases q:I.pre.length≤js[i]'(hl▸hi)
  ·exact absurd (Heap.lt_size e) (Nat.not_lt.mpr (D.fresh _ _ _ ht q))
  ·have hlt:js[i]'(hl▸hi)<I.pre.length:=by omega
   obtain⟨o',y⟩:=D.adr _ _ (List.getElem?_eq_getElem hlt)
   rw[ht]at y
   have ea:C.pre[i].1=I.pre[js[i]'(hl▸hi)]:=congrArg Prod.fst (Option.some.inj y)
   exact hb (ea▸List.getElem_mem hlt)
end
theorem rep_ins{n₀:Nat}(hnt:nt≤n₀)(hI:I.h₀.objs.size≤n₀):∀(os:List Obj)(i:Nat)(T:LT)(m:Nat),Rep kt nt I h' T m h'.objs.size→
  (∀x a o,T.get x=some (a,o)→a<n₀∨∃i',i'<i∧a=X i')→
  (∀n o,os[n]?=some o→h'.get? (X (i+n))=some o∧n₀≤X (i+n))→(∀n i',i'<i+n→n<os.length→X (i+n)≠X i')→
  (∀(n:Nat),n≤os.length→∀(o:Obj),os[n]?=some o→(((insL X (os.take n) i T m).ins (X (i+n)) o (m+n)).get (m+n)).isSome=true)→
  Rep kt nt I h' (insL X os i T m) (m+os.length) h'.objs.size
 |[],i,T,m,D,_,_,_,_=>D
 |o::os,i,T,m,D,hT,hN,hX,hS=>by
  have hS0:=hS 0 (Nat.zero_le _) o rfl
  have hS0:((T.ins (X i) o m).get m).isSome=true:=hS0
  have G:=LT.get_ins (X i) o T m hS0
  have h0:=hN 0 o rfl
  have hfresh:∀x a o',T.get x=some (a,o')→a≠X i:=by
   intro x a o' e q
   rcases hT x a o' e with y|⟨i',hi',y⟩
   ·have:=h0.2
    rw[Nat.add_zero]at this
    exact absurd (q▸y:X i<n₀) (Nat.not_lt.mpr this)
   ·exact hX 0 i' (by omega) (by simp) (by rw[Nat.add_zero,←q,y])
  have D':Rep kt nt I h' (T.ins (X i) o m) (m+1) h'.objs.size:=by
   refine⟨rfl,D.grow,?_,?_,?_,?_,D.top,D.keep,Nat.le_succ_of_le D.wm,D.nz⟩
   ·intro x a o' e
    rw[G]at e
    by_cases hx:x=m
    ·rw[if_pos hx]at e
     cases e
     refine⟨by omega,h0.1,?_⟩
     have:=h0.2
     rw[Nat.add_zero]at this
     exact Nat.le_trans hnt this
    ·rw[if_neg hx]at e
     have y:=D.own x a o' e
     exact⟨Nat.lt_succ_of_lt y.1,y.2⟩
   ·intro x y a o1 o2 e1 e2
    rw[G]at e1 e2
    by_cases hx:x=m
    ·rw[if_pos hx]at e1
     cases e1
     by_cases hy:y=m
     ·rw[hx,hy]
     ·rw[if_neg hy]at e2
      exact absurd rfl (hfresh y _ _ e2)
    ·rw[if_neg hx]at e1
     by_cases hy:y=m
     ·rw[if_pos hy]at e2
      cases e2
      exact absurd rfl (hfresh x _ _ e1)
     ·rw[if_neg hy]at e2
      exact D.inj x y a o1 o2 e1 e2
   ·intro x a e
    obtain⟨o',y⟩:=D.adr x a e
    have:x≠m:=Nat.ne_of_lt (D.own x a o' y).1
    exact⟨o',by rw[G,if_neg this];exact y⟩
   ·intro x a o' e hp
    rw[G]at e
    by_cases hx:x=m
    ·rw[if_pos hx]at e
     cases e
     have:=h0.2
     rw[Nat.add_zero]at this
     exact Nat.le_trans hI this
    ·rw[if_neg hx]at e
     exact D.fresh x a o' e hp
  have z:=rep_ins hnt hI os (i+1) (T.ins (X i) o m) (m+1) D' ?_ ?_ ?_ ?_
  ·have:m+(o::os).length=m+1+os.length:=by simp only[List.length_cons];omega
   rw[this,insL];exact z
  ·intro x a o' e
   rw[G]at e
   by_cases hx:x=m
   ·rw[if_pos hx]at e
    cases e
    exact .inr ⟨i,Nat.lt_succ_self _,rfl⟩
   ·rw[if_neg hx]at e
    rcases hT x a o' e with y|⟨i',hi',y⟩
    ·exact .inl y
    ·exact .inr ⟨i',Nat.lt_succ_of_lt hi',y⟩
  ·intro n o' e
   have:=hN (n+1) o' (by rw[List.getElem?_cons_succ];exact e)
   have e1:i+(n+1)=i+1+n:=Nat.add_right_comm i n 1
   rw[e1]at this
   exact this
  ·intro n i' hi' hn
   have:=hX (n+1) i' (by omega) (by simp only[List.length_cons];omega)
   have e1:i+(n+1)=i+1+n:=Nat.add_right_comm i n 1
   rw[e1]at this
   exact this
  ·intro n hn o' e
   have:=hS (n+1) (by simp only[List.length_cons];omega) o' (by rw[List.getElem?_cons_succ];exact e)
   have e1:i+(n+1)=i+1+n:=Nat.add_right_comm i n 1
   have e2:m+(n+1)=m+1+n:=Nat.add_right_comm m n 1
   rw[List.take_succ_cons,insL,e1,e2]at this
   exact this
theorem rep_con(D:Rep kt nt I h T m z)(hl:js.length=C.pre.length)(hn:js.Nodup)(hp:∀(i:Nat)(p:Addr×Obj)(j:Nat),C.pre[i]?=some p→js[i]?=some j→T.get j=some p)
  (ho:C.pre.length≤(C.post X).length) (P:PostOk C h h' X)
  (hS:∀(n:Nat),n≤(C.new X).length→∀(o:Obj),(C.new X)[n]?=some o→(((insL X ((C.new X).take n) 0 (setL js (C.post X) T) m).ins (X (0+n)) o (m+n)).get (m+n)).isSome=true):
  Rep kt nt I h' (insL X (C.new X) 0 (setL js (C.post X) T) m) (m+(C.new X).length) h'.objs.size:=by
 have D':=rep_set D hl hn hp ho P
 refine rep_ins (n₀:=h.objs.size) (D.size▸D.nz) (D.size▸D.grow) (C.new X) 0 _ m D' ?_ ?_ ?_ hS
 ·intro x a o e
  left
  by_cases hx:x∈js
  ·obtain⟨i,hi,rfl⟩:=List.mem_iff_getElem.mp hx
   have hi':i<C.pre.length:=hl▸hi
   have ht:=hp i C.pre[i] js[i] (List.getElem?_eq_getElem hi') (List.getElem?_eq_getElem hi)
   rw[setL_at js (C.post X) T i js[i] _ C.pre[i] hn (List.getElem?_eq_getElem hi) (List.getElem?_eq_getElem (Nat.lt_of_lt_of_le hi' ho)) ht]at e
   cases e
   exact Heap.lt_size (D.own _ _ _ ht).2.1
  ·rw[setL_get js _ T x hx]at e
   exact Heap.lt_size (D.own _ _ _ e).2.1
 ·intro n o e
  rw[Nat.zero_add]
  exact P.new n o e
 ·intro n i' hi' hn' q
  rw[Nat.zero_add]at q hi'
  have:=P.inj n i' hn' (by omega) q
  omega
end
noncomputable def glAfter(C:Con)(gl:List GenState):List GenState:=match C.g with
 |some p=>p.2
 |none=>gl
theorem gensAfter_eq(C:Con)(gl:List GenState):gensAfter C ⟨gl⟩=⟨glAfter C gl⟩:=by unfold gensAfter glAfter;cases C.g<;>rfl
noncomputable def consU(a:Sup)(U:Nat→Sup):Nat→Sup
 |0=>a
 |n+1=>U n
theorem conGo_good{S:Sys}{C:Con}{cs:List Fam}{P:Sup}{U:Nat→Sup}{T:LT}{m:Nat}{gl:List GenState}{cont:Value→Rest}{sc:Nat}(hn:(idxs C.pre.length sc).Nodup)
  (H:Good S (conGo C cs P U T m gl cont sc)):
  (∀p,C.g=some p→gl=p.1)∧C.pre.length≤(C.post P.n).length∧(∀(i:Nat)(p:Addr×Obj)(j:Nat),C.pre[i]?=some p→(idxs C.pre.length sc)[i]?=some j→T.get j=some p)∧
  (∀(n:Nat),n≤(C.new P.n).length→∀(o:Obj),(C.new P.n)[n]?=some o→(((insL P.n ((C.new P.n).take n) 0 (setL (idxs C.pre.length sc) (C.post P.n) T) m).ins (P.n (0+n)) o (m+n)).get (m+n)).isSome=true)∧
  Good S (cont (C.val P.n) (shf C.pre.length sc) cs (fun i=>U (i+1)) (insL P.n (C.new P.n) 0 (setL (idxs C.pre.length sc) (C.post P.n) T) m) (m+(C.new P.n).length) P.z 0 P.t 0 (glAfter C gl)):=by
 have core:∀gl',Good S (preGo (fun sc T=>newGo P.n (fun T m=>cont (C.val P.n) sc cs (fun i=>U (i+1)) T m P.z 0 P.t 0 gl') (C.new P.n) 0 T m) C.pre (C.post P.n) sc T)→
   C.pre.length≤(C.post P.n).length∧(∀(i:Nat)(p:Addr×Obj)(j:Nat),C.pre[i]?=some p→(idxs C.pre.length sc)[i]?=some j→T.get j=some p)∧
   (∀(n:Nat),n≤(C.new P.n).length→∀(o:Obj),(C.new P.n)[n]?=some o→(((insL P.n ((C.new P.n).take n) 0 (setL (idxs C.pre.length sc) (C.post P.n) T) m).ins (P.n (0+n)) o (m+n)).get (m+n)).isSome=true)∧
   Good S (cont (C.val P.n) (shf C.pre.length sc) cs (fun i=>U (i+1)) (insL P.n (C.new P.n) 0 (setL (idxs C.pre.length sc) (C.post P.n) T) m) (m+(C.new P.n).length) P.z 0 P.t 0 gl'):=by
  intro gl' h
  obtain⟨y1,y2,y3⟩:=preGo_good C.pre (C.post P.n) sc T hn h
  obtain⟨y4,y5⟩:=newGo_good (C.new P.n) 0 _ m y3
  exact⟨y1,y2,y5,y4⟩
 unfold conGo genGo at H
 cases q:C.g with
 |none=>
  rw[q]at H
  obtain⟨y1,y2,y3,y4⟩:=core gl H
  refine⟨fun p e=>(by cases e),y1,y2,y3,?_⟩
  have:glAfter C gl=gl:=by unfold glAfter;rw[q]
  rw[this];exact y4
 |some p=>
  rw[q]at H
  obtain⟨e,H⟩:=H
  have e:gl=p.1:=e
  obtain⟨y1,y2,y3,y4⟩:=core p.2 H
  refine⟨fun p' e'=>(by cases e';exact e),y1,y2,y3,?_⟩
  have:glAfter C gl=p.2:=by unfold glAfter;rw[q]
  rw[this];exact y4
theorem fitB_true{V:Par}{want:Bool}{md:Option (List Frame)}{C:Con}{sc:Nat}(h:fitB V want md C sc=true):
  C.need+1≤V.need∧(idxs C.pre.length sc).Nodup∧C.jump=want∧(want=true→C.seg=isSomeB md):=by
 obtain⟨h1,h2⟩:=andB_true h
 obtain⟨h2,h3⟩:=andB_true h2
 obtain⟨h3,h4⟩:=andB_true h3
 refine⟨Nat.le_of_ble_eq_true h1,?_,eqB_true h3,?_⟩
 ·rw[lenB_eq]at h2;exact nodS_iff _ _ h2
 ·rintro rfl
  exact eqB_true h4
theorem use_con{S:Sys}{want:Bool}{md:Option (List Frame)}{c':Code}{cont:Value→Rest}{sc:Nat}{cs:List Fam}{T:LT}{m zb zk tb tk z:Nat}{gl:List GenState}{h:Heap}{d:Drawn}{t:Nat}{os:OsState}
  (H:∀U,Good S (useCon S.V want md c' cont sc cs U T m zb zk tb tk gl)) (D:Rep S.V.kt S.nt S.I h T m z):
  ∃F cs',cs=F::cs'∧∃C,F c' T sc=C∧c'=C.code∧C.need+1≤S.V.need∧C.jump=want∧(want=true→C.seg=isSomeB md)∧PreOk S.V.kt S.nt C ⟨h,⟨gl⟩,d,t,os⟩∧
   ∃sc',∀X h' t',PostOk C h h' X→∃T' m',Rep S.V.kt S.nt S.I h' T' m' h'.objs.size∧∀U,Good S (cont (C.val X) sc' cs' U T' m' h'.objs.size 0 t' 0 (glAfter C gl)):=by
 cases cs with
 |nil=>exact(H fun _=>⟨fun _=>0,0,0,default,[]⟩).elim
 |cons F cs=>
  have H0:∀U,Good S (useC (F c' T sc) S.V want md c' cont sc cs U T m gl):=H
  generalize eC:F c' T sc=C at H0
  have H1:∀U,Good S (@Bool.rec (fun _=>Out) (.stop 54) (.ob (.c c' C.code) (conGo C cs (U 0) U T m gl cont sc)) (fitB S.V want md C sc)):=H0
  cases q:fitB S.V want md C sc with
  |false=>
   have:=H1 fun _=>⟨fun _=>0,0,0,default,[]⟩
   rw[q]at this
   exact this.elim
  |true=>
   rw[q]at H1
   have H2:∀U,c'=C.code∧Good S (conGo C cs (U 0) U T m gl cont sc):=H1
   obtain⟨f1,f2,f3,f4⟩:=fitB_true q
   have hl:=idxs_length C.pre.length sc
   obtain⟨g1,g2,g3,g4,g5⟩:=conGo_good f2 (H2 fun _=>⟨fun _=>0,0,0,default,[]⟩).2
   refine⟨F,cs,rfl,C,eC,(H2 fun _=>⟨fun _=>0,0,0,default,[]⟩).1,f1,f3,f4,⟨D.top,?_,?_,pre_nodup D hl f2 g3,?_⟩,shf C.pre.length sc,?_⟩
   ·exact D.size▸D.nz
   ·intro p hp
    obtain⟨i,hi,rfl⟩:=List.mem_iff_getElem.mp hp
    have:=D.own _ _ _ (g3 i C.pre[i] ((idxs C.pre.length sc)[i]'(by rw[hl];exact hi)) (List.getElem?_eq_getElem hi) (List.getElem?_eq_getElem _))
    exact this.2
   ·intro g hg
    show(⟨gl⟩:Array GenState)=⟨g.1⟩
    rw[g1 g hg]
   ·intro X h' t' P
    have G:∀U,Good S (conGo C cs ⟨X,h'.objs.size,t',default,[]⟩ (consU ⟨X,h'.objs.size,t',default,[]⟩ U) T m gl cont sc):=fun U=>(H2 (consU ⟨X,h'.objs.size,t',default,[]⟩ U)).2
    obtain⟨_,k2,k3,k4,_⟩:=conGo_good f2 (G fun _=>⟨fun _=>0,0,0,default,[]⟩)
    refine⟨_,_,rep_con D hl f2 k3 k2 P k4,fun U=> ?_⟩
    exact(conGo_good f2 (G U)).2.2.2.2
noncomputable def IH(S:Sys)(ih:Sim):Prop:=∀c md κ t sc cs T m zb zk tb tk gl h,(∀C∈cs,FamOk S.B.prog S.B.w S.V.kt S.nt C)→
 (∀U,Good S (ih c md κ t sc cs U T m zb zk tb tk gl))→Rep S.V.kt S.nt S.I h T m (zb+zk)→Mn S.B c md κ t ⟨h,⟨gl⟩,S.B.d,tb+tk,S.B.os⟩
noncomputable def U0:Nat→Sup:=fun _=>⟨fun _=>0,0,0,default,[]⟩
section
variable{S:Sys}(O:S.Ok){ih:Sim}(H:IH S ih)
include O H
theorem wake_sound{e:End}{κ:K}{sc:Nat}{cs:List Fam}{T:LT}{m zb zk tb tk:Nat}{gl:List GenState}{h:Heap}(hc:∀C∈cs,FamOk S.B.prog S.B.w S.V.kt S.nt C)
  (G:∀U,Good S (wakeS ih e κ sc cs U T m zb zk tb tk gl)) (D:Rep S.V.kt S.nt S.I h T m (zb+zk)):wakeN S.B κ e ⟨h,⟨gl⟩,S.B.d,tb+tk,S.B.os⟩:=by
 cases κ with
 |base=>exact(G U0).elim
 |seg=>exact(G U0).elim
 |ret=>exact(G U0).elim
 |gen g c k κ=>
  have z:=H c none κ (k e.result) sc cs T m zb zk tb tk (gl.set g e.genState) h hc G D
  have e:(⟨h,⟨gl⟩,S.B.d,tb+tk,S.B.os⟩:Shared).setGen g e.genState=⟨h,⟨gl.set g e.genState⟩,S.B.d,tb+tk,S.B.os⟩:=set_gens ..
  show wpOwn _ _ _ _ _ _ (Shared.setGen _ _ _)
  rw[e];exact z
theorem retN_sound{r:Result}{κ:K}{sc:Nat}{cs:List Fam}{T:LT}{m zb zk tb tk:Nat}{gl:List GenState}{h:Heap}(hc:∀C∈cs,FamOk S.B.prog S.B.w S.V.kt S.nt C)
  (G:∀U,Good S (retN ih r κ sc cs U T m zb zk tb tk gl)) (D:Rep S.V.kt S.nt S.I h T m (zb+zk)):endN S.B κ r ⟨h,⟨gl⟩,S.B.d,tb+tk,S.B.os⟩:=by
 cases κ with
 |base=>exact G U0 h m D
 |seg=>exact(G U0).elim
 |gen=>exact(G U0).elim
 |ret c₁ k κ=>exact H c₁ none κ (k r) sc cs T m zb zk tb tk gl h hc G D
theorem ret_sound{r:Result}{c:Code}{md:Option (List Frame)}{κ:K}{t:Sem PySem.Fin}(ht:t=leafOf r){sc:Nat}{cs:List Fam}{T:LT}{m zb zk tb tk:Nat}{gl:List GenState}{h:Heap}(hc:∀C∈cs,FamOk S.B.prog S.B.w S.V.kt S.nt C)
  (G:∀U,Good S (retS ih r md κ sc cs U T m zb zk tb tk gl)) (D:Rep S.V.kt S.nt S.I h T m (zb+zk)):Mn S.B c md κ t ⟨h,⟨gl⟩,S.B.d,tb+tk,S.B.os⟩:=by
 cases md with
 |none=>
  have key:endN S.B κ r ⟨h,⟨gl⟩,S.B.d,tb+tk,S.B.os⟩:=retN_sound O H hc G D
  cases r with
  |ok f=>subst ht;exact y_pure _ _ _ _ _ _ _ _ _ (y_done _ _ _ _ _ _ key)
  |error e=>subst ht;exact y_raise _ _ _ _ _ _ _ _ _ (y_err _ _ _ key)
 |some fs=>
  cases fs with
  |nil=>
   have z:=wake_sound O H hc G D
   cases κ with
   |base=>exact(G U0).elim
   |seg=>exact(G U0).elim
   |ret=>exact(G U0).elim
   |gen g c₁ k κ=>exact s_end _ _ _ _ _ _ r t ht z
  |cons f fs=>
   cases f with
   |ret k hd g l c₁ p₁ kp=>
    have z:=H c₁ (some fs) κ (k r) sc cs T m zb zk tb tk gl h hc G D
    show SegX _ _ _ _ (fr S.B κ _) _ _
    rw[fr_cons]
    exact s_pop _ _ _ _ _ _ _ r t ht k hd g l c₁ p₁ kp z
   |gen=>exact(G U0).elim
omit H in
theorem def_sound{c:Code}{κ:K}{s:Shared}(hp:okA S.V.plain c none κ=true)(hs:s.heap.NoLimit){t:Sem PySem.Fin}(ht:(t=S.V.tree c∧isDef c=true)∨t=S.V.alt c)(z:Mn S.B c none κ t s):Mn S.B c none κ (denote table c) s:=by
 have R:=(okA_none O.plain O.room hp).2.l (by omega)
 rcases ht with⟨rfl,hd⟩|rfl
 ·exact O.tree.2 c hd _ _ _ _ R hs z
 ·exact O.alt c _ _ _ _ R hs z
theorem inl_sound{c':Code}{md:Option (List Frame)}{κ:K}{sc:Nat}{cs:List Fam}{T:LT}{m zb zk tb tk:Nat}{gl:List GenState}{h:Heap}(hc:∀C∈cs,FamOk S.B.prog S.B.w S.V.kt S.nt C)
  (G:∀U,Good S (inl S.V ih c' md κ sc cs U T m zb zk tb tk gl)) (D:Rep S.V.kt S.nt S.I h T m (zb+zk)):Mn S.B c' md κ (denote table c') ⟨h,⟨gl⟩,S.B.d,tb+tk,S.B.os⟩:=by
 unfold inl at G
 cases q:isDef c' with
 |false=>
  rw[q]at G
  rw[←O.tree.1 c' q]
  exact H _ _ _ _ _ _ _ _ _ _ _ _ _ h hc G D
 |true=>
  rw[q]at G
  cases w:andB (notB (isSomeB md)) (okA S.V.plain c' md κ)with
  |false=>have:=G U0;rw[w]at this;exact this.elim
  |true=>
   rw[w]at G
   obtain⟨w1,w2⟩:=andB_true w
   cases md with
   |some fs=>cases w1
   |none=>exact def_sound O w2 D.top.2.1 (.inl ⟨rfl,q⟩) (H _ _ _ _ _ _ _ _ _ _ _ _ _ h hc G D)
theorem jump_sound{c':Code}{md:Option (List Frame)}{κ:K}{sc:Nat}{cs:List Fam}{T:LT}{m zb zk tb tk:Nat}{gl:List GenState}{h:Heap}(hc:∀C∈cs,FamOk S.B.prog S.B.w S.V.kt S.nt C)
  (G:∀U,Good S (ifOk (andB (notB (isDef c')) (okM S.V.plain md κ 10)) (useCon S.V true md c' (fun _=>ih c' md κ (S.V.tree c')) sc) cs U T m zb zk tb tk gl)) (D:Rep S.V.kt S.nt S.I h T m (zb+zk)):
  Mn S.B c' md κ (denote table c') ⟨h,⟨gl⟩,S.B.d,tb+tk,S.B.os⟩:=by
 cases w:andB (notB (isDef c')) (okM S.V.plain md κ 10)with
 |false=>have:=G U0;rw[w]at this;exact this.elim
 |true=>
  rw[w]at G
  obtain⟨w1,w2⟩:=andB_true w
  have w1:=notB_true w1
  obtain⟨F,cs',rfl,C,eC,rfl,hn,hj,hs,hP,sc',hX⟩:=use_con (zb:=zb) (zk:=zk) (tb:=tb) (tk:=tk) (d:=S.B.d) (t:=tb+tk) (os:=S.B.os) G D
  have hs:=hs rfl
  have hC:=eC▸hc F List.mem_cons_self _ _ _
  unfold ConOk at hC
  rw[hj]at hC
  have next:∀X h' t',PostOk C h h' X→Mn S.B C.code md κ (denote table C.code) ⟨h',gensAfter C ⟨gl⟩,S.B.d,t',S.B.os⟩:=by
   intro X h' t' P
   obtain⟨T',m',D',G'⟩:=hX X h' t' P
   rw[gensAfter_eq,←O.tree.1 C.code w1]
   exact H C.code md κ (S.V.tree C.code) sc' cs' T' m' h'.objs.size 0 t' 0 (glAfter C gl) h' (fun C hC=>hc C (List.mem_cons_of_mem _ hC)) G' D'
  cases md with
  |none=>
   rw[show C.seg=false from hs]at hC
   exact hC _ _ _ ((okM_none O.plain O.room w2).down (by omega) hn) hP next
  |some fs=>
   rw[show C.seg=true from hs]at hC
   exact hC _ _ _ _ ((okF_arS O.plain O.room κ fs 10 w2).down (by omega) hn) ((okM_some O.plain O.room w2).down (by omega) hn) hP next
theorem jmpN_sound{c':Code}{md:Option (List Frame)}{κ:K}{fin:Rst2}(w1:isDef c'=false)(w2:okM S.V.plain md κ 10=true)
  (hf:∀cs T m zb zk tb tk gl h,(∀U,Good S (fin cs U T m zb zk tb tk gl))→Rep S.V.kt S.nt S.I h T m (zb+zk)→Mn S.B c' md κ (denote table c') ⟨h,⟨gl⟩,S.B.d,tb+tk,S.B.os⟩):
  ∀(k sc:Nat)(cs:List Fam)(T:LT)(m zb zk tb tk:Nat)(gl:List GenState)(h:Heap),(∀C∈cs,FamOk S.B.prog S.B.w S.V.kt S.nt C)→
  (∀U,Good S (jmpN S.V ih md κ c' fin k sc cs U T m zb zk tb tk gl))→Rep S.V.kt S.nt S.I h T m (zb+zk)→Mn S.B c' md κ (denote table c') ⟨h,⟨gl⟩,S.B.d,tb+tk,S.B.os⟩
 |0,sc,cs,T,m,zb,zk,tb,tk,gl,h,hc,G,D=>by
  have G:∀U,Good S (@Nat.rec (fun _=>Rst2) (ih c' md κ (S.V.tree c') (Nat.div sc 256)) (fun _ _=>fin) (Nat.mod sc 256) cs U T m zb zk tb tk gl):=G
  cases q:Nat.mod sc 256 with
  |zero=>
   rw[q]at G
   rw[←O.tree.1 c' w1]
   exact H _ _ _ _ _ _ _ _ _ _ _ _ _ h hc G D
  |succ j=>rw[q]at G;exact hf _ _ _ _ _ _ _ _ _ G D
 |k+1,sc,cs,T,m,zb,zk,tb,tk,gl,h,hc,G,D=>by
  have G:∀U,Good S (useCon S.V true md c' (fun _=>jmpN S.V ih md κ c' fin k) sc cs U T m zb zk tb tk gl):=G
  obtain⟨F,cs',rfl,C,eC,rfl,hn,hj,hs,hP,sc',hX⟩:=use_con (zb:=zb) (zk:=zk) (tb:=tb) (tk:=tk) (d:=S.B.d) (t:=tb+tk) (os:=S.B.os) G D
  have hs:=hs rfl
  have hC:=eC▸hc F List.mem_cons_self _ _ _
  unfold ConOk at hC
  rw[hj]at hC
  have next:∀X h' t',PostOk C h h' X→Mn S.B C.code md κ (denote table C.code) ⟨h',gensAfter C ⟨gl⟩,S.B.d,t',S.B.os⟩:=by
   intro X h' t' P
   obtain⟨T',m',D',G'⟩:=hX X h' t' P
   rw[gensAfter_eq]
   exact jmpN_sound w1 w2 hf k sc' cs' T' m' h'.objs.size 0 t' 0 (glAfter C gl) h' (fun C hC=>hc C (List.mem_cons_of_mem _ hC)) G' D'
  cases md with
  |none=>
   rw[show C.seg=false from hs]at hC
   exact hC _ _ _ ((okM_none O.plain O.room w2).down (by omega) hn) hP next
  |some fs=>
   rw[show C.seg=true from hs]at hC
   exact hC _ _ _ _ ((okF_arS O.plain O.room κ fs 10 w2).down (by omega) hn) ((okM_some O.plain O.room w2).down (by omega) hn) hP next
theorem alt_sound{c':Code}{md:Option (List Frame)}{κ:K}{sc:Nat}{cs:List Fam}{T:LT}{m zb zk tb tk:Nat}{gl:List GenState}{h:Heap}(hc:∀C∈cs,FamOk S.B.prog S.B.w S.V.kt S.nt C)
  (G:∀U,Good S (ifOk (andB (notB (isSomeB md)) (okA S.V.plain c' md κ)) (ih c' md κ (S.V.alt c') sc) cs U T m zb zk tb tk gl)) (D:Rep S.V.kt S.nt S.I h T m (zb+zk)):Mn S.B c' md κ (denote table c') ⟨h,⟨gl⟩,S.B.d,tb+tk,S.B.os⟩:=by
 cases w:andB (notB (isSomeB md)) (okA S.V.plain c' md κ)with
 |false=>have:=G U0;rw[w]at this;exact this.elim
 |true=>
  rw[w]at G
  obtain⟨w1,w2⟩:=andB_true w
  cases md with
  |some fs=>cases w1
  |none=>exact def_sound O w2 D.top.2.1 (.inr rfl) (H _ _ _ _ _ _ _ _ _ _ _ _ _ h hc G D)
end
section
variable{S:Sys}(O:S.Ok){ih:Sim}(H:IH S ih)
include O H
theorem how_sound{c':Code}{md:Option (List Frame)}{κ:K}{con:Nat→Rst2}{fin:Rst2}{sc:Nat}{cs:List Fam}{T:LT}{m zb zk tb tk:Nat}{gl:List GenState}{h:Heap}{X:Prop}(hc:∀C∈cs,FamOk S.B.prog S.B.w S.V.kt S.nt C)
  (G:∀U,Good S (how S.V ih md κ c' con fin sc cs U T m zb zk tb tk gl)) (D:Rep S.V.kt S.nt S.I h T m (zb+zk))
  (x:Mn S.B c' md κ (denote table c') ⟨h,⟨gl⟩,S.B.d,tb+tk,S.B.os⟩→X) (y:(∀U,Good S (con (Nat.div sc 256) cs U T m zb zk tb tk gl))→X) (z:(∀U,Good S (fin cs U T m zb zk tb tk gl))→X)
  (zf:∀cs T m zb zk tb tk gl h,(∀U,Good S (fin cs U T m zb zk tb tk gl))→Rep S.V.kt S.nt S.I h T m (zb+zk)→Mn S.B c' md κ (denote table c') ⟨h,⟨gl⟩,S.B.d,tb+tk,S.B.os⟩):X:=by
 unfold how at G
 cases q:Nat.mod sc 256 with
 |zero=>rw[q]at G;exact x (inl_sound O H hc G D)
 |succ j=>
  rw[q]at G
  cases j with
  |zero=>exact y G
  |succ j=>
   cases j with
   |zero=>exact x (jump_sound O H hc G D)
   |succ j=>
    cases j with
    |zero=>exact z G
    |succ j=>
     cases j with
     |zero=>exact x (alt_sound O H hc G D)
     |succ j=>
      have G:∀U,Good S (ifOk (andB (notB (isDef c')) (okM S.V.plain md κ 10)) (jmpN S.V ih md κ c' fin (Nat.mod (Nat.div sc 256) 256) (Nat.div sc 65536)) cs U T m zb zk tb tk gl):=G
      cases w:andB (notB (isDef c')) (okM S.V.plain md κ 10)with
      |false=>have:=G U0;rw[w]at this;exact this.elim
      |true=>
       rw[w]at G
       obtain⟨w1,w2⟩:=andB_true w
       exact x (jmpN_sound O H (notB_true w1) w2 zf _ _ _ _ _ _ _ _ _ _ _ hc G D)
theorem again_sound{c c':Code}{md:Option (List Frame)}{κ:K}{sc:Nat}{cs:List Fam}{T:LT}{m zb zk tb tk:Nat}{gl:List GenState}{h:Heap}(hc:∀C∈cs,FamOk S.B.prog S.B.w S.V.kt S.nt C)
  (G:∀U,Good S (stAgain c' S.V ih c md κ sc cs U T m zb zk tb tk gl)) (D:Rep S.V.kt S.nt S.I h T m (zb+zk)):Mn S.B c md κ (.pure (.again c')) ⟨h,⟨gl⟩,S.B.d,tb+tk,S.B.os⟩:=by
 unfold stAgain at G
 cases q:S.V.quiet c' with
 |false=>have:=G U0;rw[q]at this;exact this.elim
 |true=>
  rw[q]at G
  have hq:=O.quiet c' q
  have fold:Mn S.B c' md κ (denote table c') ⟨h,⟨gl⟩,S.B.d,tb+tk,S.B.os⟩→Mn S.B c md κ (.pure (.again c')) ⟨h,⟨gl⟩,S.B.d,tb+tk,S.B.os⟩:=by
   intro z
   cases md with
   |none=>exact y_pure _ _ _ _ _ _ _ _ _ (y_again _ _ _ _ _ _ hq (y_code _ _ _ _ _ _ z))
   |some fs=>exact s_again _ _ _ _ _ _ _ _ hq z
  refine how_sound O H hc G D fold (fun G=> ?_) (fun G=>fold (G U0 h m D)) (fun _ _ _ _ _ _ _ _ _ G D=>G U0 _ _ D)
  cases w:andB (notB (isSomeB md)) (okM S.V.plain md κ 10)with
  |false=>have:=G U0;rw[w]at this;exact this.elim
  |true=>
   rw[w]at G
   obtain⟨w1,w2⟩:=andB_true w
   cases md with
   |some fs=>cases w1
   |none=>
    obtain⟨F,cs',rfl,C,eC,rfl,hn,hj,_,hP,sc',hX⟩:=use_con (zb:=zb) (zk:=zk) (tb:=tb) (tk:=tk) (d:=S.B.d) (t:=tb+tk) (os:=S.B.os) G D
    have hC:=eC▸hc F List.mem_cons_self _ _ _
    unfold ConOk at hC
    rw[hj]at hC
    refine y_pure _ _ _ _ _ _ _ _ _ (y_again _ _ _ _ _ _ hq (hC _ _ _ ((okM_none O.plain O.room w2).down (by omega) hn) hP ?_))
    intro X h' t' P
    obtain⟨T',m',D',G'⟩:=hX X h' t' P
    rw[gensAfter_eq]
    exact retN_sound O H (zb:=h'.objs.size) (zk:=0) (tb:=t') (tk:=0) (fun C hC=>hc C (List.mem_cons_of_mem _ hC)) G' D'
theorem pure_sound{c:Code}{fin:PySem.Fin}{md:Option (List Frame)}{κ:K}{sc:Nat}{cs:List Fam}{T:LT}{m zb zk tb tk:Nat}{gl:List GenState}{h:Heap}(hc:∀C∈cs,FamOk S.B.prog S.B.w S.V.kt S.nt C)
  (G:∀U,Good S (stPure fin S.V ih c md κ sc cs U T m zb zk tb tk gl)) (D:Rep S.V.kt S.nt S.I h T m (zb+zk)):Mn S.B c md κ (.pure fin) ⟨h,⟨gl⟩,S.B.d,tb+tk,S.B.os⟩:=by
 cases fin with
 |done f=>exact ret_sound O H rfl hc G D
 |again c'=>exact again_sound O H hc G D
theorem load_sound{c:Code}{a:Addr}{q:Option Value}{k:Obj→Sem PySem.Fin}{md:Option (List Frame)}{κ:K}{sc:Nat}{cs:List Fam}{T:LT}{m zb zk tb tk:Nat}{gl:List GenState}{h:Heap}(hc:∀C∈cs,FamOk S.B.prog S.B.w S.V.kt S.nt C){st}
  (G:∀U,Good S (stLoad a q k st S.V ih c md κ sc cs U T m zb zk tb tk gl)) (D:Rep S.V.kt S.nt S.I h T m (zb+zk)):Mn S.B c md κ (.load a q k) ⟨h,⟨gl⟩,S.B.d,tb+tk,S.B.os⟩:=by
 have fold:∀o,h.get? a=some o→Mn S.B c md κ (k o) ⟨h,⟨gl⟩,S.B.d,tb+tk,S.B.os⟩→Mn S.B c md κ (.load a q k) ⟨h,⟨gl⟩,S.B.d,tb+tk,S.B.os⟩:=by
  intro o ho z
  cases md with
  |none=>exact y_load _ _ _ _ _ _ _ _ _ _ _ _ _ _ _ _ ho z
  |some fs=>exact s_load _ _ _ _ _ _ _ _ _ _ _ _ _ _ _ ho z
 unfold stLoad at G
 cases e:Nat.mod sc 256 with
 |zero=>
  rw[e]at G
  have G:∀U,Good S (ldTop S.V ih c md κ a k sc cs U T m zb zk tb tk gl):=G
  unfold ldTop at G
  cases e':S.V.kt.get a with
  |none=>have:=G U0;rw[e']at this;exact this.elim
  |some o=>
   rw[e']at G
   exact fold o (D.top.1 a o e').2 (H _ _ _ _ _ _ _ _ _ _ _ _ _ h hc G D)
 |succ j=>
  rw[e]at G
  have G:∀U,Good S (ldOwn ih c md κ a k sc j cs U T m zb zk tb tk gl):=G
  unfold ldOwn at G
  cases e':T.get j with
  |none=>have:=G U0;rw[e']at this;exact this.elim
  |some ao=>
   rw[e']at G
   have ea:a=ao.1:=(G U0).1
   have G:∀U,Good S (ih c md κ (k ao.2) (Nat.div sc 256) cs U T m zb zk tb tk gl):=fun U=>(G U).2
   exact fold ao.2 (ea▸(D.own j ao.1 ao.2 e').2.1) (H _ _ _ _ _ _ _ _ _ _ _ _ _ h hc G D)
theorem update_sound{c:Code}{a:Addr}{q:Option Value}{f:Obj→Obj}{k:Unit→Sem PySem.Fin}{md:Option (List Frame)}{κ:K}{sc:Nat}{cs:List Fam}{T:LT}{m zb zk tb tk:Nat}{gl:List GenState}{h:Heap}(hc:∀C∈cs,FamOk S.B.prog S.B.w S.V.kt S.nt C){st}
  (G:∀U,Good S (stUpdate a q f k st S.V ih c md κ sc cs U T m zb zk tb tk gl)) (D:Rep S.V.kt S.nt S.I h T m (zb+zk)):Mn S.B c md κ (.update a q f k) ⟨h,⟨gl⟩,S.B.d,tb+tk,S.B.os⟩:=by
 unfold stUpdate at G
 cases e:Nat.mod sc 256 with
 |zero=>have:=G U0;rw[e]at this;exact this.elim
 |succ j=>
  rw[e]at G
  have G:∀U,Good S (upOwn ih c md κ a f k sc j cs U T m zb zk tb tk gl):=G
  unfold upOwn at G
  cases e':T.get j with
  |none=>have:=G U0;rw[e']at this;exact this.elim
  |some ao=>
   rw[e']at G
   have G:∀U,Good S (@Bool.rec (fun _=>Out) (.ob (.a a ao.1) (ih c md κ (k ()) (Nat.div sc 256) cs U (T.set f j) m zb zk tb tk gl)) (.stop 7) (f ao.2).isFreed):=G
   cases e2:(f ao.2).isFreed with
   |true=>have:=G U0;rw[e2]at this;exact this.elim
   |false=>
    rw[e2]at G
    have ea:a=ao.1:=(G U0).1
    have G:∀U,Good S (ih c md κ (k ()) (Nat.div sc 256) cs U (T.set f j) m zb zk tb tk gl):=fun U=>(G U).2
    have ho:h.get? a=some ao.2:=ea▸(D.own j ao.1 ao.2 e').2.1
    have D':Rep S.V.kt S.nt S.I (h.update a f) (T.set f j) m (zb+zk):=ea▸D.update (j:=j) (a:=ao.1) (o:=ao.2) e' e2
    have z:=H _ _ _ _ _ _ _ _ _ _ _ _ _ _ hc G D'
    cases md with
    |none=>exact wpOwn_bind (m:=updatePart a q f) (f:=k) (wpOwn_of_wpAny (wpAny_updatePart ho z))
    |some fs=>exact s_cmd _ _ _ _ _ _ (m:=updatePart a q f) (k:=k) (wpAny_updatePart ho z)
theorem alloc_sound{c:Code}{o:Obj}{k:Addr→Sem PySem.Fin}{md:Option (List Frame)}{κ:K}{sc:Nat}{cs:List Fam}{T:LT}{m zb zk tb tk:Nat}{gl:List GenState}{h:Heap}(hc:∀C∈cs,FamOk S.B.prog S.B.w S.V.kt S.nt C){st}
  (G:∀U,Good S (stAlloc o k st S.V ih c md κ sc cs U T m zb zk tb tk gl)) (D:Rep S.V.kt S.nt S.I h T m (zb+zk)):Mn S.B c md κ (.alloc o k) ⟨h,⟨gl⟩,S.B.d,tb+tk,S.B.os⟩:=by
 unfold stAlloc at G
 cases e:o.isFreed with
 |true=>have:=G U0;rw[e]at this;exact this.elim
 |false=>
  rw[e]at G
  have G:∀U,Good S (alGo ih c md κ k sc cs U (T.ins (Nat.add zb zk) o m) m zb zk tb tk gl):=G
  unfold alGo at G
  cases e':(T.ins (Nat.add zb zk) o m).get m with
  |none=>have:=G U0;rw[e']at this;exact this.elim
  |some ao=>
   rw[e']at G
   have G:∀U,Good S (ih c md κ (k (zb+zk)) sc cs U (T.ins (zb+zk) o m) (m+1) zb (zk+1) tb tk gl):=G
   have D':=D.alloc (o:=o) e (by rw[show(T.ins (zb+zk) o m).get m=some ao from e'];rfl)
   have z:=H _ _ _ _ _ _ _ _ _ _ _ _ _ _ hc G D'
   have ea:h.objs.size=zb+zk:=D.size
   cases md with
   |none=>exact wpOwn_bind (m:=alloc o) (f:=k) (wpOwn_of_wpAny (wpAny_alloc (by rw[ea];exact z)))
   |some fs=>exact s_cmd _ _ _ _ _ _ (m:=PySem.alloc o) (k:=k) (wpAny_alloc (by rw[ea];exact z))
end
section
variable{S:Sys}(O:S.Ok){ih:Sim}(H:IH S ih)
include O H
theorem call_sound{c c':Code}{hd:Option Value}{g:Bool}{l:List Value}{k:Result→Sem PySem.Fin}{md:Option (List Frame)}{κ:K}{sc:Nat}{cs:List Fam}{T:LT}{m zb zk tb tk:Nat}{gl:List GenState}{h:Heap}(hc:∀C∈cs,FamOk S.B.prog S.B.w S.V.kt S.nt C){st}
  (G:∀U,Good S (stCall c' hd g l k st S.V ih c md κ sc cs U T m zb zk tb tk gl)) (D:Rep S.V.kt S.nt S.I h T m (zb+zk)):Mn S.B c md κ (.call c' hd g l k) ⟨h,⟨gl⟩,S.B.d,tb+tk,S.B.os⟩:=by
 unfold stCall at G
 cases hd with
 |some v=>exact(G U0).elim
 |none=>
  have G:∀U,Good S (callIn S.V ih c md κ c' g l k sc cs U T m zb zk tb tk gl):=G
  unfold callIn at G
  cases md with
  |none=>
   have G:∀U,Good S (how S.V ih none (.ret c k κ) c' (fun sc=>ifOk (okA S.V.plain c none κ) (useCon S.V false none c' (fun v=>ih c none κ (k (.ok (.ret v)))) sc)) (stop2 56) sc cs U T m zb zk tb tk gl):=G
   have fold:codeAny (model S.B.prog S.B.w) (arN S.B (.ret c k κ)) c' (endN S.B (.ret c k κ)) ⟨h,⟨gl⟩,S.B.d,tb+tk,S.B.os⟩→Mn S.B c none κ (.call c' none g l k) ⟨h,⟨gl⟩,S.B.d,tb+tk,S.B.os⟩:=
    fun z=>y_call _ _ _ _ _ _ _ _ _ _ _ _ _ (by intro e;cases e) z
   refine how_sound O H hc G D (fun z=>fold (y_code _ _ _ _ _ _ z)) (fun G=> ?_) (fun G=>(G U0).elim) (fun _ _ _ _ _ _ _ _ _ G _=>(G U0).elim)
   cases w:okA S.V.plain c none κ with
   |false=>have:=G U0;rw[w]at this;exact this.elim
   |true=>
    rw[w]at G
    obtain⟨F,cs',rfl,C,eC,rfl,hn,hj,_,hP,sc',hX⟩:=use_con (zb:=zb) (zk:=zk) (tb:=tb) (tk:=tk) (d:=S.B.d) (t:=tb+tk) (os:=S.B.os) G D
    have hC:=eC▸hc F List.mem_cons_self _ _ _
    unfold ConOk at hC
    rw[hj]at hC
    refine fold (hC _ _ _ (((okA_none O.plain O.room w).2.mark).down (by omega) hn) hP ?_)
    intro X h' t' P
    obtain⟨T',m',D',G'⟩:=hX X h' t' P
    rw[gensAfter_eq]
    exact H _ _ _ _ _ _ _ _ _ _ _ _ _ _ (fun C hC=>hc C (List.mem_cons_of_mem _ hC)) G' D'
  |some fs=>
   have G:∀p U,Good S (how S.V ih (some (.ret k none g l c p []::fs)) κ c' (fun sc=>ifOk (okA S.V.plain c (some fs) κ) (useCon S.V false none c' (fun v=>ih c (some fs) κ (k (.ok (.ret v)))) sc)) (stop2 56) sc cs U T m zb zk tb tk gl):=
    fun p U=>G (consU ⟨fun _=>0,0,0,p,[]⟩ U)
   have key:(∀U,Good S (ifOk (okA S.V.plain c (some fs) κ) (useCon S.V false none c' (fun v=>ih c (some fs) κ (k (.ok (.ret v)))) (Nat.div sc 256)) cs U T m zb zk tb tk gl))∨
     (∀p,Mn S.B c' (some (.ret k none g l c p []::fs)) κ (denote table c') ⟨h,⟨gl⟩,S.B.d,tb+tk,S.B.os⟩):=by
    by_cases q:∀U,Good S (ifOk (okA S.V.plain c (some fs) κ) (useCon S.V false none c' (fun v=>ih c (some fs) κ (k (.ok (.ret v)))) (Nat.div sc 256)) cs U T m zb zk tb tk gl)
    ·exact .inl q
    ·refine .inr fun p=> ?_
     exact how_sound O H hc (G p) D id (fun G=>(q G).elim) (fun G=>(G U0).elim) (fun _ _ _ _ _ _ _ _ _ G _=>(G U0).elim)
   rcases key with G|z
   ·cases w:okA S.V.plain c (some fs) κ with
    |false=>have:=G U0;rw[w]at this;exact this.elim
    |true=>
     rw[w]at G
     obtain⟨F,cs',rfl,C,eC,rfl,hn,hj,_,hP,sc',hX⟩:=use_con (zb:=zb) (zk:=zk) (tb:=tb) (tk:=tk) (d:=S.B.d) (t:=tb+tk) (os:=S.B.os) G D
     have hC:=eC▸hc F List.mem_cons_self _ _ _
     unfold ConOk at hC
     rw[hj]at hC
     have r:wpAny (model S.B.prog S.B.w) ((arS S.B κ).over c (fr S.B κ fs)) (Sem.call C.code none g l Sem.pure:Sem Result) (fun r s'=>SegX (model S.B.prog S.B.w) (arS S.B κ) c (k r) (fr S.B κ fs) s' (wakeN S.B κ)) (fun x s'=>SegX (model S.B.prog S.B.w) (arS S.B κ) c (.raise x) (fr S.B κ fs) s' (wakeN S.B κ)) ⟨h,⟨gl⟩,S.B.d,tb+tk,S.B.os⟩:=by
      refine x_call (hC _ _ _ (((okA_some O.plain O.room w).mark).down (by omega) hn) hP ?_) (by intro e;cases e)
      intro X h' t' P
      obtain⟨T',m',D',G'⟩:=hX X h' t' P
      rw[gensAfter_eq]
      exact wpAny_pure (H _ _ _ _ _ _ _ _ _ _ _ _ _ _ (fun C hC=>hc C (List.mem_cons_of_mem _ hC)) G' D')
     exact s_cmd _ _ _ _ _ _ (m:=(Sem.call C.code none g l Sem.pure:Sem Result)) (k:=k) r
   ·refine s_call _ _ _ _ _ _ _ _ _ _ _ _ fun p=> ?_
    have:=z p
    have this:SegX _ _ _ _ (fr S.B κ _) _ _:=this
    rw[fr_cons]at this
    exact this
theorem stack_sound{c:Code}{k:List (Code×Pos)→Sem PySem.Fin}{md:Option (List Frame)}{κ:K}{sc:Nat}{cs:List Fam}{T:LT}{m zb zk tb tk:Nat}{gl:List GenState}{h:Heap}(hc:∀C∈cs,FamOk S.B.prog S.B.w S.V.kt S.nt C){st}
  (G:∀U,Good S (stStack k st S.V ih c md κ sc cs U T m zb zk tb tk gl)) (D:Rep S.V.kt S.nt S.I h T m (zb+zk)):Mn S.B c md κ (.stack k) ⟨h,⟨gl⟩,S.B.d,tb+tk,S.B.os⟩:=by
 have z:∀p b,Mn S.B c md κ (k ((c,p)::b)) ⟨h,⟨gl⟩,S.B.d,tb+tk,S.B.os⟩:=fun p b=>
  H _ _ _ _ _ _ _ _ _ _ _ _ _ _ hc (fun U=>G (consU ⟨fun _=>0,0,0,p,b⟩ U)) D
 cases md with
 |none=>exact y_stack _ _ _ _ _ _ _ _ _ fun p below=>z p below
 |some fs=>exact s_stack _ _ _ _ _ _ _ _ fun p below=>z p below
theorem handled_sound{c:Code}{own:Bool}{k:Option Value→Sem PySem.Fin}{md:Option (List Frame)}{κ:K}{sc:Nat}{cs:List Fam}{T:LT}{m zb zk tb tk:Nat}{gl:List GenState}{h:Heap}(hc:∀C∈cs,FamOk S.B.prog S.B.w S.V.kt S.nt C){st}
  (G:∀U,Good S (stHandled own k st S.V ih c md κ sc cs U T m zb zk tb tk gl)) (D:Rep S.V.kt S.nt S.I h T m (zb+zk)):Mn S.B c md κ (.handled own k) ⟨h,⟨gl⟩,S.B.d,tb+tk,S.B.os⟩:=by
 unfold stHandled at G
 cases own with
 |true=>exact(G U0).elim
 |false=>
  have G:∀U,Good S (ifOk (okA S.V.plain c md κ) (ih c md κ (k none) sc) cs U T m zb zk tb tk gl):=G
  cases w:okA S.V.plain c md κ with
  |false=>have:=G U0;rw[w]at this;exact this.elim
  |true=>
   rw[w]at G
   have z:=H _ _ _ _ _ _ _ _ _ _ _ _ _ h hc G D
   cases md with
   |none=>
    have e:(arN S.B κ).handled=none:=(okA_none O.plain O.room w).1.hd
    exact y_handled _ _ _ _ _ _ _ _ _ (by rw[e];exact z)
   |some fs=>
    have e:((arS S.B κ).over c (fr S.B κ fs)).handled=none:=(okA_some O.plain O.room w).hd
    exact s_handled _ _ _ _ _ _ _ _ (by rw[e];exact z)
theorem resume_sound{c:Code}{g:Nat}{r:Resume}{l:List Value}{k:GenResult→Sem PySem.Fin}{md:Option (List Frame)}{κ:K}{sc:Nat}{cs:List Fam}{T:LT}{m zb zk tb tk:Nat}{gl:List GenState}{h:Heap}(hc:∀C∈cs,FamOk S.B.prog S.B.w S.V.kt S.nt C){st}
  (G:∀U,Good S (stResume g r l k st S.V ih c md κ sc cs U T m zb zk tb tk gl)) (D:Rep S.V.kt S.nt S.I h T m (zb+zk)):Mn S.B c md κ (.resume g r l k) ⟨h,⟨gl⟩,S.B.d,tb+tk,S.B.os⟩:=by
 unfold stResume at G
 cases md with
 |some fs=>exact(G U0).elim
 |none=>
  have G:∀U,Good S (resGo g r k S.V ih c κ sc cs U T m zb zk tb tk gl):=G
  unfold resGo at G
  cases e:gl[g]? with
  |none=>have:=G U0;rw[e]at this;exact this.elim
  |some gs=>
   rw[e]at G
   have hg:(⟨gl⟩:Array GenState)[g]?=some gs:=(get_gens gl g).trans e
   cases gs with
   |fresh c₀=>
    have G:∀U,Good S (@Bool.rec (fun _=>Out) (match r with|.send .none=>ih c₀ (some []) (.gen g c k κ) (S.V.tree c₀) sc cs U T m zb zk tb tk (gl.set g .running)|_=>.stop 15) (.stop 26) (isDef c₀)):=G
    cases q:isDef c₀ with
    |true=>have:=G U0;rw[q]at this;exact this.elim
    |false=>
     rw[q]at G
     cases r with
     |throw=>exact(G U0).elim
     |send v=>
      cases v with
      |none=>
       have z:=H c₀ (some []) (.gen g c k κ) (S.V.tree c₀) sc cs T m zb zk tb tk (gl.set g .running) h hc G D
       rw[O.tree.1 c₀ q,←set_gens]at z
       exact y_resume_f _ _ _ _ _ _ _ _ _ _ _ _ hg z
      |_=>exact(G U0).elim
   |suspended k₀ l₀ c₀ p₀ fs₀ cl=>
    have G:∀U,Good S (ih c₀ (some fs₀) (.gen g c k κ) (k₀ r) sc cs U T m zb zk tb tk (gl.set g .running)):=G
    have z:=H c₀ (some fs₀) (.gen g c k κ) (k₀ r) sc cs T m zb zk tb tk (gl.set g .running) h hc G D
    rw[←set_gens]at z
    exact y_resume_s _ _ _ _ _ _ _ _ _ _ _ _ _ _ _ _ _ _ hg z
   |running=>exact(G U0).elim
   |finished=>exact(G U0).elim
theorem yield_sound{c:Code}{v:Value}{gd:Bool}{l:List Value}{k:Resume→Sem PySem.Fin}{md:Option (List Frame)}{κ:K}{sc:Nat}{cs:List Fam}{T:LT}{m zb zk tb tk:Nat}{gl:List GenState}{h:Heap}(hc:∀C∈cs,FamOk S.B.prog S.B.w S.V.kt S.nt C){st}
  (G:∀U,Good S (stYield v gd l k st S.V ih c md κ sc cs U T m zb zk tb tk gl)) (D:Rep S.V.kt S.nt S.I h T m (zb+zk)):Mn S.B c md κ (.yield v gd l k) ⟨h,⟨gl⟩,S.B.d,tb+tk,S.B.os⟩:=by
 unfold stYield at G
 cases md with
 |none=>exact(G U0).elim
 |some fs=>
  cases gd with
  |true=>exact(G U0).elim
  |false=>
   have G:∀U,Good S (yieldGo ih v l k c fs κ sc cs U T m zb zk tb tk gl):=G
   unfold yieldGo at G
   cases e:splitAtGen fs with
   |some x=>have:=G U0;rw[e]at this;exact this.elim
   |none=>
    rw[e]at G
    cases w:fs.any Frame.guarded with
    |true=>have:=G U0;rw[w]at this;exact this.elim
    |false=>
     rw[w]at G
     cases κ with
     |base=>exact(G U0).elim
     |seg=>exact(G U0).elim
     |ret=>exact(G U0).elim
     |gen g₀ c₁ k₁ κ=>
      refine s_yield _ _ _ _ _ _ _ _ _ _ e w fun p=> ?_
      exact wake_sound O H hc (fun U=>G (consU ⟨fun _=>0,0,0,p,[]⟩ U)) D
theorem step_sound(c:Code)(md:Option (List Frame))(κ:K)(t:Sem PySem.Fin)(sc:Nat)(cs:List Fam)(T:LT)(m zb zk tb tk:Nat)(gl:List GenState)(h:Heap)(hc:∀C∈cs,FamOk S.B.prog S.B.w S.V.kt S.nt C)
  (G:∀U,Good S (stepT t S.V ih c md κ sc cs U T m zb zk tb tk gl)) (D:Rep S.V.kt S.nt S.I h T m (zb+zk)):Mn S.B c md κ t ⟨h,⟨gl⟩,S.B.d,tb+tk,S.B.os⟩:=by
 cases t with
 |pure fin=>exact pure_sound O H hc G D
 |raise e=>exact ret_sound O H rfl hc G D
 |rule tag k=>
  have z:=H c md κ (k ()) sc cs T m zb zk tb tk gl h hc G D
  cases md with
  |none=>exact y_rule _ _ _ _ _ _ _ _ _ _ z
  |some fs=>exact s_rule _ _ _ _ _ _ _ _ _ z
 |«at» q k=>
  have z:=H c md κ (k ()) sc cs T m zb zk tb tk gl h hc G D
  cases md with
  |none=>exact y_at _ _ _ _ _ _ _ _ _ _ z
  |some fs=>exact s_at _ _ _ _ _ _ _ _ _ z
 |point l k=>
  have z:=H c md κ (k ()) sc cs T m zb zk tb tk gl h hc G D
  cases md with
  |none=>exact y_point _ _ _ _ _ _ _ _ _ _ z
  |some fs=>exact s_point _ _ _ _ _ _ _ _ _ z
 |ask k=>
  have G:∀U,Good S (@Option.rec Params (fun _=>Out) (ih c md κ (k ⟨S.V.prog,S.V.P⟩) sc cs U T m zb zk tb tk gl) (fun P2=>.ob (.t (k ⟨S.V.prog,S.V.P⟩) (k ⟨S.V.prog,P2⟩)) (ih c md κ (k ⟨S.V.prog,S.V.P⟩) sc cs U T m zb zk tb tk gl)) S.V.P2):=G
  have z:Mn S.B c md κ (k ⟨S.B.prog,S.B.w.params⟩) ⟨h,⟨gl⟩,S.B.d,tb+tk,S.B.os⟩:=by
   rcases O.par with⟨e1,e2⟩|⟨P2,e2,e1⟩
   ·rw[e2]at G
    rw[O.prog,e1]
    exact H c md κ (k ⟨S.V.prog,S.V.P⟩) sc cs T m zb zk tb tk gl h hc G D
   ·rw[e2]at G
    have G1:k ⟨S.V.prog,S.V.P⟩=k ⟨S.V.prog,P2⟩:=(G U0).1
    have z:=H c md κ (k ⟨S.V.prog,S.V.P⟩) sc cs T m zb zk tb tk gl h hc (fun U=>(G U).2) D
    rcases e1 with e1|e1
    ·rw[O.prog,e1];exact z
    ·rw[O.prog,e1,←G1];exact z
  cases md with
  |none=>exact y_ask _ _ _ _ _ _ _ _ _ z
  |some fs=>exact s_ask _ _ _ _ _ _ _ _ z
 |load a q k=>exact load_sound O H hc (st:=fun x=>stepT (k x)) G D
 |loadIfAlive a k=>exact(G U0).elim
 |alloc o k=>exact alloc_sound O H hc (st:=fun x=>stepT (k x)) G D
 |update a q f k=>exact update_sound O H hc (st:=fun x=>stepT (k x)) G D
 |fresh k=>
  have G:∀U,Good S (ih c md κ (k (tb+tk)) sc cs U T m zb zk tb (tk+1) gl):=G
  have z:=H c md κ (k (tb+tk)) sc cs T m zb zk tb (tk+1) gl h hc G D
  cases md with
  |none=>exact y_fresh _ _ _ _ _ _ _ _ _ _ _ _ _ z
  |some fs=>exact s_fresh _ _ _ _ _ _ _ _ _ _ _ _ z
 |handled own k=>exact handled_sound O H hc (st:=fun x=>stepT (k x)) G D
 |stack k=>exact stack_sound O H hc (st:=fun x=>stepT (k x)) G D
 |call c' hd g l k=>exact call_sound O H hc (st:=fun x=>stepT (k x)) G D
 |newGen c' k=>
  have G:∀U,Good S (ih c md κ (k gl.length) sc cs U T m zb zk tb tk (gl++[.fresh c'])):=G
  have z:=H c md κ (k gl.length) sc cs T m zb zk tb tk (gl++[.fresh c']) h hc G D
  cases md with
  |none=>exact y_newGen _ _ _ _ _ _ _ _ _ _ _ _ _ _ (by rw[push_gens];exact z)
  |some fs=>exact s_newGen _ _ _ _ _ _ _ _ _ _ _ _ _ (by rw[push_gens];exact z)
 |genState g k=>
  have G:∀U,Good S (@Option.rec GenState (fun _=>Out) (.stop 13) (fun gs=>ih c md κ (k gs.seen) sc cs U T m zb zk tb tk gl) gl[g]?):=G
  cases e:gl[g]? with
  |none=>have:=G U0;rw[e]at this;exact this.elim
  |some gs=>
   rw[e]at G
   have z:=H c md κ (k gs.seen) sc cs T m zb zk tb tk gl h hc G D
   cases md with
   |none=>exact y_genState _ _ _ _ _ _ _ _ _ _ gs ((get_gens gl g).trans e) z
   |some fs=>exact s_genState _ _ _ _ _ _ _ _ _ gs ((get_gens gl g).trans e) z
 |resume g r l k=>exact resume_sound O H hc (st:=fun x=>stepT (k x)) G D
 |yield v gd l k=>exact yield_sound O H hc (st:=fun x=>stepT (k x)) G D
 |unsupported=>exact(G U0).elim
 |finish=>exact(G U0).elim
 |register=>exact(G U0).elim
 |choose=>exact(G U0).elim
 |os=>exact(G U0).elim
 |fork=>exact(G U0).elim
 |thread=>exact(G U0).elim
 |await=>exact(G U0).elim
end
theorem run_sound{S:Sys}(O:S.Ok):∀n,IH S (run S.V n)
 |0=>fun _ _ _ _ _ _ _ _ _ _ _ _ _ _ _ G _=>(G U0).elim
 |n+1=>fun c md κ t sc cs T m zb zk tb tk gl h hc G D=>step_sound O (run_sound O n) c md κ t sc cs T m zb zk tb tk gl h hc G D
section
theorem oSd90:((0+1)≤11):=by omega
theorem oSd91{x0:Nat}{x1:Nat}{x2:Nat}(h0:(¬(x0=x1)))(h1:(¬(((x1+1)≤x0)∧(x0<((x1+1)+x2))))):(¬((x1≤x0)∧(x0<(x1+(x2+1))))):=fun h=>h1 ⟨Nat.lt_of_le_of_ne h.1 (Ne.symm h0),by rw[Nat.add_right_comm];exact h.2⟩
theorem oSd92{x0:Nat}{x1:Nat}{x2:Nat}(h0:(((x0+1)≤x1)∧(x1<((x0+1)+x2)))):((x1-x0)=((x1-(x0+1))+1)):=by
 rw[Nat.sub_add_eq]
 exact(Nat.sub_add_cancel (Nat.sub_pos_of_lt h0.1)).symm
theorem oSd93{x0:Nat}{x1:Nat}{x2:Nat}(h0:(((x0+1)≤x1)∧(x1<((x0+1)+x2)))):((x0≤x1)∧(x1<(x0+(x2+1)))):=⟨Nat.le_of_succ_le h0.1,by have:=h0.2;rw[Nat.add_right_comm]at this;exact this⟩
theorem oSd94{x0:Nat}{x1:Nat}:((x0≤x0)∧(x0<(x0+(x1+1)))):=by omega
theorem oSd95{x0:Nat}{x1:Nat}:(¬(((x0+1)≤x0)∧(x0<((x0+1)+x1)))):=by omega
theorem oSd96{x0:Nat}{x1:Nat}:(¬((x0≤x1)∧(x1<(x0+0)))):=by omega
theorem oSd97{x0:Nat}{x1:Nat}{x2:Nat}{x3:Nat}(h0:(x0≤x1))(h1:(x1<x0)):(x2≤x3):=by omega
theorem oSd98{x0:Nat}{x1:Nat}(h0:(x0<x1)):((0≤x0)∧(x0<(0+x1))):=⟨Nat.zero_le _,by rw[Nat.zero_add];exact h0⟩
theorem oSd99{x0:Nat}{x1:Nat}:(((x0+1)+x1)=(x0+(x1+1))):=Nat.add_right_comm x0 1 x1
structure EnvOk(prog:Program)(w:World)(V:Par):Prop where
 hprog:prog=V.prog
 par:w.params=V.P∧V.P2=none∨∃P2,V.P2=some P2∧(w.params=V.P∨w.params=P2)
 tree:TreeOk prog w V.tree
 alt:AltOk prog w V.alt
 quiet:∀c,V.quiet c=true→c.quiet=true
 plain:PlainOk V.plain
 pdef:∀c,isDef c=true→V.plain c=true
theorem mapB_eq{α β:Type}(f:α→β):∀l,mapB f l=l.map f
 |[]=>rfl
 |_::l=>congrArg _ (mapB_eq f l)
theorem upB_eq:∀n i,upB n i=(List.range n).map (i+ ·)
 |0,i=>rfl
 |n+1,i=>by
  show i::upB n (i+1)=_
  rw[upB_eq n (i+1),List.range_succ_eq_map,List.map_cons,List.map_map,Nat.add_zero]
  congr 1
  apply List.map_congr_left
  intro x _
  simp only[Function.comp]
  exact oSd99
theorem memB_iff(x:Nat):∀l,memB x l=true↔x∈l
 |[]=>by constructor<;>intro h<;>cases h
 |a::l=>by
  show(@Bool.rec (fun _=>Bool) (memB x l) true (Nat.beq a x))=true↔_
  rw[BT.beq_eq]
  by_cases q:a=x
  ·simp[q]
  ·simp only[q,decide_false,memB_iff x l,List.mem_cons]
   constructor
   ·exact .inr
   ·rintro(e|e)
    ·exact absurd e.symm q
    ·exact e
theorem niB_ok(w:Nat):∀l,niB w l=true→(∀x∈l,w≤x)∧l.Nodup
 |[],_=>⟨fun x h=>(by cases h),List.nodup_nil⟩
 |a::l,h=>by
  obtain⟨h1,h2⟩:=andB_true h
  obtain⟨h2,h3⟩:=andB_true h2
  obtain⟨y1,y2⟩:=niB_ok w l h3
  refine⟨fun x hx=> ?_,List.nodup_cons.mpr ⟨fun q=> ?_,y2⟩⟩
  ·rcases List.mem_cons.mp hx with rfl|hx
   ·exact Nat.le_of_ble_eq_true h1
   ·exact y1 x hx
  ·have:=notB_true h2
   rw[(memB_iff a l).mpr q]at this
   cases this
theorem isSomeB_eq{α:Type}(x:Option α):isSomeB x=x.isSome:=by cases x<;>rfl
theorem allSome_ok(T:LT):∀l,allSome T l=true→∀j∈l,(T.get j).isSome=true
 |[],_,j,hj=>by cases hj
 |a::l,h,j,hj=>by
  obtain⟨h1,h2⟩:=andB_true h
  rcases List.mem_cons.mp hj with rfl|hj
  ·rw[←isSomeB_eq];exact h1
  ·exact allSome_ok T l h2 j hj
theorem nthD_eq{α:Type}(d:α):∀(l:List α)(i:Nat),nthD d l i=l.getD i d
 |[],i=>by simp[nthD]
 |a::l,0=>rfl
 |a::l,i+1=>by
  show nthD d l i=_
  rw[nthD_eq d l i];rfl
theorem appB_eq{α:Type}:∀l l':List α,appB l l'=l++l'
 |[],_=>rfl
 |a::l,l'=>congrArg (a:: ·) (appB_eq l l')
theorem adr_of{T:LT}{j:Nat}(h:(T.get j).isSome=true):T.get j=some (adrAt T j,objAt T j):=by
 unfold adrAt objAt
 cases q:T.get j with
 |none=>rw[q]at h;cases h
 |some p=>rfl
theorem wit_at(u:Unit0)(T:LT)(v:Value){i:Nat}(hi:i<u.ni.length):wit u T v i=adrAt T u.ni[i]:=by
 unfold wit
 rw[nthD_eq,appB_eq,mapB_eq,List.getD_eq_getElem?_getD,List.getElem?_append_left (by rw[List.length_map];exact hi),List.getElem?_map,List.getElem?_eq_getElem hi]
 rfl
theorem end_post{kt:KT}{nt:Nat}{I:Ini}{h:Heap}{T:LT}{m z:Nat}{u:Unit0}{v:Value}{gl gl':List GenState}(D:Rep kt nt I h T m z)(hI:I.pre=u.C.pre.map (·.1))
  (e:endL u T gl'=endR u (wit u T v) gl):PostOk u.C I.h₀ h (wit u T v)∧gl'=glTo u.C gl:=by
 unfold endL endR at e
 simp only[List.cons.injEq,Oh.b.injEq,Oh.os.injEq,Oh.g.injEq,and_true]at e
 obtain⟨e1,e2,e3,e4,e5⟩:=e
 rw[lenB_eq]at e1 e3
 obtain⟨n1,n2⟩:=niB_ok _ _ e1
 have n3:=allSome_ok T _ e2
 rw[mapB_eq]at e3 e4
 rw[upB_eq]at e3
 have hl:(u.C.new (wit u T v)).length=u.ni.length:=by rw[←e4,List.length_map]
 have inT:∀(i:Nat)(hi:i<u.ni.length),T.get u.ni[i]=some (wit u T v i,objAt T u.ni[i]):=by
  intro i hi
  rw[wit_at u T v hi]
  exact adr_of (n3 _ (List.getElem_mem hi))
 refine⟨⟨D.size▸D.grow,?_,?_,?_,?_⟩,e5⟩
 ·intro i p o ep eo
  obtain⟨o',y⟩:=D.adr i p.1 (by rw[hI,List.getElem?_map,ep];rfl)
  have hi:i<u.C.pre.length:=(List.getElem?_eq_some_iff.mp ep).1
  rw[←e3,List.getElem?_map,List.getElem?_map,List.getElem?_range hi]at eo
  simp only[Option.map_some,Option.some.injEq,Nat.zero_add]at eo
  have:objAt T i=o':=by unfold objAt;rw[y]
  rw[this]at eo
  subst eo
  exact(D.own i p.1 o' y).2.1
 ·intro i o eo
  have hi:i<u.ni.length:=hl▸(List.getElem?_eq_some_iff.mp eo).1
  rw[←e4,List.getElem?_map,List.getElem?_eq_getElem hi]at eo
  simp only[Option.map_some,Option.some.injEq]at eo
  have y:=inT i hi
  rw[eo]at y
  refine⟨(D.own _ _ _ y).2.1,D.fresh _ _ _ y ?_⟩
  rw[hI,List.length_map]
  exact n1 _ (List.getElem_mem hi)
 ·intro i j hi hj ex
  rw[hl]at hi hj
  have y1:=inT i hi
  have y2:=inT j hj
  rw[ex]at y1
  have:=D.inj _ _ _ _ _ y1 y2
  apply Decidable.byContradiction
  intro hne
  rcases Nat.lt_or_gt_of_ne hne with q|q
  ·exact(List.pairwise_iff_getElem.mp n2) i j hi hj q this
  ·exact(List.pairwise_iff_getElem.mp n2) j i hj hi q this.symm
 ·intro b o eb hb
  exact D.keep b o eb (by rw[hI];exact hb)
theorem Ob.ok_of{x:Ob}(e:x.l=x.r):x.ok:=by
 cases x with
 |a x y=>exact(Oh.a.inj e)
 |o x y=>exact(Oh.o.inj e)
 |c x y=>exact(Oh.c.inj e)
 |g x y=>exact(Oh.g.inj e)
 |t x y=>exact(Oh.t.inj e)
theorem layGo_ok{u:Unit0}{gl:List GenState}{k:LT→Out}:∀(ps:List (Addr×Obj))(i:Nat)(T:LT),lhs u (layGo k ps i T)=rhs u gl (layGo k ps i T)→
  ∃T',lhs u (k T')=rhs u gl (k T')∧(∀x,T'.get x=if i≤x∧x<i+ps.length then ps[x-i]? else T.get x)
 |[],i,T,h=>⟨T,h,fun x=>by rw[if_neg];simp only[List.length_nil];exact oSd96⟩
 |p::ps,i,T,h=>by
  have h:lhs u (@Option.rec (Addr×Obj) (fun _=>Out) (.stop 57) (fun _=>layGo k ps (i+1) (T.ins p.1 p.2 i)) ((T.ins p.1 p.2 i).get i))=rhs u gl (@Option.rec (Addr×Obj) (fun _=>Out) (.stop 57) (fun _=>layGo k ps (i+1) (T.ins p.1 p.2 i)) ((T.ins p.1 p.2 i).get i)):=h
  cases q:(T.ins p.1 p.2 i).get i with
  |none=>rw[q]at h;cases h
  |some y=>
   rw[q]at h
   obtain⟨T',h1,h2⟩:=layGo_ok ps (i+1) (T.ins p.1 p.2 i) h
   have G:=LT.get_ins p.1 p.2 T i (by rw[q];rfl)
   refine⟨T',h1,fun x=> ?_⟩
   rw[h2,G]
   simp only[List.length_cons]
   by_cases hx:x=i
   ·subst hx
    rw[if_neg (by exact oSd95),if_pos rfl,if_pos (by exact oSd94),Nat.sub_self]
    rfl
   ·by_cases hr:i+1≤x∧x<i+1+ps.length
    ·rw[if_pos hr,if_pos (by exact oSd93 hr)]
     have:x-i=(x-(i+1))+1:=by exact oSd92 hr
     rw[this,List.getElem?_cons_succ]
    ·rw[if_neg hr,if_neg hx,if_neg (by exact oSd91 hx hr)]
theorem rep_start{kt:KT}{nt:Nat}{C:Con}{s:Shared}{T:LT}(P:PreOk kt nt C s)(h:∀x,T.get x=if 0≤x∧x<0+C.pre.length then C.pre[x-0]? else LT.nil.get x):
  Rep kt nt ⟨s.heap,C.pre.map (·.1)⟩ s.heap T C.pre.length s.heap.objs.size:=by
 have g:∀x p,T.get x=some p→C.pre[x]?=some p:=by
  intro x p e
  rw[h]at e
  split at e
  ·rw[Nat.sub_zero]at e;exact e
  ·cases e
 refine⟨rfl,Nat.le_refl _,?_,?_,?_,?_,P.top,fun b o e _=>e,?_,P.nz⟩
 ·intro i a o e
  have e:=g i _ e
  have:=P.pre (a,o) (List.mem_of_getElem? e)
  exact⟨(List.getElem?_eq_some_iff.mp e).1,this.1,this.2⟩
 ·intro i j a o o' e e'
  obtain⟨hi,e⟩:=List.getElem?_eq_some_iff.mp (g i _ e)
  obtain⟨hj,e'⟩:=List.getElem?_eq_some_iff.mp (g j _ e')
  apply Decidable.byContradiction
  intro hne
  have pw:=List.pairwise_iff_getElem.mp P.nd
  rcases Nat.lt_or_gt_of_ne hne with q|q
  ·exact pw i j (by rw[List.length_map];exact hi) (by rw[List.length_map];exact hj) q (by rw[List.getElem_map,List.getElem_map,e,e'])
  ·exact pw j i (by rw[List.length_map];exact hj) (by rw[List.length_map];exact hi) q (by rw[List.getElem_map,List.getElem_map,e,e'])
 ·intro i a e
  rw[List.getElem?_map]at e
  cases q:C.pre[i]? with
  |none=>rw[q]at e;cases e
  |some p=>
   rw[q]at e
   cases e
   have hi:=(List.getElem?_eq_some_iff.mp q).1
   refine⟨p.2,?_⟩
   rw[h,if_pos (by exact oSd98 hi),Nat.sub_zero,q]
 ·intro i a o e hi
  have:=(List.getElem?_eq_some_iff.mp (g i _ e)).1
  rw[List.length_map]at hi
  exact oSd97 hi this
 ·simp
theorem good_of{S:Sys}{u:Unit0}{gl:List GenState}(hI:S.I.pre=u.C.pre.map (·.1))
  (hR:u.C.jump=false→∀X h' t',PostOk u.C S.I.h₀ h' X→S.B.R (.ok (.ret (u.C.val X))) ⟨h',⟨glTo u.C gl⟩,S.B.d,t',S.B.os⟩)
  (hA:u.C.jump=true→∀md κ X h' t',mdOk md κ u.C.seg=true→PostOk u.C S.I.h₀ h' X→Mn S.B u.C.code md κ (denote table u.C.code) ⟨h',⟨glTo u.C gl⟩,S.B.d,t',S.B.os⟩):
  ∀o,lhs u o=rhs u gl o→Good S o
 |.ob x o,h=>by
  have h:x.l::lhs u o=x.r::rhs u gl o:=h
  injection h with h1 h2
  exact⟨Ob.ok_of h1,good_of hI hR hA o h2⟩
 |.stop n,h=>by cases h
 |.done r st,h=>by
  have h:retL1 u st r=retR1 u gl st r:=h
  intro h' m D
  unfold retL1 retR1 at h
  split at h
  ·rename_i v
   simp only[List.cons.injEq,Oh.b.injEq,Oh.v.injEq]at h
   obtain⟨j,e1,e2⟩:=h
   obtain⟨P,eg⟩:=end_post D hI e2
   rw[e1,eg]
   exact hR j _ _ _ P
  ·cases h
 |.again c md κ st,h=>by
  have h:(Oh.b u.C.jump::Oh.b (mdOk md κ u.C.seg)::Oh.c c::endL u st.T st.gl)=(Oh.b true::Oh.b true::Oh.c u.C.code::endR u (wit u st.T .none) gl):=h
  simp only[List.cons.injEq,Oh.b.injEq,Oh.c.injEq]at h
  obtain⟨j,e1,e2,e3⟩:=h
  intro h' m D
  obtain⟨P,eg⟩:=end_post D hI e3
  rw[e2,eg]
  exact hA j md κ _ _ _ e1 P
theorem gensAfter_glTo(C:Con)(g:Array GenState):gensAfter C g=⟨glTo C g.toList⟩:=by
 unfold gensAfter glTo
 cases C.g<;>rfl
theorem glOf_pre{kt:KT}{nt:Nat}{C:Con}{s:Shared}(P:PreOk kt nt C s):s.gens=⟨glOf C s.gens.toList⟩:=by
 unfold glOf
 cases q:C.g with
 |none=>rfl
 |some p=>exact P.gens p q
variable{prog:Program}{w:World}{V:Par}{nt:Nat}
theorem con_okU(E:EnvOk prog w V)(u:Unit0)(wf:(Nat→Sup)→List Wt)(n sc:Nat)(cs:List Fam)(hc:∀C∈cs,FamOk prog w V.kt nt C)(hn:V.need=u.C.need)(hsd:andB u.C.seg (isDef u.C.code)=false)
  (h:∀U z t gl,lhs ⟨u.C,u.ni,wf U⟩ (evU V u n sc cs U z t gl)=rhs ⟨u.C,u.ni,wf U⟩ gl (evU V u n sc cs U z t gl)):ConOk prog w V.kt nt u.C:=by
 have core:∀(B:Bs)(s:Shared),B.prog=prog→B.w=w→BRm B u.C.need→PreOk V.kt nt u.C s→B.d=s.drawn→B.os=s.os→
   (u.C.jump=false→∀X h' t',PostOk u.C s.heap h' X→B.R (.ok (.ret (u.C.val X))) ⟨h',⟨glTo u.C s.gens.toList⟩,B.d,t',B.os⟩)→
   (u.C.jump=true→∀md κ X h' t',mdOk md κ u.C.seg=true→PostOk u.C s.heap h' X→Mn B u.C.code md κ (denote table u.C.code) ⟨h',⟨glTo u.C s.gens.toList⟩,B.d,t',B.os⟩)→
   Mn B u.C.code (md0 u.C) (κ0 u.C) (V.tree u.C.code) s:=by
  intro B s hp hw hB P hd hos hR hA
  let S:Sys:=⟨V,B,nt,⟨s.heap,u.C.pre.map (·.1)⟩⟩
  have O:S.Ok:=by
   refine⟨hp▸E.hprog,hw▸E.par,?_,?_,E.quiet,E.plain,?_⟩
   ·show TreeOk B.prog B.w V.tree
    rw[hp,hw];exact E.tree
   ·show AltOk B.prog B.w V.alt
    rw[hp,hw];exact E.alt
   ·show BRm B V.need
    rw[hn];exact hB
  have hU:∀U,∃T',(∀x,T'.get x=if 0≤x∧x<0+u.C.pre.length then u.C.pre[x-0]? else LT.nil.get x)∧
    Good S (run V n u.C.code (md0 u.C) (κ0 u.C) (V.tree u.C.code) sc cs U T' (lenB u.C.pre) s.heap.objs.size 0 s.toks 0 (glOf u.C s.gens.toList)):=by
   intro U
   obtain⟨T',h1,h2⟩:=layGo_ok (u:=⟨u.C,u.ni,wf U⟩) u.C.pre 0 .nil (h U s.heap.objs.size s.toks s.gens.toList)
   exact⟨T',h2,good_of (u:=⟨u.C,u.ni,wf U⟩) rfl hR hA _ h1⟩
  have same:∀U,Good S (layGo (fun T=>run V n u.C.code (md0 u.C) (κ0 u.C) (V.tree u.C.code) sc cs U T (lenB u.C.pre) s.heap.objs.size 0 s.toks 0 (glOf u.C s.gens.toList)) u.C.pre 0 .nil):=
   fun U=>good_of (u:=⟨u.C,u.ni,wf U⟩) rfl hR hA _ (h U s.heap.objs.size s.toks s.gens.toList)
  have lay:∀(ps:List (Addr×Obj))(i:Nat)(T:LT),(∀U,Good S (layGo (fun T=>run V n u.C.code (md0 u.C) (κ0 u.C) (V.tree u.C.code) sc cs U T (lenB u.C.pre) s.heap.objs.size 0 s.toks 0 (glOf u.C s.gens.toList)) ps i T))→
    ∃T',(∀U,Good S (run V n u.C.code (md0 u.C) (κ0 u.C) (V.tree u.C.code) sc cs U T' (lenB u.C.pre) s.heap.objs.size 0 s.toks 0 (glOf u.C s.gens.toList)))∧(∀x,T'.get x=if i≤x∧x<i+ps.length then ps[x-i]? else T.get x):=by
   intro ps
   induction ps with
   |nil=>exact fun i T G=>⟨T,G,fun x=>by rw[if_neg];simp only[List.length_nil];exact oSd96⟩
   |cons p ps ih=>
    intro i T G
    have G:∀U,Good S (@Option.rec (Addr×Obj) (fun _=>Out) (.stop 57) (fun _=>layGo (fun T=>run V n u.C.code (md0 u.C) (κ0 u.C) (V.tree u.C.code) sc cs U T (lenB u.C.pre) s.heap.objs.size 0 s.toks 0 (glOf u.C s.gens.toList)) ps (i+1) (T.ins p.1 p.2 i)) ((T.ins p.1 p.2 i).get i)):=G
    cases q:(T.ins p.1 p.2 i).get i with
    |none=>have:=G U0;rw[q]at this;exact this.elim
    |some y=>
     rw[q]at G
     obtain⟨T',h1,h2⟩:=ih (i+1) (T.ins p.1 p.2 i) G
     have GI:=LT.get_ins p.1 p.2 T i (by rw[q];rfl)
     refine⟨T',h1,fun x=> ?_⟩
     rw[h2,GI]
     simp only[List.length_cons]
     by_cases hx:x=i
     ·subst hx
      rw[if_neg (by exact oSd95),if_pos rfl,if_pos (by exact oSd94),Nat.sub_self]
      rfl
     ·by_cases hr:i+1≤x∧x<i+1+ps.length
      ·rw[if_pos hr,if_pos (by exact oSd93 hr)]
       have:x-i=(x-(i+1))+1:=by exact oSd92 hr
       rw[this,List.getElem?_cons_succ]
      ·rw[if_neg hr,if_neg hx,if_neg (by exact oSd91 hx hr)]
  obtain⟨T',G,hT⟩:=lay u.C.pre 0 .nil same
  have D:=rep_start P hT
  rw[lenB_eq]at G
  have hc':∀C∈cs,FamOk S.B.prog S.B.w S.V.kt S.nt C:=by
   intro C hC
   show FamOk B.prog B.w V.kt nt C
   rw[hp,hw];exact hc C hC
  have z:=run_sound O n u.C.code (md0 u.C) (κ0 u.C) (V.tree u.C.code) sc cs T' u.C.pre.length s.heap.objs.size 0 s.toks 0 (glOf u.C s.gens.toList) s.heap hc' G D
  have es:(⟨s.heap,⟨glOf u.C s.gens.toList⟩,B.d,s.toks+0,B.os⟩:Shared)=s:=by
   rw[←glOf_pre P,hd,hos];rfl
  have z:Mn B u.C.code (md0 u.C) (κ0 u.C) (V.tree u.C.code) ⟨s.heap,⟨glOf u.C s.gens.toList⟩,B.d,s.toks+0,B.os⟩:=z
  rw[es]at z
  exact z
 have den:∀(B:Bs)(s:Shared),B.prog=prog→B.w=w→BRm B u.C.need→s.heap.NoLimit→md0 u.C=none→κ0 u.C=.base→Mn B u.C.code none .base (V.tree u.C.code) s→Mn B u.C.code none .base (denote table u.C.code) s:=by
  intro B s hp hw hB hs _ _ z
  cases q:isDef u.C.code with
  |false=>rw[←E.tree.1 _ q];exact z
  |true=>
   have pd:=E.pdef _ q
   have hg:=E.plain _ pd
   have:RmL (B.A.under u.C.code):=(hB.1.under hg).l (by exact oSd90)
   show wpOwn (model B.prog B.w) B.A _ _ _ _ _
   rw[hp,hw]
   refine E.tree.2 _ q _ _ _ _ this hs ?_
   have z:wpOwn (model B.prog B.w) B.A u.C.code (V.tree u.C.code) (postC B.prog B.w B.A B.R) (postE B.R) s:=z
   rw[hp,hw]at z
   exact z
 unfold ConOk
 cases hj:u.C.jump with
 |false=>
  intro A s R hA P hR
  have hm:md0 u.C=none:=by unfold md0;rw[hj];rfl
  have hk:κ0 u.C=.base:=by unfold κ0;rw[hj];rfl
  have hB:BRm ⟨prog,w,A,R,[],fun _ _=>False,s.drawn,s.os⟩ u.C.need:=⟨hA,hA.seg⟩
  have z:=core ⟨prog,w,A,R,[],fun _ _=>False,s.drawn,s.os⟩ s rfl rfl hB P rfl rfl
   (fun _ X h' t' P'=>by have:=hR X h' t' P';rw[gensAfter_glTo]at this;exact this) (fun e=>by rw[hj]at e;cases e)
  rw[hm,hk]at z
  exact y_code _ _ _ _ _ _ (den _ s rfl rfl hB P.top.2.1 hm hk z)
 |true=>
  cases hs:u.C.seg with
  |false=>
   intro A s R hA P hR
   have hm:md0 u.C=none:=by unfold md0;rw[hj,hs];rfl
   have hk:κ0 u.C=.base:=by unfold κ0;rw[hj,hs];rfl
   have hB:BRm ⟨prog,w,A,R,[],fun _ _=>False,s.drawn,s.os⟩ u.C.need:=⟨hA,hA.seg⟩
   have z:=core ⟨prog,w,A,R,[],fun _ _=>False,s.drawn,s.os⟩ s rfl rfl hB P rfl rfl (fun e=>by rw[hj]at e;cases e) (by
    intro _ md κ X h' t' ok P'
    have:=hR X h' t' P'
    rw[gensAfter_glTo]at this
    unfold mdOk at ok
    rw[hs]at ok
    split at ok
    ·exact this
    ·rename_i e;cases e
    ·cases ok)
   rw[hm,hk]at z
   exact den _ s rfl rfl hB P.top.2.1 hm hk z
  |true=>
   intro A fs s PE hA hF P hR
   have hm:md0 u.C=some []:=by unfold md0;rw[hj,hs];rfl
   have hk:κ0 u.C=.seg:=by unfold κ0;rw[hj,hs];rfl
   have hB:BRm ⟨prog,w,A,fun _ _=>False,fs,PE,s.drawn,s.os⟩ u.C.need:=⟨hA,hF⟩
   have z:=core ⟨prog,w,A,fun _ _=>False,fs,PE,s.drawn,s.os⟩ s rfl rfl hB P rfl rfl (fun e=>by rw[hj]at e;cases e) (by
    intro _ md κ X h' t' ok P'
    have:=hR X h' t' P'
    rw[gensAfter_glTo]at this
    unfold mdOk at ok
    rw[hs]at ok
    split at ok
    ·rename_i e;cases e
    ·exact this
    ·cases ok)
   rw[hm,hk]at z
   have z:SegX (model prog w) A u.C.code (V.tree u.C.code) ([]++fs) s PE:=z
   cases q:isDef u.C.code with
   |false=>rw[←E.tree.1 _ q];exact z
   |true=>rw[hs,q]at hsd;cases hsd
theorem con_ok(E:EnvOk prog w V)(u:Unit0)(n sc:Nat)(cs:List Fam)(hc:∀C∈cs,FamOk prog w V.kt nt C)(hn:V.need=u.C.need)(hsd:andB u.C.seg (isDef u.C.code)=false)
  (h:∀U z t gl,lhs u (evU V u n sc cs U z t gl)=rhs u gl (evU V u n sc cs U z t gl)):ConOk prog w V.kt nt u.C:=con_okU E u (fun _=>u.ws) n sc cs hc hn hsd h
end
section
noncomputable def dnF:Code→Sem PySem.Fin:=PySem.W.Fast.tw11892475500146522536 PySem.W.Fast.tw14364793385576792824
theorem dnF_eq:denote table=dnF:=by
 unfold dnF
 rw[←PySem.W.Fast.te11892475500146522536,←PySem.W.Fast.te14364793385576792824,table_eq_tree]
noncomputable def limName:Str:=⟨#[115,121,115,46,114,101,99,117,114,115,105,111,110,108,105,109,105,116]⟩
theorem limName_eq:limName=("sys.recursionlimit":Str):=by decide+kernel
noncomputable def locName:Str:=⟨#[46,60,108,111,99,97,108,115,62,46]⟩
theorem locName_eq:locName=(".<locals>.":Str):=by decide+kernel
noncomputable def frameCode(fd:FuncData)(env:Env):Code:=match fd.body with
 |.stmts b=>.func b env
 |.expr e=>.expr e env
noncomputable def behind(fd:FuncData)(env:Env):Sem PySem.Fin:=match fd.scope.isGenerator,fd.scope.isCoroutine with
 |false,false=>.pure (.again (frameCode fd env))
 |true,false=>R.bindR (PySem.W.Fast.tw2426001476595277715 (frameCode fd env) fd.name fd.qualname) fun v=>.pure (.done (.ret v))
 |_,_=>.unsupported "coroutine"
noncomputable def qualOf(fd:FuncData):Sem Str:=match fd.code with
 |.none=>.pure fd.qualname
 |c=>R.bindR (PySem.W.Fast.tw6609576154772507232 c 1) fun v=>match v with
  |.str q _=>.pure q
  |_=>.pure fd.qualname
noncomputable def callD(a:Addr)(fd:FuncData)(args:Args):Sem PySem.Fin:=
 R.bindR (qualOf fd) fun q=>R.bindR (PySem.W.Fast.tw9782568553167038054 fd args) fun bs=>
  R.bindR (PySem.W.Fast.tw11113344188204177931 fd.scope fd.globals fd.closure bs (q++locName) (some a) fd.code none fd.builtins) fun env=>
   R.bindR (PySem.W.Fast.tw13143150168775219229 cStatics limName) fun v=>match v with
    |none=>behind fd env
    |some _=>.unsupported "limit"
noncomputable def callF(f:Value)(args:Args):Sem PySem.Fin:=match f with
 |.ref a=>.load a none fun o=>match o.data with
  |.func fd=>callD a fd args
  |_=>PySem.W.Fast.tw2956504954644400088 f args
 |_=>PySem.W.Fast.tw2956504954644400088 f args
noncomputable def treeF(c:Code):Sem PySem.Fin:=@Code.rec (fun _=>Sem PySem.Fin) (fun f args=>callF f args) (fun id args=>dnF (.builtin id args)) (fun a b=>dnF (.body a b)) (fun a b=>dnF (.block a b)) (fun a b c=>dnF (.handlers a b c)) (fun a b c d e=>dnF (.starHandlers a b c d e))
 (fun a b=>dnF (.func a b)) (fun a b=>dnF (.expr a b)) (fun a b c d=>dnF (.whileLoop a b c d)) (fun a b c d e=>dnF (.forLoop a b c d e)) (fun a b c d e=>dnF (.asyncForLoop a b c d e)) (fun a b c d e=>dnF (.compStart a b c d e)) (fun a b c d e=>dnF (.compLoop a b c d e)) c
variable{prog:Program}{w:World}
theorem enter_wp{Γ:PySem.Ctx}{A:Around}{Q:Unit→Pos→Shared→Prop}{E:Value→Pos→Shared→Prop}{p:Pos}{s:Shared}(hΓ:Γ.In A)(hd:A.depth<recursionLimit)
  (h:Sem.wp (model prog w) Γ (nsGet cStatics "sys.recursionlimit") (fun v p' s'=>v=none∧Q () p' s') E p s):Sem.wp (model prog w) Γ (enterFrame) Q E p s:=by
 have hsum:((((Γ.code,p)::Γ.below).map (·.1)).map (·.frames)).sum+((((Γ.code,p)::Γ.below).map (·.1)).filter Code.isCreation).length<recursionLimit:=by
  have hge:=frameCount_ge ((Γ.code,p)::Γ.below)
  rw[frameCount_cons]at hge
  have:=hΓ.2.1
  omega
 simp only[enterFrame,currentRecursionLimit,Sem.wp_bind']
 show Sem.wp (model prog w) Γ (nsGet cStatics "sys.recursionlimit") _ _ p s
 refine Sem.wp_mono (model prog w) Γ _ (fun v p' s' hv=> ?_) (fun _ _ _ e=>e) p s h
 obtain⟨rfl,hq⟩:=hv
 show Sem.wp (model prog w) Γ (if nearTheLimitUnderAClaim (((Γ.code,p)::Γ.below).map (·.1)) (((((Γ.code,p)::Γ.below).map (·.1)).map (·.frames)).sum+((((Γ.code,p)::Γ.below).map (·.1)).filter Code.isCreation).length) recursionLimit=true then _ else _) _ _ p' s'
 rw[if_neg (by rw[not_nearTheLimit hΓ hd];exact Bool.false_ne_true)]
 show Sem.wp (model prog w) Γ (if((((Γ.code,p)::Γ.below).map (·.1)).map (·.frames)).sum≥recursionLimit then _ else _) _ _ p' s'
 rw[if_neg (by omega)]
 show Sem.wp (model prog w) Γ (if((((Γ.code,p)::Γ.below).map (·.1)).map (·.frames)).sum+((((Γ.code,p)::Γ.below).map (·.1)).filter Code.isCreation).length≥recursionLimit then _ else _) _ _ p' s'
 rw[if_neg (by omega)]
 exact hq
theorem bindR_wp{α β:Type}(M:Model)(Γ:PySem.Ctx)(m:Sem α)(f:α→Sem β)(Q:β→Pos→Shared→Prop)(E:Value→Pos→Shared→Prop)(p:Pos)(s:Shared):
  Sem.wp M Γ (R.bindR m f) Q E p s=Sem.wp M Γ m (fun a p' s'=>Sem.wp M Γ (f a) Q E p' s') E p s:=by
 rw[←R.bindR_eq];exact Sem.wp_bind M Γ m f Q E p s
theorem qual_wp{Γ:PySem.Ctx}{Q:PySem.Fin→Pos→Shared→Prop}{Q0:Str→Pos→Shared→Prop}{E:Value→Pos→Shared→Prop}{p:Pos}{s:Shared}{fd:FuncData}(jp:Str→Sem PySem.Fin)
  (hq:∀q p s,Q0 q p s→Sem.wp (model prog w) Γ (jp q) Q E p s) (h:Sem.wp (model prog w) Γ (qualOf fd) Q0 E p s):
  Sem.wp (model prog w) Γ (match fd.code with
   |.none=>pure fd.qualname >>= jp
   |c=>field c 1 >>= fun l=>match l with
    |.str q _=>pure q >>= jp
    |_=>pure fd.qualname >>= jp) Q E p s:=by
 unfold qualOf at h
 generalize fd.code=code at h ⊢
 have nx:∀c:Value,Sem.wp (model prog w) Γ (R.bindR (PySem.W.Fast.tw6609576154772507232 c 1) fun v=>match v with
   |.str q _=>.pure q
   |_=>.pure fd.qualname) Q0 E p s→Sem.wp (model prog w) Γ (field c 1 >>= fun l=>match l with
    |.str q _=>pure q >>= jp
    |_=>pure fd.qualname >>= jp) Q E p s:=by
  intro c h
  rw[bindR_wp,←PySem.W.Fast.te6609576154772507232]at h
  rw[Sem.wp_bind']
  refine Sem.wp_mono _ _ _ (fun v p' s' hv=> ?_) (fun _ _ _ e=>e) _ _ h
  cases v<;>exact hq _ _ _ hv
 cases code<;>first|exact hq _ _ _ h|exact nx _ h
theorem callD_wp{Γ:PySem.Ctx}{A:Around}{Q:PySem.Fin→Pos→Shared→Prop}{E:Value→Pos→Shared→Prop}{p:Pos}{s:Shared}(hΓ:Γ.In A)(hd:A.depth<recursionLimit){a:Addr}{fd:FuncData}{args:Args}
  (h:Sem.wp (model prog w) Γ (callD a fd args) Q E p s):Sem.wp (model prog w) Γ (callFunction a fd args) Q E p s:=by
 unfold callD at h
 simp only[bindR_wp]at h
 rw[←PySem.W.Fast.te9782568553167038054,←PySem.W.Fast.te11113344188204177931,←PySem.W.Fast.te13143150168775219229,limName_eq,locName_eq]at h
 have fin:∀(q:Str)(cd:Value)(p1:Pos)(s1:Shared),Sem.wp (model prog w) Γ (bindArgs fd args) (fun a_2 p' s'=>Sem.wp (model prog w) Γ (newFunctionEnv fd.scope fd.globals fd.closure a_2 (q++".<locals>.") (some a) cd none fd.builtins)
    (fun env p' s'=>Sem.wp (model prog w) Γ (nsGet cStatics "sys.recursionlimit") (fun v p' s'=>Sem.wp (model prog w) Γ (match v with|none=>behind fd env|some _=>.unsupported "limit") Q E p' s') E p' s') E p' s') E p1 s1→
   Sem.wp (model prog w) Γ (do
    let env ←newFunctionEnv fd.scope fd.globals fd.closure (←bindArgs fd args) (q++".<locals>.") (some a) cd none fd.builtins
    enterFrame
    let code:Code:=match fd.body with
     |.stmts b=>.func b env
     |.expr e=>.expr e env
    match fd.scope.isGenerator,fd.scope.isCoroutine with
    |false,false=>again code
    |true,false=>ret (←newGenerator code fd.name fd.qualname)
    |false,true=>ret (←newCoroutine code fd.name fd.qualname)
    |true,true=>ret (←newAsyncGenerator code fd.name fd.qualname)) Q E p1 s1:=by
  intro q cd p1 s1 h1
  simp only[Sem.wp_bind']
  refine Sem.wp_mono _ _ _ (fun bs p2 s2 h2=> ?_) (fun _ _ _ e=>e) _ _ h1
  refine Sem.wp_mono _ _ _ (fun env p3 s3 h3=> ?_) (fun _ _ _ e=>e) _ _ h2
  refine enter_wp hΓ hd ?_
  refine Sem.wp_mono _ _ _ (fun v p4 s4 h4=> ?_) (fun _ _ _ e=>e) _ _ h3
  cases v with
  |some x=>exact h4.elim
  |none=>
   refine⟨rfl,?_⟩
   have h4:Sem.wp (model prog w) Γ (behind fd env) Q E p4 s4:=h4
   unfold behind at h4
   cases hg:fd.scope.isGenerator<;>cases hc:fd.scope.isCoroutine<;>rw[hg,hc]at h4
   ·exact h4
   ·exact h4.elim
   ·simp only[bindR_wp]at h4
    rw[←PySem.W.Fast.te2426001476595277715]at h4
    simp only[Sem.wp_bind']
    exact h4
   ·exact h4.elim
 unfold callFunction
 exact qual_wp _ (fun q p1 s1 hq=>fin q fd.code p1 s1 hq) h
theorem callF_own{A:Ar}{Q:PySem.Fin→Shared→Prop}{E:Value→Shared→Prop}{s:Shared}{a:Addr}{args:Args}(hr:RmL (A.under (.call (.ref a) args)))
  (h:wpOwn (model prog w) A (.call (.ref a) args) (callF (.ref a) args) Q E s):wpOwn (model prog w) A (.call (.ref a) args) (callAny (.ref a) args) Q E s:=by
 intro Γ p hc hΓ
 have h:=h Γ p hc hΓ
 have hin:Γ.In (A.a.under (.call (.ref a) args)):=hc▸hΓ.1.in
 have h:∃o,s.heap.get? a=some o∧Sem.wp (model prog w) Γ (match o.data with|.func fd=>callD a fd args|_=>PySem.W.Fast.tw2956504954644400088 (.ref a) args) (fun a _ s'=>Q a s') (fun e _ s'=>E e s') p s:=h
 obtain⟨o,ho,h⟩:=h
 have fold:∀fd,o.data=.func fd→Sem.wp (model prog w) Γ (callFunction a fd args) (fun a _ s'=>Q a s') (fun e _ s'=>E e s') p s→Sem.wp (model prog w) Γ (callAny (.ref a) args) (fun a _ s'=>Q a s') (fun e _ s'=>E e s') p s:=by
  intro fd hd z
  unfold callAny
  simp only[Sem.wp_bind']
  refine(Sem.wp_load_of (model prog w) Γ _ p s ho _).mpr ?_
  rw[hd]
  exact z
 cases hd:o.data with
 |func fd=>
  rw[hd]at h
  exact fold fd hd (callD_wp hin hr.dp h)
 |_=>
  rw[hd]at h
  rw[PySem.W.Fast.te2956504954644400088]
  exact h
theorem treeF_call(v:Value)(args:Args)(h:∀a,v≠ .ref a):treeF (.call v args)=denote table (.call v args):=by
 have e2:denote table (.call v args)=callAny v args:=rfl
 rw[e2,PySem.W.Fast.te2956504954644400088]
 cases v<;>first|rfl|exact absurd rfl (h _)
theorem tree_ok:TreeOk prog w treeF:=by
 refine⟨?_,?_⟩
 ·intro c hc
  cases c with
  |call f args=>
   cases f with
   |ref a=>cases hc
   |_=>exact treeF_call _ _ (by intro a e;cases e)
  |_=>exact(congrFun dnF_eq _).symm
 ·intro c hc A Q E s hr _ h
  cases c with
  |call f args=>
   cases f with
   |ref a=>exact callF_own hr h
   |_=>cases hc
  |_=>cases hc
end
section
noncomputable def chkA(self:Value):Sem Unit:=R.bindR (PySem.W.Fast.tw1323301922612531481 self) fun n=>match n with
 |0=>.pure ()
 |_+1=>.unsupported "exports"
noncomputable def appendA(args:Args):Sem PySem.Fin:=R.bindR (PySem.W.Fast.tw15991060534061406043 "bytearray.append" args) fun p=>R.bindR (PySem.W.Fast.tw17842283228622643260 p.2) fun c=>
 R.bindR (chkA p.1) fun _=>R.bindR (PySem.W.Fast.tw9550766606160685810 p.1 (·.push c)) fun _=>PySem.W.Fast.tw6905046200447255374 .none
noncomputable def extendA(args:Args):Sem PySem.Fin:=R.bindR (PySem.W.Fast.tw15991060534061406043 "bytearray.extend" args) fun p=>R.bindR (PySem.W.Fast.tw4214721358667687652 p.2 "__buffer__") fun sp=>match sp with
 |none=>.unsupported "buffer"
 |some _=>R.bindR (PySem.W.Fast.tw3123552901069430269 p.1) fun _=>R.bindR (PySem.W.Fast.tw9510677018623344767 "bytearray.extend" p.2 0) fun r=>match r with
  |some (more,none)=>R.bindR (match more.isEmpty with|true=>.pure ()|false=>chkA p.1) fun _=>R.bindR (PySem.W.Fast.tw9550766606160685810 p.1 (· ++more)) fun _=>PySem.W.Fast.tw6905046200447255374 .none
  |_=>.unsupported "buffer"
noncomputable def initA(args:Args):Sem PySem.Fin:=match args with
 |⟨[self],[]⟩=>R.bindR (PySem.W.Fast.tw9499966614308273262 self) fun b=>match b with
  |true=>.unsupported "own"
  |false=>R.bindR (chkA self) fun _=>R.bindR (PySem.W.Fast.tw9550766606160685810 self fun _=> #[]) fun _=>PySem.W.Fast.tw6905046200447255374 .none
 |_=>.unsupported "init"
variable{prog:Program}{w:World}
theorem sameRef_other{c:Code}{p:Pos}{self:Value}(hg:c.isGuard=false)(hn:nd c):(match(c,p)with
  |(.builtin "bytearray.__contains__" ⟨v::_,_⟩,_)|(.builtin "bytearray.__mod__" ⟨v::_,_⟩,_)
  |(.builtin "bytearray.__rmod__" ⟨_::v::_,_⟩,_)|(.builtin "_struct.pack_into.held" ⟨v::_,_⟩,_)=>PySem.Builtin.Bytes.sameRef v self
  |(.builtin "bytearray.find.held" ⟨_::_::held,_⟩,_)=>held.any (PySem.Builtin.Bytes.sameRef self)
  |(.builtin id ⟨v::_,_⟩,_)=>PySem.Builtin.Bytes.sameRef v self&&PySem.Builtin.Bytes.decodersThatHold.contains id
  |_=>false)=false:=by
 cases c with
 |builtin id args=>
  have n:∀x,(Code.builtin x ⟨[],[]⟩).isGuard=true→id≠x:=fun x h e=>by
   subst e
   exact Bool.noConfusion (hg.symm.trans h)
  delta sameRef_other.match_1
  refine(dif_neg (n "bytearray.__contains__" rfl)).trans ?_
  refine(dif_neg (n "bytearray.__mod__" rfl)).trans ?_
  refine(dif_neg (n "bytearray.__rmod__" rfl)).trans ?_
  refine(dif_neg (n "_struct.pack_into.held" rfl)).trans ?_
  refine(dif_neg (n "bytearray.find.held" rfl)).trans ?_
  obtain⟨_|⟨v,l⟩,kw⟩:=args
  ·rfl
  ·show and _ _=false
   have hn:PySem.Builtin.Bytes.decodersThatHold.contains id=false:=hn
   rw[hn,Bool.and_false]
 |_=>rfl
theorem guards_none{l:List (Code×Pos)}(h:guardsOf l=[]):∀x∈l,x.1.isGuard=false:=fun x hx=>by
 cases q:x.1.isGuard with
 |false=>rfl
 |true=>
  have:x.1∈guardsOf l:=List.mem_filter.mpr ⟨List.mem_map_of_mem hx,q⟩
  rw[h]at this;cases this
theorem any_clean{f:Code×Pos→Bool}(hf:∀c p,c.isGuard=false→nd c→f (c,p)=false){l:List (Code×Pos)}(h:guardsOf l=[])(hc:Cl l):l.any f=false:=by
 rw[List.any_eq_false]
 intro x hx
 rw[hf x.1 x.2 (guards_none h x hx) (hc x hx)]
 exact Bool.false_ne_true
noncomputable def Calm(Γ:PySem.Ctx):Prop:=guardsOf ((Γ.code,default)::Γ.below)=[]∧nd Γ.code∧Cl Γ.below
section
variable{Γ:PySem.Ctx}
include Γ
theorem calm_of{A:Ar}{c:Code}(hc:Γ.code=c)(hΓ:Bel Γ A)(hr:RmL (A.under c)):Calm Γ:=by
 subst hc
 refine⟨?_,hr.cl.2,hΓ.2 hr.cl.1⟩
 have z:=hΓ.1.in
 have g:=z.2.2.2.1 [] hr.gd
 rw[guardsOf_cons];exact g
theorem exported_wp(h:Calm Γ){self:Value}{Q:Bool→Pos→Shared→Prop}{E:Value→Pos→Shared→Prop}{p:Pos}{s:Shared}(x:Q false p s):Sem.wp (model prog w) Γ (PySem.Builtin.Bytes.exported self) Q E p s:=by
 unfold PySem.Builtin.Bytes.exported
 rw[Sem.wp_bind']
 show Q (List.any ((Γ.code,p)::Γ.below) _) p s
 rw[any_clean (fun c p hg hn=>sameRef_other hg hn) (by rw[guardsOf_cons];have:=h.1;rw[guardsOf_cons]at this;exact this) (h.2.2.cons h.2.1)]
 exact x
theorem chk_wp(h:Calm Γ){self:Value}{Q:Unit→Pos→Shared→Prop}{E:Value→Pos→Shared→Prop}{p:Pos}{s:Shared}(x:Sem.wp (model prog w) Γ (chkA self) Q E p s):Sem.wp (model prog w) Γ (PySem.Builtin.Bytes.checkResize self) Q E p s:=by
 unfold chkA at x
 rw[bindR_wp,←PySem.W.Fast.te1323301922612531481]at x
 unfold PySem.Builtin.Bytes.checkResize
 rw[Sem.wp_bind']
 unfold orM
 rw[Sem.wp_bind']
 refine exported_wp h ?_
 show Sem.wp (model prog w) Γ (PySem.Builtin.Bytes.exportsOf self >>= fun n=>pure (decide (n>0))) _ _ _ _
 rw[Sem.wp_bind']
 refine Sem.wp_mono _ _ _ (fun n p' s' hv=> ?_) (fun _ _ _ e=>e) _ _ x
 cases n with
 |zero=>exact hv
 |succ n=>exact hv.elim
theorem append_wp(h:Calm Γ){args:Args}{Q:PySem.Fin→Pos→Shared→Prop}{E:Value→Pos→Shared→Prop}{p:Pos}{s:Shared}(x:Sem.wp (model prog w) Γ (appendA args) Q E p s):Sem.wp (model prog w) Γ (PySem.Builtin.«bytearray.append» args) Q E p s:=by
 unfold appendA at x
 simp only[bindR_wp]at x
 rw[←PySem.W.Fast.te15991060534061406043,←PySem.W.Fast.te17842283228622643260,←PySem.W.Fast.te9550766606160685810,←PySem.W.Fast.te6905046200447255374]at x
 unfold PySem.Builtin.«bytearray.append»
 simp only[Sem.wp_bind']
 refine Sem.wp_mono _ _ _ (fun a p' s' hv=> ?_) (fun _ _ _ e=>e) _ _ x
 refine Sem.wp_mono _ _ _ (fun c p' s' hv=> ?_) (fun _ _ _ e=>e) _ _ hv
 exact chk_wp h hv
theorem extend_wp(h:Calm Γ){args:Args}{Q:PySem.Fin→Pos→Shared→Prop}{E:Value→Pos→Shared→Prop}{p:Pos}{s:Shared}(x:Sem.wp (model prog w) Γ (extendA args) Q E p s):Sem.wp (model prog w) Γ (PySem.Builtin.«bytearray.extend» args) Q E p s:=by
 unfold extendA at x
 rw[bindR_wp,←PySem.W.Fast.te15991060534061406043]at x
 unfold PySem.Builtin.«bytearray.extend»
 rw[Sem.wp_bind']
 refine Sem.wp_mono _ _ _ (fun a p' s' hv=> ?_) (fun _ _ _ e=>e) _ _ x
 rw[bindR_wp,←PySem.W.Fast.te4214721358667687652]at hv
 obtain⟨self,it⟩:=a
 show Sem.wp (model prog w) Γ (specialOf it "__buffer__" >>= fun sp=>_) Q E p' s'
 rw[Sem.wp_bind']
 refine Sem.wp_mono _ _ _ (fun sp p' s' hv=> ?_) (fun _ _ _ e=>e) _ _ hv
 cases sp with
 |none=>exact hv.elim
 |some v=>
  rw[bindR_wp,←PySem.W.Fast.te3123552901069430269]at hv
  show Sem.wp (model prog w) Γ (PySem.Builtin.Bytes.payload self >>= fun b=>_) Q E p' s'
  rw[Sem.wp_bind']
  refine Sem.wp_mono _ _ _ (fun b p' s' hv=> ?_) (fun _ _ _ e=>e) _ _ hv
  rw[bindR_wp,←PySem.W.Fast.te9510677018623344767]at hv
  rw[Sem.wp_bind']
  refine Sem.wp_mono _ _ _ (fun r p' s' hv=> ?_) (fun _ _ _ e=>e) _ _ hv
  match r,hv with
  |none,hv=>exact hv.elim
  |some (more,some u),hv=>exact hv.elim
  |some (more,none),hv=>
   simp only[bindR_wp]at hv
   rw[←PySem.W.Fast.te9550766606160685810,←PySem.W.Fast.te6905046200447255374]at hv
   show Sem.wp (model prog w) Γ (if(!more.isEmpty)=true then(PySem.Builtin.Bytes.checkResize self >>= fun _=>PySem.Builtin.Bytes.write self (· ++more) >>= fun _=>ret .none)else(PySem.Builtin.Bytes.write self (· ++more) >>= fun _=>ret .none)) Q E p' s'
   cases q:more.isEmpty with
   |true=>
    rw[q]at hv
    rw[if_neg (by exact Bool.false_ne_true),Sem.wp_bind']
    exact hv
   |false=>
    rw[q]at hv
    rw[if_pos (by rfl),Sem.wp_bind']
    refine chk_wp h ?_
    refine Sem.wp_mono _ _ _ (fun u p' s' hv=> ?_) (fun _ _ _ e=>e) _ _ hv
    rw[Sem.wp_bind']
    exact hv
end
theorem bind_init:PySem.Builtin.Bytes.bindOptional "bytearray.__init__" "bytearray" ["source","encoding","errors"] [] []=pure [none,none,none]:=by kernel_rfl
theorem init_wp{Γ:PySem.Ctx}(h:Calm Γ){args:Args}{Q:PySem.Fin→Pos→Shared→Prop}{E:Value→Pos→Shared→Prop}{p:Pos}{s:Shared}(x:Sem.wp (model prog w) Γ (initA args) Q E p s):Sem.wp (model prog w) Γ (PySem.Builtin.«bytearray.__init__» args) Q E p s:=by
 match args,x with
 |⟨[],_⟩,x=>exact x.elim
 |⟨_::_::_,_⟩,x=>exact x.elim
 |⟨[self],_::_⟩,x=>exact x.elim
 |⟨[self],[]⟩,x=>
  have x:Sem.wp (model prog w) Γ (R.bindR (PySem.W.Fast.tw9499966614308273262 self) _) Q E p s:=x
  rw[bindR_wp,←PySem.W.Fast.te9499966614308273262]at x
  show Sem.wp (model prog w) Γ (PySem.Builtin.Bytes.ownRelease self >>= fun b=>_) Q E p s
  rw[Sem.wp_bind']
  refine Sem.wp_mono _ _ _ (fun b p' s' hv=> ?_) (fun _ _ _ e=>e) _ _ x
  cases b with
  |true=>exact hv.elim
  |false=>
   simp only[bindR_wp]at hv
   rw[←PySem.W.Fast.te9550766606160685810,←PySem.W.Fast.te6905046200447255374]at hv
   show Sem.wp (model prog w) Γ (PySem.Builtin.Bytes.bindOptional "bytearray.__init__" "bytearray" ["source","encoding","errors"] [] [] >>= fun l=>_) Q E p' s'
   rw[bind_init]
   show Sem.wp (model prog w) Γ ((PySem.Builtin.Bytes.exported self <||> (PySem.Builtin.Bytes.exportsOf self >>= fun n=>pure (decide (n>0)))) >>= fun b=>_) Q E p' s'
   rw[Sem.wp_bind']
   unfold orM
   rw[Sem.wp_bind']
   refine exported_wp h ?_
   show Sem.wp (model prog w) Γ (PySem.Builtin.Bytes.exportsOf self >>= fun n=>pure (decide (n>0))) _ _ _ _
   rw[Sem.wp_bind']
   unfold chkA at hv
   rw[bindR_wp,←PySem.W.Fast.te1323301922612531481]at hv
   refine Sem.wp_mono _ _ _ (fun n p' s' hv=> ?_) (fun _ _ _ e=>e) _ _ hv
   cases n with
   |succ n=>exact hv.elim
   |zero=>
    show Sem.wp (model prog w) Γ (PySem.Builtin.Bytes.write self (fun _=> #[]) >>= fun _=>ret .none) _ _ _ _
    rw[Sem.wp_bind']
    exact hv
noncomputable def limA:Sem Unit:=R.bindR (PySem.W.Fast.tw13143150168775219229 cStatics limName) fun v=>match v with
 |none=>.pure ()
 |some _=>.unsupported "limit"
noncomputable def nextA(args:Args):Sem PySem.Fin:=R.bindR (PySem.W.Fast.tw7913626950604309744 "__next__" 0 args) fun p=>R.bindR (PySem.W.Fast.tw12255447999362386569 p.1) fun n=>
 R.bindR (genState n) fun b=>R.bindR (match b with|.fresh=>limA|.suspended=>limA|_=>.pure ()) fun _=>R.bindR (resume n (.send .none)) fun r=>match r with
  |.yielded v=>PySem.W.Fast.tw6905046200447255374 v
  |.returned .none=>R.bindR (PySem.W.Fast.tw11364817496384490316 (.type "StopIteration") []) fun e=>R.bindR (PySem.W.Fast.tw17609497360097468838 e:Sem Unit) fun _=>.unsupported "next"
  |_=>.unsupported "next"
theorem room_wp{Γ:PySem.Ctx}{A:Around}{Q:Unit→Pos→Shared→Prop}{E:Value→Pos→Shared→Prop}{p:Pos}{s:Shared}(hΓ:Γ.In A)(hd:A.depth<recursionLimit)(h:Sem.wp (model prog w) Γ limA Q E p s):Sem.wp (model prog w) Γ roomToWake Q E p s:=by
 have hsum:((((Γ.code,p)::Γ.below).map (·.1)).map (·.frames)).sum+((((Γ.code,p)::Γ.below).map (·.1)).filter Code.isCreation).length<recursionLimit:=by
  have hge:=frameCount_ge ((Γ.code,p)::Γ.below)
  rw[frameCount_cons]at hge
  have:=hΓ.2.1
  omega
 unfold limA at h
 rw[bindR_wp,←PySem.W.Fast.te13143150168775219229,limName_eq]at h
 simp only[roomToWake,currentRecursionLimit,Sem.wp_bind']
 show Sem.wp (model prog w) Γ (nsGet cStatics "sys.recursionlimit") _ _ p s
 refine Sem.wp_mono (model prog w) Γ _ (fun v p' s' hv=> ?_) (fun _ _ _ e=>e) p s h
 cases v with
 |some v=>exact hv.elim
 |none=>
  show Sem.wp (model prog w) Γ (if nearTheLimitUnderAClaim (((Γ.code,p)::Γ.below).map (·.1)) (((((Γ.code,p)::Γ.below).map (·.1)).map (·.frames)).sum+((((Γ.code,p)::Γ.below).map (·.1)).filter Code.isCreation).length) recursionLimit=true then _ else _) _ _ p' s'
  rw[if_neg (by rw[not_nearTheLimit hΓ hd];exact Bool.false_ne_true)]
  show Sem.wp (model prog w) Γ (if((((Γ.code,p)::Γ.below).map (·.1)).map (·.frames)).sum+((((Γ.code,p)::Γ.below).map (·.1)).filter Code.isCreation).length≥recursionLimit then _ else _) _ _ p' s'
  rw[if_neg (by omega)]
  exact hv
theorem next_wp{Γ:PySem.Ctx}{A:Around}(hΓ:Γ.In A)(hd:A.depth<recursionLimit){args:Args}{Q:PySem.Fin→Pos→Shared→Prop}{E:Value→Pos→Shared→Prop}{p:Pos}{s:Shared}(x:Sem.wp (model prog w) Γ (nextA args) Q E p s):Sem.wp (model prog w) Γ (PySem.Builtin.«generator.__next__» args) Q E p s:=by
 unfold nextA at x
 rw[bindR_wp,←PySem.W.Fast.te7913626950604309744]at x
 unfold PySem.Builtin.«generator.__next__»
 rw[Sem.wp_bind']
 refine Sem.wp_mono _ _ _ (fun a p' s' hv=> ?_) (fun _ _ _ e=>e) _ _ x
 obtain⟨g,l⟩:=a
 rw[bindR_wp,←PySem.W.Fast.te12255447999362386569]at hv
 show Sem.wp (model prog w) Γ (PySem.Builtin.Generator.genWake g (.send .none)) Q E p' s'
 unfold PySem.Builtin.Generator.genWake
 rw[Sem.wp_bind',Sem.wp_holding]
 refine Sem.wp_mono _ _ _ (fun n p' s' hv=> ?_) (fun _ _ _ e=>e) _ _ hv
 rw[bindR_wp]at hv
 rw[Sem.wp_bind']
 refine Sem.wp_mono _ _ _ (fun b p' s' hv=> ?_) (fun _ _ _ e=>e) _ _ hv
 rw[bindR_wp]at hv
 have fin:∀(p':Pos)(s':Shared)(K:GenResult→Sem PySem.Fin),(∀v,K (.yielded v)=ret v)→(∃K',K (.returned .none)=(newExc (.type "StopIteration") [] >>= fun e=>(raiseNew e:Sem Unit) >>= K'))→
   Sem.wp (model prog w) Γ (R.bindR (resume n (.send .none)) fun r=>match r with
    |.yielded v=>PySem.W.Fast.tw6905046200447255374 v
    |.returned .none=>R.bindR (PySem.W.Fast.tw11364817496384490316 (.type "StopIteration") []) fun e=>R.bindR (PySem.W.Fast.tw17609497360097468838 e:Sem Unit) fun _=>.unsupported "next"
    |_=>.unsupported "next") Q E p' s'→Sem.wp (model prog w) Γ (resume n (.send .none) >>= K) Q E p' s':=by
  intro p' s' K k1 k2 hv
  rw[bindR_wp]at hv
  rw[Sem.wp_bind']
  refine Sem.wp_mono _ _ _ (fun r p' s' hv=> ?_) (fun _ _ _ e=>e) _ _ hv
  cases r with
  |yielded v=>
   rw[k1]
   rw[PySem.W.Fast.te6905046200447255374]
   exact hv
  |returned v=>
   cases v with
   |none=>
    have hv:Sem.wp (model prog w) Γ (R.bindR (PySem.W.Fast.tw11364817496384490316 (.type "StopIteration") []) fun e=>R.bindR (PySem.W.Fast.tw17609497360097468838 e:Sem Unit) fun _=>.unsupported "next") Q E p' s':=hv
    simp only[bindR_wp]at hv
    rw[←PySem.W.Fast.te11364817496384490316]at hv
    obtain⟨K',k2⟩:=k2
    rw[k2,Sem.wp_bind']
    refine Sem.wp_mono _ _ _ (fun e p' s' hv=> ?_) (fun _ _ _ e=>e) _ _ hv
    rw[←PySem.W.Fast.te17609497360097468838]at hv
    rw[Sem.wp_bind']
    exact Sem.wp_mono _ _ _ (fun _ _ _ hv=>hv.elim) (fun _ _ _ e=>e) _ _ hv
   |_=>exact hv.elim
  |_=>exact hv.elim
 cases b
 ·show Sem.wp (model prog w) Γ (roomToWake >>= fun _=>(resume n (.send .none) >>= fun r=>_)) Q E p' s'
  rw[Sem.wp_bind']
  refine room_wp hΓ hd ?_
  refine Sem.wp_mono _ _ _ (fun u p' s' hv=> ?_) (fun _ _ _ e=>e) _ _ hv
  exact fin _ _ _ (fun _=>rfl) ⟨_,rfl⟩ hv
 ·show Sem.wp (model prog w) Γ (roomToWake >>= fun _=>(resume n (.send .none) >>= fun r=>_)) Q E p' s'
  rw[Sem.wp_bind']
  refine room_wp hΓ hd ?_
  refine Sem.wp_mono _ _ _ (fun u p' s' hv=> ?_) (fun _ _ _ e=>e) _ _ hv
  exact fin _ _ _ (fun _=>rfl) ⟨_,rfl⟩ hv
 ·exact fin _ _ _ (fun _=>rfl) ⟨_,rfl⟩ hv
 ·exact fin _ _ _ (fun _=>rfl) ⟨_,rfl⟩ hv
theorem eqLit_true{n:Nat}{id b:String}(hb:PySem.code b=n)(h:S.eqLit n id=true):id=b:=by
 have:=congrFun (S.eqLit_eq b n hb) id
 rw[h]at this
 exact eq_of_beq this
noncomputable def altB0(id:String)(args:Args):Sem PySem.Fin:=
 @Bool.rec (fun _=>Sem PySem.Fin) (@Bool.rec (fun _=>Sem PySem.Fin) (@Bool.rec (fun _=>Sem PySem.Fin) (@Bool.rec (fun _=>Sem PySem.Fin) (.unsupported "alt")
  (nextA args) (S.eqLit 0x60607579666f60602f7370756273666f6668 id)) (initA args) (S.eqLit 0x6060756a6f6a60602f7a6273736266757a63 id)) (extendA args) (S.eqLit 0x656f667579662f7a6273736266757a63 id)) (appendA args) (S.eqLit 0x656f667171622f7a6273736266757a63 id)
noncomputable def altF0(c:Code):Sem PySem.Fin:=match c with
 |.builtin id args=>altB0 id args
 |_=>.unsupported "alt"
theorem den_of{id:String}{b:Builtin}(h:fastTable id=some b)(args:Args):denote table (.builtin id args)=b args:=by
 show(match entryFor table id with|some b=>b args|none=>unsupported ((withoutEnding? id "#data").getD id))=b args
 rw[entryFor_of_fast h]
theorem alt_ok0:AltOk prog w altF0:=by
 intro c A Q E s hr _ h Γ p hc hΓ
 have h:=h Γ p hc hΓ
 have calm:=calm_of hc hΓ hr
 have hin:Γ.In (A.a.under c):=hc▸hΓ.1.in
 cases c with
 |builtin id args=>
  have h:Sem.wp (model prog w) Γ (altB0 id args) (fun a _ s'=>Q a s') (fun e _ s'=>E e s') p s:=h
  show Sem.wp (model prog w) Γ (denote table (.builtin id args)) _ _ p s
  unfold altB0 at h
  cases q1:S.eqLit 0x656f667171622f7a6273736266757a63 id with
  |true=>
   rw[q1]at h
   rw[eqLit_true (b:="bytearray.append") (by decide+kernel) q1]
   rw[den_of (b:=PySem.Builtin.«bytearray.append») (by kernel_rfl)];exact append_wp calm h
  |false=>
   rw[q1]at h
   cases q2:S.eqLit 0x656f667579662f7a6273736266757a63 id with
   |true=>
    rw[q2]at h
    rw[eqLit_true (b:="bytearray.extend") (by decide+kernel) q2]
    rw[den_of (b:=PySem.Builtin.«bytearray.extend») (by kernel_rfl)];exact extend_wp calm h
   |false=>
    rw[q2]at h
    cases q3:S.eqLit 0x6060756a6f6a60602f7a6273736266757a63 id with
    |true=>
     rw[q3]at h
     rw[eqLit_true (b:="bytearray.__init__") (by decide+kernel) q3]
     rw[den_of (b:=PySem.Builtin.«bytearray.__init__») (by kernel_rfl)];exact init_wp calm h
    |false=>
     rw[q3]at h
     cases q4:S.eqLit 0x60607579666f60602f7370756273666f6668 id with
     |true=>
      rw[q4]at h
      rw[eqLit_true (b:="generator.__next__") (by decide+kernel) q4]
      rw[den_of (b:=PySem.Builtin.«generator.__next__») (by kernel_rfl)];exact next_wp hin hr.dp h
     |false=>
      rw[q4]at h
      exact h.elim
 |_=>exact h.elim
noncomputable def isGenO(o:Obj):Bool:=match o with
 |⟨.type t,_,.fields ⟨[.int (.ofNat _) 0,_,_]⟩,⟨[]⟩⟩=>S.eqLit 2129479059828900849256 t
 |_=>false
noncomputable def isE0(o:Obj):Bool:=match o with
 |⟨.type t,none,.seq ⟨[]⟩ 0,⟨[]⟩⟩=>S.eqLit 1970563693 t
 |_=>false
noncomputable def lin3(S I:Addr)(b:Bool):Sem PySem.Fin:=@Bool.rec (fun _=>Sem PySem.Fin) (.unsupported "linit")
 (.update S none (Obj.mapSeq fun _=> #[]) fun _=>.update S none (Obj.mapSeq (·.push .none)) fun _=>.update S none (Obj.mapSeq (·.pop)) fun _=>.pure (.again (.builtin "list.extend.loop" ⟨[.ref S,.ref I,.none],[]⟩))) b
noncomputable def lin2(S I:Addr)(b:Bool):Sem PySem.Fin:=@Bool.rec (fun _=>Sem PySem.Fin) (.unsupported "linit") (.load S none fun o=>lin3 S I (isE0 o)) b
noncomputable def linitA(args:Args):Sem PySem.Fin:=match args with
 |⟨[.ref S,.ref I],[]⟩=>.load I none fun o=>lin2 S I (isGenO o)
 |_=>.unsupported "linit"
theorem isGenO_sh{o:Obj}(q:isGenO o=true):∃t m n x y,o=⟨.type t,m,.fields ⟨[.int (.ofNat n) 0,x,y]⟩,⟨[]⟩⟩∧S.eqLit 2129479059828900849256 t=true:=by
 obtain⟨c,m,d,l⟩:=o
 cases c with
 |type t=>
  cases d with
  |fields f=>
   obtain⟨_|⟨v,f⟩⟩:=f
   ·exact Bool.noConfusion q
   ·cases v with
    |int n t=>
     cases n with
     |ofNat n=>
      cases t with
      |zero=>
       obtain _|⟨x,_|⟨y,_|⟨z,f⟩⟩⟩:=f
       ·exact Bool.noConfusion q
       ·exact Bool.noConfusion q
       ·obtain⟨_|⟨x,l⟩⟩:=l
        ·exact⟨_,_,_,_,_,rfl,q⟩
        ·exact Bool.noConfusion q
       ·exact Bool.noConfusion q
      |succ=>exact Bool.noConfusion q
     |negSucc=>exact Bool.noConfusion q
    |_=>exact Bool.noConfusion q
  |_=>exact Bool.noConfusion q
 |_=>exact Bool.noConfusion q
theorem isGenO_some{o:Obj}{h:Heap}{a:Addr}(ho:h.get? a=some o)(q:isGenO o=true):∃g,h.IsGen a g:=by
 obtain⟨t,m,n,x,y,rfl,q⟩:=isGenO_sh q
 rw[eqLit_true (b:="generator") (by decide+kernel) q]at ho
 exact⟨_,_,_,_,ho,rfl,rfl,rfl⟩
theorem isE0_some{o:Obj}(q:isE0 o=true):o={cls:=.type "list",data:=.seq #[]}:=by
 obtain⟨c,m,d,l⟩:=o
 cases c with
 |type t=>
  cases m with
  |none=>
   cases d with
   |seq f e=>
    obtain⟨_|⟨v,f⟩⟩:=f
    ·cases e with
     |zero=>
      obtain⟨_|⟨x,l⟩⟩:=l
      ·rw[eqLit_true (b:="list") (by decide+kernel) q]
      ·exact Bool.noConfusion q
     |succ=>exact Bool.noConfusion q
    ·exact Bool.noConfusion q
   |_=>exact Bool.noConfusion q
  |some=>exact Bool.noConfusion q
 |_=>exact Bool.noConfusion q
theorem linitA_sh{args:Args}{Γ:PySem.Ctx}{Q:PySem.Fin→Pos→Shared→Prop}{E:Value→Pos→Shared→Prop}{p:Pos}{s:Shared}(h:Sem.wp (model prog w) Γ (linitA args) Q E p s):∃S I,args=⟨[.ref S,.ref I],[]⟩:=by
 obtain⟨_|⟨a,l⟩,k⟩:=args
 ·exact h.elim
 ·cases a with
  |ref S=>
   obtain _|⟨b,l⟩:=l
   ·exact h.elim
   ·cases b with
    |ref I=>
     obtain _|⟨c,l⟩:=l
     ·cases k with
      |nil=>exact⟨_,_,rfl⟩
      |cons=>exact h.elim
     ·exact h.elim
    |_=>exact h.elim
  |_=>exact h.elim
theorem linit_wp{Γ:PySem.Ctx}{A:Around}(hΓ:Γ.In A){args:Args}{Q:PySem.Fin→Shared→Prop}{E:Value→Shared→Prop}{p:Pos}{s:Shared}(h:Sem.wp (model prog w) Γ (linitA args) (fun a _ s'=>Q a s') (fun e _ s'=>E e s') p s):
  Sem.wp (model prog w) Γ (PySem.Builtin.«list.__init__» args) (fun a _ s'=>Q a s') (fun e _ s'=>E e s') p s:=by
 obtain⟨S,I,rfl⟩:=linitA_sh h
 obtain⟨oI,hI,h⟩:=h
 have h:Sem.wp (model prog w) Γ (lin2 S I (isGenO oI)) (fun a _ s'=>Q a s') (fun e _ s'=>E e s') p s:=h
 cases q1:isGenO oI with
 |false=>rw[q1]at h;exact h.elim
 |true=>
  rw[q1]at h
  obtain⟨oS,hS,h⟩:=h
  have h:Sem.wp (model prog w) Γ (lin3 S I (isE0 oS)) (fun a _ s'=>Q a s') (fun e _ s'=>E e s') p s:=h
  cases q2:isE0 oS with
  |false=>rw[q2]at h;exact h.elim
  |true=>
   rw[q2]at h
   obtain⟨g,hg⟩:=isGenO_some hI q1
   rw[isE0_some q2]at hS
   obtain⟨-,-,-,h⟩:_∧_∧_∧Q _ _:=by
    obtain⟨a1,a2,a3,h⟩:=h
    exact⟨a1,a2,a3,h⟩
   have hSI:S≠I:=by
    intro e
    obtain⟨o,_,_,ho,hc,_⟩:=hg
    rw[←e,hS]at ho
    cases ho
    exact absurd hc (by decide)
   have hS2:=Heap.get?_update_self (Obj.mapSeq (fun _=>(#[]:Array Value))) hS rfl
   have hg2:({s with heap:=s.heap.update S (Obj.mapSeq fun _=>(#[]:Array Value))}:Shared).heap.IsGen I g:=by
    obtain⟨o,nm,qn,ho,r⟩:=hg
    exact⟨o,nm,qn,(Heap.get?_update_other _ _ hSI).trans ho,r⟩
   have key:PySem.wpAny (model prog w) A (PySem.Builtin.«list.__init__» ⟨[.ref S,.ref I],[]⟩) Q E s:=by
    show PySem.wpAny _ A (do let old ←Builtin.List.listItems (.ref S);Builtin.List.listUpdate (.ref S) (fun _=> #[]);letGo old.toList.reverse;Builtin.List.listExtendWith (.ref S) (.ref I) .none) _ _ s
    refine PySem.wpAny_bind ?_
    unfold Builtin.List.listItems
    refine PySem.wpAny_bind (wpAny_seqItems hS rfl (PySem.wpAny_pure ?_))
    show PySem.wpAny _ A (updateSeq S (fun _=> #[]) >>= fun _=>letGo (#[]:Array Value).toList.reverse >>= fun _=>Builtin.List.listExtendWith (.ref S) (.ref I) .none) _ _ s
    refine PySem.wpAny_bind (wpAny_updateSeq hS rfl ?_)
    refine PySem.wpAny_bind (wpAny_letGo ?_)
    unfold Builtin.List.listExtendWith
    refine PySem.wpAny_bind (wpAny_typeOf (T:="generator") hg2.typeIs ?_)
    have h1:Builtin.List.listSameRef (.ref S) (.ref I)=false:=by simp[Builtin.List.listSameRef,hSI]
    have h2:(Value.type "generator"==Value.type "list")=false:=by decide
    have h3:(Value.type "generator"==Value.type "tuple")=false:=by decide
    simp only[h1,h2,h3,Bool.or_false,Bool.false_eq_true,if_false]
    refine PySem.wpAny_bind (wpAny_pyIter_gen hg2 ?_)
    refine PySem.wpAny_bind (PySem.wpAny_holding ?_)
    unfold Builtin.List.listLengthHint
    refine PySem.wpAny_bind (wpAny_specialOf hg2.typeIs F.gen_no_len ?_)
    show PySem.wpAny _ A (specialOf (Value.ref I) (Str.ofString "__length_hint__") >>= _) _ _ _
    refine PySem.wpAny_bind (wpAny_specialOf hg2.typeIs F.gen_no_hint ?_)
    refine PySem.wpAny_pure ?_
    show PySem.wpAny _ A (rule "list.extend.makes-room" >>= fun _=>Builtin.List.listTouch (.ref S) >>= fun _=>
     again (.builtin "list.extend.loop" ⟨[.ref S,.ref I,.none],[]⟩)) _ _ _
    refine PySem.wpAny_bind (PySem.wpAny_rule ?_)
    refine PySem.wpAny_bind ?_
    show PySem.wpAny _ A (updateSeq S (·.push .none) >>= fun _=>updateSeq S (·.pop)) _ _ _
    refine PySem.wpAny_bind (wpAny_updateSeq hS2 rfl ?_)
    have hS3:=Heap.get?_update_self (Obj.mapSeq (·.push Value.none)) hS2 rfl
    refine wpAny_updateSeq (hz:=by seq_fits) hS3 rfl ?_
    exact PySem.wpAny_pure h
   exact key Γ p hΓ
noncomputable def altB(id:String)(args:Args):Sem PySem.Fin:=@Bool.rec (fun _=>Sem PySem.Fin) (altB0 id args) (linitA args) (S.eqLit 7635756109259221455878126594669 id)
noncomputable def altF(c:Code):Sem PySem.Fin:=match c with
 |.builtin id args=>altB id args
 |_=>.unsupported "alt"
theorem alt_ok:AltOk prog w altF:=by
 intro c A Q E s hr hs h
 cases c with
 |builtin id args=>
  have h:wpOwn (model prog w) A (.builtin id args) (altB id args) Q E s:=h
  unfold altB at h
  cases q:S.eqLit 7635756109259221455878126594669 id with
  |true=>
   rw[q]at h
   rw[eqLit_true (b:="list.__init__") (by decide+kernel) q]at h ⊢
   intro Γ p hc hΓ
   show Sem.wp (model prog w) Γ (denote table (.builtin "list.__init__" args)) _ _ p s
   rw[den_of (b:=PySem.Builtin.«list.__init__») (by kernel_rfl)]
   exact linit_wp (hc▸hΓ.1.in) (h Γ p hc hΓ)
  |false=>
   rw[q]at h
   exact alt_ok0 (.builtin id args) A Q E s hr hs h
 |_=>exact alt_ok0 _ A Q E s hr hs h
end
noncomputable def orB(a b:Bool):Bool:=@Bool.rec (fun _=>Bool) b true a
theorem orB_true{a b:Bool}(h:orB a b=true):a=true∨b=true:=by
 cases a
 ·exact .inr h
 ·exact .inl rfl
noncomputable def badIds:List Nat:=[(kq 4 0x75746a6d (k_bJ 0x7170706d2f)),(kq 5 0x666d717675 (k_bJ 0)),(kq 4 0x75646a65 (k_bJ 0)),(kq 5 0x666d717675 (k_bJ 0x7366656f762f)),(kq 4 0x75646a65 (k_bJ 0x7366656f762f)),(kq 23 0x75646a45656673666573502f746f706a7564666d6d7064 (k_bJ 0)),(kq 23 0x75646a65756d76626766652f746f706a7564666d6d7064 (k_bJ 0x7a7370756462672f)),(kq 17 0x66767266652f746f706a7564666d6d7064 (k_bJ 0)),(kq 21 0x6664627174666e624f666d716e6a542f7466717a75 (k_bJ 0)),(kq 16 0x7a79707351746d6264704d666e627347 (k_bJ 0)),(kq 17 0x6d626a757362712f746d707075646f7667 (k_bJ 0)),0x60606d6d626460602f6d626a757362712f746d707075646f7667,0x6060746f6a62756f706460602f7a6273736266757a63,0x656d66692f656f6a672f7a6273736266757a63,0x606065706e60602f7a6273736266757a63,0x606065706e7360602f7a6273736266757a63,0x656d66692f70756f6a606c6462712f75647673757460,0x6c6462712f7564767375542f75647673757460,(k_by 0x757966752f666570646665),(k_by (kq 5 0x3960677576 (k_bA 0))),(k_by (kq 5 0x6a6a647462 (k_bA 0))),(k_by (kq 6 0x373260677576 (k_bA 0))),(k_by (kq 9 0x666d60373260677576 (k_bA 0))),(k_by (kq 9 0x666360373260677576 (k_bA 0))),(k_by (kq 9 0x796660373260677576 (k_bA 0))),(k_by (kq 6 0x333460677576 (k_bA 0))),(k_by (kq 9 0x666d60333460677576 (k_bA 0))),(k_by (kq 9 0x666360333460677576 (k_bA 0))),(k_by (kq 9 0x796660333460677576 (k_bA 0))),(k_by (kq 5 0x3860677576 (k_bA 0))),(k_by (kq 7 0x71626e73626964 (k_bA 0))),(k_by (kq 14 0x66716264746660666570646a6f76 (k_bA 0))),(k_by (kq 18 0x66716264746660666570646a6f7660786273 (k_bA 0))),0x73666d6d62642f6e6a626d64,0x6562706d2f757370716e6a2f7075707371,0x646679662f757370716e6a2f7075707371]
theorem badIds_eq:badIds=(guardIds++PySem.Builtin.Bytes.decodersThatHold++["claim.caller","proto.\x69mport.load","proto.\x69mport.exec"]).map PySem.code:=by decide+kernel
noncomputable def anyId(id:String)(l:List Nat):Bool:=@List.rec Nat (fun _=>Bool) false (fun n _ r=>orB (S.eqLit n id) r) l
theorem anyId_false{id:String}:∀{l:List Nat},anyId id l=false→∀b,PySem.code b∈l→id≠b
 |n::l,h,b,hb=>by
  have h:orB (S.eqLit n id) (anyId id l)=false:=h
  cases q:S.eqLit n id with
  |true=>rw[q]at h;cases h
  |false=>
   rw[q]at h
   rcases List.mem_cons.mp hb with e|hb
   ·intro z
    have:=congrFun (S.eqLit_eq b n e) id
    rw[q,z]at this
    simp at this
   ·exact anyId_false h b hb
noncomputable def plainId1(id:String):Bool:=notB (anyId id badIds)
noncomputable def plF(c:Code):Bool:=match c with
 |.builtin id _=>plainId1 id
 |_=>true
theorem ite_le1(b:Prop)[Decidable b]:(if b then 1 else 0)≤1:=by split<;>decide
theorem dn_le{id b:String}{a:id=b→Nat}{e:¬id=b→Nat}(ha:∀h,a h≤1)(he:∀h,e h≤1):dite (id=b) a e≤1:=by
 by_cases h:id=b
 ·rw[dif_pos h];exact ha h
 ·rw[dif_neg h];exact he h
theorem plainId1_ok{id:String}(h:plainId1 id=true)(args:Args):(((Code.builtin id args).isGuard=false∧(Code.builtin id args).isCaller=false)∧(Code.builtin id args).frames≤1)∧nd (.builtin id args):=by
 have q:anyId id badIds=false:=by
  unfold plainId1 at h
  cases q:anyId id badIds with
  |false=>rfl
  |true=>rw[q]at h;cases h
 have ne:∀b,b∈guardIds++PySem.Builtin.Bytes.decodersThatHold++["claim.caller","proto.\x69mport.load","proto.\x69mport.exec"]→id≠b:=fun b hb=>anyId_false q b (by rw[badIds_eq];exact List.mem_map_of_mem hb)
 have no:∀l:List String,(∀b∈l,id≠b)→l.contains id=false:=fun l h=>by
  rw[←Bool.not_eq_true,List.contains_iff_mem]
  exact fun hm=>h id hm rfl
 refine⟨⟨⟨no _ fun b hb=>ne b (by simp[hb]),?_⟩,?_⟩,no _ fun b hb=>ne b (by simp[hb])⟩
 ·have:=ne "claim.caller" (by simp)
  unfold Code.isCaller
  split
  ·rename_i e;injection e with e _;exact absurd e this
  ·rfl
 ·have h1:=ne "proto.\x69mport.load" (by simp)
  have h2:=ne "proto.\x69mport.exec" (by simp)
  clear ne no q h
  delta Code.frames Code.frames.match_1
  refine Nat.le_trans (Nat.le_of_eq (dif_neg h1)) (Nat.le_trans (Nat.le_of_eq (dif_neg h2)) ?_)
  refine dn_le (fun h=>by subst h;exact Nat.le_refl _) fun _=>dn_le (fun h=>by subst h;exact Nat.le_refl _) fun _=>dn_le (fun h=>by subst h;exact Nat.le_refl _) fun _=>dn_le (fun h=>by subst h;exact Nat.le_refl _) fun _=>dn_le (fun h=>by subst h;exact Nat.le_refl _) fun _=>dn_le (fun h=>by subst h;exact Nat.le_refl _) fun _=>dn_le (fun h=>by subst h;exact Nat.le_refl _) fun _=>ite_le1 _
theorem plF_ok:PlainOk plF:=by
 intro c h
 cases c with
 |builtin id args=>exact plainId1_ok h args
 |_=>exact⟨⟨⟨rfl,rfl⟩,by unfold Code.frames;exact ite_le1 (Code.isFrame _=true)⟩,trivial⟩
noncomputable def quietF:Code→Bool:=PySem.W.ZFast.zw17772548960776305114
theorem quietF_eq:Code.quiet=quietF:=PySem.W.ZFast.ze17772548960776305114
noncomputable def parT(P:Params)(b1 b2:Bool):Params:={P with followText:=fun r=>@Bool.rec (fun _=>Bool) (@Bool.rec (fun _=>Bool) (P.followText r) b2 (S.eqLit 0x66646a78752e7366756a2e6f706a746f66696673716e7064 r)) b1 (S.eqLit 0x7466746a62732e7566682e6d626a64667174 r)}
abbrev Kq(P:Params)(b1 b2:Bool):KT:=KTp (parT P b1 b2)
abbrev CO(w:World)(P:Params)(b1 b2:Bool)(nt:Nat)(C:Con):Prop:=ConOk pw w (Kq P b1 b2) nt C
theorem parT_eq(P:Params):P=parT P (P.followText "special-get-raises") (P.followText "comprehension-iter-twice"):=by
 have:P.followText=fun r=>@Bool.rec (fun _=>Bool) (@Bool.rec (fun _=>Bool) (P.followText r) (P.followText "comprehension-iter-twice") (S.eqLit 0x66646a78752e7366756a2e6f706a746f66696673716e7064 r)) (P.followText "special-get-raises") (S.eqLit 0x7466746a62732e7566682e6d626a64667174 r):=by
  funext r
  cases h:S.eqLit 0x7466746a62732e7566682e6d626a64667174 r with
  |true=>rw[eqLit_true (b:="special-get-raises") (by decide+kernel) h]
  |false=>
   cases h2:S.eqLit 0x66646a78752e7366756a2e6f706a746f66696673716e7064 r with
   |true=>rw[eqLit_true (b:="comprehension-iter-twice") (by decide+kernel) h2]
   |false=>rfl
 cases P
 unfold parT
 simp only at this ⊢
 rw[←this]
noncomputable def VV(kt:KT)(P:Params)(need:Nat):Par:=⟨PySem.Challenge.pw_nt0135_01,P,kt,treeF,altF,quietF,plF,need,none⟩
theorem env_ok{w:World}{kt:KT}{P:Params}(hP:w.params=P)(need:Nat):EnvOk PySem.Challenge.pw_nt0135_01 w (VV kt P need):=by
 refine⟨rfl,.inl ⟨hP,rfl⟩,tree_ok,alt_ok,?_,plF_ok,?_⟩
 ·intro c h
  rw[quietF_eq];exact h
 ·intro c h
  cases c with
  |builtin=>cases h
  |_=>rfl
noncomputable def VB(kt:KT)(P:Params)(b2:Bool)(need:Nat):Par:=⟨PySem.Challenge.pw_nt0135_01,parT P false b2,kt,treeF,altF,quietF,plF,need,some (parT P true b2)⟩
theorem env_okB{w:World}{kt:KT}{P:Params}{b1 b2:Bool}(hP:w.params=parT P b1 b2)(need:Nat):EnvOk PySem.Challenge.pw_nt0135_01 w (VB kt P b2 need):=by
 refine⟨rfl,.inr ⟨_,rfl,?_⟩,tree_ok,alt_ok,?_,plF_ok,?_⟩
 ·cases b1
  ·exact .inl hP
  ·exact .inr hP
 ·intro c h
  rw[quietF_eq];exact h
 ·intro c h
  cases c with
  |builtin=>cases h
  |_=>rfl
end Mine
set_option maxHeartbeats 0
namespace Mine
open PySem PySem.W PySem.W.X PySem.Spec PySem.Calls PyProof.Rows
noncomputable def dLaw:DefRec:=⟨Str.ofString "law",kA (kF 68),kB (kF 68),kC (kF 68),hP1⟩
abbrev rowL:OpenRow:=PySem.Challenge.rw_nt0135_01.row
theorem kt_of(P:Params):KT.of (KTl P)=KTp P:=by kernel_rfl
theorem ktl_as(P:Params):KTas=(KTl P).map (·.1):=by kernel_rfl
theorem ints_len:∀{vs:List Value}{ns:List Int},IntsAre vs ns→vs.length=ns.length
 |_,_,.nil=>rfl
 |_,_,.cons _ _ h=>congrArg Nat.succ (ints_len h)
theorem zh3(K:Frag)(t:KT)(h:Heap)(e:KT.of K=t)(A:AllIn h K):KT.Holds h 1 0 t:=e▸holds_of A
noncomputable def AllK(P:Params)(h:Heap):Prop:=AllIn h (KTl P)
theorem zh_of(P:Params)(h:Heap)(A:AllK P h):KT.Holds h 1 0 (KTp P):=zh3 (KTl P) (KTp P) h (kt_of P) A
theorem walk0(hlaw:∀(w:World)(P:Params)(b1 b2:Bool),w.params=parT P b1 b2→∀(scr:Addr)(vs:Array Value)(ep:Nat),vs.size<1000→(vs= #[]∨∃c tc,vs[0]?=some (.int c tc))→
  COk pw w (Kq P b1 b2) 939 ⟨.call (.ref 938) ⟨[.ref scr],[]⟩,[(scr,{cls:=.type "list",data:=.seq vs ep})],fun _=>.bool true,fun _=>[{cls:=.type "list",data:=.seq vs ep}],fun _=>[],12,some ([],[.finished]),false,false⟩):
  Mh.Walk0 q0 loose0 (fun _ _=>True) (obsZ KTas) Ya0 rowL.toRowW dLaw []:=by
 intro w s₀ s₁ mg mb G y a o pm cd doc dV kV ho hd hcd hD hmg hg args vals as L hpre hlay hrd hwl hlo
 refine Ground.open G ?_
 intro T B D TE TW
 have Z:=z_facts (K:=KTl) ktl_as (n:=939) (t:=1623) y
 have KX:Frag.In (KTl w.params) s₁.heap:=InK.keeps w s₀.heap s₁.heap Z.2.1 L.keeps
 have ZH0:KT.Holds s₀.heap 1 0 (KTp w.params):=zh_of w.params s₀.heap Z.1
 have ZH:KT.Holds s₁.heap 1 0 (KTp w.params):=KT.Holds.keeps L.keeps ZH0
 wrow_args hpre hlay hrd hwl hlo
 rename_i ns _ _ _ _ _ _ _ scr its _ hL _ _ _ hI _ _ _
 obtain⟨hat,hsz⟩:=script_at L
 have hso:=script_obj L hL
 rw[Z.2.2.1]at hat hsz
 have hfa:a=938:=by
  have e1:=mg_of (n:=dLaw.name) (v:=.ref 938) KX T.g (by kernel_rfl)
  rw[hmg]at e1
  exact Value.ref.inj (Option.some.inj e1)
 subst hfa
 subst hat
 have hpar:=parT_eq w.params
 generalize w.params.followText "special-get-raises"=b1 at hpar
 generalize w.params.followText "comprehension-iter-twice"=b2 at hpar
 have top:TopF (KTp w.params) 939 s₁.heap:=⟨fun b x e=>⟨by have:=Heap.lt_size (kt_at ZH0 e);rw[Z.2.2.1]at this;exact this,kt_at ZH e⟩,T.nolimit,by decide⟩
 rw[hpar]at top
 have sz:its.toArray.size<1000:=by
  have e:=ints_len hI
  have:ns.length≤63:=by omega
  rw[List.size_toArray,e];omega
 have fst:its.toArray= #[]∨∃c tc,its.toArray[0]?=some (.int c tc):=by
  cases hI with
  |nil=>exact .inl rfl
  |cons n t _=>exact .inr ⟨n,t,rfl⟩
 have hl:=hlaw w w.params b1 b2 hpar 939 its.toArray 0 sz fst
 show wpAny _ _ (runValue (.call (.ref 938) ⟨[.ref 939],[]⟩)) _ _ _
 unfold runValue
 refine Mh.wpAny_then ?_
 refine x_call (hd:=none) ?_ (fun q=>nomatch q)
 refine hl (Mh.Ar0.mark none) s₁ _ ?_ ?_ ?_
 ·exact⟨trivial,rfl,rfl,Nat.le_of_ble_eq_true rfl,Nat.le_of_ble_eq_true rfl⟩
 ·refine⟨top,by rw[hsz];decide,fun p hp=> ?_,by simp,fun g e=> ?_⟩
  ·rcases List.mem_singleton.mp hp with rfl
   exact⟨hso,Nat.le_refl 939⟩
  ·cases e;exact hg
 ·intro X h' t' P
  have kp:∀b o,s₁.heap.get? b=some o→h'.get? b=some o:=fun b o e=>by
   by_cases hb:b=939
   ·subst hb
    rw[hso]at e
    cases e
    exact P.post 0 _ _ rfl rfl
   ·exact P.keep b o e (by simpa using hb)
  refine wpAny_pure ?_
  refine wpAny_pure ?_
  refine⟨.inl ⟨_,_,[],rfl,fun _=>rfl,ReadsW.bool true,?_,fun _=>⟨List.nodup_nil,fun _ hm=>(nomatch hm)⟩⟩,OldK.of_keep kp,rfl,allBare_of _ rfl⟩
  wrow_post
end Mine
set_option maxHeartbeats 0
namespace Mine
open PySem PySem.W PySem.W.X PySem.Spec PySem.Calls PyProof.Rows
noncomputable def hRun(W:World)(os:OsState):Option (Flow×SharedT×Code×Pos):=
 segRunT treeTable pw W 11 (some (.ref 6)) 1 6789 (hS1 W.params os) (piecesOf hBody hEnv hC hP0 hB)
noncomputable def hRunQ(W:World)(os:OsState):Option (Flow×SharedT×Code×Pos):=
 PySem.W.Fast.tw10110043849684766642 PySem.W.Fast.tw14364793385576792824 pw W 11 (some (.ref 6)) 1 6789 (hS1 W.params os) ⟨(PySem.W.Fast.tw12563942051412417395 hBody hEnv).wrap doneF deadEnd id id,hC,hP0,hB⟩
theorem hRunE(W:World)(os:OsState):hRun W os=hRunQ W os:=by
 unfold hRun hRunQ piecesOf
 rw[←PySem.W.Fast.te10110043849684766642,←PySem.W.Fast.te14364793385576792824,←PySem.W.Fast.te12563942051412417395]
noncomputable def hRunOk(W:World):Prop:=∀os,(hRunQ W os).map (fun r=>(r.1,r.2.2.1,r.2.2.2,hSeen W.params r.2.1))=some (.next,hC,hP1,(true,openGood q0 loose0,Ya0 W))
theorem hGet{t:PySem.W.BT}{n:Nat}{life:Life}:∀(as:List Nat)(l:List (Nat×Obj)),(as.all fun a=>Nat.blt a n)=true→(as.map fun a=>(t.get a).bind alive)=l.map (fun p=>some p.2)→as.map (absHeap t n life).get?=l.map (fun p=>some p.2)
 |[],[],_,_=>rfl
 |[],_::_,_,h=>by cases h
 |_::_,[],_,h=>by cases h
 |a::as,p::l,hb,h=>by
  rw[List.all_cons,Bool.and_eq_true]at hb
  rw[List.map_cons,List.map_cons]at h ⊢
  injection h with h1 h2
  rw[hGet as l hb.2 h2]
  congr 1
  obtain⟨o,ho,hp⟩:=Option.bind_eq_some_iff.mp h1
  rw[abs_get (Nat.le_of_ble_eq_true hb.1) ho,hp]
theorem hFin(W:World)(s:SharedT):topRun treeTable pw W 11 (some (.ref 6)) 2 s.abs ⟨doneF .next,hC,hP1,hB⟩=some s.abs:=by
 obtain⟨T,n,life,gens,drawn,toks,os⟩:=s
 kernel_rfl
theorem hAbs1(P:Params)(os:OsState):(hS1 P os).abs=⟨⟨⟨hObs1 P⟩,{}⟩,#[],boot_drawn,187,os⟩:=by kernel_rfl
theorem hPre(w:World)(os:OsState):topGo treeTable pw w 11 (some (.ref 6)) 12 ⟨boot_heap w.params,#[],boot_drawn,boot_toks,os⟩ (topStub pw)
  =some (⟨⟨⟨hObs1 w.params⟩,{}⟩,#[],boot_drawn,187,os⟩,⟨denote treeTable hC,hC,hP0,hB⟩):=by kernel_rfl
theorem hBlock(w:World)(os:OsState):segRun treeTable pw w 11 (some (.ref 6)) 1 1 ⟨⟨⟨hObs1 w.params⟩,{}⟩,#[],boot_drawn,187,os⟩ (blockOf hBody hEnv hC hP0 hB)
  =some (.next,⟨⟨⟨hObs1 w.params⟩,{}⟩,#[],boot_drawn,187,os⟩,hC,hP0):=by kernel_rfl
theorem hWhole(W:World)(os:OsState)(s:SharedT)(h:hRun W os=some (.next,s,hC,hP1)):
  topRun treeTable pw W 11 (some (.ref 6)) 7000 ⟨boot_heap W.params,#[],boot_drawn,boot_toks,os⟩ (topStub pw)=some s.abs:=by
 have r:=segRun_of h
 rw[hAbs1]at r
 have k:=piece_app (rest:=[]) r (piece_nil (hFin W s))
 rw[List.append_nil]at k
 have k2:=go_top (hPre W os) (piece_block (hBlock W os) k)
 rw[show(7000:_root_.Nat)=12+(1+(6789+2))+196 from rfl]
 exact topRun_mono 196 _ _ _ _ k2
theorem hSide(W:World)(h:hRunOk W)(os:OsState):(topFrom treeTable pw W 7000 ⟨boot_heap W.params,#[],boot_drawn,boot_toks,os⟩).map (fun s=>(openSeen q0 loose0 (importedModules pw.main.body) (fun _=>true) true s,obsZ KTas s))=some (openGood q0 loose0,Ya0 W):=by
 obtain⟨⟨f,s,c,p⟩,hr,e⟩:=Option.map_eq_some_iff.mp (h os)
 obtain⟨rfl,rfl,rfl,e1⟩:f=.next∧c=hC∧p=hP1∧hSeen W.params s=(true,openGood q0 loose0,Ya0 W):=by simpa only[Prod.mk.injEq]using e
 have k:=hWhole W os s ((hRunE W os).trans hr)
 have l1:=congrArg Prod.fst e1
 have l2:=congrArg (fun x=>x.2.1) e1
 have l3:=congrArg (fun x=>x.2.2) e1
 have z1:((boot_heap W.params).isNs mainGlobals&&(#[]:Array GenState).size==0)=true:=by kernel_rfl
 have z2:(boot_heap W.params).objs.size=11:=by kernel_rfl
 have z3:(boot_heap W.params).nsMap mainGlobals "__annotations__"=some (.ref 6):=by kernel_rfl
 have l0:(staticsOk (importedModules pw.main.body) (boot_heap W.params) s.abs.heap&&namesBound pw s.abs.heap&&gensDone s.abs&&laidKept (boot_heap W.params) s.abs.heap)=true:=l1
 have t:topFrom treeTable pw W 7000 ⟨boot_heap W.params,#[],boot_drawn,boot_toks,os⟩=some s.abs:=by
  unfold topFrom
  dsimp only
  rw[z1,z2,z3,k]
  show(match staticsOk (importedModules pw.main.body) (boot_heap W.params) s.abs.heap&&namesBound pw s.abs.heap&&gensDone s.abs&&laidKept (boot_heap W.params) s.abs.heap with|true=>some s.abs|false=>none)=_
  rw[l0]
 rw[t,Option.map_some]
 have y:obsZ KTas s.abs=Ya0 W:=by
  have y1:(KTas.map fun a=>(s.tree.get a).bind alive)=(KTl W.params).map (fun p=>some p.2):=congrArg Prod.fst l3
  have y2:s.n=939:=congrArg (fun x=>x.2.1) l3
  have y3:s.toks=1623:=congrArg (fun x=>x.2.2) l3
  have b:(KTas.all fun a=>Nat.blt a s.n)=true:=by rw[y2];kernel_rfl
  show(KTas.map (absHeap s.tree s.n s.life).get?,(absHeap s.tree s.n s.life).objs.size,s.toks)=_
  rw[hGet KTas (KTl W.params) b y1,absHeap_size,y2,y3]
  rfl
 have x:openSeen q0 loose0 (importedModules pw.main.body) (fun _=>true) true s.abs=openGood q0 loose0:=by
  rw[PySem.W.Fast.te4187177175401517315]
  exact l2
 rw[x,y]
theorem hBoot(w:World)(b:Bool):boot_heap (w.withFollow "special-get-raises" b).params=boot_heap w.params:=by kernel_rfl
theorem left0(h:∀(w:World) b,hRunOk (w.withFollow "special-get-raises" b)):LeftO pw q0 loose0 (fun _=>true) (obsZ KTas) Ya0 7000:=by
 refine LeftO.of_split "special-get-raises" fun w=> ?_
 have h0:=boot_open (p:=pw) (N:=7000) (by kernel_rfl) rfl (fun s=>by kernel_rfl) w
 obtain⟨⟨hp,gs,dr,tk,os⟩,hs,hv⟩:=Option.map_eq_some_iff.mp h0
 obtain⟨rfl,rfl,rfl,rfl⟩:hp=boot_heap w.params∧gs= #[]∧dr=boot_drawn∧tk=boot_toks:=by simpa only[Prod.mk.injEq]using hv
 rw[hs,Option.map_some]
 have a:=hSide _ (h w false) os
 have c:=hSide _ (h w true) os
 rw[hBoot]at a c
 rw[a,c]
theorem hRunF(w:World):hRunOk (w.withFollow "special-get-raises" false):=by intro os;kernel_rfl
theorem hRunT(w:World):hRunOk (w.withFollow "special-get-raises" true):=by intro os;kernel_rfl
theorem left1:LeftO pw q0 loose0 (fun _=>true) (obsZ KTas) Ya0 7000:=left0 fun w b=>by cases b;exact hRunF w;exact hRunT w
end Mine
namespace Mine
open PySem PySem.W PySem.W.X PySem.Spec PySem.Calls PyProof.Rows
section
noncomputable def nlB(l:List Nat):List Nat→Bool:=@List.rec Nat (fun _=>List Nat→Bool) (fun k=>@List.rec Nat (fun _=>Bool) true (fun _ _ _=>false) k) (fun n _ r k=>@List.rec Nat (fun _=>Bool) false (fun m k _=>andB (Nat.beq n m) (r k)) k) l
theorem nlB_eq:∀(l k:List Nat),nlB l k=(l==k)
 |[],[]=>rfl
 |[],_::_=>rfl
 |_::_,[]=>rfl
 |n::l,m::k=>by
  show andB (Nat.beq n m) (nlB l k)=(n==m&&l==k)
  rw[nlB_eq l k,BT.beq_eq]
  show andB (n==m) (l==k)=_
  cases n==m<;>rfl
noncomputable def strB(x y:Str):Bool:=nlB x.cps.toList y.cps.toList
theorem strB_eq(x y:Str):strB x y=(x==y):=by
 obtain⟨⟨l⟩⟩:=x
 obtain⟨⟨k⟩⟩:=y
 show nlB l k=_
 rw[nlB_eq]
 by_cases h:l=k
 ·subst h;simp
 ·have:¬((⟨⟨l⟩⟩:Str)=⟨⟨k⟩⟩):=fun e=>h (by injection e with e;injection e)
  rw[beq_eq_false_iff_ne.mpr h,beq_eq_false_iff_ne.mpr this]
noncomputable def intB(i j:Int):Bool:=@Int.rec (fun _=>Bool) (fun n=>@Int.rec (fun _=>Bool) (fun m=>Nat.beq n m) (fun _=>false) j) (fun n=>@Int.rec (fun _=>Bool) (fun _=>false) (fun m=>Nat.beq n m) j) i
theorem intB_eq(i j:Int):intB i j=(i==j):=by
 cases i<;>cases j<;>first|rfl|skip
 all_goals rename_i n m
 ·show Nat.beq n m=_
  rw[BT.beq_eq,Bool.eq_iff_iff,decide_eq_true_eq,beq_iff_eq]
  exact⟨fun e=>by rw[e],fun e=>by injection e⟩
 ·show Nat.beq n m=_
  rw[BT.beq_eq,Bool.eq_iff_iff,decide_eq_true_eq,beq_iff_eq]
  exact⟨fun e=>by rw[e],fun e=>by injection e⟩
noncomputable def sKeys(l:List DictEntry):Bool:=@List.rec DictEntry (fun _=>Bool) true (fun e _ r=>match e.key with|.str _ _=>r|_=>false) l
noncomputable def iKeys(l:List DictEntry):Bool:=@List.rec DictEntry (fun _=>Bool) true (fun e _ r=>match e.key with|.int k _=>andB (intB e.hash (hashInt k)) r|_=>false) l
noncomputable def sFind(s:Str)(l:List DictEntry):Nat→Option Nat:=@List.rec DictEntry (fun _=>Nat→Option Nat) (fun _=>none) (fun e _ r i=>match e.key with|.str x _=>@Bool.rec (fun _=>Option Nat) (r (Nat.succ i)) (some i) (strB x s)|_=>r (Nat.succ i)) l
noncomputable def iFind(k:Int)(l:List DictEntry):Nat→Option Nat:=@List.rec DictEntry (fun _=>Nat→Option Nat) (fun _=>none) (fun e _ r i=>match e.key with|.int x _=>@Bool.rec (fun _=>Option Nat) (r (Nat.succ i)) (some i) (intB k x)|_=>r (Nat.succ i)) l
noncomputable def look(key:Value)(es:List DictEntry):Option (Option Nat):=match key with
 |.str s _=>@Bool.rec (fun _=>Option (Option Nat)) none (some (sFind s es 0)) (sKeys es)
 |.int k _=>@Bool.rec (fun _=>Option (Option Nat)) none (some (iFind k es 0)) (iKeys es)
 |_=>none
noncomputable def hashK(w:World)(key:Value):Int:=match key with
 |.str s _=>hashStr w s
 |.int k _=>hashInt k
 |_=>0
theorem shift_map(i:Nat)(o:Option Nat):o.map (· +Nat.succ i)=(o.map (· +1)).map (· +i):=by
 cases o with
 |none=>rfl
 |some n=>show some (n+(i+1))=some (n+1+i);congr 1;omega
theorem find_step{p:DictEntry→Bool}{e:DictEntry}{l:List DictEntry}{i:Nat}{b:Bool}(hb:p e=b):@Bool.rec (fun _=>Option Nat) ((l.findIdx? p).map (· +Nat.succ i)) (some i) b=((e::l).findIdx? p).map (· +i):=by
 rw[List.findIdx?_cons,hb]
 cases b with
 |true=>show some i=some (0+i);rw[Nat.zero_add]
 |false=>exact shift_map i _
theorem sFind_eq(s:Str):∀(l:List DictEntry)(i:Nat),sFind s l i=(l.findIdx? fun e=>e.key.isStr s).map (· +i)
 |[],_=>rfl
 |e::l,i=>by
  have ih:=sFind_eq s l (Nat.succ i)
  have q:sFind s (e::l) i=(match e.key with|.str x _=>@Bool.rec (fun _=>Option Nat) (sFind s l (Nat.succ i)) (some i) (strB x s)|_=>sFind s l (Nat.succ i)):=rfl
  rw[q,ih]
  cases hk:e.key with
  |str x t=>
   show @Bool.rec (fun _=>Option Nat) _ (some i) (strB x s)=_
   exact find_step (by rw[hk,strB_eq];rfl)
  |_=>exact find_step (b:=false) (by rw[hk];rfl)
theorem iFind_eq(k:Int):∀(l:List DictEntry)(i:Nat),iFind k l i=(l.findIdx? fun e=>Value.isInt k e.key).map (· +i)
 |[],_=>rfl
 |e::l,i=>by
  have ih:=iFind_eq k l (Nat.succ i)
  have q:iFind k (e::l) i=(match e.key with|.int x _=>@Bool.rec (fun _=>Option Nat) (iFind k l (Nat.succ i)) (some i) (intB k x)|_=>iFind k l (Nat.succ i)):=rfl
  rw[q,ih]
  cases hk:e.key with
  |int x t=>
   show @Bool.rec (fun _=>Option Nat) _ (some i) (intB k x)=_
   exact find_step (by rw[hk,intB_eq];show(x==k)=(k==x);rw[Bool.eq_iff_iff,beq_iff_eq,beq_iff_eq];exact eq_comm)
  |_=>exact find_step (b:=false) (by rw[hk];rfl)
theorem sKeys_mem{l:List DictEntry}(h:sKeys l=true):∀e∈l,∃x t,e.key=.str x t:=by
 induction l with
 |nil=>intro e he;cases he
 |cons m l ih=>
  intro e he
  have h:(match m.key with|.str _ _=>sKeys l|_=>false)=true:=h
  cases hk:m.key<;>rw[hk]at h<;>first|cases h;done|skip
  rcases List.mem_cons.mp he with rfl|he
  ·exact⟨_,_,hk⟩
  ·exact ih h e he
theorem iKeys_mem{l:List DictEntry}(h:iKeys l=true):∀e∈l,∃x t,e.key=.int x t∧e.hash=hashInt x:=by
 induction l with
 |nil=>intro e he;cases he
 |cons m l ih=>
  intro e he
  have h:(match m.key with|.int k _=>andB (intB m.hash (hashInt k)) (iKeys l)|_=>false)=true:=h
  cases hk:m.key<;>rw[hk]at h<;>first|cases h;done|skip
  obtain⟨h1,h2⟩:=andB_true h
  rcases List.mem_cons.mp he with rfl|he
  ·exact⟨_,_,hk,by rw[intB_eq]at h1;exact eq_of_beq h1⟩
  ·exact ih h2 e he
variable{prog:Program}{w:World}
section
variable{A:Around}{E:Value→Shared→Prop}{s:Shared}
include A E s
theorem findStr_any{d:Addr}{o:Obj}{es:Array DictEntry}{ep:Nat}{x:Str}{t:Tok}{h:Int}{Q:Option Nat→Shared→Prop}(ho:s.heap.get? d=some o)(hd:o.data=.dict es ep)
  (hk:sKeys es.toList=true) (hq:Q (sFind x es.toList 0) s):PySem.wpAny (model prog w) A (dictFind d (.str x t) h) Q E s:=by
 have hall:(es.all fun e=>isExactStrKey e.key)=true:=by
  rw[Array.all_eq_true']
  intro e he
  obtain⟨y,u,hy⟩:=sKeys_mem hk e (by simpa using he)
  rw[hy];rfl
 rw[sFind_eq,Option.map_congr (g:=id) (fun n _=>Nat.add_zero n),Option.map_id]at hq
 unfold dictFind
 refine PySem.wpAny_holding (PySem.wpAny_bind (wpAny_dictEntries ho hd ?_))
 show PySem.wpAny _ _ (if(es.all fun e=>isExactStrKey e.key)=true then _ else _) Q E s
 rw[if_pos hall]
 show PySem.wpAny _ _ (foundByValue d (.str x t) es x) Q E s
 have hq:Q (es.findIdx? fun e=>e.key.isStr x) s:=by
  have:es.toList.findIdx? (fun e=>e.key.isStr x)=es.findIdx? fun e=>e.key.isStr x:=by
   cases es with|mk l=>exact(List.findIdx?_toArray ..).symm
  rw[←this];exact hq
 unfold foundByValue
 cases hi:es.findIdx? fun e=>e.key.isStr x with
 |none=>
  rw[hi]at hq
  exact PySem.wpAny_pure hq
 |some i=>
  rw[hi]at hq
  obtain⟨hlt,hp,_⟩:=Array.findIdx?_eq_some_iff_getElem.mp hi
  have hget:es[i]?=some es[i]:=Array.getElem?_eq_getElem hlt
  obtain⟨y,u,hy⟩:=sKeys_mem hk es[i] (by simp)
  have hyx:(y==x)=true:=by rw[hy]at hp;exact hp
  simp only[hget]
  refine PySem.wpAny_bind (wpAny_dictEpoch ho hd ?_)
  refine PySem.wpAny_bind ?_
  rw[hy]
  refine eqBool_str ?_
  refine PySem.wpAny_bind (wpAny_dictEpoch ho hd ?_)
  show PySem.wpAny _ _ (if(ep !=ep)=true then _ else _) Q E s
  rw[if_neg (by simp),hyx]
  show PySem.wpAny _ _ (if true=true then _ else _) Q E s
  rw[if_pos rfl]
  exact PySem.wpAny_bind (PySem.wpAny_rule (PySem.wpAny_pure hq))
theorem look_any{d:Addr}{o:Obj}{es:Array DictEntry}{ep:Nat}{key:Value}{r:Option Nat}{Q:Option Nat→Shared→Prop}(ho:s.heap.get? d=some o)(hd:o.data=.dict es ep)
  (hl:look key es.toList=some r) (hq:Q r s):PySem.wpAny (model prog w) A (dictFind d key (hashK w key)) Q E s:=by
 cases key with
 |str x t=>
  have hl:@Bool.rec (fun _=>Option (Option Nat)) none (some (sFind x es.toList 0)) (sKeys es.toList)=some r:=hl
  cases hk:sKeys es.toList with
  |false=>rw[hk]at hl;cases hl
  |true=>
   rw[hk]at hl
   cases hl
   exact findStr_any ho hd hk hq
 |int k t=>
  have hl:@Bool.rec (fun _=>Option (Option Nat)) none (some (iFind k es.toList 0)) (iKeys es.toList)=some r:=hl
  cases hk:iKeys es.toList with
  |false=>rw[hk]at hl;cases hl
  |true=>
   rw[hk]at hl
   cases hl
   refine wpAny_dictFind_int ho hd (fun e he=>iKeys_mem hk e (by simpa using he)) ?_
   rw[iFind_eq,Option.map_congr (g:=id) (fun n _=>Nat.add_zero n),Option.map_id]at hq
   have:es.toList.findIdx? (fun e=>Value.isInt k e.key)=es.findIdx? fun e=>Value.isInt k e.key:=by
    cases es with|mk l=>exact(List.findIdx?_toArray ..).symm
   rw[←this];exact hq
 |_=>cases hl
theorem hash_any{key:Value}{es:List DictEntry}{r:Option Nat}{Q:Int→Shared→Prop}(hl:look key es=some r)(hq:Q (hashK w key) {s with toks:=s.toks+1}):PySem.wpAny (model prog w) A (pyHash key) Q E s:=by
 cases key with
 |str x t=>exact wpAny_pyHash_str hq
 |int k t=>exact(intKind prog w).pyHash (k:=k) (intKind_is prog w k t) hq
 |_=>cases hl
end
noncomputable def valAt(es:List DictEntry)(r:Option Nat):Option Value:=@Option.rec Nat (fun _=>Option Value) none (fun i=>@Option.rec DictEntry (fun _=>Option Value) none (fun e=>some e.val) (es[i]?)) r
theorem valAt_eq(es:Array DictEntry)(i:Nat):valAt es.toList (some i)=es[i]?.map (·.val):=by
 show @Option.rec DictEntry (fun _=>Option Value) none (fun e=>some e.val) (es.toList[i]?)=_
 rw[Array.getElem?_toList]
 generalize es[i]?=x
 cases x<;>rfl
theorem get_any{A:Around}{E:Value→Shared→Prop}{s:Shared}{d:Addr}{o:Obj}{es:Array DictEntry}{ep:Nat}{key:Value}{r:Option Nat}{Q:Option Value→Shared→Prop}(ho:s.heap.get? d=some o)(hd:o.data=.dict es ep)
  (hl:look key es.toList=some r) (hq:Q (valAt es.toList r) {s with toks:=s.toks+1}):PySem.wpAny (model prog w) A (dictGet d key) Q E s:=by
 unfold dictGet
 refine PySem.wpAny_holding (PySem.wpAny_bind (hash_any hl ?_))
 refine PySem.wpAny_bind (look_any ho hd hl ?_)
 cases r with
 |none=>exact PySem.wpAny_pure hq
 |some i=>exact PySem.wpAny_bind (wpAny_dictEntries ho hd (PySem.wpAny_pure (by rw[←valAt_eq];exact hq)))
noncomputable def dPut(w:World)(key v:Value)(o:Obj)(r:Option Nat):Obj:=@Option.rec Nat (fun _=>Obj) (Obj.mapDictKeys (·.push ⟨hashK w key,key,v⟩) o) (fun i=>Obj.mapDict (·.modify i fun e=>{e with val:=v}) o) r
theorem dPut_live{key v:Value}{o:Obj}{r:Option Nat}{es:Array DictEntry}{ep:Nat}(hd:o.data=.dict es ep):(dPut w key v o r).isFreed=false:=by
 obtain⟨cls,dd,data,sl⟩:=o
 cases hd
 cases r<;>rfl
theorem set_any{A:Around}{E:Value→Shared→Prop}{s:Shared}{d:Addr}{o:Obj}{es:Array DictEntry}{ep:Nat}{key v:Value}{r:Option Nat}{Q:Unit→Shared→Prop}(ho:s.heap.get? d=some o)(hd:o.data=.dict es ep)
  (hl:look key es.toList=some r) (hz:es.size≤sizeLine)
  (hq:Q () {s with heap:=s.heap.update d (fun o=>dPut w key v o r),toks:=s.toks+1}):PySem.wpAny (model prog w) A (dictSet d key v) Q E s:=by
 unfold dictSet dictSetHashed
 refine PySem.wpAny_holding (PySem.wpAny_bind (hash_any hl ?_))
 refine PySem.wpAny_holding (PySem.wpAny_bind (look_any ho hd hl ?_))
 cases r with
 |none=>exact PySem.wpAny_bind (PySem.wpAny_rule (wpAny_updateDictKeys ho hd hq (hz:=hz) (hf:=by simp)))
 |some i=>exact PySem.wpAny_bind (PySem.wpAny_rule (PySem.wpAny_bind (wpAny_updateDict ho hd (PySem.wpAny_point hq) (hz:=by simp))))
end
section
theorem codeAny_of{M:Model}{A:Ar}{c:Code}{R:Result→Shared→Prop}{s:Shared}(h:PySem.codeAny M A.a c R s):codeAny M A c R s:=fun Γ p hc hΓ=>h Γ p hc hΓ.1
noncomputable def conV(code:Code)(pre:List (Addr×Obj))(val:Value)(need:Nat):Con:=⟨code,pre,fun _=>val,fun _=>pre.map (·.2),fun _=>[],need,none,false,false⟩
noncomputable def conNo:Con:=conV (.builtin "" ⟨[],[]⟩) [] .none 1000
variable{prog:Program}{w:World}{kt:KT}{nt:Nat}
theorem conNo_ok:ConOk prog w kt nt conNo:=fun A s R hr=>by
 have:=hr.dp
 have h:conNo.need=1000:=rfl
 rw[h]at this
 omega
theorem conV_post{code:Code}{pre:List (Addr×Obj)}{val:Value}{need:Nat}{s:Shared}(P:PreOk kt nt (conV code pre val need) s)(X:Nat→Nat):PostOk (conV code pre val need) s.heap s.heap X:=by
 refine⟨Nat.le_refl _,?_,?_,?_,fun b o h _=>h⟩
 ·intro i p o h1 h2
  have h2:(pre.map (·.2))[i]?=some o:=h2
  have h1:pre[i]?=some p:=h1
  rw[List.getElem?_map,h1]at h2
  cases h2
  exact(P.pre p (List.mem_of_getElem? h1)).1
 ·intro i o h;cases i<;>cases h
 ·intro i j hi;exact absurd hi (Nat.not_lt_zero _)
theorem conV_ok{code:Code}{pre:List (Addr×Obj)}{val:Value}{need:Nat}
  (h:∀(A:Ar)(s:Shared)(R:Result→Shared→Prop),Rm need 0 A→PreOk kt nt (conV code pre val need) s→R (.ok (.ret val)) s→codeAny (model prog w) A code R s):ConOk prog w kt nt (conV code pre val need):=by
 intro A s R hr P post
 exact h A s R hr P (post (fun _=>0) s.heap s.toks (conV_post P _))
noncomputable def okS(x:Str):Bool:=@List.rec Nat (fun _=>Bool) true (fun n _ r=>andB (Nat.blt n 0x110000) r) x.cps.toList
theorem okL_ok:∀{l:List Nat},@List.rec Nat (fun _=>Bool) true (fun n _ r=>andB (Nat.blt n 0x110000) r) l=true→∀n∈l,n<0x110000
 |m::l,h,n,hn=>by
  have h:andB (Nat.blt m 0x110000) (@List.rec Nat (fun _=>Bool) true (fun n _ r=>andB (Nat.blt n 0x110000) r) l)=true:=h
  obtain⟨q,h⟩:=andB_true h
  rcases List.mem_cons.mp hn with rfl|hn
  ·exact Nat.le_of_ble_eq_true q
  ·exact okL_ok h n hn
theorem okS_ok{x:Str}(h:okS x=true):(PyData.str x).canLay0=true:=by
 obtain⟨⟨l⟩⟩:=x
 show PyData.strOk _=true
 unfold PyData.strOk
 rw[Array.all_eq_true']
 intro n hn
 exact decide_eq_true (okL_ok h n (by simpa using hn))
noncomputable def pd(v:Value):PyData:=match v with
 |.int i _=>.int i
 |.str x _=>.str x
 |_=>.none
noncomputable def isPl(v:Value):Bool:=match v with
 |.none=>true
 |.int _ _=>true
 |.str x _=>okS x
 |_=>false
noncomputable def pEq(y x:Value):Bool:=match y,x with
 |.none,.none=>true
 |.int i _,.int j _=>intB i j
 |.str a _,.str b _=>strB a b
 |_,_=>false
theorem pl_reads{h:Heap}{v:Value}(q:isPl v=true):Reads h v (pd v) []:=by
 cases v<;>first|exact .none|exact .int _ _|exact .str _ _|cases q
theorem pl_lay{v:Value}(q:isPl v=true):(pd v).canLay0=true:=by
 cases v<;>first|exact okS_ok q|rfl|exact(Bool.false_ne_true q).elim
theorem pl_depth{v:Value}(q:isPl v=true):(pd v).depth≤1:=by
 cases v<;>first|exact Nat.zero_le _|exact Nat.le_refl _|exact(Bool.false_ne_true q).elim
theorem pEq_eqv{y x:Value}(q:isPl y=true)(p:isPl x=true):pEq y x=PyData.eqv (pd y) (pd x):=by
 cases y<;>first|exact(Bool.false_ne_true q).elim|(cases x<;>first|exact(Bool.false_ne_true p).elim|exact intB_eq _ _|exact strB_eq _ _|rfl)
theorem pl_eqAt{A:Around}{s:Shared}{y x:Value}(q:isPl y=true)(p:isPl x=true)(hu:A.units+1<cLine):PySem.SeqAt.EqAt A s y x (pEq y x):=by
 rw[pEq_eqv q p]
 have:=pl_depth q
 exact PySem.SeqAt.eqAt_reads _ _ A s y x [] [] (pl_reads q) (pl_reads p) (pl_lay q) (pl_lay p) (by omega)
noncomputable def sqOf(n:Nat)(o:Obj):Option (Array Value):=match o with
 |⟨.type t,_,.seq items _,_⟩=>@Bool.rec (fun _=>Option (Array Value)) none (some items) (S.eqLit n t)
 |_=>none
noncomputable def allPl(l:List Value):Bool:=@List.rec Value (fun _=>Bool) true (fun v _ r=>andB (isPl v) r) l
noncomputable def anyEq(x:Value)(l:List Value):Bool:=@List.rec Value (fun _=>Bool) false (fun v _ r=>@Bool.rec (fun _=>Bool) r true (pEq v x)) l
theorem allPl_mem{l:List Value}(h:allPl l=true):∀v∈l,isPl v=true:=by
 induction l with
 |nil=>intro v hv;cases hv
 |cons m l ih=>
  intro v hv
  have h:andB (isPl m) (allPl l)=true:=h
  cases q:isPl m with
  |false=>rw[q]at h;cases h
  |true=>
   rw[q]at h
   rcases List.mem_cons.mp hv with rfl|hv
   ·exact q
   ·exact ih h v hv
theorem anyEq_eq(x:Value):∀l:List Value,anyEq x l=l.any fun y=>pEq y x
 |[]=>rfl
 |v::l=>by
  show @Bool.rec (fun _=>Bool) (anyEq x l) true (pEq v x)=_
  rw[anyEq_eq x l,List.any_cons]
  cases pEq v x<;>rfl
theorem sqOf_some{n:Nat}{b:String}(hb:PySem.code b=n){o:Obj}{items:Array Value}(h:sqOf n o=some items):∃dd k sl,o={cls:=.type b,dict:=dd,data:=.seq items k,slots:=sl}:=by
 obtain⟨cls,dd,data,sl⟩:=o
 unfold sqOf at h
 split at h
 case h_2=>cases h
 rename_i t x1 xs k x2 he
 cases he
 have h:@Bool.rec (fun _=>Option (Array Value)) none (some xs) (S.eqLit n t)=some items:=h
 cases q:S.eqLit n t with
 |false=>rw[q]at h;cases h
 |true=>
  rw[q]at h
  cases h
  rw[eqLit_true hb q]
  exact⟨dd,k,sl,rfl⟩
noncomputable def tinCon(id:String)(a:Addr)(x:Value)(o:Obj)(pre:List (Addr×Obj)):Con:=match sqOf 0x666d717675 o with
 |none=>conNo
 |some items=>@Bool.rec (fun _=>Con) conNo (conV (.builtin id ⟨[.ref a,x],[]⟩) pre (.bool (anyEq x items.toList)) 1) (andB (S.eqLit 0x6060746f6a62756f706460602f666d717675 id) (andB (isPl x) (allPl items.toList)))
theorem tinCon_ok{id:String}{a:Addr}{x:Value}{o:Obj}{pre:List (Addr×Obj)}(h:∀need val s,PreOk kt nt (conV (.builtin id ⟨[.ref a,x],[]⟩) pre val need) s→s.heap.get? a=some o):ConOk prog w kt nt (tinCon id a x o pre):=by
 unfold tinCon
 generalize e:sqOf 0x666d717675 o=r
 cases r with
 |none=>exact conNo_ok
 |some items=>
  obtain⟨dd,k,sl,ho⟩:=sqOf_some (b:="tuple") (by decide+kernel) e
  show ConOk prog w kt nt (@Bool.rec (fun _=>Con) conNo (conV (.builtin id ⟨[.ref a,x],[]⟩) pre (.bool (anyEq x items.toList)) 1) (andB (S.eqLit 0x6060746f6a62756f706460602f666d717675 id) (andB (isPl x) (allPl items.toList))))
  generalize q:andB (S.eqLit 0x6060746f6a62756f706460602f666d717675 id) (andB (isPl x) (allPl items.toList))=r
  cases r with
  |false=>exact conNo_ok
  |true=>
   obtain⟨q1,q2⟩:=andB_true q
   obtain⟨q2,q3⟩:=andB_true q2
   refine conV_ok fun A s R hr P post=>codeAny_of ?_
   have hg:=h _ _ _ P
   rw[eqLit_true (b:="tuple.__contains__") (by decide+kernel) q1]
   refine codeAny_builtin (entryFor_of_fast (b:=Builtin.«tuple.__contains__») (by kernel_rfl)) ?_
   rw[Around.under_plainId (by decide+kernel) _]
   refine PySem.SeqAt.tuple_containsAt a items k dd sl x (fun y=>pEq y x) prog w A.a R s ⟨by rw[hg,ho],fun y hy=>pl_eqAt (allPl_mem q3 y (by simpa using hy)) q2 ?_,?_⟩
   ·have:=hr.un
    show A.a.units+1+1<9900
    have z:A.units=A.a.units:=rfl
    omega
   ·rw[anyEq_eq]at post
    simpa using post
noncomputable def tinTop(kt:KT):Fam:=fun c _ _=>match c with
 |.builtin id ⟨[.ref a,x],[]⟩=>(match kt.get a with
  |some o=>tinCon id a x o []
  |none=>conNo)
 |_=>conNo
noncomputable def tinOwn:Fam:=fun c T sc=>match c with
 |.builtin id ⟨[.ref _,x],[]⟩=>(match T.get (Nat.mod sc 256)with
  |some ao=>tinCon id ao.1 x ao.2 [ao]
  |none=>conNo)
 |_=>conNo
theorem tinTop_ok:FamOk prog w kt nt (tinTop kt):=by
 intro c T sc
 unfold tinTop
 split
 ·split
  ·rename_i e
   exact tinCon_ok fun need val s P=>(P.top.1 _ _ e).2
  ·exact conNo_ok
 ·exact conNo_ok
theorem tinOwn_ok:FamOk prog w kt nt tinOwn:=by
 intro c T sc
 unfold tinOwn
 split
 ·split
  ·exact tinCon_ok fun need val s P=>(P.pre _ (List.mem_singleton.mpr rfl)).1
  ·exact conNo_ok
 ·exact conNo_ok
noncomputable def idxEq(x:Value)(l:List Value):Nat:=@List.rec Value (fun _=>Nat) 0 (fun v _ r=>@Bool.rec (fun _=>Nat) (Nat.succ r) 0 (pEq v x)) l
theorem idxEq_hit{x:Value}:∀{l:List Value},anyEq x l=true→∃h:idxEq x l<l.length,pEq (l[idxEq x l]'h) x=true∧∀m (hm:m<l.length),m<idxEq x l→pEq (l[m]'hm) x=false
 |v::l,h=>by
  have h:@Bool.rec (fun _=>Bool) (anyEq x l) true (pEq v x)=true:=h
  have e:idxEq x (v::l)=@Bool.rec (fun _=>Nat) (Nat.succ (idxEq x l)) 0 (pEq v x):=rfl
  cases q:pEq v x with
  |true=>
   rw[q]at e
   refine⟨by rw[e];exact Nat.zero_lt_succ _,?_,fun m _ hm=>by rw[e]at hm;exact absurd hm (Nat.not_lt_zero _)⟩
   simp only[e]
   exact q
  |false=>
   rw[q]at e h
   obtain⟨h1,h2,h3⟩:=idxEq_hit h
   refine⟨by rw[e];exact Nat.succ_lt_succ h1,?_,fun m hm hlt=> ?_⟩
   ·simp only[e]
    exact h2
   ·cases m with
    |zero=>exact q
    |succ m=>
     rw[e]at hlt
     exact h3 m (Nat.lt_of_succ_lt_succ hm) (Nat.lt_of_succ_lt_succ hlt)
noncomputable def lixCon(id:String)(x:Value)(ao:Addr×Obj):Con:=match sqOf 0x75746a6d ao.2 with
 |none=>conNo
 |some items=>@Bool.rec (fun _=>Con) conNo ⟨.builtin id ⟨[.ref ao.1,x],[]⟩,[ao],fun X=>.int (idxEq x items.toList) (X 0),fun _=>[ao.2],fun _=>[],1,none,false,false⟩
   (andB (S.eqLit 0x7966656f6a2f75746a6d id) (andB (isPl x) (andB (allPl items.toList) (andB (anyEq x items.toList) (Nat.blt items.toList.length 1000)))))
noncomputable def lixOwn:Fam:=fun c T sc=>match c with
 |.builtin id ⟨[.ref _,x],[]⟩=>(match T.get (Nat.mod sc 256)with
  |some ao=>lixCon id x ao
  |none=>conNo)
 |_=>conNo
theorem lixCon_ok{id:String}{x:Value}{ao:Addr×Obj}:ConOk prog w kt nt (lixCon id x ao):=by
 unfold lixCon
 generalize e:sqOf 0x75746a6d ao.2=r
 cases r with
 |none=>exact conNo_ok
 |some items=>
  show ConOk prog w kt nt (@Bool.rec (fun _=>Con) conNo _ (andB (S.eqLit 0x7966656f6a2f75746a6d id) (andB (isPl x) (andB (allPl items.toList) (andB (anyEq x items.toList) (Nat.blt items.toList.length 1000))))))
  generalize q:andB (S.eqLit 0x7966656f6a2f75746a6d id) (andB (isPl x) (andB (allPl items.toList) (andB (anyEq x items.toList) (Nat.blt items.toList.length 1000))))=r
  cases r with
  |false=>exact conNo_ok
  |true=>
   obtain⟨q1,q2⟩:=andB_true q
   obtain⟨q2,q3⟩:=andB_true q2
   obtain⟨q3,q4⟩:=andB_true q3
   obtain⟨q4,q5⟩:=andB_true q4
   obtain⟨dd,k,sl,ho⟩:=sqOf_some (b:="list") (by decide+kernel) e
   obtain⟨i1,i2,i3⟩:=idxEq_hit q4
   have q5:items.toList.length<1000:=Nat.le_of_ble_eq_true q5
   intro A s R hr P post
   refine codeAny_of ?_
   have hg:=(P.pre _ (List.mem_singleton.mpr rfl)).1
   rw[eqLit_true (b:="list.index") (by decide+kernel) q1]
   refine codeAny_builtin (entryFor_of_fast (b:=Builtin.«list.index») (by kernel_rfl)) ?_
   rw[Around.under_plainId (by decide+kernel) _]
   refine PySem.SeqAt.list_indexAt ao.1 items k dd sl x (fun y=>pEq y x) (idxEq x items.toList) (by simpa using i1) (by omega) (by simpa using i2) (fun m hm hlt=>by have z:=i3 m (by simpa using hm) hlt;rw[Array.getElem_toList]at z;exact z) prog w A.a R s ⟨by rw[hg,ho],fun y hy=>pl_eqAt (allPl_mem q3 y (by simpa using hy)) q2 ?_,?_⟩
   ·have:=hr.un
    show A.a.units+1+1<9900
    have z:A.units=A.a.units:=rfl
    omega
   ·have P2:=conV_post (code:=.builtin id ⟨[.ref ao.1,x],[]⟩) (pre:=[ao]) (val:=.none) (need:=1) (s:=s) (kt:=kt) (nt:=nt) ⟨P.top,P.nz,P.pre,P.nd,fun g h=>nomatch h⟩ (fun _=>s.toks)
    exact post (fun _=>s.toks) s.heap (s.toks+1) ⟨P2.grow,P2.post,P2.new,P2.inj,P2.keep⟩
theorem lixOwn_ok:FamOk prog w kt nt lixOwn:=by
 intro c T sc
 unfold lixOwn
 split
 ·split
  ·exact lixCon_ok
  ·exact conNo_ok
 ·exact conNo_ok
end
section
variable{w:World}{P:Params}{b1 b2:Bool}(hP:w.params=parT P b1 b2){nt:Nat}{C:Con}(need:Nat)(ni:List Nat)(ws:List Wt)(n sc:Nat)
include w P b1 b2 hP nt C need ni ws n sc
theorem ko{cs:List Fam}(hc:∀C∈cs,FamOk pw w (Kq P b1 b2) nt C)
  (hn:need=C.need:=by exact rfl) (hsd:andB C.seg (isDef C.code)=false:=by exact rfl) (h:∀U z t gl,lhs ⟨C,ni,ws⟩ (evU (VB (Kq P b1 b2) P b2 need) ⟨C,ni,ws⟩ n sc cs U z t gl)=rhs ⟨C,ni,ws⟩ gl (evU (VB (Kq P b1 b2) P b2 need) ⟨C,ni,ws⟩ n sc cs U z t gl):=by intro U z t gl;kernel_rfl):
  CO w P b1 b2 nt C:=con_ok (env_okB hP need) ⟨C,ni,ws⟩ n sc cs hc hn hsd h
theorem koE(cs:List Fam)(hc:∀C∈cs,FamOk pw w (Kq P b1 b2) nt C)
  (hn:need=C.need) (hsd:andB C.seg (isDef C.code)=false) (h:∀U z t gl,lhs ⟨C,ni,ws⟩ (evU (VB (Kq P b1 b2) P b2 need) ⟨C,ni,ws⟩ n sc cs U z t gl)=rhs ⟨C,ni,ws⟩ gl (evU (VB (Kq P b1 b2) P b2 need) ⟨C,ni,ws⟩ n sc cs U z t gl)):
  CO w P b1 b2 nt C:=con_ok (env_okB hP need) ⟨C,ni,ws⟩ n sc cs hc hn hsd h
end
noncomputable def nms(u:Sup)(a:Nat):Nat→List Wt
 |0=>[]
 |k+1=>.num (u.n a)::nms u (a+1) k
inductive It where
 |n|i0|i1|i2|i3|i4|i5|sa|sb|sB
noncomputable def It.val:It→Tok→Value
 |.n,_=>.none
 |.i0,t=>.int 0 t
 |.i1,t=>.int 1 t
 |.i2,t=>.int 2 t
 |.i3,t=>.int 3 t
 |.i4,t=>.int 4 t
 |.i5,t=>.int 5 t
 |.sa,t=>.str ⟨#[97]⟩ t
 |.sb,t=>.str ⟨#[98]⟩ t
 |.sB,t=>.str ⟨#[66]⟩ t
noncomputable def It.typ:It→Nat
 |.n=>0|.i0=>8|.i1=>9|.i2=>1|.i3=>1|.i4=>1|.i5=>1|.sa=>15|.sb=>15|.sB=>15
noncomputable def It.typB:It→UInt8
 |.n=>0|.i0=>8|.i1=>9|.i2=>1|.i3=>1|.i4=>1|.i5=>1|.sa=>15|.sb=>15|.sB=>15
noncomputable def It.body:It→Array UInt8
 |.n=> #[]|.i0=> #[]|.i1=> #[]|.i2=> #[2]|.i3=> #[3]|.i4=> #[4]|.i5=> #[5]|.sa=> #[97]|.sb=> #[98]|.sB=> #[66]
noncomputable def cFn(f:Nat)(as:List Value)(v:Tok→Value)(need:Nat):Con:=⟨.call (.ref f) ⟨as,[]⟩,[],fun X=>v (X 0),fun _=>[],fun _=>[],need,none,false,false⟩
noncomputable def Fn(f need:Nat)(mk:List Value→Option (List Value×(Tok→Value))):Fam:=fun c _ _=>match c with
 |.call _ ⟨as,_⟩=>(match mk as with
  |some p=>cFn f p.1 p.2 need
  |none=>conNo)
 |_=>conNo
section
variable{prog:Program}{w:World}{kt:KT}
include prog w kt
theorem Fn_ok{nt f need:Nat}{mk:List Value→Option (List Value×(Tok→Value))}(h:∀as p,mk as=some p→ConOk prog w kt nt (cFn f p.1 p.2 need)):FamOk prog w kt nt (Fn f need mk):=by
 intro c T sc
 unfold Fn
 split
 ·split
  ·rename_i e;exact h _ _ e
  ·exact conNo_ok
 ·exact conNo_ok
theorem fn0{nt:Nat}:∀C∈([]:List Fam),FamOk prog w kt nt C:=fun _ h=>nomatch h
theorem fc{nt:Nat}{F:Fam}{l:List Fam}(h:FamOk prog w kt nt F)(hl:∀C∈l,FamOk prog w kt nt C):∀C∈F::l,FamOk prog w kt nt C:=fun C hC=>by
 rcases List.mem_cons.mp hC with rfl|hC
 ·exact h
 ·exact hl C hC
end
section
variable{w:World}{P:Params}{b1 b2:Bool}(hP:w.params=parT P b1 b2)(nt:Nat)
include hP
noncomputable def cPut(k:Nat)(b:UInt8)(t:Tok):Con:=cFn 190 [.int (.ofNat k) t] (.bytes #[b]) 1
theorem put_typ(x:It)(t:Tok):CO w P b1 b2 nt (cPut x.typ x.typB t):=by
 cases x<;>exact ko hP 1 [] [.ret] 211 (k_d1 0) (cs:=[]) (fun _ h=>nomatch h)
theorem put_3(t:Tok):CO w P b1 b2 nt (cPut 3 3 t):=by
 exact ko hP 1 [] [.ret] 211 (k_d1 0) (cs:=[]) (fun _ h=>nomatch h)
noncomputable def cSer(x:It)(t:Tok):Con:=cFn 225 [x.val t] (.int (.ofNat x.typ)) 1
theorem ser_ok(x:It)(t:Tok):CO w P b1 b2 nt (cSer x t):=by
 cases x
 ·exact ko hP 1 [] [.ret] 75 (k_bO 0x10101) (cs:=[]) (fun _ h=>nomatch h)
 ·exact ko hP 1 [] [.ret] 131 (k_cx 3) (cs:=[]) (fun _ h=>nomatch h)
 ·exact ko hP 1 [] [.ret] 140 (k_cx 0x3000003) (cs:=[]) (fun _ h=>nomatch h)
 ·exact ko hP 1 [] [.ret] 254 (k_cY 0) (cs:=[]) (fun _ h=>nomatch h)
 ·exact ko hP 1 [] [.ret] 254 (k_cY 0) (cs:=[]) (fun _ h=>nomatch h)
 ·exact ko hP 1 [] [.ret] 254 (k_cY 0) (cs:=[]) (fun _ h=>nomatch h)
 ·exact ko hP 1 [] [.ret] 254 (k_cY 0) (cs:=[]) (fun _ h=>nomatch h)
 ·exact ko hP 1 [] [.ret] 342 (k_dv 0) (cs:=[]) (fun _ h=>nomatch h)
 ·exact ko hP 1 [] [.ret] 342 (k_dv 0) (cs:=[]) (fun _ h=>nomatch h)
 ·exact ko hP 1 [] [.ret] 342 (k_dv 0) (cs:=[]) (fun _ h=>nomatch h)
noncomputable def cBody(x:It)(t u:Tok):Con:=cFn 239 [x.val t,.int (.ofNat x.typ) u] (.bytes x.body) 2
theorem body_ok(x:It)(t u:Tok):CO w P b1 b2 nt (cBody x t u):=by
 cases x
 ·exact ko hP 2 [] [.ret] 93 (k_bP (k_a (kq 4 0x1000000 (k_a (k_y 0))))) (cs:=[]) fn0
 ·exact ko hP 2 [] [.ret] 107 (k_cy 0) (fc tinOwn_ok fn0)
 ·exact ko hP 2 [] [.ret] 107 (k_cy 0) (fc tinOwn_ok fn0)
 ·exact ko hP 2 [] [.ret] 379 (k_cZ 0) (fc tinOwn_ok fn0)
 ·exact ko hP 2 [] [.ret] 379 (k_cZ 0) (fc tinOwn_ok fn0)
 ·exact ko hP 2 [] [.ret] 379 (k_cZ 0) (fc tinOwn_ok fn0)
 ·exact ko hP 2 [] [.ret] 379 (k_cZ 0) (fc tinOwn_ok fn0)
 ·exact ko hP 2 [] [.ret] 233 (k_dw 0) (cs:=[]) fn0
 ·exact ko hP 2 [] [.ret] 233 (k_dw 0) (cs:=[]) fn0
 ·exact ko hP 2 [] [.ret] 233 (k_dw 0) (cs:=[]) fn0
end
inductive Sh where
 |n
 |z (i:Int)
 |o (i:Int) (c:UInt8)
 |s (x:Str) (c:UInt8)
noncomputable def Sh.val:Sh→Tok→Value
 |.n,_=>.none
 |.z i,t=>.int i t
 |.o i _,t=>.int i t
 |.s x _,t=>.str x t
noncomputable def Sh.body:Sh→Array UInt8
 |.n=> #[]
 |.z _=> #[]
 |.o _ c=> #[c]
 |.s _ c=> #[c]
noncomputable def Fser(c:Sh)(k:Nat):Fam:=Fn 225 1 fun as=>match as with
 |[v]=>some ([c.val (tokOf v)],.int (.ofNat k))
 |_=>none
noncomputable def Fput(k:Nat)(b:UInt8):Fam:=Fn 190 1 fun as=>match as with
 |[v]=>some ([.int (.ofNat k) (tokOf v)],.bytes #[b])
 |_=>none
noncomputable def Fbody(c:Sh)(k:Nat):Fam:=Fn 239 2 fun as=>match as with
 |[v,u]=>some ([c.val (tokOf v),.int (.ofNat k) (tokOf u)],.bytes c.body)
 |_=>none
noncomputable def Fhead:Fam:=Fn 253 2 fun as=>match as with
 |[v]=>some ([.int 2 (tokOf v)],.int 3)
 |_=>none
section
variable{prog:Program}{w:World}{kt:KT}{nt:Nat}
noncomputable def ItemOk(prog:Program)(w:World)(kt:KT)(nt:Nat)(c:Sh)(k:Nat)(b:UInt8):Prop:=
 (∀t,ConOk prog w kt nt (cFn 225 [c.val t] (.int (.ofNat k)) 1))∧(∀t,ConOk prog w kt nt (cPut k b t))∧∀t u,ConOk prog w kt nt (cFn 239 [c.val t,.int (.ofNat k) u] (.bytes c.body) 2)
theorem ser_f{c:Sh}{k:Nat}(h:∀t,ConOk prog w kt nt (cFn 225 [c.val t] (.int (.ofNat k)) 1)):FamOk prog w kt nt (Fser c k):=Fn_ok fun as p e=>by
 split at e
 ·cases e;exact h _
 ·cases e
theorem put_f{k:Nat}{b:UInt8}(h:∀t,ConOk prog w kt nt (cPut k b t)):FamOk prog w kt nt (Fput k b):=Fn_ok fun as p e=>by
 split at e
 ·cases e;exact h _
 ·cases e
theorem body_f{c:Sh}{k:Nat}(h:∀t u,ConOk prog w kt nt (cFn 239 [c.val t,.int (.ofNat k) u] (.bytes c.body) 2)):FamOk prog w kt nt (Fbody c k):=Fn_ok fun as p e=>by
 split at e
 ·cases e;exact h _ _
 ·cases e
theorem head_f(h:∀t,ConOk prog w kt nt (cFn 253 [.int 2 t] (.int 3) 2)):FamOk prog w kt nt Fhead:=Fn_ok fun as p e=>by
 split at e
 ·cases e;exact h _
 ·cases e
end
noncomputable def It.sh:It→Sh
 |.n=>.n|.i0=>.z 0|.i1=>.z 1|.i2=>.o 2 2|.i3=>.o 3 3|.i4=>.o 4 4|.i5=>.o 5 5|.sa=>.s ⟨#[97]⟩ 97|.sb=>.s ⟨#[98]⟩ 98|.sB=>.s ⟨#[66]⟩ 66
theorem sh_val(x:It)(t:Tok):x.sh.val t=x.val t:=by cases x<;>rfl
theorem sh_body(x:It):x.sh.body=x.body:=by cases x<;>rfl
noncomputable def lstObj(vs:Array Value)(e:Nat):Obj:={cls:=.type "list",data:=.seq vs e}
noncomputable def cEnc(cx cy:Sh)(bx by':UInt8)(a:Addr)(t u e:Nat):Con:=
 ⟨.call (.ref 260) ⟨[.ref a],[]⟩,[(a,lstObj #[cx.val t,cy.val u] e)],fun X=>.bytes (#[3,bx,by']++cx.body++cy.body) (X 0),fun _=>[lstObj #[cx.val t,cy.val u] e],fun _=>[],3,none,false,false⟩
section
variable{w:World}{P:Params}{b1 b2:Bool}(hP:w.params=parT P b1 b2)(nt:Nat)
include hP
theorem item_ok(x:It):ItemOk pw w (Kq P b1 b2) nt x.sh x.typ x.typB:=
 ⟨fun t=>by rw[sh_val];exact ser_ok hP nt x t,fun t=>put_typ hP nt x t,fun t u=>by rw[sh_val,sh_body];exact body_ok hP nt x t u⟩
theorem head_ok(t:Tok):CO w P b1 b2 nt (cFn 253 [.int 2 t] (.int 3) 2):=by
 exact ko hP 2 [] [.ret] 89 (kq 8 0x101000001010000 (k_a (kq 6 0x10000000101 (k_a 0x101000001)))) (fc (put_f (put_3 hP nt)) fn0)
theorem enc_ok{cx cy:Sh}{kx ky:Nat}{bx by':UInt8}(hx:ItemOk pw w (Kq P b1 b2) nt cx kx bx)(hy:ItemOk pw w (Kq P b1 b2) nt cy ky by')(a:Addr)(t u e:Nat):CO w P b1 b2 nt (cEnc cx cy bx by' a t u e):=by
 have hp3:=put_3 hP nt
 have hh:=head_ok hP nt
 cases cx<;>cases cy
 ·exact ko hP 3 [] [.ret] 421 (k_c0 0) (fc (ser_f hx.1) (fc (put_f hx.2.1) (fc (body_f hx.2.2) (fc (ser_f hy.1) (fc (put_f hy.2.1) (fc (body_f hy.2.2) (fc (head_f hh) (fc (put_f hp3) fn0))))))))
 ·exact ko hP 3 [] [.ret] 421 (k_c0 0) (fc (ser_f hx.1) (fc (put_f hx.2.1) (fc (body_f hx.2.2) (fc (ser_f hy.1) (fc (put_f hy.2.1) (fc (body_f hy.2.2) (fc (head_f hh) (fc (put_f hp3) fn0))))))))
 ·exact ko hP 3 [] [.ret] 423 (k_c1 0) (fc (ser_f hx.1) (fc (put_f hx.2.1) (fc (body_f hx.2.2) (fc (ser_f hy.1) (fc (put_f hy.2.1) (fc (body_f hy.2.2) (fc (head_f hh) (fc (put_f hp3) fn0))))))))
 ·exact ko hP 3 [] [.ret] 423 (k_c1 0) (fc (ser_f hx.1) (fc (put_f hx.2.1) (fc (body_f hx.2.2) (fc (ser_f hy.1) (fc (put_f hy.2.1) (fc (body_f hy.2.2) (fc (head_f hh) (fc (put_f hp3) fn0))))))))
 ·exact ko hP 3 [] [.ret] 421 (k_c0 0) (fc (ser_f hx.1) (fc (put_f hx.2.1) (fc (body_f hx.2.2) (fc (ser_f hy.1) (fc (put_f hy.2.1) (fc (body_f hy.2.2) (fc (head_f hh) (fc (put_f hp3) fn0))))))))
 ·exact ko hP 3 [] [.ret] 421 (k_c0 0) (fc (ser_f hx.1) (fc (put_f hx.2.1) (fc (body_f hx.2.2) (fc (ser_f hy.1) (fc (put_f hy.2.1) (fc (body_f hy.2.2) (fc (head_f hh) (fc (put_f hp3) fn0))))))))
 ·exact ko hP 3 [] [.ret] 423 (k_c1 0) (fc (ser_f hx.1) (fc (put_f hx.2.1) (fc (body_f hx.2.2) (fc (ser_f hy.1) (fc (put_f hy.2.1) (fc (body_f hy.2.2) (fc (head_f hh) (fc (put_f hp3) fn0))))))))
 ·exact ko hP 3 [] [.ret] 423 (k_c1 0) (fc (ser_f hx.1) (fc (put_f hx.2.1) (fc (body_f hx.2.2) (fc (ser_f hy.1) (fc (put_f hy.2.1) (fc (body_f hy.2.2) (fc (head_f hh) (fc (put_f hp3) fn0))))))))
 ·exact ko hP 3 [] [.ret] 423 (k_c2 0) (fc (ser_f hx.1) (fc (put_f hx.2.1) (fc (body_f hx.2.2) (fc (ser_f hy.1) (fc (put_f hy.2.1) (fc (body_f hy.2.2) (fc (head_f hh) (fc (put_f hp3) fn0))))))))
 ·exact ko hP 3 [] [.ret] 423 (k_c2 0) (fc (ser_f hx.1) (fc (put_f hx.2.1) (fc (body_f hx.2.2) (fc (ser_f hy.1) (fc (put_f hy.2.1) (fc (body_f hy.2.2) (fc (head_f hh) (fc (put_f hp3) fn0))))))))
 ·exact ko hP 3 [] [.ret] 425 (k_c3 0) (fc (ser_f hx.1) (fc (put_f hx.2.1) (fc (body_f hx.2.2) (fc (ser_f hy.1) (fc (put_f hy.2.1) (fc (body_f hy.2.2) (fc (head_f hh) (fc (put_f hp3) fn0))))))))
 ·exact ko hP 3 [] [.ret] 425 (k_c3 0) (fc (ser_f hx.1) (fc (put_f hx.2.1) (fc (body_f hx.2.2) (fc (ser_f hy.1) (fc (put_f hy.2.1) (fc (body_f hy.2.2) (fc (head_f hh) (fc (put_f hp3) fn0))))))))
 ·exact ko hP 3 [] [.ret] 423 (k_c2 0) (fc (ser_f hx.1) (fc (put_f hx.2.1) (fc (body_f hx.2.2) (fc (ser_f hy.1) (fc (put_f hy.2.1) (fc (body_f hy.2.2) (fc (head_f hh) (fc (put_f hp3) fn0))))))))
 ·exact ko hP 3 [] [.ret] 423 (k_c2 0) (fc (ser_f hx.1) (fc (put_f hx.2.1) (fc (body_f hx.2.2) (fc (ser_f hy.1) (fc (put_f hy.2.1) (fc (body_f hy.2.2) (fc (head_f hh) (fc (put_f hp3) fn0))))))))
 ·exact ko hP 3 [] [.ret] 425 (k_c3 0) (fc (ser_f hx.1) (fc (put_f hx.2.1) (fc (body_f hx.2.2) (fc (ser_f hy.1) (fc (put_f hy.2.1) (fc (body_f hy.2.2) (fc (head_f hh) (fc (put_f hp3) fn0))))))))
 ·exact ko hP 3 [] [.ret] 425 (k_c3 0) (fc (ser_f hx.1) (fc (put_f hx.2.1) (fc (body_f hx.2.2) (fc (ser_f hy.1) (fc (put_f hy.2.1) (fc (body_f hy.2.2) (fc (head_f hh) (fc (put_f hp3) fn0))))))))
end
noncomputable def tupObj(vs:Array Value):Obj:={cls:=.type "tuple",data:=.seq vs 0}
noncomputable def Fc(mk:List Value→Con):Fam:=fun c _ _=>match c with
 |.call _ ⟨as,_⟩=>mk as
 |_=>conNo
theorem Fc_ok{prog:Program}{w:World}{kt:KT}{nt:Nat}{mk:List Value→Con}(h:∀as,ConOk prog w kt nt (mk as)):FamOk prog w kt nt (Fc mk):=by
 intro c T sc
 unfold Fc
 split
 ·exact h _
 ·exact conNo_ok
noncomputable def arg0(as:List Value):Tok:=tokOf (nthD .none as 0)
noncomputable def arg1(as:List Value):Tok:=tokOf (nthD .none as 1)
noncomputable def arg2(as:List Value):Tok:=tokOf (nthD .none as 2)
noncomputable def szOf(k:Nat):Nat:=match k with
 |1=>1
 |15=>1
 |_=>0
inductive Ty where
 |n|z0|z1|o|s
noncomputable def Ty.k:Ty→Nat
 |.n=>0|.z0=>8|.z1=>9|.o=>1|.s=>15
noncomputable def Ty.l:Ty→Nat
 |.n=>0|.z0=>0|.z1=>0|.o=>1|.s=>1
noncomputable def cSz(x:Ty)(t:Tok):Con:=cFn 232 [.int (.ofNat x.k) t] (.int (.ofNat x.l)) 2
noncomputable def Fsz(x:Ty):Fam:=Fc fun as=>cSz x (arg0 as)
noncomputable def cGv(o:Array UInt8)(a k:Nat)(t u:Tok):Con:=
 ⟨.call (.ref 197) ⟨[.bytes o t,.int (.ofNat a) u],[]⟩,[],fun X=>.ref (X 0),fun _=>[],fun X=>[tupObj #[.int (.ofNat k) (X 1),.int (.ofNat (a+1)) (X 2)]],1,none,false,false⟩
noncomputable def Fgv(o:Array UInt8)(a k:Nat):Fam:=Fc fun as=>cGv o a k (arg0 as) (arg1 as)
noncomputable def cVal(o:Array UInt8)(a k:Nat)(v:Tok→Value)(t u u':Tok):Con:=cFn 246 [.bytes o t,.int (.ofNat a) u,.int (.ofNat k) u'] v 3
noncomputable def Fval(o:Array UInt8)(a k:Nat)(v:Tok→Value):Fam:=Fc fun as=>cVal o a k v (arg0 as) (arg1 as) (arg2 as)
section
variable{w:World}{P:Params}{b1 b2:Bool}(hP:w.params=parT P b1 b2)(nt:Nat)
include hP
theorem sz_ok(x:Ty)(t:Tok):CO w P b1 b2 nt (cSz x t):=by
 cases x
 ·exact ko hP 2 [] [.ret] 97 (k_d2 0) (fc tinOwn_ok fn0)
 ·exact ko hP 2 [] [.ret] 58 (k_d3 0) (fc tinOwn_ok fn0)
 ·exact ko hP 2 [] [.ret] 58 (k_d3 0) (fc tinOwn_ok fn0)
 ·exact ko hP 2 [] [.ret] 97 (k_d2 0) (fc tinOwn_ok fn0)
 ·exact ko hP 2 [] [.ret] 57 0x100000001000001010000 (cs:=[]) fn0
theorem sz_f(x:Ty):FamOk pw w (Kq P b1 b2) nt (Fsz x):=Fc_ok fun as=>sz_ok hP nt x _
theorem gv_3_0_3(a1 a2:UInt8)(t u:Tok):CO w P b1 b2 nt (cGv #[3,a1,a2] 0 3 t u):=by
 exact ko hP 1 [3] [.itm 3 0,.itm 3 1] 215 (k_bn 0) (cs:=[]) fn0
theorem gv_4_0_3(a1 a2 a3:UInt8)(t u:Tok):CO w P b1 b2 nt (cGv #[3,a1,a2,a3] 0 3 t u):=by
 exact ko hP 1 [3] [.itm 3 0,.itm 3 1] 215 (k_bn 0) (cs:=[]) fn0
theorem gv_5_0_3(a1 a2 a3 a4:UInt8)(t u:Tok):CO w P b1 b2 nt (cGv #[3,a1,a2,a3,a4] 0 3 t u):=by
 exact ko hP 1 [3] [.itm 3 0,.itm 3 1] 215 (k_bn 0) (cs:=[]) fn0
theorem gv_3_1_0(a0 a2:UInt8)(t u:Tok):CO w P b1 b2 nt (cGv #[a0,0,a2] 1 0 t u):=by
 exact ko hP 1 [3] [.itm 3 0,.itm 3 1] 215 (k_bn 0) (cs:=[]) fn0
theorem gv_4_1_0(a0 a2 a3:UInt8)(t u:Tok):CO w P b1 b2 nt (cGv #[a0,0,a2,a3] 1 0 t u):=by
 exact ko hP 1 [3] [.itm 3 0,.itm 3 1] 215 (k_bn 0) (cs:=[]) fn0
theorem gv_3_1_8(a0 a2:UInt8)(t u:Tok):CO w P b1 b2 nt (cGv #[a0,8,a2] 1 8 t u):=by
 exact ko hP 1 [3] [.itm 3 0,.itm 3 1] 215 (k_bn 0) (cs:=[]) fn0
theorem gv_4_1_8(a0 a2 a3:UInt8)(t u:Tok):CO w P b1 b2 nt (cGv #[a0,8,a2,a3] 1 8 t u):=by
 exact ko hP 1 [3] [.itm 3 0,.itm 3 1] 215 (k_bn 0) (cs:=[]) fn0
theorem gv_3_1_9(a0 a2:UInt8)(t u:Tok):CO w P b1 b2 nt (cGv #[a0,9,a2] 1 9 t u):=by
 exact ko hP 1 [3] [.itm 3 0,.itm 3 1] 215 (k_bn 0) (cs:=[]) fn0
theorem gv_4_1_9(a0 a2 a3:UInt8)(t u:Tok):CO w P b1 b2 nt (cGv #[a0,9,a2,a3] 1 9 t u):=by
 exact ko hP 1 [3] [.itm 3 0,.itm 3 1] 215 (k_bn 0) (cs:=[]) fn0
theorem gv_4_1_1(a0 a2 a3:UInt8)(t u:Tok):CO w P b1 b2 nt (cGv #[a0,1,a2,a3] 1 1 t u):=by
 exact ko hP 1 [3] [.itm 3 0,.itm 3 1] 215 (k_bn 0) (cs:=[]) fn0
theorem gv_5_1_1(a0 a2 a3 a4:UInt8)(t u:Tok):CO w P b1 b2 nt (cGv #[a0,1,a2,a3,a4] 1 1 t u):=by
 exact ko hP 1 [3] [.itm 3 0,.itm 3 1] 215 (k_bn 0) (cs:=[]) fn0
theorem gv_4_1_15(a0 a2 a3:UInt8)(t u:Tok):CO w P b1 b2 nt (cGv #[a0,15,a2,a3] 1 15 t u):=by
 exact ko hP 1 [3] [.itm 3 0,.itm 3 1] 215 (k_bn 0) (cs:=[]) fn0
theorem gv_5_1_15(a0 a2 a3 a4:UInt8)(t u:Tok):CO w P b1 b2 nt (cGv #[a0,15,a2,a3,a4] 1 15 t u):=by
 exact ko hP 1 [3] [.itm 3 0,.itm 3 1] 215 (k_bn 0) (cs:=[]) fn0
theorem gv_3_2_9(a0 a1:UInt8)(t u:Tok):CO w P b1 b2 nt (cGv #[a0,a1,9] 2 9 t u):=by
 exact ko hP 1 [3] [.itm 3 0,.itm 3 1] 215 (k_bn 0) (cs:=[]) fn0
theorem gv_4_2_9(a0 a1 a3:UInt8)(t u:Tok):CO w P b1 b2 nt (cGv #[a0,a1,9,a3] 2 9 t u):=by
 exact ko hP 1 [3] [.itm 3 0,.itm 3 1] 215 (k_bn 0) (cs:=[]) fn0
theorem gv_4_2_1(a0 a1 a3:UInt8)(t u:Tok):CO w P b1 b2 nt (cGv #[a0,a1,1,a3] 2 1 t u):=by
 exact ko hP 1 [3] [.itm 3 0,.itm 3 1] 215 (k_bn 0) (cs:=[]) fn0
theorem gv_5_2_1(a0 a1 a3 a4:UInt8)(t u:Tok):CO w P b1 b2 nt (cGv #[a0,a1,1,a3,a4] 2 1 t u):=by
 exact ko hP 1 [3] [.itm 3 0,.itm 3 1] 215 (k_bn 0) (cs:=[]) fn0
theorem val_3_3_0_0(a0 a1 a2:UInt8)(t u u':Tok):CO w P b1 b2 nt (cVal #[a0,a1,a2] 3 0 (fun _=>.none) t u u'):=by
 exact ko hP 3 [] [.ret] 96 (k_9 0x10000) (fc (sz_f hP nt .n) fn0)
theorem val_4_3_0_0(a0 a1 a2 a3:UInt8)(t u u':Tok):CO w P b1 b2 nt (cVal #[a0,a1,a2,a3] 3 0 (fun _=>.none) t u u'):=by
 exact ko hP 3 [] [.ret] 96 (k_9 0x10000) (fc (sz_f hP nt .n) fn0)
theorem val_3_3_8_0(a0 a1 a2:UInt8)(t u u':Tok):CO w P b1 b2 nt (cVal #[a0,a1,a2] 3 8 (.int 0) t u u'):=by
 exact ko hP 3 [] [.ret] 107 (k_9 0x10000010000) (fc (sz_f hP nt .z0) fn0)
theorem val_4_3_8_0(a0 a1 a2 a3:UInt8)(t u u':Tok):CO w P b1 b2 nt (cVal #[a0,a1,a2,a3] 3 8 (.int 0) t u u'):=by
 exact ko hP 3 [] [.ret] 107 (k_9 0x10000010000) (fc (sz_f hP nt .z0) fn0)
theorem val_3_3_9_0(a0 a1 a2:UInt8)(t u u':Tok):CO w P b1 b2 nt (cVal #[a0,a1,a2] 3 9 (.int 1) t u u'):=by
 exact ko hP 3 [] [.ret] 117 (k_dx 0) (fc (sz_f hP nt .z1) fn0)
theorem val_4_3_9_0(a0 a1 a2 a3:UInt8)(t u u':Tok):CO w P b1 b2 nt (cVal #[a0,a1,a2,a3] 3 9 (.int 1) t u u'):=by
 exact ko hP 3 [] [.ret] 117 (k_dx 0) (fc (sz_f hP nt .z1) fn0)
theorem val_4_3_1_2(a0 a1 a2:UInt8)(t u u':Tok):CO w P b1 b2 nt (cVal #[a0,a1,a2,2] 3 1 (.int 2) t u u'):=by
 exact ko hP 3 [] [.ret] 314 (k_b2 0) (fc (sz_f hP nt .o) fn0)
theorem val_5_3_1_2(a0 a1 a2 a4:UInt8)(t u u':Tok):CO w P b1 b2 nt (cVal #[a0,a1,a2,2,a4] 3 1 (.int 2) t u u'):=by
 exact ko hP 3 [] [.ret] 314 (k_b2 0) (fc (sz_f hP nt .o) fn0)
theorem val_4_3_1_5(a0 a1 a2:UInt8)(t u u':Tok):CO w P b1 b2 nt (cVal #[a0,a1,a2,5] 3 1 (.int 5) t u u'):=by
 exact ko hP 3 [] [.ret] 314 (k_b2 0) (fc (sz_f hP nt .o) fn0)
theorem val_5_3_1_5(a0 a1 a2 a4:UInt8)(t u u':Tok):CO w P b1 b2 nt (cVal #[a0,a1,a2,5,a4] 3 1 (.int 5) t u u'):=by
 exact ko hP 3 [] [.ret] 314 (k_b2 0) (fc (sz_f hP nt .o) fn0)
section
variable(a0 a1 a2:UInt8)(t u u':Tok)
include a0 a1 a2 t u u'
theorem val_4_3_1_3:CO w P b1 b2 nt (cVal #[a0,a1,a2,3] 3 1 (.int 3) t u u'):=by
 exact ko hP 3 [] [.ret] 314 (k_b2 0) (fc (sz_f hP nt .o) fn0)
theorem val_4_3_1_4:CO w P b1 b2 nt (cVal #[a0,a1,a2,4] 3 1 (.int 4) t u u'):=by
 exact ko hP 3 [] [.ret] 314 (k_b2 0) (fc (sz_f hP nt .o) fn0)
theorem val_4_3_15_97:CO w P b1 b2 nt (cVal #[a0,a1,a2,97] 3 15 (.str ⟨#[97]⟩) t u u'):=by
 exact ko hP 3 [] [.ret] 656 (k_cz 0) (fc (sz_f hP nt .s) fn0)
end
theorem val_5_3_15_97(a0 a1 a2 a4:UInt8)(t u u':Tok):CO w P b1 b2 nt (cVal #[a0,a1,a2,97,a4] 3 15 (.str ⟨#[97]⟩) t u u'):=by
 exact ko hP 3 [] [.ret] 656 (k_cz 0) (fc (sz_f hP nt .s) fn0)
theorem val_4_3_15_98(a0 a1 a2:UInt8)(t u u':Tok):CO w P b1 b2 nt (cVal #[a0,a1,a2,98] 3 15 (.str ⟨#[98]⟩) t u u'):=by
 exact ko hP 3 [] [.ret] 656 (k_cz 0) (fc (sz_f hP nt .s) fn0)
theorem val_5_3_15_98(a0 a1 a2 a4:UInt8)(t u u':Tok):CO w P b1 b2 nt (cVal #[a0,a1,a2,98,a4] 3 15 (.str ⟨#[98]⟩) t u u'):=by
 exact ko hP 3 [] [.ret] 656 (k_cz 0) (fc (sz_f hP nt .s) fn0)
theorem val_4_3_15_66(a0 a1 a2:UInt8)(t u u':Tok):CO w P b1 b2 nt (cVal #[a0,a1,a2,66] 3 15 (.str ⟨#[66]⟩) t u u'):=by
 exact ko hP 3 [] [.ret] 656 (k_cz 0) (fc (sz_f hP nt .s) fn0)
theorem val_5_3_15_66(a0 a1 a2 a4:UInt8)(t u u':Tok):CO w P b1 b2 nt (cVal #[a0,a1,a2,66,a4] 3 15 (.str ⟨#[66]⟩) t u u'):=by
 exact ko hP 3 [] [.ret] 656 (k_cz 0) (fc (sz_f hP nt .s) fn0)
section
variable(a0 a1 a2 a3:UInt8)(t u u':Tok)
include a0 a1 a2 a3 t u u'
theorem val_4_4_9_0:CO w P b1 b2 nt (cVal #[a0,a1,a2,a3] 4 9 (.int 1) t u u'):=by
 exact ko hP 3 [] [.ret] 117 (k_dx 0) (fc (sz_f hP nt .z1) fn0)
theorem val_5_4_1_2:CO w P b1 b2 nt (cVal #[a0,a1,a2,a3,2] 4 1 (.int 2) t u u'):=by
 exact ko hP 3 [] [.ret] 314 (k_b2 0) (fc (sz_f hP nt .o) fn0)
theorem val_5_4_1_3:CO w P b1 b2 nt (cVal #[a0,a1,a2,a3,3] 4 1 (.int 3) t u u'):=by
 exact ko hP 3 [] [.ret] 314 (k_b2 0) (fc (sz_f hP nt .o) fn0)
theorem val_5_4_1_4:CO w P b1 b2 nt (cVal #[a0,a1,a2,a3,4] 4 1 (.int 4) t u u'):=by
 exact ko hP 3 [] [.ret] 314 (k_b2 0) (fc (sz_f hP nt .o) fn0)
end
end
section
variable{prog:Program}{w:World}{kt:KT}{nt:Nat}
theorem gv_f{o:Array UInt8}{a k:Nat}(h:∀t u,ConOk prog w kt nt (cGv o a k t u)):FamOk prog w kt nt (Fgv o a k):=Fc_ok fun _=>h _ _
theorem val_f{o:Array UInt8}{a k:Nat}{v:Tok→Value}(h:∀t u u',ConOk prog w kt nt (cVal o a k v t u u')):FamOk prog w kt nt (Fval o a k v):=Fc_ok fun _=>h _ _ _
end
noncomputable def cDec(o:Array UInt8)(x y:Tok→Value)(t:Tok):Con:=
 ⟨.call (.ref 274) ⟨[.bytes o t],[]⟩,[],fun X=>.ref (X 0),fun _=>[],fun X=>[lstObj #[x (X 1),y (X 2)] 2],4,none,false,false⟩
noncomputable def cCol(o:Array UInt8)(x:Tok→Value)(t u:Tok):Con:=cFn 281 [.bytes o t,.int 0 u] x 4
section
variable{w:World}{P:Params}{b1 b2:Bool}(hP:w.params=parT P b1 b2)(nt:Nat)
include hP
theorem dec_n_z1 (h0:∀t u,CO w P b1 b2 nt (cGv #[3,0,9] 0 3 t u)) (h1:∀t u,CO w P b1 b2 nt (cGv #[3,0,9] 1 0 t u)) (h2:∀t u,CO w P b1 b2 nt (cGv #[3,0,9] 2 9 t u)) (v1:∀t u u',CO w P b1 b2 nt (cVal #[3,0,9] 3 0 (fun _=>.none) t u u')) (v2:∀t u u',CO w P b1 b2 nt (cVal #[3,0,9] 3 9 (.int 1) t u u')) (t:Tok):CO w P b1 b2 nt (cDec #[3,0,9] (fun _=>.none) (.int 1) t):=by
 exact ko hP 4 [19] [.itm 19 0,.itm 19 1] 666 (k_bQ 0) (fc (gv_f h0) (fc (gv_f h1) (fc (gv_f h2) (fc (val_f v1) (fc (sz_f hP nt .n) (fc (val_f v2) (fc (sz_f hP nt .z1) fn0)))))))
theorem dec_n_o(d:UInt8)(j:Int)(h0:∀t u,CO w P b1 b2 nt (cGv #[3,0,1,d] 0 3 t u))(h1:∀t u,CO w P b1 b2 nt (cGv #[3,0,1,d] 1 0 t u))(h2:∀t u,CO w P b1 b2 nt (cGv #[3,0,1,d] 2 1 t u))(v1:∀t u u',CO w P b1 b2 nt (cVal #[3,0,1,d] 3 0 (fun _=>.none) t u u'))(v2:∀t u u',CO w P b1 b2 nt (cVal #[3,0,1,d] 3 1 (.int j) t u u'))(t:Tok):CO w P b1 b2 nt (cDec #[3,0,1,d] (fun _=>.none) (.int j) t):=by
 exact ko hP 4 [19] [.itm 19 0,.itm 19 1] 666 (k_bQ 0) (fc (gv_f h0) (fc (gv_f h1) (fc (gv_f h2) (fc (val_f v1) (fc (sz_f hP nt .n) (fc (val_f v2) (fc (sz_f hP nt .o) fn0)))))))
theorem rcol_n_0(k:UInt8) (h0:∀t u,CO w P b1 b2 nt (cGv #[3,0,k] 0 3 t u)) (h1:∀t u,CO w P b1 b2 nt (cGv #[3,0,k] 1 0 t u)) (v1:∀t u u',CO w P b1 b2 nt (cVal #[3,0,k] 3 0 (fun _=>.none) t u u')) (t u:Tok):CO w P b1 b2 nt (cCol #[3,0,k] (fun _=>.none) t u):=by
 exact ko hP 4 [] [.ret] 263 (k_bR 0) (fc (gv_f h0) (fc (gv_f h1) (fc (val_f v1) fn0)))
theorem rcol_n_1(k:UInt8)(d:UInt8)(h0:∀t u,CO w P b1 b2 nt (cGv #[3,0,k,d] 0 3 t u))(h1:∀t u,CO w P b1 b2 nt (cGv #[3,0,k,d] 1 0 t u))(v1:∀t u u',CO w P b1 b2 nt (cVal #[3,0,k,d] 3 0 (fun _=>.none) t u u'))(t u:Tok):CO w P b1 b2 nt (cCol #[3,0,k,d] (fun _=>.none) t u):=by
 exact ko hP 4 [] [.ret] 263 (k_bR 0) (fc (gv_f h0) (fc (gv_f h1) (fc (val_f v1) fn0)))
theorem dec_z0_z1 (h0:∀t u,CO w P b1 b2 nt (cGv #[3,8,9] 0 3 t u)) (h1:∀t u,CO w P b1 b2 nt (cGv #[3,8,9] 1 8 t u)) (h2:∀t u,CO w P b1 b2 nt (cGv #[3,8,9] 2 9 t u)) (v1:∀t u u',CO w P b1 b2 nt (cVal #[3,8,9] 3 8 (.int 0) t u u')) (v2:∀t u u',CO w P b1 b2 nt (cVal #[3,8,9] 3 9 (.int 1) t u u')) (t:Tok):CO w P b1 b2 nt (cDec #[3,8,9] (.int 0) (.int 1) t):=by
 exact ko hP 4 [19] [.itm 19 0,.itm 19 1] 666 (k_bQ 0) (fc (gv_f h0) (fc (gv_f h1) (fc (gv_f h2) (fc (val_f v1) (fc (sz_f hP nt .z0) (fc (val_f v2) (fc (sz_f hP nt .z1) fn0)))))))
theorem dec_z0_o(d:UInt8)(j:Int)(h0:∀t u,CO w P b1 b2 nt (cGv #[3,8,1,d] 0 3 t u))(h1:∀t u,CO w P b1 b2 nt (cGv #[3,8,1,d] 1 8 t u))(h2:∀t u,CO w P b1 b2 nt (cGv #[3,8,1,d] 2 1 t u))(v1:∀t u u',CO w P b1 b2 nt (cVal #[3,8,1,d] 3 8 (.int 0) t u u'))(v2:∀t u u',CO w P b1 b2 nt (cVal #[3,8,1,d] 3 1 (.int j) t u u'))(t:Tok):CO w P b1 b2 nt (cDec #[3,8,1,d] (.int 0) (.int j) t):=by
 exact ko hP 4 [19] [.itm 19 0,.itm 19 1] 666 (k_bQ 0) (fc (gv_f h0) (fc (gv_f h1) (fc (gv_f h2) (fc (val_f v1) (fc (sz_f hP nt .z0) (fc (val_f v2) (fc (sz_f hP nt .o) fn0)))))))
theorem rcol_z0_0(k:UInt8) (h0:∀t u,CO w P b1 b2 nt (cGv #[3,8,k] 0 3 t u)) (h1:∀t u,CO w P b1 b2 nt (cGv #[3,8,k] 1 8 t u)) (v1:∀t u u',CO w P b1 b2 nt (cVal #[3,8,k] 3 8 (.int 0) t u u')) (t u:Tok):CO w P b1 b2 nt (cCol #[3,8,k] (.int 0) t u):=by
 exact ko hP 4 [] [.ret] 263 (k_bR 0) (fc (gv_f h0) (fc (gv_f h1) (fc (val_f v1) fn0)))
theorem rcol_z0_1(k:UInt8)(d:UInt8)(h0:∀t u,CO w P b1 b2 nt (cGv #[3,8,k,d] 0 3 t u))(h1:∀t u,CO w P b1 b2 nt (cGv #[3,8,k,d] 1 8 t u))(v1:∀t u u',CO w P b1 b2 nt (cVal #[3,8,k,d] 3 8 (.int 0) t u u'))(t u:Tok):CO w P b1 b2 nt (cCol #[3,8,k,d] (.int 0) t u):=by
 exact ko hP 4 [] [.ret] 263 (k_bR 0) (fc (gv_f h0) (fc (gv_f h1) (fc (val_f v1) fn0)))
theorem dec_z1_z1 (h0:∀t u,CO w P b1 b2 nt (cGv #[3,9,9] 0 3 t u)) (h1:∀t u,CO w P b1 b2 nt (cGv #[3,9,9] 1 9 t u)) (h2:∀t u,CO w P b1 b2 nt (cGv #[3,9,9] 2 9 t u)) (v1:∀t u u',CO w P b1 b2 nt (cVal #[3,9,9] 3 9 (.int 1) t u u')) (v2:∀t u u',CO w P b1 b2 nt (cVal #[3,9,9] 3 9 (.int 1) t u u')) (t:Tok):CO w P b1 b2 nt (cDec #[3,9,9] (.int 1) (.int 1) t):=by
 exact ko hP 4 [19] [.itm 19 0,.itm 19 1] 666 (k_bQ 0) (fc (gv_f h0) (fc (gv_f h1) (fc (gv_f h2) (fc (val_f v1) (fc (sz_f hP nt .z1) (fc (val_f v2) (fc (sz_f hP nt .z1) fn0)))))))
theorem dec_z1_o(d:UInt8)(j:Int)(h0:∀t u,CO w P b1 b2 nt (cGv #[3,9,1,d] 0 3 t u))(h1:∀t u,CO w P b1 b2 nt (cGv #[3,9,1,d] 1 9 t u))(h2:∀t u,CO w P b1 b2 nt (cGv #[3,9,1,d] 2 1 t u))(v1:∀t u u',CO w P b1 b2 nt (cVal #[3,9,1,d] 3 9 (.int 1) t u u'))(v2:∀t u u',CO w P b1 b2 nt (cVal #[3,9,1,d] 3 1 (.int j) t u u'))(t:Tok):CO w P b1 b2 nt (cDec #[3,9,1,d] (.int 1) (.int j) t):=by
 exact ko hP 4 [19] [.itm 19 0,.itm 19 1] 666 (k_bQ 0) (fc (gv_f h0) (fc (gv_f h1) (fc (gv_f h2) (fc (val_f v1) (fc (sz_f hP nt .z1) (fc (val_f v2) (fc (sz_f hP nt .o) fn0)))))))
theorem rcol_z1_0(k:UInt8) (h0:∀t u,CO w P b1 b2 nt (cGv #[3,9,k] 0 3 t u)) (h1:∀t u,CO w P b1 b2 nt (cGv #[3,9,k] 1 9 t u)) (v1:∀t u u',CO w P b1 b2 nt (cVal #[3,9,k] 3 9 (.int 1) t u u')) (t u:Tok):CO w P b1 b2 nt (cCol #[3,9,k] (.int 1) t u):=by
 exact ko hP 4 [] [.ret] 263 (k_bR 0) (fc (gv_f h0) (fc (gv_f h1) (fc (val_f v1) fn0)))
theorem rcol_z1_1(k:UInt8)(d:UInt8)(h0:∀t u,CO w P b1 b2 nt (cGv #[3,9,k,d] 0 3 t u))(h1:∀t u,CO w P b1 b2 nt (cGv #[3,9,k,d] 1 9 t u))(v1:∀t u u',CO w P b1 b2 nt (cVal #[3,9,k,d] 3 9 (.int 1) t u u'))(t u:Tok):CO w P b1 b2 nt (cCol #[3,9,k,d] (.int 1) t u):=by
 exact ko hP 4 [] [.ret] 263 (k_bR 0) (fc (gv_f h0) (fc (gv_f h1) (fc (val_f v1) fn0)))
theorem dec_o_z1(c:UInt8)(i:Int)(h0:∀t u,CO w P b1 b2 nt (cGv #[3,1,9,c] 0 3 t u))(h1:∀t u,CO w P b1 b2 nt (cGv #[3,1,9,c] 1 1 t u))(h2:∀t u,CO w P b1 b2 nt (cGv #[3,1,9,c] 2 9 t u))(v1:∀t u u',CO w P b1 b2 nt (cVal #[3,1,9,c] 3 1 (.int i) t u u'))(v2:∀t u u',CO w P b1 b2 nt (cVal #[3,1,9,c] 4 9 (.int 1) t u u'))(t:Tok):CO w P b1 b2 nt (cDec #[3,1,9,c] (.int i) (.int 1) t):=by
 exact ko hP 4 [19] [.itm 19 0,.itm 19 1] 666 (k_bQ 0) (fc (gv_f h0) (fc (gv_f h1) (fc (gv_f h2) (fc (val_f v1) (fc (sz_f hP nt .o) (fc (val_f v2) (fc (sz_f hP nt .z1) fn0)))))))
theorem dec_o_o(c:UInt8)(d:UInt8)(i:Int)(j:Int)(h0:∀t u,CO w P b1 b2 nt (cGv #[3,1,1,c,d] 0 3 t u))(h1:∀t u,CO w P b1 b2 nt (cGv #[3,1,1,c,d] 1 1 t u))(h2:∀t u,CO w P b1 b2 nt (cGv #[3,1,1,c,d] 2 1 t u))(v1:∀t u u',CO w P b1 b2 nt (cVal #[3,1,1,c,d] 3 1 (.int i) t u u'))(v2:∀t u u',CO w P b1 b2 nt (cVal #[3,1,1,c,d] 4 1 (.int j) t u u'))(t:Tok):CO w P b1 b2 nt (cDec #[3,1,1,c,d] (.int i) (.int j) t):=by
 exact ko hP 4 [19] [.itm 19 0,.itm 19 1] 666 (k_bQ 0) (fc (gv_f h0) (fc (gv_f h1) (fc (gv_f h2) (fc (val_f v1) (fc (sz_f hP nt .o) (fc (val_f v2) (fc (sz_f hP nt .o) fn0)))))))
theorem rcol_o_0(k:UInt8)(c:UInt8)(i:Int)(h0:∀t u,CO w P b1 b2 nt (cGv #[3,1,k,c] 0 3 t u))(h1:∀t u,CO w P b1 b2 nt (cGv #[3,1,k,c] 1 1 t u))(v1:∀t u u',CO w P b1 b2 nt (cVal #[3,1,k,c] 3 1 (.int i) t u u'))(t u:Tok):CO w P b1 b2 nt (cCol #[3,1,k,c] (.int i) t u):=by
 exact ko hP 4 [] [.ret] 263 (k_bR 0) (fc (gv_f h0) (fc (gv_f h1) (fc (val_f v1) fn0)))
theorem rcol_o_1(k:UInt8)(c:UInt8)(d:UInt8)(i:Int)(h0:∀t u,CO w P b1 b2 nt (cGv #[3,1,k,c,d] 0 3 t u))(h1:∀t u,CO w P b1 b2 nt (cGv #[3,1,k,c,d] 1 1 t u))(v1:∀t u u',CO w P b1 b2 nt (cVal #[3,1,k,c,d] 3 1 (.int i) t u u'))(t u:Tok):CO w P b1 b2 nt (cCol #[3,1,k,c,d] (.int i) t u):=by
 exact ko hP 4 [] [.ret] 263 (k_bR 0) (fc (gv_f h0) (fc (gv_f h1) (fc (val_f v1) fn0)))
theorem dec_s_z1(c:UInt8)(s:Str)(h0:∀t u,CO w P b1 b2 nt (cGv #[3,15,9,c] 0 3 t u))(h1:∀t u,CO w P b1 b2 nt (cGv #[3,15,9,c] 1 15 t u))(h2:∀t u,CO w P b1 b2 nt (cGv #[3,15,9,c] 2 9 t u))(v1:∀t u u',CO w P b1 b2 nt (cVal #[3,15,9,c] 3 15 (.str s) t u u'))(v2:∀t u u',CO w P b1 b2 nt (cVal #[3,15,9,c] 4 9 (.int 1) t u u'))(t:Tok):CO w P b1 b2 nt (cDec #[3,15,9,c] (.str s) (.int 1) t):=by
 exact ko hP 4 [19] [.itm 19 0,.itm 19 1] 666 (k_bQ 0) (fc (gv_f h0) (fc (gv_f h1) (fc (gv_f h2) (fc (val_f v1) (fc (sz_f hP nt .s) (fc (val_f v2) (fc (sz_f hP nt .z1) fn0)))))))
theorem dec_s_o(c:UInt8)(d:UInt8)(s:Str)(j:Int)(h0:∀t u,CO w P b1 b2 nt (cGv #[3,15,1,c,d] 0 3 t u))(h1:∀t u,CO w P b1 b2 nt (cGv #[3,15,1,c,d] 1 15 t u))(h2:∀t u,CO w P b1 b2 nt (cGv #[3,15,1,c,d] 2 1 t u))(v1:∀t u u',CO w P b1 b2 nt (cVal #[3,15,1,c,d] 3 15 (.str s) t u u'))(v2:∀t u u',CO w P b1 b2 nt (cVal #[3,15,1,c,d] 4 1 (.int j) t u u'))(t:Tok):CO w P b1 b2 nt (cDec #[3,15,1,c,d] (.str s) (.int j) t):=by
 exact ko hP 4 [19] [.itm 19 0,.itm 19 1] 666 (k_bQ 0) (fc (gv_f h0) (fc (gv_f h1) (fc (gv_f h2) (fc (val_f v1) (fc (sz_f hP nt .s) (fc (val_f v2) (fc (sz_f hP nt .o) fn0)))))))
theorem rcol_s_0(k:UInt8)(c:UInt8)(s:Str)(h0:∀t u,CO w P b1 b2 nt (cGv #[3,15,k,c] 0 3 t u))(h1:∀t u,CO w P b1 b2 nt (cGv #[3,15,k,c] 1 15 t u))(v1:∀t u u',CO w P b1 b2 nt (cVal #[3,15,k,c] 3 15 (.str s) t u u'))(t u:Tok):CO w P b1 b2 nt (cCol #[3,15,k,c] (.str s) t u):=by
 exact ko hP 4 [] [.ret] 263 (k_bR 0) (fc (gv_f h0) (fc (gv_f h1) (fc (val_f v1) fn0)))
theorem rcol_s_1(k:UInt8)(c:UInt8)(d:UInt8)(s:Str)(h0:∀t u,CO w P b1 b2 nt (cGv #[3,15,k,c,d] 0 3 t u))(h1:∀t u,CO w P b1 b2 nt (cGv #[3,15,k,c,d] 1 15 t u))(v1:∀t u u',CO w P b1 b2 nt (cVal #[3,15,k,c,d] 3 15 (.str s) t u u'))(t u:Tok):CO w P b1 b2 nt (cCol #[3,15,k,c,d] (.str s) t u):=by
 exact ko hP 4 [] [.ret] 263 (k_bR 0) (fc (gv_f h0) (fc (gv_f h1) (fc (val_f v1) fn0)))
end
noncomputable def It.bodyL:It→List UInt8
 |.n=>[]|.i0=>[]|.i1=>[]|.i2=>[2]|.i3=>[3]|.i4=>[4]|.i5=>[5]|.sa=>[97]|.sb=>[98]|.sB=>[66]
noncomputable def It.st:It→Bool
 |.i3=>false|.i4=>false|_=>true
noncomputable def It.rw:It→Bool
 |.i1=>true|.i2=>true|.i3=>true|.i4=>true|_=>false
noncomputable def oct(x y:It):Array UInt8:=⟨3::x.typB::y.typB::(x.bodyL++y.bodyL)⟩
theorem oct_enc(x y:It): #[3,x.typB,y.typB]++x.sh.body++y.sh.body=oct x y:=by cases x<;>cases y<;>rfl
structure DC(w:World)(P:Params)(b1 b2:Bool)(nt:Nat)(x y:It):Prop where
 h0:∀t u,CO w P b1 b2 nt (cGv (oct x y) 0 3 t u)
 h1:∀t u,CO w P b1 b2 nt (cGv (oct x y) 1 x.typ t u)
 v1:∀t u u',CO w P b1 b2 nt (cVal (oct x y) 3 x.typ x.val t u u')
structure DD(w:World)(P:Params)(b1 b2:Bool)(nt:Nat)(x y:It):Prop where
 h2:∀t u,CO w P b1 b2 nt (cGv (oct x y) 2 y.typ t u)
 v2:∀t u u',CO w P b1 b2 nt (cVal (oct x y) (3+x.bodyL.length) y.typ y.val t u u')
section
variable{w:World}{P:Params}{b1 b2:Bool}(hP:w.params=parT P b1 b2)(nt:Nat)
include hP
theorem gv0_it(x y:It)(t u:Tok):CO w P b1 b2 nt (cGv (oct x y) 0 3 t u):=by
 cases x<;>cases y<;>first|exact gv_3_0_3 hP nt _ _ t u|exact gv_4_0_3 hP nt _ _ _ t u|exact gv_5_0_3 hP nt _ _ _ _ t u
section
variable(x y:It)(hx:x.st=true)
include x y hx
theorem gv1_it(t u:Tok):CO w P b1 b2 nt (cGv (oct x y) 1 x.typ t u):=by
 cases x<;>cases y<;>first|exact absurd hx (by decide)|exact gv_3_1_0 hP nt _ _ t u|exact gv_4_1_0 hP nt _ _ _ t u|exact gv_3_1_8 hP nt _ _ t u|exact gv_4_1_8 hP nt _ _ _ t u|exact gv_3_1_9 hP nt _ _ t u|exact gv_4_1_9 hP nt _ _ _ t u|exact gv_4_1_1 hP nt _ _ _ t u|exact gv_5_1_1 hP nt _ _ _ _ t u|exact gv_4_1_15 hP nt _ _ _ t u|exact gv_5_1_15 hP nt _ _ _ _ t u
theorem gv2_it(hy:y.rw=true)(t u:Tok):CO w P b1 b2 nt (cGv (oct x y) 2 y.typ t u):=by
 cases x<;>cases y<;>first|exact absurd hx (by decide)|exact absurd hy (by decide)|exact gv_3_2_9 hP nt _ _ t u|exact gv_4_2_9 hP nt _ _ _ t u|exact gv_4_2_1 hP nt _ _ _ t u|exact gv_5_2_1 hP nt _ _ _ _ t u
theorem val1_it(t u u':Tok):CO w P b1 b2 nt (cVal (oct x y) 3 x.typ x.val t u u'):=by
 cases x<;>cases y<;>first|exact absurd hx (by decide)|exact val_3_3_0_0 hP nt _ _ _ t u u'|exact val_4_3_0_0 hP nt _ _ _ _ t u u'|exact val_3_3_8_0 hP nt _ _ _ t u u'|exact val_4_3_8_0 hP nt _ _ _ _ t u u'|exact val_3_3_9_0 hP nt _ _ _ t u u'|exact val_4_3_9_0 hP nt _ _ _ _ t u u'|exact val_4_3_1_2 hP nt _ _ _ t u u'|exact val_5_3_1_2 hP nt _ _ _ _ t u u'|exact val_4_3_1_5 hP nt _ _ _ t u u'|exact val_5_3_1_5 hP nt _ _ _ _ t u u'|exact val_4_3_1_3 hP nt _ _ _ t u u'|exact val_4_3_1_4 hP nt _ _ _ t u u'|exact val_4_3_15_97 hP nt _ _ _ t u u'|exact val_5_3_15_97 hP nt _ _ _ _ t u u'|exact val_4_3_15_98 hP nt _ _ _ t u u'|exact val_5_3_15_98 hP nt _ _ _ _ t u u'|exact val_4_3_15_66 hP nt _ _ _ t u u'|exact val_5_3_15_66 hP nt _ _ _ _ t u u'
theorem val2_it(hy:y.rw=true)(t u u':Tok):CO w P b1 b2 nt (cVal (oct x y) (3+x.bodyL.length) y.typ y.val t u u'):=by
 cases x<;>cases y<;>first|exact absurd hx (by decide)|exact absurd hy (by decide)|exact val_3_3_9_0 hP nt _ _ _ t u u'|exact val_4_3_9_0 hP nt _ _ _ _ t u u'|exact val_4_3_1_2 hP nt _ _ _ t u u'|exact val_5_3_1_2 hP nt _ _ _ _ t u u'|exact val_4_3_1_5 hP nt _ _ _ t u u'|exact val_5_3_1_5 hP nt _ _ _ _ t u u'|exact val_4_3_1_3 hP nt _ _ _ t u u'|exact val_4_3_1_4 hP nt _ _ _ t u u'|exact val_4_4_9_0 hP nt _ _ _ _ t u u'|exact val_5_4_1_2 hP nt _ _ _ _ t u u'|exact val_5_4_1_3 hP nt _ _ _ _ t u u'|exact val_5_4_1_4 hP nt _ _ _ _ t u u'
end
theorem dC_it(x y:It)(hx:x.st=true):DC w P b1 b2 nt x y:=⟨gv0_it hP nt x y,gv1_it hP nt x y hx,val1_it hP nt x y hx⟩
theorem dD_it(x y:It)(hx:x.st=true)(hy:y.rw=true):DD w P b1 b2 nt x y:=⟨gv2_it hP nt x y hx hy,val2_it hP nt x y hx hy⟩
theorem dec_it(x y:It)(hx:x.st=true)(hy:y.rw=true)(t:Tok):CO w P b1 b2 nt (cDec (oct x y) x.val y.val t):=by
 have D:=dC_it hP nt x y hx
 have E:=dD_it hP nt x y hx hy
 cases x<;>cases y<;>first|exact absurd hx (by decide)|exact absurd hy (by decide)|exact dec_n_z1 hP nt D.h0 D.h1 E.h2 D.v1 E.v2 t|exact dec_n_o hP nt _ _ D.h0 D.h1 E.h2 D.v1 E.v2 t|exact dec_z0_z1 hP nt D.h0 D.h1 E.h2 D.v1 E.v2 t|exact dec_z0_o hP nt _ _ D.h0 D.h1 E.h2 D.v1 E.v2 t|exact dec_z1_z1 hP nt D.h0 D.h1 E.h2 D.v1 E.v2 t|exact dec_z1_o hP nt _ _ D.h0 D.h1 E.h2 D.v1 E.v2 t|exact dec_o_z1 hP nt _ _ D.h0 D.h1 E.h2 D.v1 E.v2 t|exact dec_o_o hP nt _ _ _ _ D.h0 D.h1 E.h2 D.v1 E.v2 t|exact dec_s_z1 hP nt _ _ D.h0 D.h1 E.h2 D.v1 E.v2 t|exact dec_s_o hP nt _ _ _ _ D.h0 D.h1 E.h2 D.v1 E.v2 t
theorem col_it(x y:It)(hx:x.st=true)(t u:Tok):CO w P b1 b2 nt (cCol (oct x y) x.val t u):=by
 have D:=dC_it hP nt x y hx
 cases x<;>cases y<;>first|exact absurd hx (by decide)|exact rcol_n_0 hP nt _ D.h0 D.h1 D.v1 t u|exact rcol_n_1 hP nt _ _ D.h0 D.h1 D.v1 t u|exact rcol_z0_0 hP nt _ D.h0 D.h1 D.v1 t u|exact rcol_z0_1 hP nt _ _ D.h0 D.h1 D.v1 t u|exact rcol_z1_0 hP nt _ D.h0 D.h1 D.v1 t u|exact rcol_z1_1 hP nt _ _ D.h0 D.h1 D.v1 t u|exact rcol_o_0 hP nt _ _ _ D.h0 D.h1 D.v1 t u|exact rcol_o_1 hP nt _ _ _ _ D.h0 D.h1 D.v1 t u|exact rcol_s_0 hP nt _ _ _ D.h0 D.h1 D.v1 t u|exact rcol_s_1 hP nt _ _ _ _ D.h0 D.h1 D.v1 t u
theorem enc_it(x y:It)(a:Addr)(t u e:Nat):CO w P b1 b2 nt
  ⟨.call (.ref 260) ⟨[.ref a],[]⟩,[(a,lstObj #[x.val t,y.val u] e)],fun X=>.bytes (oct x y) (X 0),fun _=>[lstObj #[x.val t,y.val u] e],fun _=>[],3,none,false,false⟩:=by
 have z:=enc_ok hP nt (item_ok hP nt x) (item_ok hP nt y) a t u e
 unfold cEnc at z
 rw[oct_enc,sh_val,sh_val]at z
 exact z
end
section
variable{prog:Program}{w:World}{kt:KT}{nt:Nat}
noncomputable def dcOf(o:Obj):Option (Array DictEntry):=match o with
 |⟨.type t,_,.dict es _,_⟩=>@Bool.rec (fun _=>Option (Array DictEntry)) none (some es) (S.eqLit 0x75646a65 t)
 |_=>none
theorem dcOf_some{o:Obj}{es:Array DictEntry}(h:dcOf o=some es):o.cls=.type "dict"∧∃ep,o.data=.dict es ep:=by
 unfold dcOf at h
 split at h
 case h_2=>cases h
 rename_i t x1 xs k x2
 have h:@Bool.rec (fun _=>Option (Array DictEntry)) none (some xs) (S.eqLit 0x75646a65 t)=some es:=h
 cases q:S.eqLit 0x75646a65 t with
 |false=>rw[q]at h;cases h
 |true=>
  rw[q]at h
  cases h
  rw[eqLit_true (b:="dict") (by decide+kernel) q]
  exact⟨rfl,k,rfl⟩
noncomputable def dAns(k:Nat)(v:Option Value):Option Value:=@Nat.rec (fun _=>Option Value) (some (@Option.rec Value (fun _=>Value) .none (fun v=>v) v)) (fun k _=>@Nat.rec (fun _=>Option Value) v (fun _ _=>some (.bool (isSomeB v))) k) k
noncomputable def dId(id:String):Nat:=@Bool.rec (fun _=>Nat) (@Bool.rec (fun _=>Nat) (@Bool.rec (fun _=>Nat) 3 2 (S.eqLit 0x6060746f6a62756f706460602f75646a65 id)) 1 (S.eqLit 0x60606e66756a75666860602f75646a65 id)) 0 (S.eqLit 0x7566682f75646a65 id)
noncomputable def dCon(id:String)(a:Addr)(key:Value)(o:Obj)(pre:List (Addr×Obj)):Con:=match dcOf o with
 |none=>conNo
 |some es=>(match look key es.toList with
  |none=>conNo
  |some r=>(match dAns (dId id) (valAt es.toList r)with
   |none=>conNo
   |some v=>@Bool.rec (fun _=>Con) conNo (conV (.builtin id ⟨[.ref a,key],[]⟩) pre v 1) (Nat.blt (dId id) 3)))
theorem dId_cases{id:String}(h:Nat.blt (dId id) 3=true):(id="dict.get"∧dId id=0)∨(id="dict.__getitem__"∧dId id=1)∨(id="dict.__contains__"∧dId id=2):=by
 unfold dId at h ⊢
 cases q1:S.eqLit 0x7566682f75646a65 id with
 |true=>exact .inl ⟨eqLit_true (by decide+kernel) q1,rfl⟩
 |false=>
  cases q2:S.eqLit 0x60606e66756a75666860602f75646a65 id with
  |true=>exact .inr (.inl ⟨eqLit_true (by decide+kernel) q2,rfl⟩)
  |false=>
   cases q3:S.eqLit 0x6060746f6a62756f706460602f75646a65 id with
   |true=>exact .inr (.inr ⟨eqLit_true (by decide+kernel) q3,rfl⟩)
   |false=>rw[q1,q2,q3]at h;cases h
theorem dCon_ok{id:String}{a:Addr}{key:Value}{o:Obj}{pre:List (Addr×Obj)}(hs:∀need val s,PreOk kt nt (conV (.builtin id ⟨[.ref a,key],[]⟩) pre val need) s→(a==sysModules)=false)
  (h:∀need val s,PreOk kt nt (conV (.builtin id ⟨[.ref a,key],[]⟩) pre val need) s→s.heap.get? a=some o):ConOk prog w kt nt (dCon id a key o pre):=by
 unfold dCon
 split
 ·exact conNo_ok
 rename_i es hes
 split
 ·exact conNo_ok
 rename_i r hl
 split
 ·exact conNo_ok
 rename_i v hv
 generalize q:Nat.blt (dId id) 3=b
 cases b with
 |false=>exact conNo_ok
 |true=>
  obtain⟨_,ep,hd⟩:=dcOf_some hes
  intro A s R hr P post
  have hg:=h _ _ _ P
  have hsys:=hs _ _ _ P
  refine codeAny_of ?_
  have fin:R (.ok (.ret v)) {s with toks:=s.toks+1}:=post (fun _=>0) s.heap (s.toks+1) (conV_post P _)
  rcases dId_cases q with⟨e,k⟩|⟨e,k⟩|⟨e,k⟩
  ·rw[k]at hv
   subst e
   refine codeAny_builtin (entryFor_of_fast (b:=Builtin.«dict.get») (by kernel_rfl)) ?_
   show PySem.wpAny _ _ (dictGet a key >>= _) _ _ s
   refine PySem.wpAny_bind (get_any hg hd hl ?_)
   cases hva:valAt es.toList r with
   |some u=>
    rw[hva]at hv;cases hv
    exact PySem.wpAny_pure fin
   |none=>
    rw[hva]at hv;cases hv
    show PySem.wpAny _ _ (Builtin.Dict.missed a key >>= _) _ _ _
    exact PySem.wpAny_bind (wpAny_missed_other hsys (PySem.wpAny_pure fin))
  ·rw[k]at hv
   subst e
   refine codeAny_builtin (entryFor_of_fast (b:=Builtin.«dict.__getitem__») (by kernel_rfl)) ?_
   show PySem.wpAny _ _ (dictGet a key >>= _) _ _ s
   refine PySem.wpAny_bind (get_any hg hd hl ?_)
   have hv:valAt es.toList r=some v:=hv
   rw[hv]
   exact PySem.wpAny_pure fin
  ·rw[k]at hv
   subst e
   refine codeAny_builtin (entryFor_of_fast (b:=Builtin.«dict.__contains__») (by kernel_rfl)) ?_
   show PySem.wpAny _ _ (dictGet a key >>= _) _ _ s
   refine PySem.wpAny_bind (get_any hg hd hl ?_)
   cases hva:valAt es.toList r with
   |some u=>
    rw[hva]at hv;cases hv
    exact PySem.wpAny_pure fin
   |none=>
    rw[hva]at hv;cases hv
    show PySem.wpAny _ _ (Builtin.Dict.pendingKey? a key >>= _) _ _ _
    exact PySem.wpAny_bind (wpAny_pendingKey_other hsys (PySem.wpAny_pure fin))
noncomputable def dTop(kt:KT):Fam:=fun c _ _=>match c with
 |.builtin id ⟨[.ref a,key],[]⟩=>@Bool.rec (fun _=>Con) (match kt.get a with
  |some o=>dCon id a key o []
  |none=>conNo) conNo (Nat.beq a 1)
 |_=>conNo
theorem dTop_ok:FamOk prog w kt nt (dTop kt):=by
 intro c T sc
 unfold dTop
 split
 case h_2=>exact conNo_ok
 rename_i id a key
 generalize q:Nat.beq a 1=b
 cases b with
 |true=>exact conNo_ok
 |false=>
  show ConOk prog w kt nt (match kt.get a with
   |some o=>dCon id a key o []
   |none=>conNo)
  split
  ·rename_i e
   exact dCon_ok (fun need val s P=>by
    rw[BT.beq_eq]at q
    exact beq_eq_false_iff_ne.mpr (of_decide_eq_false q)) fun need val s P=>(P.top.1 _ _ e).2
  ·exact conNo_ok
noncomputable def dOwn:Fam:=fun c T sc=>match c with
 |.builtin id ⟨[.ref _,key],[]⟩=>(match T.get (Nat.mod sc 256)with
  |some ao=>dCon id ao.1 key ao.2 [ao]
  |none=>conNo)
 |_=>conNo
theorem own_sys{s:Shared}{C:Con}{p:Addr×Obj}(P:PreOk kt nt C s)(hp:p∈C.pre):(p.1==sysModules)=false:=by
 have h1:=(P.pre p hp).2
 have h2:=P.top.2.2
 have h3:sysModules=1:=rfl
 rw[h3]
 refine beq_eq_false_iff_ne.mpr fun e=> ?_
 rw[e]at h1
 exact absurd (Nat.lt_of_lt_of_le h2 h1) (by decide)
theorem dOwn_ok:FamOk prog w kt nt dOwn:=by
 intro c T sc
 unfold dOwn
 split
 ·split
  ·exact dCon_ok (fun need val s P=>own_sys P (List.mem_singleton.mpr rfl)) fun need val s P=>(P.pre _ (List.mem_singleton.mpr rfl)).1
  ·exact conNo_ok
 ·exact conNo_ok
noncomputable def dSetCon(w:World)(id:String)(key v:Value)(ao:Addr×Obj):Con:=match dcOf ao.2 with
 |none=>conNo
 |some es=>(match look key es.toList with
  |none=>conNo
  |some r=>@Bool.rec (fun _=>Con) conNo ⟨.builtin id ⟨[.ref ao.1,key,v],[]⟩,[ao],fun _=>.none,fun _=>[dPut w key v ao.2 r],fun _=>[],1,none,false,false⟩ (andB (S.eqLit 0x60606e66756a75667460602f75646a65 id) (Nat.blt es.toList.length 1000)))
noncomputable def dSet(w:World):Fam:=fun c T sc=>match c with
 |.builtin id ⟨[.ref _,key,v],[]⟩=>(match T.get (Nat.mod sc 256)with
  |some ao=>dSetCon w id key v ao
  |none=>conNo)
 |_=>conNo
theorem dSetCon_ok{id:String}{key v:Value}{ao:Addr×Obj}:ConOk prog w kt nt (dSetCon w id key v ao):=by
 unfold dSetCon
 split
 ·exact conNo_ok
 rename_i es hes
 split
 ·exact conNo_ok
 rename_i r hl
 generalize q:andB (S.eqLit 0x60606e66756a75667460602f75646a65 id) (Nat.blt es.toList.length 1000)=b
 cases b with
 |false=>exact conNo_ok
 |true=>
  obtain⟨q1,q2⟩:=andB_true q
  obtain⟨hc,ep,hd⟩:=dcOf_some hes
  have hlen:es.size<1000:=by have:=Nat.le_of_ble_eq_true q2;rw[Array.length_toList]at this;exact this
  intro A s R hr P post
  have hg:=(P.pre _ (List.mem_singleton.mpr rfl)).1
  refine codeAny_of ?_
  rw[eqLit_true (b:="dict.__setitem__") (by decide+kernel) q1]
  refine codeAny_builtin (entryFor_of_fast (b:=Builtin.«dict.__setitem__») (by kernel_rfl)) ?_
  show PySem.wpAny _ _ (Builtin.Dict.notOrdered "__setitem__" ⟨[.ref ao.1,key,v],[]⟩ >>= _) _ _ s
  refine PySem.wpAny_bind (wpAny_notOrdered_dict ⟨_,hg,hc⟩ ?_)
  show PySem.wpAny _ _ (dictSet ao.1 key v >>= _) _ _ s
  refine PySem.wpAny_bind (set_any hg hd hl (Nat.le_trans (Nat.le_of_lt hlen) (by decide)) ?_)
  refine PySem.wpAny_pure ?_
  have hf:(dPut w key v ao.2 r).isFreed=false:=dPut_live hd
  have hself:(s.heap.update ao.1 fun o=>dPut w key v o r).get? ao.1=some (dPut w key v ao.2 r):=Heap.get?_update_self _ hg hf
  have same:Heap.SameBut ao.1 s.heap (s.heap.update ao.1 fun o=>dPut w key v o r):=Heap.SameBut.update ..
  refine post (fun _=>0) (s.heap.update ao.1 fun o=>dPut w key v o r) (s.toks+1) ⟨?_,?_,?_,?_,?_⟩
  ·exact Nat.le_of_eq same.1.symm
  ·intro i p o h1 h2
   cases i with
   |zero=>cases h1;cases h2;exact hself
   |succ i=>cases i<;>cases h1
  ·intro i o h;cases i<;>cases h
  ·intro i j hi;exact absurd hi (Nat.not_lt_zero _)
  ·intro b o h hb
   exact(same.2 b fun e=>hb (by rw[e];exact List.mem_singleton.mpr rfl)).trans h
theorem dSet_ok:FamOk prog w kt nt (dSet w):=by
 intro c T sc
 unfold dSet
 split
 ·split
  ·exact dSetCon_ok
  ·exact conNo_ok
 ·exact conNo_ok
end
noncomputable def It.ord:It→Nat
 |.n=>0|.i0=>1|.i1=>2|.i2=>3|.i3=>4|.i4=>5|.i5=>6|.sB=>7|.sa=>8|.sb=>9
noncomputable def cmpv(x y:It):Int:=match Nat.blt x.ord y.ord,Nat.blt y.ord x.ord with
 |true,_=> -1
 |_,true=>1
 |_,_=>0
noncomputable def binStr:Str:=⟨#[98,105,110,97,114,121]⟩
noncomputable def cCv(x y:Tok→Value)(r:Int)(t u v:Tok):Con:=cFn 182 [x t,y u,.str binStr v] (.int r) 2
section
variable{w:World}{P:Params}{b1 b2:Bool}(hP:w.params=parT P b1 b2)(nt:Nat)
include hP
theorem cv_n_n(t u v:Tok):CO w P b1 b2 nt (cCv (fun _=>.none) (fun _=>.none) 0 t u v):=by
 exact ko hP 2 [] [.ret] 127 (k_G (kq 4 0x1000101 (k_a 0x10000010101010300000303))) (cs:=[]) fn0
theorem cv_n_i(i:Int)(t u v:Tok):CO w P b1 b2 nt (cCv (fun _=>.none) (.int i) (-1) t u v):=by
 exact ko hP 2 [] [.ret] 194 (k_G (k_K (kq 5 0x101010100 (k_cA 0)))) (fc dTop_ok (fc dTop_ok fn0))
theorem cv_i_n(i:Int)(t u v:Tok):CO w P b1 b2 nt (cCv (.int i) (fun _=>.none) 1 t u v):=by
 exact ko hP 2 [] [.ret] 199 (k_G (kq 3 0x20000 (k_a (k_d4 0)))) (fc dTop_ok (fc dTop_ok fn0))
theorem cv_n_s(s:Str)(t u v:Tok):CO w P b1 b2 nt (cCv (fun _=>.none) (.str s) (-1) t u v):=by
 exact ko hP 2 [] [.ret] 220 (k_G (k_K (k_h (kq 1 3 (k_a (kq 5 0x101010100 (k_cA 0))))))) (fc dTop_ok (fc dTop_ok fn0))
theorem cv_s_n(s:Str)(t u v:Tok):CO w P b1 b2 nt (cCv (.str s) (fun _=>.none) 1 t u v):=by
 exact ko hP 2 [] [.ret] 225 (k_G (kq 3 0x20000 (k_h (k_a (kq 1 2 (k_a (k_d4 0))))))) (fc dTop_ok (fc dTop_ok fn0))
theorem cv_i_s(i:Int)(s:Str)(t u v:Tok):CO w P b1 b2 nt (cCv (.int i) (.str s) (-1) t u v):=by
 exact ko hP 2 [] [.ret] 237 (k_G (kq 3 0x20000 (k_a (kq 1 0 (k_K (k_h (kq 1 3 (k_a (kq 5 0x101010100 (k_cA 0)))))))))) (fc dTop_ok (fc dTop_ok fn0))
theorem cv_s_i(s:Str)(i:Int)(t u v:Tok):CO w P b1 b2 nt (cCv (.str s) (.int i) 1 t u v):=by
 exact ko hP 2 [] [.ret] 242 (k_bS (kq 5 0x101010100 (k_cA 0x4040000))) (fc dTop_ok (fc dTop_ok fn0))
theorem cv_it(x y:It)(t u v:Tok):CO w P b1 b2 nt (cCv x.val y.val (cmpv x y) t u v):=by
 cases x
 ·cases y
  ·exact cv_n_n hP nt t u v
  ·exact cv_n_i hP nt _ t u v
  ·exact cv_n_i hP nt _ t u v
  ·exact cv_n_i hP nt _ t u v
  ·exact cv_n_i hP nt _ t u v
  ·exact cv_n_i hP nt _ t u v
  ·exact cv_n_i hP nt _ t u v
  ·exact cv_n_s hP nt _ t u v
  ·exact cv_n_s hP nt _ t u v
  ·exact cv_n_s hP nt _ t u v
 ·cases y
  ·exact cv_i_n hP nt _ t u v
  ·exact ko hP 2 [] [.ret] 216 (k_bc 0) (cs:=[]) fn0
  ·exact ko hP 2 [] [.ret] 211 (k_T 0) (cs:=[]) fn0
  ·exact ko hP 2 [] [.ret] 211 (k_T 0) (cs:=[]) fn0
  ·exact ko hP 2 [] [.ret] 211 (k_T 0) (cs:=[]) fn0
  ·exact ko hP 2 [] [.ret] 211 (k_T 0) (cs:=[]) fn0
  ·exact ko hP 2 [] [.ret] 211 (k_T 0) (cs:=[]) fn0
  ·exact cv_i_s hP nt _ _ t u v
  ·exact cv_i_s hP nt _ _ t u v
  ·exact cv_i_s hP nt _ _ t u v
 ·cases y
  ·exact cv_i_n hP nt _ t u v
  ·exact ko hP 2 [] [.ret] 216 (k_bc 0) (cs:=[]) fn0
  ·exact ko hP 2 [] [.ret] 216 (k_bc 0) (cs:=[]) fn0
  ·exact ko hP 2 [] [.ret] 211 (k_T 0) (cs:=[]) fn0
  ·exact ko hP 2 [] [.ret] 211 (k_T 0) (cs:=[]) fn0
  ·exact ko hP 2 [] [.ret] 211 (k_T 0) (cs:=[]) fn0
  ·exact ko hP 2 [] [.ret] 211 (k_T 0) (cs:=[]) fn0
  ·exact cv_i_s hP nt _ _ t u v
  ·exact cv_i_s hP nt _ _ t u v
  ·exact cv_i_s hP nt _ _ t u v
 ·cases y
  ·exact cv_i_n hP nt _ t u v
  ·exact ko hP 2 [] [.ret] 216 (k_bc 0) (cs:=[]) fn0
  ·exact ko hP 2 [] [.ret] 216 (k_bc 0) (cs:=[]) fn0
  ·exact ko hP 2 [] [.ret] 216 (k_bc 0) (cs:=[]) fn0
  ·exact ko hP 2 [] [.ret] 211 (k_T 0) (cs:=[]) fn0
  ·exact ko hP 2 [] [.ret] 211 (k_T 0) (cs:=[]) fn0
  ·exact ko hP 2 [] [.ret] 211 (k_T 0) (cs:=[]) fn0
  ·exact cv_i_s hP nt _ _ t u v
  ·exact cv_i_s hP nt _ _ t u v
  ·exact cv_i_s hP nt _ _ t u v
 ·cases y
  ·exact cv_i_n hP nt _ t u v
  ·exact ko hP 2 [] [.ret] 216 (k_bc 0) (cs:=[]) fn0
  ·exact ko hP 2 [] [.ret] 216 (k_bc 0) (cs:=[]) fn0
  ·exact ko hP 2 [] [.ret] 216 (k_bc 0) (cs:=[]) fn0
  ·exact ko hP 2 [] [.ret] 216 (k_bc 0) (cs:=[]) fn0
  ·exact ko hP 2 [] [.ret] 211 (k_T 0) (cs:=[]) fn0
  ·exact ko hP 2 [] [.ret] 211 (k_T 0) (cs:=[]) fn0
  ·exact cv_i_s hP nt _ _ t u v
  ·exact cv_i_s hP nt _ _ t u v
  ·exact cv_i_s hP nt _ _ t u v
 ·cases y
  ·exact cv_i_n hP nt _ t u v
  ·exact ko hP 2 [] [.ret] 216 (k_bc 0) (cs:=[]) fn0
  ·exact ko hP 2 [] [.ret] 216 (k_bc 0) (cs:=[]) fn0
  ·exact ko hP 2 [] [.ret] 216 (k_bc 0) (cs:=[]) fn0
  ·exact ko hP 2 [] [.ret] 216 (k_bc 0) (cs:=[]) fn0
  ·exact ko hP 2 [] [.ret] 216 (k_bc 0) (cs:=[]) fn0
  ·exact ko hP 2 [] [.ret] 211 (k_T 0) (cs:=[]) fn0
  ·exact cv_i_s hP nt _ _ t u v
  ·exact cv_i_s hP nt _ _ t u v
  ·exact cv_i_s hP nt _ _ t u v
 ·cases y
  ·exact cv_i_n hP nt _ t u v
  ·exact ko hP 2 [] [.ret] 216 (k_bc 0) (cs:=[]) fn0
  ·exact ko hP 2 [] [.ret] 216 (k_bc 0) (cs:=[]) fn0
  ·exact ko hP 2 [] [.ret] 216 (k_bc 0) (cs:=[]) fn0
  ·exact ko hP 2 [] [.ret] 216 (k_bc 0) (cs:=[]) fn0
  ·exact ko hP 2 [] [.ret] 216 (k_bc 0) (cs:=[]) fn0
  ·exact ko hP 2 [] [.ret] 216 (k_bc 0) (cs:=[]) fn0
  ·exact cv_i_s hP nt _ _ t u v
  ·exact cv_i_s hP nt _ _ t u v
  ·exact cv_i_s hP nt _ _ t u v
 ·cases y
  ·exact cv_s_n hP nt _ t u v
  ·exact cv_s_i hP nt _ _ t u v
  ·exact cv_s_i hP nt _ _ t u v
  ·exact cv_s_i hP nt _ _ t u v
  ·exact cv_s_i hP nt _ _ t u v
  ·exact cv_s_i hP nt _ _ t u v
  ·exact cv_s_i hP nt _ _ t u v
  ·exact ko hP 2 [] [.ret] 338 (k_cB 0) (cs:=[]) fn0
  ·exact ko hP 2 [] [.ret] 333 (k_b3 0) (cs:=[]) fn0
  ·exact ko hP 2 [] [.ret] 338 (k_cB 0) (cs:=[]) fn0
 ·cases y
  ·exact cv_s_n hP nt _ t u v
  ·exact cv_s_i hP nt _ _ t u v
  ·exact cv_s_i hP nt _ _ t u v
  ·exact cv_s_i hP nt _ _ t u v
  ·exact cv_s_i hP nt _ _ t u v
  ·exact cv_s_i hP nt _ _ t u v
  ·exact cv_s_i hP nt _ _ t u v
  ·exact ko hP 2 [] [.ret] 338 (k_cB 0) (cs:=[]) fn0
  ·exact ko hP 2 [] [.ret] 338 (k_cB 0) (cs:=[]) fn0
  ·exact ko hP 2 [] [.ret] 338 (k_cB 0) (cs:=[]) fn0
 ·cases y
  ·exact cv_s_n hP nt _ t u v
  ·exact cv_s_i hP nt _ _ t u v
  ·exact cv_s_i hP nt _ _ t u v
  ·exact cv_s_i hP nt _ _ t u v
  ·exact cv_s_i hP nt _ _ t u v
  ·exact cv_s_i hP nt _ _ t u v
  ·exact cv_s_i hP nt _ _ t u v
  ·exact ko hP 2 [] [.ret] 333 (k_b3 0) (cs:=[]) fn0
  ·exact ko hP 2 [] [.ret] 333 (k_b3 0) (cs:=[]) fn0
  ·exact ko hP 2 [] [.ret] 338 (k_cB 0) (cs:=[]) fn0
end
inductive Pv where
 |n
 |i (k:Int)
 |s (x:Str)
noncomputable def Pv.val:Pv→Tok→Value
 |.n,_=>.none
 |.i k,t=>.int k t
 |.s x,t=>.str x t
structure Inf where
 a:Addr
 d:Addr
 c:Addr
 e:Addr
 h1:Int
 h2:Int
 t1:Tok
 t2:Tok
 t3:Tok
 t4:Tok
noncomputable def dicObj(es:Array DictEntry)(e:Nat):Obj:={cls:=.type "dict",data:=.dict es e}
noncomputable def insObj(c d:Addr):Obj:={cls:=.ref c,dict:=some d,data:=.plain}
noncomputable def collS:Str:=⟨#[99,111,108,108,97,116,105,111,110,115]⟩
noncomputable def descS:Str:=⟨#[100,101,115,99,101,110,100,105,110,103]⟩
noncomputable def Inf.objs(I:Inf)(down:Bool):List (Addr×Obj):=[(I.a,insObj 319 I.d),(I.d,dicObj #[⟨I.h1,.str collS I.t1,.ref I.c⟩,⟨I.h2,.str descS I.t2,.ref I.e⟩] 2),(I.c,tupObj #[.str binStr I.t3,.str binStr I.t4]),(I.e,tupObj #[.bool down,.bool false])]
noncomputable def Fcv(x y:Value)(c:Int):Fam:=Fc fun as=>cFn 182 [x,y,.str binStr (arg2 as)] (.int c) 2
noncomputable def cCk(p q:Addr×Obj)(I:Inf)(down:Bool)(n:Nat)(r:Int)(t:Tok):Con:=
 ⟨.call (.ref 331) ⟨[.ref p.1,.ref q.1,.ref I.a,.int (.ofNat n) t],[]⟩,p::q::I.objs down,fun X=>.int r (X 0),fun _=>(p::q::I.objs down).map (·.2),fun _=>[],4,none,false,false⟩
noncomputable def ckAns(down:Bool)(c1 c2:Int):Int:=match c1,down with
 |.ofNat 0,_=>c2
 |_,true=> -c1
 |_,false=>c1
section
variable{prog:Program}{w:World}{kt:KT}{nt:Nat}
theorem cv_f{x y:Value}{c:Int}(h:∀t,ConOk prog w kt nt (cFn 182 [x,y,.str binStr t] (.int c) 2)):FamOk prog w kt nt (Fcv x y c):=Fc_ok fun _=>h _
end
noncomputable def pcI:Pv→Pv→Int→Option Nat
 |.n,.n,c=>if c=0 then some 0 else none
 |.n,.i _,c=>if c= -1 then some 1 else none
 |.n,.s _,c=>if c= -1 then some 2 else none
 |.i _,.n,c=>if c=1 then some 3 else none
 |.i _,.i _,c=>if c=0 then some 4 else if c= -1 then some 5 else if c=1 then some 6 else none
 |.i _,.s _,c=>if c= -1 then some 7 else none
 |.s _,.n,c=>if c=1 then some 8 else none
 |.s _,.i _,c=>if c=1 then some 9 else none
 |.s _,.s _,c=>if c=0 then some 10 else if c= -1 then some 11 else if c=1 then some 12 else none
theorem ifE{c:Prop}[Decidable c]{a b:Option Nat}{x:Nat}{q:Prop}(h:(if c then a else b)=some x)(h1:c→a=some x→q)(h2:b=some x→q):q:=by
 by_cases g:c
 ·rw[if_pos g]at h;exact h1 g h
 ·rw[if_neg g]at h;exact h2 h
@[elab_as_elim] theorem pcE{m:Pv→Pv→Int→Nat→Prop}(p q:Pv)(c:Int)(i:Nat)(h:pcI p q c=some i)(g0:m .n .n 0 0)(g1:∀y,m .n (.i y) (-1) 1)(g2:∀y,m .n (.s y) (-1) 2)(g3:∀x,m (.i x) .n 1 3)(g4:∀x y,m (.i x) (.i y) 0 4)(g5:∀x y,m (.i x) (.i y) (-1) 5)(g6:∀x y,m (.i x) (.i y) 1 6)(g7:∀x y,m (.i x) (.s y) (-1) 7)(g8:∀x,m (.s x) .n 1 8)(g9:∀x y,m (.s x) (.i y) 1 9)(g10:∀x y,m (.s x) (.s y) 0 10)(g11:∀x y,m (.s x) (.s y) (-1) 11)(g12:∀x y,m (.s x) (.s y) 1 12):m p q c i:=by
 have f:∀{q:Prop},(none:Option Nat)=some i→q:=fun h=>nomatch h
 cases p<;>cases q
 ·exact ifE h (fun e h=>by cases e;cases h;exact g0) f
 ·exact ifE h (fun e h=>by cases e;cases h;exact g1 _) f
 ·exact ifE h (fun e h=>by cases e;cases h;exact g2 _) f
 ·exact ifE h (fun e h=>by cases e;cases h;exact g3 _) f
 ·exact ifE h (fun e h=>by cases e;cases h;exact g4 _ _) fun h=>ifE h (fun e h=>by cases e;cases h;exact g5 _ _) fun h=>ifE h (fun e h=>by cases e;cases h;exact g6 _ _) f
 ·exact ifE h (fun e h=>by cases e;cases h;exact g7 _ _) f
 ·exact ifE h (fun e h=>by cases e;cases h;exact g8 _) f
 ·exact ifE h (fun e h=>by cases e;cases h;exact g9 _ _) f
 ·exact ifE h (fun e h=>by cases e;cases h;exact g10 _ _) fun h=>ifE h (fun e h=>by cases e;cases h;exact g11 _ _) fun h=>ifE h (fun e h=>by cases e;cases h;exact g12 _ _) f
@[elab_as_elim] theorem bE{p:Bool→Prop}(b:Bool)(h1:p false)(h2:p true):p b:=by
 cases b
 ·exact h1
 ·exact h2
@[elab_as_elim] theorem c3E{m:Int→Nat→Prop}(c:Int)(i:Nat)(h:(c= -1∧i=0)∨(c=0∧i=1)∨(c=1∧i=2))(h0:m (-1) 0)(h1:m 0 1)(h2:m 1 2):m c i:=by
 rcases h with⟨rfl,rfl⟩|⟨rfl,rfl⟩|⟨rfl,rfl⟩
 ·exact h0
 ·exact h1
 ·exact h2
noncomputable def scC1(down:Bool):List Nat:=@Bool.rec (fun _=>List Nat) [(k_cC 0),(k_be 0),(k_be 0),(k_be 0),(k_cC 0),(k_be 0),(k_be 0),(k_be 0),(k_be 0),(k_be 0),(k_cC 0),(k_be 0),(k_be 0)] [(k_cC 0),(k_be 0),(k_be 0),(k_be 0),(k_cC 0),(k_be 0),(k_be 0),(k_be 0),(k_be 0),(k_be 0),(k_cC 0),(k_be 0),(k_be 0)] down
noncomputable def scC2(down:Bool):List (List Nat):=@Bool.rec (fun _=>List (List Nat)) [[(k_bH 0),(k_cD 0),(k_bH 0)],[(k_bf 0)],[(k_bf 0)],[(k_bf 0)],[(k_bH 0),(k_cD 0),(k_bH 0)],[(k_bf 0)],[(k_bf 0)],[(k_bf 0)],[(k_bf 0)],[(k_bf 0)],[(k_bH 0),(k_cD 0),(k_bH 0)],[(k_bf 0)],[(k_bf 0)]] [[(k_bH 0),(k_cD 0),(k_bH 0)],[(k_bf 0)],[(k_bf 0)],[(k_bf 0)],[(k_bH 0),(k_cD 0),(k_bH 0)],[(k_bf 0)],[(k_bf 0)],[(k_bf 0)],[(k_bf 0)],[(k_bf 0)],[(k_bH 0),(k_cD 0),(k_bH 0)],[(k_bf 0)],[(k_bf 0)]] down
section
variable{w:World}{P:Params}{b1 b2:Bool}(hP:w.params=parT P b1 b2)(nt:Nat)
include hP
section
variable(p q:Pv)(c1:Int)(i:Nat)(hi:pcI p q c1=some i)(tx ty:Tok)(k:Int)(tu:Tok)(h1:∀t,CO w P b1 b2 nt (cFn 182 [p.val tx,q.val ty,.str binStr t] (.int c1) 2))(a1 a2:Addr)(e1 e2:Nat)(I:Inf)(down:Bool)(t:Tok)
include hi h1
theorem ck1:CO w P b1 b2 nt (cCk (a1,lstObj #[p.val tx,.int k tu] e1) (a2,lstObj #[q.val ty] e2) I down 1 (ckAns down c1 0) t):=
 ko hP 4 [] [.ret] 800 (nthD 0 (scC1 down) i) (cs:=[Fcv (p.val tx) (q.val ty) c1]) (fc (cv_f h1) fn0) (h:=by
  refine pcE p q c1 i hi ?_ ?_ ?_ ?_ ?_ ?_ ?_ ?_ ?_ ?_ ?_ ?_ ?_<;>intros<;>refine bE down ?_ ?_<;>intros<;>kernel_rfl)
theorem ck2d(hd:c1≠0)(l:Int)(tv:Tok)(c2:Int):CO w P b1 b2 nt (cCk (a1,lstObj #[p.val tx,.int k tu] e1) (a2,lstObj #[q.val ty,.int l tv] e2) I down 2 (ckAns down c1 c2) t):=
 ko hP 4 [] [.ret] 800 (nthD 0 (nthD [] (scC2 down) i) 0) (cs:=[Fcv (p.val tx) (q.val ty) c1]) (fc (cv_f h1) fn0) (h:=by
  revert hd
  refine pcE p q c1 i hi (fun h=>absurd rfl h) ?_ ?_ ?_ (fun _ _ h=>absurd rfl h) ?_ ?_ ?_ ?_ ?_ (fun _ _ h=>absurd rfl h) ?_ ?_<;>intros<;>refine bE down ?_ ?_<;>intros<;>kernel_rfl)
theorem ck2e(he:c1=0)(l:Int)(tv:Tok)(c2:Int)(j:Nat)(hj:(c2= -1∧j=0)∨(c2=0∧j=1)∨(c2=1∧j=2))(h2:∀t,CO w P b1 b2 nt (cFn 182 [.int k tu,.int l tv,.str binStr t] (.int c2) 2)):CO w P b1 b2 nt (cCk (a1,lstObj #[p.val tx,.int k tu] e1) (a2,lstObj #[q.val ty,.int l tv] e2) I down 2 (ckAns down c1 c2) t):=
 ko hP 4 [] [.ret] 800 (nthD 0 (nthD [] (scC2 down) i) j) (cs:=[Fcv (p.val tx) (q.val ty) c1,Fcv (.int k tu) (.int l tv) c2]) (fc (cv_f h1) (fc (cv_f h2) fn0)) (h:=by
  revert he
  refine pcE p q c1 i hi ?_ (fun _ h=>absurd h (by decide)) (fun _ h=>absurd h (by decide)) (fun _ h=>absurd h (by decide)) ?_ (fun _ _ h=>absurd h (by decide)) (fun _ _ h=>absurd h (by decide)) (fun _ _ h=>absurd h (by decide)) (fun _ h=>absurd h (by decide)) (fun _ _ h=>absurd h (by decide)) ?_ (fun _ _ h=>absurd h (by decide)) (fun _ _ h=>absurd h (by decide))<;>intros<;>refine bE down ?_ ?_<;>refine c3E c2 j hj ?_ ?_ ?_<;>intros<;>kernel_rfl)
end
end
noncomputable def It.num:It→Int
 |.i1=>1|.i2=>2|.i3=>3|.i4=>4|_=>0
noncomputable def It.pv:It→Pv
 |.n=>.n|.i0=>.i 0|.i1=>.i 1|.i2=>.i 2|.i3=>.i 3|.i4=>.i 4|.i5=>.i 5|.sa=>.s ⟨#[97]⟩|.sb=>.s ⟨#[98]⟩|.sB=>.s ⟨#[66]⟩
theorem pv_val(x:It):x.pv.val=x.val:=by funext t;cases x<;>rfl
theorem rw_val{x:It}(h:x.rw=true):x.val=.int x.num:=by cases x<;>first|rfl|cases h
section
variable{w:World}{P:Params}{b1 b2:Bool}(hP:w.params=parT P b1 b2)(nt:Nat)
include hP
theorem cv_rw(x y:It)(hx:x.rw=true)(hy:y.rw=true)(t u v:Tok):CO w P b1 b2 nt (cFn 182 [.int x.num t,.int y.num u,.str binStr v] (.int (cmpv x y)) 2):=by
 have z:=cv_it hP nt x y t u v
 unfold cCv at z
 rw[rw_val hx,rw_val hy]at z
 exact z
omit hP in
theorem it_pc(x y:It):∃i,pcI x.pv y.pv (cmpv x y)=some i:=by cases x<;>cases y<;>exact⟨_,rfl⟩
omit hP in
theorem cmpv_3(x y:It):∃j,(cmpv x y= -1∧j=0)∨(cmpv x y=0∧j=1)∨(cmpv x y=1∧j=2):=by
 unfold cmpv
 split
 ·exact⟨0,.inl ⟨rfl,rfl⟩⟩
 ·exact⟨2,.inr (.inr ⟨rfl,rfl⟩)⟩
 ·exact⟨1,.inr (.inl ⟨rfl,rfl⟩)⟩
theorem cv_pv(x y:It)(t u v:Tok):CO w P b1 b2 nt (cFn 182 [x.pv.val t,y.pv.val u,.str binStr v] (.int (cmpv x y)) 2):=by
 rw[pv_val,pv_val]
 exact cv_it hP nt x y t u v
theorem ck1_it(down:Bool)(x u y:It)(hu:u.rw=true)(a1 a2:Addr)(e1 e2:Nat)(tx tu ty:Tok)(I:Inf)(t:Tok):
  CO w P b1 b2 nt (cCk (a1,lstObj #[x.val tx,u.val tu] e1) (a2,lstObj #[y.val ty] e2) I down 1 (ckAns down (cmpv x y) 0) t):=by
 obtain⟨i,hi⟩:=it_pc x y
 rw[rw_val hu,←pv_val,←pv_val]
 exact ck1 hP nt x.pv y.pv _ i hi tx ty u.num tu (fun t=>cv_pv hP nt x y tx ty t) a1 a2 e1 e2 I down t
theorem ck2_it(down:Bool)(x u y v:It)(hu:u.rw=true)(hv:v.rw=true)(a1 a2:Addr)(e1 e2:Nat)(tx tu ty tv:Tok)(I:Inf)(t:Tok):
  CO w P b1 b2 nt (cCk (a1,lstObj #[x.val tx,u.val tu] e1) (a2,lstObj #[y.val ty,v.val tv] e2) I down 2 (ckAns down (cmpv x y) (cmpv u v)) t):=by
 obtain⟨i,hi⟩:=it_pc x y
 obtain⟨j,hj⟩:=cmpv_3 u v
 rw[rw_val hu,rw_val hv,←pv_val,←pv_val]
 by_cases h:cmpv x y=0
 ·exact ck2e hP nt x.pv y.pv _ i hi tx ty u.num tu (fun t=>cv_pv hP nt x y tx ty t) a1 a2 e1 e2 I down t h v.num tv _ j hj (fun t=>cv_rw hP nt u v hu hv tu tv t)
 ·exact ck2d hP nt x.pv y.pv _ i hi tx ty u.num tu (fun t=>cv_pv hP nt x y tx ty t) a1 a2 e1 e2 I down t h v.num tv _
end
noncomputable def bTok(c:Code)(i:Nat):Nat:=match c with
 |.builtin _ ⟨as,_⟩=>tokOf (nthD .none as i)
 |_=>0
noncomputable def cTok(c:Code)(i:Nat):Nat:=match c with
 |.call _ ⟨as,_⟩=>tokOf (nthD .none as i)
 |_=>0
section
variable{prog:Program}{w:World}{kt:KT}{nt:Nat}
theorem gives_val_ok{id:String}{B:Builtin}{args:Args}{v:Value}(he:entryFor table id=some B)(hp:plainId id=true)(g:Gives (B args) (.val v)):ConOk prog w kt nt (conV (.builtin id args) [] v 1):=
 conV_ok fun A s R _ _ post=>codeAny_of (codeAny_builtin he (by rw[Around.under_plainId hp];exact g prog w A.a R s post))
noncomputable def conI(code:Code)(n:Int):Con:=⟨code,[],fun X=>.int n (X 0),fun _=>[],fun _=>[],1,none,false,false⟩
theorem nil_post{C:Con}{s:Shared}(hp:C.pre=[])(hn:∀X,C.new X=[])(X:Nat→Nat):PostOk C s.heap s.heap X:=by
 refine⟨Nat.le_refl _,?_,?_,?_,fun b o h _=>h⟩
 ·intro i p o h;rw[hp]at h;cases i<;>cases h
 ·intro i o h;rw[hn]at h;cases i<;>cases h
 ·intro i j hi;rw[hn]at hi;exact absurd hi (Nat.not_lt_zero _)
theorem gives_int_ok{id:String}{B:Builtin}{args:Args}{n:Int}(he:entryFor table id=some B)(hp:plainId id=true)(g:Gives (B args) (.int n)):ConOk prog w kt nt (conI (.builtin id args) n):=by
 intro A s R _ _ post
 refine codeAny_of (codeAny_builtin he ?_)
 rw[Around.under_plainId hp]
 exact g prog w A.a R s (post (fun _=>s.toks) s.heap (s.toks+1) (nil_post rfl (fun _=>rfl) _))
noncomputable def icmp(id:String)(a b:Int)(v:Bool):Fam:=fun c _ _=>conV (.builtin id ⟨[.int a (bTok c 0),.int b (bTok c 1)],[]⟩) [] (.bool v) 1
section
variable{a b:Int}{v:Bool}
include a b v
theorem ilt_ok(h:decide (a<b)=v):FamOk prog w kt nt (icmp "int.__lt__" a b v):=fun _ _ _=>
 gives_val_ok (entryFor_of_fast (b:=Builtin.«int.__lt__») (by kernel_rfl)) (by decide+kernel) (h▸gives_int_lt a b _ _)
theorem igt_ok(h:decide (a>b)=v):FamOk prog w kt nt (icmp "int.__gt__" a b v):=fun _ _ _=>
 gives_val_ok (entryFor_of_fast (b:=Builtin.«int.__gt__») (by kernel_rfl)) (by decide+kernel) (h▸gives_int_gt a b _ _)
theorem ile_ok(h:decide (a≤b)=v):FamOk prog w kt nt (icmp "int.__le__" a b v):=fun _ _ _=>
 gives_val_ok (entryFor_of_fast (b:=Builtin.«int.__le__») (by kernel_rfl)) (by decide+kernel) (h▸gives_int_le a b _ _)
theorem ige_ok(h:decide (a≥b)=v):FamOk prog w kt nt (icmp "int.__ge__" a b v):=fun _ _ _=>
 gives_val_ok (entryFor_of_fast (b:=Builtin.«int.__ge__») (by kernel_rfl)) (by decide+kernel) (h▸gives_int_ge a b _ _)
theorem ieq_ok(h:(a==b)=v):FamOk prog w kt nt (icmp "int.__eq__" a b v):=fun _ _ _=>
 gives_val_ok (entryFor_of_fast (b:=Builtin.«int.__eq__») (by kernel_rfl)) (by decide+kernel) (h▸gives_int_eq a b _ _)
end
noncomputable def lget(a:Addr)(vs:Array Value)(e:Nat)(j:Int)(v:Value):Fam:=fun c _ _=>conV (.builtin "list.__getitem__" ⟨[.ref a,.int j (bTok c 1)],[]⟩) [(a,lstObj vs e)] v 1
theorem lget_run{A:Around}{s:Shared}{a:Addr}{vs:Array Value}{e:Nat}{k:Int}{t:Tok}{x:Value}{R:Result→Shared→Prop}(ho:s.heap.get? a=some (lstObj vs e))(h0:0≤k)(hf:Builtin.List.listFitsIndex k=true)
  (hx:vs[k.toNat]?=some x) (h:R (.ok (.ret x)) s):PySem.wpAny (model prog w) A.in1 (Builtin.«list.__getitem__» ⟨[.ref a,.int k t],[]⟩)
   (fun fin s'=>match fin with|.done f=>R (.ok f) s'|.again c'=>c'.quiet=true∧PySem.codeAny (model prog w) A c' R s') (fun e s'=>R (.error e) s') s:=by
 show PySem.wpAny _ _ (Builtin.List.listSubscript? (.int k t) >>= _) _ _ s
 refine PySem.wpAny_bind (wpAny_listSubscript_int hf ?_)
 obtain⟨j,rfl⟩:=Int.eq_ofNat_of_zero_le h0
 have hx':vs[j]?=some x:=hx
 show PySem.wpAny _ _ ((seqItemAt a j >>= fun r=>pure (r.map (j,·))) >>= _) _ _ s
 refine PySem.wpAny_bind (PySem.wpAny_bind (wpAny_seqItemAt ho rfl (PySem.wpAny_pure ?_)))
 rw[hx']
 exact PySem.wpAny_pure h
theorem lget_ok{a:Addr}{vs:Array Value}{e:Nat}{j:Nat}{v:Value}(hv:vs[j]?=some v)(hj:j<100):FamOk prog w kt nt (lget a vs e j v):=fun c _ _=>
 conV_ok fun A s R _ P post=>codeAny_of (codeAny_builtin (entryFor_of_fast (b:=Builtin.«list.__getitem__») (by kernel_rfl)) (by
  rw[Around.under_plainId (by decide+kernel)]
  have ho:s.heap.get? a=some (lstObj vs e):=(P.pre (a,lstObj vs e) (List.mem_singleton.mpr rfl)).1
  have hf:Builtin.List.listFitsIndex (j:Int)=true:=fitsIndex_of (Int.natCast_nonneg j) (by omega)
  have h1:vs[(j:Int).toNat]?=some v:=by rw[Int.toNat_natCast];exact hv
  have h0:(0:Int)≤(j:Int):=Int.natCast_nonneg j
  generalize (j:Int)=k at*
  have z1:=@lget_run prog w A.a s a vs e k (bTok c 1) v R ho
  have z2:=z1 h0
  have z3:=z2 hf h1 post
  exact z3))
noncomputable def lins(a:Addr)(vs:Array Value)(e:Nat)(j:Nat)(v:Value):Fam:=fun c _ _=>⟨.builtin "list.insert" ⟨[.ref a,.int j (bTok c 1),v],[]⟩,[(a,lstObj vs e)],fun _=>.none,fun _=>[lstObj ((vs.extract 0 j).push v++vs.extract j) (e+1)],fun _=>[],1,none,false,false⟩
theorem lins_ok{a:Addr}{vs:Array Value}{e:Nat}{j:Nat}{v:Value}(hj:j≤vs.size)(hs:vs.size<100):FamOk prog w kt nt (lins a vs e j v):=by
 intro c T sc A s R hr P post
 refine codeAny_of (codeAny_builtin (entryFor_of_fast (b:=Builtin.«list.insert») (by kernel_rfl)) ?_)
 rw[Around.under_plainId (by decide+kernel)]
 have hf:Builtin.List.listFitsIndex (j:Int)=true:=fitsIndex_of (Int.natCast_nonneg j) (by omega)
 have ho:s.heap.get? a=some (lstObj vs e):=(P.pre (a,lstObj vs e) (List.mem_singleton.mpr rfl)).1
 have hs':vs.size≤sizeLine:=by unfold sizeLine;omega
 have ek:(if(j:Int)<0 then((j:Int)+(vs.size:Int)).toNat else min (j:Int).toNat vs.size)=j:=by rw[if_neg (by omega)];simp;omega
 generalize (j:Int)=k at*
 have hf':¬(!Builtin.List.listFitsIndex k)=true:=by rw[hf];decide
 have M:=AutoSeq1.list_insert_list_int_val_1 a vs e k (bTok c 1) v hf' hs' prog w A.a R s
 refine M ⟨ho,?_⟩
 generalize hF:Obj.mapSeq (fun xs=>have q:=if k<0 then(k+(xs.size:Int)).toNat else min k.toNat xs.size;(xs.extract 0 q).push v++xs.extract q)=F
 have eo:F (lstObj vs e)=lstObj ((vs.extract 0 j).push v++vs.extract j) (e+1):=by
  subst hF
  unfold lstObj Obj.mapSeq
  simp only[ek]
  rw[if_neg]
  simp only[Array.size_append,Array.size_push,Array.size_extract,beq_iff_eq]
  omega
 have self:=Heap.get?_update_self F ho (by rw[eo];rfl)
 rw[eo]at self
 have same:=Heap.SameBut.update s.heap a F
 refine post (fun _=>0) _ s.toks ⟨?_,?_,?_,?_,?_⟩
 ·exact Nat.le_of_eq same.1.symm
 ·intro i p o h1 h2
  cases i with
  |zero=>cases h1;cases h2;exact self
  |succ i=>cases i<;>cases h1
 ·intro i o h;cases i<;>cases h
 ·intro i j hi;exact absurd hi (Nat.not_lt_zero _)
 ·intro b o h hb
  exact(same.2 b fun e=>hb (by rw[e];exact List.mem_singleton.mpr rfl)).trans h
end
structure Kx where
 a:Addr
 d:Addr
 rl:Addr
 I:Inf
 h1:Int
 h2:Int
 h3:Int
 h4:Int
 t1:Tok
 t2:Tok
 t3:Tok
 t4:Tok
noncomputable def infoS:Str:=⟨#[105,110,102,111]⟩
noncomputable def recsS:Str:=⟨#[114,101,99,111,114,100,115]⟩
noncomputable def placeS:Str:=⟨#[112,108,97,99,101]⟩
noncomputable def goneS:Str:=⟨#[103,111,110,101]⟩
noncomputable def Kx.objs(K:Kx)(down:Bool)(rs:Array Value)(e:Nat)(pl:Int)(tp:Tok):List (Addr×Obj):=
 (K.a,insObj 474 K.d)::(K.d,dicObj #[⟨K.h1,.str infoS K.t1,.ref K.I.a⟩,⟨K.h2,.str recsS K.t2,.ref K.rl⟩,⟨K.h3,.str placeS K.t3,.int pl tp⟩,⟨K.h4,.str goneS K.t4,.none⟩] 4)::(K.rl,lstObj rs e)::K.I.objs down
noncomputable def cCa(K:Kx)(down:Bool)(rs:Array Value)(e:Nat)(pl:Int)(tp:Tok)(q:Addr×Obj)(j:Nat)(r:Int)(t:Tok):Con:=
 ⟨.call (.ref 352) ⟨[.ref K.a,.int j t,.ref q.1],[]⟩,q::K.objs down rs e pl tp,fun X=>.int r (X 0),fun _=>(q::K.objs down rs e pl tp).map (·.2),fun _=>[],5,none,false,false⟩
noncomputable def Fck(x:Tok→Value)(k:Int)(q:Addr×Obj)(I:Inf)(down:Bool)(n:Nat)(r:Int):Fam:=fun c T sc=>
 cCk (adrAt T (Nat.mod sc 256),lstObj #[x (tokOf (nthD .none (seqOf (objAt T (Nat.mod sc 256))) 0)),.int k (tokOf (nthD .none (seqOf (objAt T (Nat.mod sc 256))) 1))] 2) q I down n r (cTok c 3)
noncomputable def Fdec(o:Array UInt8)(x y:Tok→Value):Fam:=Fc fun as=>cDec o x y (arg0 as)
noncomputable def u9q0:Nat:=(kq 8 0x909090909090000 (k_a (kq 1 9 (k_j (kq 1 9 (k_M (kq 5 0x909010000 (k_j 0x70605040009010001000100010000090000))))))))
section
variable{w:World}{P:Params}{b1 b2:Bool}(hP:w.params=parT P b1 b2)(nt:Nat)
include hP
section
variable(p:Pv)(k:Int)(o:Array UInt8)(r:Int)(K:Kx)(down:Bool)(rs:Array Value)(e:Nat)(pl:Int)(tp:Tok)(qa:Addr)(qe:Nat)
include p k o r K down rs e pl tp qa qe
theorem ca1(v:Value)(j:Nat)(tb:Tok)(hv:rs[j]?=some (.bytes o tb))(hj:j<100)
  (hd:∀t,CO w P b1 b2 nt (cDec o p.val (.int k) t)) (hc:∀a1 tx tu t,CO w P b1 b2 nt (cCk (a1,lstObj #[p.val tx,.int k tu] 2) (qa,lstObj #[v] qe) K.I down 1 r t)) (t:Tok):
  CO w P b1 b2 nt (cCa K down rs e pl tp (qa,lstObj #[v] qe) j r t):=by
 cases p<;>exact ko hP 5 [] [.ret] 122 u9q0 (cs:=[lget K.rl rs e j _,Fdec o _ _,Fck _ k _ K.I down _ r]) (fc (lget_ok hv hj) (fc (Fc_ok fun _=>hd _) (fc (fun _ _ _=>hc _ _ _ _) fn0)))
theorem ca2(v u:Value)(j:Nat)(tb:Tok)(hv:rs[j]?=some (.bytes o tb))(hj:j<100)
  (hd:∀t,CO w P b1 b2 nt (cDec o p.val (.int k) t)) (hc:∀a1 tx tu t,CO w P b1 b2 nt (cCk (a1,lstObj #[p.val tx,.int k tu] 2) (qa,lstObj #[v,u] qe) K.I down 2 r t)) (t:Tok):
  CO w P b1 b2 nt (cCa K down rs e pl tp (qa,lstObj #[v,u] qe) j r t):=by
 cases p<;>exact ko hP 5 [] [.ret] 122 u9q0 (cs:=[lget K.rl rs e j _,Fdec o _ _,Fck _ k _ K.I down _ r]) (fc (lget_ok hv hj) (fc (Fc_ok fun _=>hd _) (fc (fun _ _ _=>hc _ _ _ _) fn0)))
end
end
theorem oU100:∀{x0:Nat},(x0≤4)→((x0=0)∨((x0=1)∨((x0=2)∨((x0=3)∨(x0=4))))):=fun{x}=>(by decide:∀x0:Nat,(x0≤4)→((x0=0)∨((x0=1)∨((x0=2)∨((x0=3)∨(x0=4)))))) x
theorem oU101:∀{x0:Nat},(x0≤3)→((x0=0)∨((x0=1)∨((x0=2)∨(x0=3)))):=fun{x}=>(by decide:∀x0:Nat,(x0≤3)→((x0=0)∨((x0=1)∨((x0=2)∨(x0=3))))) x
theorem oU102:∀{x0:Nat},(x0≤2)→((x0=0)∨((x0=1)∨(x0=2))):=fun{x}=>(by decide:∀x0:Nat,(x0≤2)→((x0=0)∨((x0=1)∨(x0=2)))) x
theorem oU103:∀{x0:Nat},(x0≤1)→((x0=0)∨(x0=1)):=fun{x}=>(by decide:∀x0:Nat,(x0≤1)→((x0=0)∨(x0=1))) x
theorem oU104:∀{x0:Nat},(x0≤0)→(x0=0):=fun{x}=>(by decide:∀x0:Nat,(x0≤0)→(x0=0)) x
noncomputable def cPl(K:Kx)(down:Bool)(rs:Array Value)(e:Nat)(pl:Int)(tp:Tok)(q:Addr×Obj)(least:Int)(k:Nat)(t:Tok):Con:=
 ⟨.call (.ref 359) ⟨[.ref K.a,.ref q.1,.int least t],[]⟩,q::K.objs down rs e pl tp,fun X=>.int k (X 0),fun _=>(q::K.objs down rs e pl tp).map (·.2),fun _=>[],6,none,false,false⟩
noncomputable def Fca(K:Kx)(down:Bool)(rs:Array Value)(e:Nat)(pl:Int)(tp:Tok)(q:Addr×Obj)(j:Nat)(r:Int):Fam:=fun c _ _=>cCa K down rs e pl tp q j r (cTok c 1)
noncomputable def u10q0:Nat:=(k_b4 0x900000909)
noncomputable def u10q1:Nat:=(k_b4 (k_c4 0))
noncomputable def u10q2:Nat:=(k_b4 (k_c5 0))
noncomputable def u10q3:Nat:=(k_b4 (k_bq (kq 4 0x90909 (k_c4 0))))
noncomputable def u10q4:Nat:=(k_b4 (k_bq (kq 4 0x90909 (k_c5 0))))
noncomputable def u10q5:Nat:=(k_b4 (k_bq (kq 6 0x909000009 (k_c4 0))))
noncomputable def u10q6:Nat:=(k_b4 (k_bq (kq 6 0x909000009 (k_c5 0))))
noncomputable def u10q7:Nat:=(k_b4 (k_bq (kq 4 0x90909 (k_bq (kq 4 0x90909 (k_c4 0))))))
noncomputable def u10q8:Nat:=(k_b4 (k_bq (kq 4 0x90909 (k_bq (kq 4 0x90909 (k_c5 0))))))
section
variable{w:World}{P:Params}{b1 b2:Bool}(hP:w.params=parT P b1 b2)(nt:Nat)
include hP
theorem pl_0(K:Kx)(down:Bool)(e:Nat)(pl:Int)(tp:Tok)(q:Addr×Obj)(least:Int)(ans:Nat→Int)(k:Nat)(hk:k≤0)(H:∀j,j<0→∀t,CO w P b1 b2 nt (cCa K down #[] e pl tp q j (ans j) t))(hl:∀j,j<0→decide (ans j<least)=decide (j<k))(t:Tok):CO w P b1 b2 nt (cPl K down #[] e pl tp q least k t):=by
 have:k=0:=by exact oU104 hk
 rcases this with rfl
 ·exact ko hP 6 [] [.ret] 107 u10q0 (cs:=[]) fn0
theorem pl_1(r0:Value)(K:Kx)(down:Bool)(e:Nat)(pl:Int)(tp:Tok)(q:Addr×Obj)(least:Int)(ans:Nat→Int)(k:Nat)(hk:k≤1)(H:∀j,j<1→∀t,CO w P b1 b2 nt (cCa K down #[r0] e pl tp q j (ans j) t))(hl:∀j,j<1→decide (ans j<least)=decide (j<k))(t:Tok):CO w P b1 b2 nt (cPl K down #[r0] e pl tp q least k t):=by
 have:k=0∨k=1:=by exact oU103 hk
 rcases this with rfl|rfl
 ·exact ko hP 6 [] [.ret] 184 u10q1 (cs:=[Fca K down #[r0] e pl tp q 0 (ans 0),icmp "int.__lt__" (ans 0) least false]) (fc (fun _ _ _=>H 0 (by decide) _) (fc (ilt_ok (hl 0 (by decide))) fn0))
 ·exact ko hP 6 [] [.ret] 190 u10q2 (cs:=[Fca K down #[r0] e pl tp q 0 (ans 0),icmp "int.__lt__" (ans 0) least true]) (fc (fun _ _ _=>H 0 (by decide) _) (fc (ilt_ok (hl 0 (by decide))) fn0))
theorem pl_2(r0 r1:Value)(K:Kx)(down:Bool)(e:Nat)(pl:Int)(tp:Tok)(q:Addr×Obj)(least:Int)(ans:Nat→Int)(k:Nat)(hk:k≤2)(H:∀j,j<2→∀t,CO w P b1 b2 nt (cCa K down #[r0,r1] e pl tp q j (ans j) t))(hl:∀j,j<2→decide (ans j<least)=decide (j<k))(t:Tok):CO w P b1 b2 nt (cPl K down #[r0,r1] e pl tp q least k t):=by
 have:k=0∨k=1∨k=2:=by exact oU102 hk
 rcases this with rfl|rfl|rfl
 ·exact ko hP 6 [] [.ret] 261 u10q3 (cs:=[Fca K down #[r0,r1] e pl tp q 1 (ans 1),icmp "int.__lt__" (ans 1) least false,Fca K down #[r0,r1] e pl tp q 0 (ans 0),icmp "int.__lt__" (ans 0) least false]) (fc (fun _ _ _=>H 1 (by decide) _) (fc (ilt_ok (hl 1 (by decide))) (fc (fun _ _ _=>H 0 (by decide) _) (fc (ilt_ok (hl 0 (by decide))) fn0))))
 ·exact ko hP 6 [] [.ret] 267 u10q4 (cs:=[Fca K down #[r0,r1] e pl tp q 1 (ans 1),icmp "int.__lt__" (ans 1) least false,Fca K down #[r0,r1] e pl tp q 0 (ans 0),icmp "int.__lt__" (ans 0) least true]) (fc (fun _ _ _=>H 1 (by decide) _) (fc (ilt_ok (hl 1 (by decide))) (fc (fun _ _ _=>H 0 (by decide) _) (fc (ilt_ok (hl 0 (by decide))) fn0))))
 ·exact ko hP 6 [] [.ret] 190 u10q2 (cs:=[Fca K down #[r0,r1] e pl tp q 1 (ans 1),icmp "int.__lt__" (ans 1) least true]) (fc (fun _ _ _=>H 1 (by decide) _) (fc (ilt_ok (hl 1 (by decide))) fn0))
theorem pl_3(r0 r1 r2:Value)(K:Kx)(down:Bool)(e:Nat)(pl:Int)(tp:Tok)(q:Addr×Obj)(least:Int)(ans:Nat→Int)(k:Nat)(hk:k≤3)(H:∀j,j<3→∀t,CO w P b1 b2 nt (cCa K down #[r0,r1,r2] e pl tp q j (ans j) t))(hl:∀j,j<3→decide (ans j<least)=decide (j<k))(t:Tok):CO w P b1 b2 nt (cPl K down #[r0,r1,r2] e pl tp q least k t):=by
 have:k=0∨k=1∨k=2∨k=3:=by exact oU101 hk
 rcases this with rfl|rfl|rfl|rfl
 ·exact ko hP 6 [] [.ret] 261 u10q3 (cs:=[Fca K down #[r0,r1,r2] e pl tp q 1 (ans 1),icmp "int.__lt__" (ans 1) least false,Fca K down #[r0,r1,r2] e pl tp q 0 (ans 0),icmp "int.__lt__" (ans 0) least false]) (fc (fun _ _ _=>H 1 (by decide) _) (fc (ilt_ok (hl 1 (by decide))) (fc (fun _ _ _=>H 0 (by decide) _) (fc (ilt_ok (hl 0 (by decide))) fn0))))
 ·exact ko hP 6 [] [.ret] 267 u10q4 (cs:=[Fca K down #[r0,r1,r2] e pl tp q 1 (ans 1),icmp "int.__lt__" (ans 1) least false,Fca K down #[r0,r1,r2] e pl tp q 0 (ans 0),icmp "int.__lt__" (ans 0) least true]) (fc (fun _ _ _=>H 1 (by decide) _) (fc (ilt_ok (hl 1 (by decide))) (fc (fun _ _ _=>H 0 (by decide) _) (fc (ilt_ok (hl 0 (by decide))) fn0))))
 ·exact ko hP 6 [] [.ret] 267 u10q5 (cs:=[Fca K down #[r0,r1,r2] e pl tp q 1 (ans 1),icmp "int.__lt__" (ans 1) least true,Fca K down #[r0,r1,r2] e pl tp q 2 (ans 2),icmp "int.__lt__" (ans 2) least false]) (fc (fun _ _ _=>H 1 (by decide) _) (fc (ilt_ok (hl 1 (by decide))) (fc (fun _ _ _=>H 2 (by decide) _) (fc (ilt_ok (hl 2 (by decide))) fn0))))
 ·exact ko hP 6 [] [.ret] 273 u10q6 (cs:=[Fca K down #[r0,r1,r2] e pl tp q 1 (ans 1),icmp "int.__lt__" (ans 1) least true,Fca K down #[r0,r1,r2] e pl tp q 2 (ans 2),icmp "int.__lt__" (ans 2) least true]) (fc (fun _ _ _=>H 1 (by decide) _) (fc (ilt_ok (hl 1 (by decide))) (fc (fun _ _ _=>H 2 (by decide) _) (fc (ilt_ok (hl 2 (by decide))) fn0))))
theorem pl_4(r0 r1 r2 r3:Value)(K:Kx)(down:Bool)(e:Nat)(pl:Int)(tp:Tok)(q:Addr×Obj)(least:Int)(ans:Nat→Int)(k:Nat)(hk:k≤4)(H:∀j,j<4→∀t,CO w P b1 b2 nt (cCa K down #[r0,r1,r2,r3] e pl tp q j (ans j) t))(hl:∀j,j<4→decide (ans j<least)=decide (j<k))(t:Tok):CO w P b1 b2 nt (cPl K down #[r0,r1,r2,r3] e pl tp q least k t):=by
 have:k=0∨k=1∨k=2∨k=3∨k=4:=by exact oU100 hk
 rcases this with rfl|rfl|rfl|rfl|rfl
 ·exact ko hP 6 [] [.ret] 338 u10q7 (cs:=[Fca K down #[r0,r1,r2,r3] e pl tp q 2 (ans 2),icmp "int.__lt__" (ans 2) least false,Fca K down #[r0,r1,r2,r3] e pl tp q 1 (ans 1),icmp "int.__lt__" (ans 1) least false,Fca K down #[r0,r1,r2,r3] e pl tp q 0 (ans 0),icmp "int.__lt__" (ans 0) least false]) (fc (fun _ _ _=>H 2 (by decide) _) (fc (ilt_ok (hl 2 (by decide))) (fc (fun _ _ _=>H 1 (by decide) _) (fc (ilt_ok (hl 1 (by decide))) (fc (fun _ _ _=>H 0 (by decide) _) (fc (ilt_ok (hl 0 (by decide))) fn0))))))
 ·exact ko hP 6 [] [.ret] 344 u10q8 (cs:=[Fca K down #[r0,r1,r2,r3] e pl tp q 2 (ans 2),icmp "int.__lt__" (ans 2) least false,Fca K down #[r0,r1,r2,r3] e pl tp q 1 (ans 1),icmp "int.__lt__" (ans 1) least false,Fca K down #[r0,r1,r2,r3] e pl tp q 0 (ans 0),icmp "int.__lt__" (ans 0) least true]) (fc (fun _ _ _=>H 2 (by decide) _) (fc (ilt_ok (hl 2 (by decide))) (fc (fun _ _ _=>H 1 (by decide) _) (fc (ilt_ok (hl 1 (by decide))) (fc (fun _ _ _=>H 0 (by decide) _) (fc (ilt_ok (hl 0 (by decide))) fn0))))))
 ·exact ko hP 6 [] [.ret] 267 u10q4 (cs:=[Fca K down #[r0,r1,r2,r3] e pl tp q 2 (ans 2),icmp "int.__lt__" (ans 2) least false,Fca K down #[r0,r1,r2,r3] e pl tp q 1 (ans 1),icmp "int.__lt__" (ans 1) least true]) (fc (fun _ _ _=>H 2 (by decide) _) (fc (ilt_ok (hl 2 (by decide))) (fc (fun _ _ _=>H 1 (by decide) _) (fc (ilt_ok (hl 1 (by decide))) fn0))))
 ·exact ko hP 6 [] [.ret] 267 u10q5 (cs:=[Fca K down #[r0,r1,r2,r3] e pl tp q 2 (ans 2),icmp "int.__lt__" (ans 2) least true,Fca K down #[r0,r1,r2,r3] e pl tp q 3 (ans 3),icmp "int.__lt__" (ans 3) least false]) (fc (fun _ _ _=>H 2 (by decide) _) (fc (ilt_ok (hl 2 (by decide))) (fc (fun _ _ _=>H 3 (by decide) _) (fc (ilt_ok (hl 3 (by decide))) fn0))))
 ·exact ko hP 6 [] [.ret] 273 u10q6 (cs:=[Fca K down #[r0,r1,r2,r3] e pl tp q 2 (ans 2),icmp "int.__lt__" (ans 2) least true,Fca K down #[r0,r1,r2,r3] e pl tp q 3 (ans 3),icmp "int.__lt__" (ans 3) least true]) (fc (fun _ _ _=>H 2 (by decide) _) (fc (ilt_ok (hl 2 (by decide))) (fc (fun _ _ _=>H 3 (by decide) _) (fc (ilt_ok (hl 3 (by decide))) fn0))))
theorem pl_ok(rs:List Value)(hr:rs.length≤4)(K:Kx)(down:Bool)(e:Nat)(pl:Int)(tp:Tok)(q:Addr×Obj)(least:Int)(ans:Nat→Int)(k:Nat)(hk:k≤rs.length)(H:∀j,j<rs.length→∀t,CO w P b1 b2 nt (cCa K down rs.toArray e pl tp q j (ans j) t))
  (hl:∀j,j<rs.length→decide (ans j<least)=decide (j<k)) (t:Tok):CO w P b1 b2 nt (cPl K down rs.toArray e pl tp q least k t):=by
 match rs,hr with
 |[],_=>exact pl_0 hP nt K down e pl tp q least ans k hk H hl t
 |[r0],_=>exact pl_1 hP nt r0 K down e pl tp q least ans k hk H hl t
 |[r0,r1],_=>exact pl_2 hP nt r0 r1 K down e pl tp q least ans k hk H hl t
 |[r0,r1,r2],_=>exact pl_3 hP nt r0 r1 r2 K down e pl tp q least ans k hk H hl t
 |[r0,r1,r2,r3],_=>exact pl_4 hP nt r0 r1 r2 r3 K down e pl tp q least ans k hk H hl t
 |_::_::_::_::_::_,h=>simp at h
end
noncomputable def epOf(o:Obj):Nat:=match o.data with
 |.seq _ e=>e
 |_=>0
noncomputable def tkAt(T:LT)(j i:Nat):Tok:=tokOf (nthD .none (seqOf (objAt T j)) i)
noncomputable def prAt(x:Tok→Value)(k:Int)(T:LT)(j:Nat):Addr×Obj:=(adrAt T j,lstObj #[x (tkAt T j 0),.int k (tkAt T j 1)] (epOf (objAt T j)))
noncomputable def FcaT(K:Kx)(down:Bool)(rs:Array Value)(e:Nat)(pl:Int)(tp:Tok)(x:Tok→Value)(k':Int)(j:Nat)(r:Int):Fam:=fun c T sc=>cCa K down rs e pl tp (prAt x k' T (Nat.mod sc 256)) j r (cTok c 1)
noncomputable def FplT(K:Kx)(down:Bool)(rs:Array Value)(e:Nat)(pl:Int)(tp:Tok)(x:Tok→Value)(k':Int)(least:Int)(j:Nat):Fam:=fun c T sc=>cPl K down rs e pl tp (prAt x k' T (Nat.mod sc 256)) least j (cTok c 2)
noncomputable def cIns(K:Kx)(down:Bool)(rs:Array Value)(e:Nat)(tp:Tok)(o:Array UInt8)(tb:Tok)(k:Nat):Con:=
 ⟨.call (.ref 366) ⟨[.ref K.a,.bytes o tb],[]⟩,K.objs down rs e (-1) tp,fun _=>.none,fun _=>(K.objs down ((rs.extract 0 k).push (.bytes o tb)++rs.extract k) (e+1) (-1) tp).map (·.2),fun _=>[],7,none,false,false⟩
structure Ro where
 ad:Addr
 tn:Tok
 o:Array UInt8
 tb:Tok
structure Tx where
 a:Addr
 d:Addr
 rl:Addr
 h1:Int
 h2:Int
 h3:Int
 t1:Tok
 t2:Tok
 t3:Tok
noncomputable def rowsS:Str:=⟨#[114,111,119,115]⟩
noncomputable def roTs:List Ro→Nat→List (Addr×Obj)
 |[],_=>[]
 |r::L,i=>(r.ad,tupObj #[.int i r.tn,.bytes r.o r.tb])::roTs L (i+1)
noncomputable def Tx.base(T:Tx)(L:List Ro)(e:Nat)(pl:Int)(tp:Tok):List (Addr×Obj):=
 [(T.a,insObj 621 T.d),(T.d,dicObj #[⟨T.h1,.str rowsS T.t1,.ref T.rl⟩,⟨T.h2,.str placeS T.t2,.int pl tp⟩,⟨T.h3,.str goneS T.t3,.none⟩] 3),(T.rl,lstObj (L.map fun r=>Value.ref r.ad).toArray e)]
noncomputable def Tx.objs(T:Tx)(L:List Ro)(e:Nat)(pl:Int)(tp:Tok):List (Addr×Obj):=T.base L e pl tp++roTs L 1
noncomputable def cIr(T:Tx)(L:List Ro)(e:Nat)(tp:Tok)(o:Array UInt8)(tn tb:Tok):Con:=
 ⟨.call (.ref 499) ⟨[.ref T.a,.int (L.length+1:Nat) tn,.bytes o tb],[]⟩,T.objs L e (-1) tp,fun _=>.none,fun X=>(T.base (L++[⟨X 0,tn,o,tb⟩]) (e+1) (-1) tp++roTs L 1).map (·.2),fun _=>[tupObj #[.int (L.length+1:Nat) tn,.bytes o tb]],2,none,false,false⟩
noncomputable def u11q0:Nat:=(k_d5 (kq 3 0x80100 (k_l (kq 12 0x60504030201000b01000808 (k_d6 0)))))
noncomputable def u11q1:Nat:=(k_d5 (k_d6 0))
noncomputable def u11q2:Nat:=(kq 11 0x400000404040404040000 (k_l (kq 1 4 (k_a (kq 11 0x500000505000005050505 (k_J (kq 14 0x400000404040500000505000505 (k_J (kq 3 0x40000 (k_cn (kq 10 0x4030303000300040404 (k_d (kq 2 0x404 (k_d 0))))))))))))))
noncomputable def u11q3:Nat:=(kq 11 0x500000505050505050000 (k_d7 (kq 17 0x500000505050600000606000606000006 (k_J (kq 3 0x50000 (k_cn (kq 10 0x5030303000300050505 (k_d (kq 2 0x505 (k_d 0))))))))))
noncomputable def u11q4:Nat:=(kq 11 0x600000606060606060000 (k_l (kq 1 6 (k_a (k_dy (k_d8 (kq 3 0x60000 (k_cn (kq 10 0x6030303000300060606 (k_d (kq 2 0x606 (k_d 0))))))))))))
noncomputable def u11q5:Nat:=(kq 2 0 (k_e (kq 5 0x700000707 (k_l (k_c (k_c6 (k_d9 (kq 20 0x700000707070800000808000808000008000008 (k_J (kq 3 0x70000 (k_cn (kq 10 0x7030303000300070707 (k_d (kq 2 0x707 (k_d 0)))))))))))))))
section
variable{prog:Program}{w:World}{kt:KT}{nt:Nat}
theorem lt_nat{k n:Nat}(h:k<n):FamOk prog w kt nt (icmp "int.__lt__" k n true):=ilt_ok (by rw[decide_eq_true_eq];omega)
theorem nlt_nat{k n:Nat}(h:k=n):FamOk prog w kt nt (icmp "int.__lt__" k n false):=ilt_ok (by rw[decide_eq_false_iff_not];omega)
end
section
variable{w:World}{P:Params}{b1 b2:Bool}(hP:w.params=parT P b1 b2)(nt:Nat)
include hP
theorem ins_in(p:Pv)(k':Int)(o:Array UInt8)(r:Int)(K:Kx)(down:Bool)(rs:List Value)(hl:rs.length≤3)(e:Nat)(tp:Tok)(tb:Tok)(k:Nat)(hk:k≤rs.toArray.size)(hs:rs.toArray.size<100)(hlt:k<rs.length)(hr:(r==0)=false)
  (hd:∀t,CO w P b1 b2 nt (cDec o p.val (.int k') t))
  (Hp:∀qa tx tu qe t,CO w P b1 b2 nt (cPl K down rs.toArray e (-1) tp (qa,lstObj #[p.val tx,.int k' tu] qe) 0 k t))
  (Hc:∀qa tx tu qe t,CO w P b1 b2 nt (cCa K down rs.toArray e (-1) tp (qa,lstObj #[p.val tx,.int k' tu] qe) k r t)):CO w P b1 b2 nt (cIns K down rs.toArray e tp o tb k):=by
 rcases rs with _|⟨r0,_|⟨r1,_|⟨r2,_|⟨r3,_⟩⟩⟩⟩
 ·exact absurd hlt (Nat.not_lt_zero _)
 ·cases p<;>exact ko hP 7 [] [] 348 u11q0 (cs:=[Fdec o _ _,FplT K down _ e (-1) tp _ _ 0 k,icmp "int.__lt__" k _ true,FcaT K down _ e (-1) tp _ _ k r,icmp "int.__eq__" r 0 false,lins K.rl _ e k (.bytes o tb),icmp "int.__le__" k (-1) false]) (fc (Fc_ok fun _=>hd _) (fc (fun _ _ _=>Hp _ _ _ _ _) (fc (lt_nat hlt) (fc (fun _ _ _=>Hc _ _ _ _ _) (fc (ieq_ok hr) (fc (lins_ok hk hs) (fc (ile_ok (by rw[decide_eq_false_iff_not];omega)) fn0)))))))
 ·cases p<;>exact ko hP 7 [] [] 348 u11q0 (cs:=[Fdec o _ _,FplT K down _ e (-1) tp _ _ 0 k,icmp "int.__lt__" k _ true,FcaT K down _ e (-1) tp _ _ k r,icmp "int.__eq__" r 0 false,lins K.rl _ e k (.bytes o tb),icmp "int.__le__" k (-1) false]) (fc (Fc_ok fun _=>hd _) (fc (fun _ _ _=>Hp _ _ _ _ _) (fc (lt_nat hlt) (fc (fun _ _ _=>Hc _ _ _ _ _) (fc (ieq_ok hr) (fc (lins_ok hk hs) (fc (ile_ok (by rw[decide_eq_false_iff_not];omega)) fn0)))))))
 ·cases p<;>exact ko hP 7 [] [] 348 u11q0 (cs:=[Fdec o _ _,FplT K down _ e (-1) tp _ _ 0 k,icmp "int.__lt__" k _ true,FcaT K down _ e (-1) tp _ _ k r,icmp "int.__eq__" r 0 false,lins K.rl _ e k (.bytes o tb),icmp "int.__le__" k (-1) false]) (fc (Fc_ok fun _=>hd _) (fc (fun _ _ _=>Hp _ _ _ _ _) (fc (lt_nat hlt) (fc (fun _ _ _=>Hc _ _ _ _ _) (fc (ieq_ok hr) (fc (lins_ok hk hs) (fc (ile_ok (by rw[decide_eq_false_iff_not];omega)) fn0)))))))
 ·simp at hl
theorem ins_end(p:Pv)(k':Int)(o:Array UInt8)(K:Kx)(down:Bool)(rs:List Value)(hl:rs.length≤3)(e:Nat)(tp:Tok)(tb:Tok)(k:Nat)(hk:k≤rs.toArray.size)(hs:rs.toArray.size<100)(hlt:k=rs.length)
  (hd:∀t,CO w P b1 b2 nt (cDec o p.val (.int k') t))
  (Hp:∀qa tx tu qe t,CO w P b1 b2 nt (cPl K down rs.toArray e (-1) tp (qa,lstObj #[p.val tx,.int k' tu] qe) 0 k t)):CO w P b1 b2 nt (cIns K down rs.toArray e tp o tb k):=by
 rcases rs with _|⟨r0,_|⟨r1,_|⟨r2,_|⟨r3,_⟩⟩⟩⟩
 ·cases p<;>exact ko hP 7 [] [] 316 u11q1 (cs:=[Fdec o _ _,FplT K down _ e (-1) tp _ _ 0 k,icmp "int.__lt__" k _ false,lins K.rl _ e k (.bytes o tb),icmp "int.__le__" k (-1) false]) (fc (Fc_ok fun _=>hd _) (fc (fun _ _ _=>Hp _ _ _ _ _) (fc (nlt_nat hlt) (fc (lins_ok hk hs) (fc (ile_ok (by rw[decide_eq_false_iff_not];omega)) fn0)))))
 ·cases p<;>exact ko hP 7 [] [] 316 u11q1 (cs:=[Fdec o _ _,FplT K down _ e (-1) tp _ _ 0 k,icmp "int.__lt__" k _ false,lins K.rl _ e k (.bytes o tb),icmp "int.__le__" k (-1) false]) (fc (Fc_ok fun _=>hd _) (fc (fun _ _ _=>Hp _ _ _ _ _) (fc (nlt_nat hlt) (fc (lins_ok hk hs) (fc (ile_ok (by rw[decide_eq_false_iff_not];omega)) fn0)))))
 ·cases p<;>exact ko hP 7 [] [] 316 u11q1 (cs:=[Fdec o _ _,FplT K down _ e (-1) tp _ _ 0 k,icmp "int.__lt__" k _ false,lins K.rl _ e k (.bytes o tb),icmp "int.__le__" k (-1) false]) (fc (Fc_ok fun _=>hd _) (fc (fun _ _ _=>Hp _ _ _ _ _) (fc (nlt_nat hlt) (fc (lins_ok hk hs) (fc (ile_ok (by rw[decide_eq_false_iff_not];omega)) fn0)))))
 ·cases p<;>exact ko hP 7 [] [] 316 u11q1 (cs:=[Fdec o _ _,FplT K down _ e (-1) tp _ _ 0 k,icmp "int.__lt__" k _ false,lins K.rl _ e k (.bytes o tb),icmp "int.__le__" k (-1) false]) (fc (Fc_ok fun _=>hd _) (fc (fun _ _ _=>Hp _ _ _ _ _) (fc (nlt_nat hlt) (fc (lins_ok hk hs) (fc (ile_ok (by rw[decide_eq_false_iff_not];omega)) fn0)))))
 ·simp at hl
theorem ir_ok(T:Tx)(L:List Ro)(hl:L.length≤3)(e:Nat)(tp:Tok)(o:Array UInt8)(tn tb:Tok):CO w P b1 b2 nt (cIr T L e tp o tn tb):=by
 match L,hl with
 |[],_=>exact ko hP 2 [5] [.adr 5] 289 u11q2 (cs:=[]) fn0
 |[_],_=>exact ko hP 2 [6] [.adr 6] 390 u11q3 (cs:=[]) fn0
 |[_,_],_=>exact ko hP 2 [7] [.adr 7] 390 u11q4 (cs:=[]) fn0
 |[_,_,_],_=>exact ko hP 2 [8] [.adr 8] 491 u11q5 (cs:=[]) fn0
 |_::_::_::_::_,h=>simp at h
end
section
variable{prog:Program}{w:World}{kt:KT}{nt:Nat}
noncomputable def seqAny(o:Obj):Option (Array Value):=match sqOf 0x666d717675 o with
 |some xs=>some xs
 |none=>sqOf 0x75746a6d o
theorem seqAny_some{o:Obj}{xs:Array Value}(h:seqAny o=some xs):∃T dd k sl,(T="list"∨T="tuple")∧o={cls:=.type T,dict:=dd,data:=.seq xs k,slots:=sl}:=by
 unfold seqAny at h
 split at h
 ·rename_i e
  cases h
  obtain⟨dd,k,sl,e⟩:=sqOf_some (b:="tuple") (by decide+kernel) e
  exact⟨_,dd,k,sl,.inr rfl,e⟩
 ·obtain⟨dd,k,sl,e⟩:=sqOf_some (b:="list") (by decide+kernel) h
  exact⟨_,dd,k,sl,.inl rfl,e⟩
noncomputable def linObj(xs:Array Value):Obj:=Obj.mapSeq (· ++xs) (Obj.mapSeq (fun _=>(#[]:Array Value)) (lstObj #[] 0))
noncomputable def linCon(l i:Addr×Obj):Con:=match seqAny i.2 with
 |none=>conNo
 |some xs=>@Bool.rec (fun _=>Con) conNo ⟨.builtin "list.__init__" ⟨[.ref l.1,.ref i.1],[]⟩,[(l.1,lstObj #[] 0),i],fun _=>.none,fun _=>[linObj xs,i.2],fun _=>[],1,none,false,false⟩ (Nat.blt xs.toList.length 1000)
theorem linCon_ok{l i:Addr×Obj}:ConOk prog w kt nt (linCon l i):=by
 unfold linCon
 split
 ·exact conNo_ok
 rename_i xs hx
 generalize q:Nat.blt xs.toList.length 1000=b
 cases b with
 |false=>exact conNo_ok
 |true=>
  have hlen:xs.size<1000:=by have:=Nat.le_of_ble_eq_true q;rw[Array.length_toList]at this;exact this
  obtain⟨T,dd,k,sl,hT,ho⟩:=seqAny_some hx
  intro A s R hr P post
  have h1:s.heap.get? l.1=some (lstObj #[] 0):=(P.pre (l.1,lstObj #[] 0) List.mem_cons_self).1
  have h2:s.heap.get? i.1=some i.2:=(P.pre i (List.mem_cons_of_mem _ List.mem_cons_self)).1
  have hne:i.1≠l.1:=by
   have:=P.nd
   have:[l.1,i.1].Nodup:=this
   simp only[List.nodup_cons,List.mem_singleton]at this
   exact fun e=>this.1 e.symm
  refine codeAny_of (codeAny_builtin (entryFor_of_fast (b:=Builtin.«list.__init__») (by kernel_rfl)) ?_)
  rw[Around.under_plainId (by decide+kernel)]
  refine wpAny_list_init_seq (T:=T) (o:=i.2) (items:=xs) (n:=k) l.1 i.1 hT hne h1 h2 (by rw[ho]) (by rw[ho]) ?_ (by unfold sizeLine;omega)
  have s1:=Heap.get?_update_self (Obj.mapSeq (fun _=>(#[]:Array Value))) h1 rfl
  have s2:=Heap.get?_update_self (Obj.mapSeq (· ++xs)) s1 rfl
  have same1:=Heap.SameBut.update s.heap l.1 (Obj.mapSeq (fun _=>(#[]:Array Value)))
  have same2:=Heap.SameBut.update (s.heap.update l.1 (Obj.mapSeq (fun _=>(#[]:Array Value)))) l.1 (Obj.mapSeq (· ++xs))
  refine post (fun _=>0) _ s.toks ⟨?_,?_,?_,?_,?_⟩
  ·rw[same2.1,same1.1];exact Nat.le_refl _
  ·intro j p o e1 e2
   match j,e1,e2 with
   |0,e1,e2=>cases e1;cases e2;exact s2
   |1,e1,e2=>cases e1;cases e2;exact((same2.2 _ hne).trans (same1.2 _ hne)).trans h2
  ·intro i o h;cases i<;>cases h
  ·intro i j hi;exact absurd hi (Nat.not_lt_zero _)
  ·intro b o h hb
   have hb':b≠l.1:=fun e=>hb (by rw[e];exact List.mem_cons_self)
   exact((same2.2 _ hb').trans (same1.2 _ hb')).trans h
noncomputable def linit:Fam:=fun _ T sc=>match T.get (Nat.mod sc 256),T.get (Nat.mod (Nat.div sc 256) 256)with
 |some l,some i=>linCon l i
 |_,_=>conNo
theorem linit_ok:FamOk prog w kt nt linit:=by
 intro c T sc
 unfold linit
 split
 ·exact linCon_ok
 ·exact conNo_ok
noncomputable def liaCon(l i:Addr×Obj):Con:=match seqAny i.2 with
 |none=>conNo
 |some xs=>@Bool.rec (fun _=>Con) conNo ⟨.builtin "list.__iadd__" ⟨[.ref l.1,.ref i.1],[]⟩,[(l.1,lstObj #[] 0),i],fun _=>.ref l.1,fun _=>[Obj.mapSeq (· ++xs) (lstObj #[] 0),i.2],fun _=>[],1,none,false,false⟩ (Nat.blt xs.toList.length 1000)
theorem liaCon_ok{l i:Addr×Obj}:ConOk prog w kt nt (liaCon l i):=by
 unfold liaCon
 split
 ·exact conNo_ok
 rename_i xs hx
 generalize q:Nat.blt xs.toList.length 1000=b
 cases b with
 |false=>exact conNo_ok
 |true=>
  have hlen:xs.size<1000:=by have:=Nat.le_of_ble_eq_true q;rw[Array.length_toList]at this;exact this
  obtain⟨T,dd,k,sl,hT,ho⟩:=seqAny_some hx
  intro A s R hr P post
  have h1:s.heap.get? l.1=some (lstObj #[] 0):=(P.pre (l.1,lstObj #[] 0) List.mem_cons_self).1
  have h2:s.heap.get? i.1=some i.2:=(P.pre i (List.mem_cons_of_mem _ List.mem_cons_self)).1
  have hne:i.1≠l.1:=by
   have:=P.nd
   have:[l.1,i.1].Nodup:=this
   simp only[List.nodup_cons,List.mem_singleton]at this
   exact fun e=>this.1 e.symm
  refine codeAny_of (codeAny_builtin (entryFor_of_fast (b:=Builtin.«list.__iadd__») (by kernel_rfl)) ?_)
  rw[Around.under_plainId (by decide+kernel)]
  show PySem.wpAny (model prog w) A.a.in1 (Builtin.List.listExtendWith (.ref l.1) (.ref i.1) (.ref l.1)) _ _ s
  refine wpAny_extend_seq (T:=T) (o:=i.2) (items:=xs) (n:=k) l.1 i.1 (.ref l.1) 0 hT h1 h2 (by rw[ho]) (by rw[ho]) ?_ (by unfold sizeLine;omega)
  have s2:=Heap.get?_update_self (Obj.mapSeq (· ++xs)) h1 rfl
  have same2:=Heap.SameBut.update s.heap l.1 (Obj.mapSeq (· ++xs))
  refine post (fun _=>0) _ s.toks ⟨?_,?_,?_,?_,?_⟩
  ·rw[same2.1];exact Nat.le_refl _
  ·intro j p o e1 e2
   match j,e1,e2 with
   |0,e1,e2=>cases e1;cases e2;exact s2
   |1,e1,e2=>cases e1;cases e2;exact(same2.2 _ hne).trans h2
  ·intro i o h;cases i<;>cases h
  ·intro i j hi;exact absurd hi (Nat.not_lt_zero _)
  ·intro b o h hb
   have hb':b≠l.1:=fun e=>hb (by rw[e];exact List.mem_cons_self)
   exact(same2.2 _ hb').trans h
noncomputable def lia:Fam:=fun _ T sc=>match T.get (Nat.mod sc 256),T.get (Nat.mod (Nat.div sc 256) 256)with
 |some l,some i=>liaCon l i
 |_,_=>conNo
theorem lia_ok:FamOk prog w kt nt lia:=by
 intro c T sc
 unfold lia
 split
 ·exact liaCon_ok
 ·exact conNo_ok
noncomputable def bArg1(c:Code):Value:=match c with
 |.builtin _ ⟨as,_⟩=>nthD .none as 1
 |_=>.none
noncomputable def lapp(a:Addr)(vs:Array Value)(e:Nat):Fam:=fun c _ _=>⟨.builtin "list.append" ⟨[.ref a,bArg1 c],[]⟩,[(a,lstObj vs e)],fun _=>.none,fun _=>[lstObj (vs.push (bArg1 c)) (e+1)],fun _=>[],1,none,false,false⟩
theorem lapp_ok{a:Addr}{vs:Array Value}{e:Nat}(hs:vs.size<1000):FamOk prog w kt nt (lapp a vs e):=by
 intro c T sc A s R hr P post
 refine codeAny_of (codeAny_builtin (entryFor_of_fast (b:=Builtin.«list.append») (by kernel_rfl)) ?_)
 rw[Around.under_plainId (by decide+kernel)]
 have ho:s.heap.get? a=some (lstObj vs e):=(P.pre (a,lstObj vs e) (List.mem_singleton.mpr rfl)).1
 have M:=PySem.list_append a vs e (bArg1 c) (by unfold sizeLine;omega) prog w A.a R s
 refine M ⟨ho,?_⟩
 have eo:Obj.mapSeq (·.push (bArg1 c)) (lstObj vs e)=lstObj (vs.push (bArg1 c)) (e+1):=by
  unfold lstObj Obj.mapSeq
  simp only[Array.size_push]
  rw[if_neg]
  simp
 have self:=Heap.get?_update_self (Obj.mapSeq (·.push (bArg1 c))) ho (by rw[eo];rfl)
 rw[eo]at self
 have same:=Heap.SameBut.update s.heap a (Obj.mapSeq (·.push (bArg1 c)))
 refine post (fun _=>0) _ s.toks ⟨?_,?_,?_,?_,?_⟩
 ·exact Nat.le_of_eq same.1.symm
 ·intro i p o h1 h2
  cases i with
  |zero=>cases h1;cases h2;exact self
  |succ i=>cases i<;>cases h1
 ·intro i o h;cases i<;>cases h
 ·intro i j hi;exact absurd hi (Nat.not_lt_zero _)
 ·intro b o h hb
  exact(same.2 b fun e=>hb (by rw[e];exact List.mem_singleton.mpr rfl)).trans h
end
@[elab_as_elim] theorem o2E{α:Type}{p:Option α→Prop}(o:Option α)(h0:p none)(h1:∀a,p (some a)):p o:=by
 rcases o with _|a
 ·exact h0
 ·exact h1 a
@[elab_as_elim] theorem pvE{p:Pv→Prop}(v:Pv)(h1:p .n)(h2:∀i,p (.i i))(h3:∀s,p (.s s)):p v:=by
 cases v
 ·exact h1
 ·exact h2 _
 ·exact h3 _
@[elab_as_elim] theorem l2E{α:Type}{p:List α→Prop}(l:List α)(h:l.length≤2)(h0:p [])(h1:∀a,p [a])(h2:∀a b,p [a,b]):p l:=by
 rcases l with _|⟨a,_|⟨b,_|⟨d,l⟩⟩⟩
 ·exact h0
 ·exact h1 a
 ·exact h2 a b
 ·exact absurd h (by simp)
@[elab_as_elim] theorem l3E{α:Type}{p:List α→Prop}(l:List α)(h:l.length≤3)(h0:p [])(h1:∀a,p [a])(h2:∀a b,p [a,b])(h3:∀a b c,p [a,b,c]):p l:=by
 rcases l with _|⟨a,_|⟨b,_|⟨c,_|⟨d,l⟩⟩⟩⟩
 ·exact h0
 ·exact h1 a
 ·exact h2 a b
 ·exact h3 a b c
 ·exact absurd h (by simp)
@[elab_as_elim] theorem l4E{α:Type}{p:List α→Prop}(l:List α)(h:l.length≤4)(h0:p [])(h1:∀a,p [a])(h2:∀a b,p [a,b])(h3:∀a b c,p [a,b,c])(h4:∀a b c d,p [a,b,c,d]):p l:=by
 rcases l with _|⟨a,_|⟨b,_|⟨c,_|⟨d,_|⟨e,l⟩⟩⟩⟩⟩
 ·exact h0
 ·exact h1 a
 ·exact h2 a b
 ·exact h3 a b c
 ·exact h4 a b c d
 ·exact absurd h (by simp)
@[elab_as_elim] theorem l4K{α:Type}{p:Nat→List α→Prop}(k:Nat)(l:List α)(e:l.length=k)(h:k≤4)(h0:p 0 [])(h1:∀a,p 1 [a])(h2:∀a b,p 2 [a,b])(h3:∀a b c,p 3 [a,b,c])(h4:∀a b c d,p 4 [a,b,c,d]):p k l:=by
 subst e
 exact l4E (p:=fun l=>p l.length l) l h h0 h1 h2 h3 h4
theorem len0{α:Type}:∀{l:List α},l.length=0→l=[]
 |[],_=>rfl
theorem lenS{α:Type}{n:Nat}:∀{l:List α},l.length=n+1→∃a l',l=a::l'∧l'.length=n
 |a::l',e=>⟨a,l',rfl,Nat.succ.inj e⟩
@[elab_as_elim] theorem l44E{α β:Type}{p:List α→List β→Prop}(l:List α)(l':List β)(h:l.length≤4)(e:l'.length=l.length)(h0:p [] [])(h1:∀a x,p [a] [x])(h2:∀a b x y,p [a,b] [x,y])(h3:∀a b c x y z,p [a,b,c] [x,y,z])(h4:∀a b c d x y z u,p [a,b,c,d] [x,y,z,u]):p l l':=by
 revert e
 refine l4E l h ?_ ?_ ?_ ?_ ?_<;>intros<;>rename_i e
 ·cases len0 e;exact h0
 ·obtain⟨x,_,rfl,e1⟩:=lenS e
  cases len0 e1;exact h1 _ _
 ·obtain⟨x,_,rfl,e1⟩:=lenS e
  obtain⟨y,_,rfl,e2⟩:=lenS e1
  cases len0 e2;exact h2 _ _ _ _
 ·obtain⟨x,_,rfl,e1⟩:=lenS e
  obtain⟨y,_,rfl,e2⟩:=lenS e1
  obtain⟨z,_,rfl,e3⟩:=lenS e2
  cases len0 e3;exact h3 _ _ _ _ _ _
 ·obtain⟨x,_,rfl,e1⟩:=lenS e
  obtain⟨y,_,rfl,e2⟩:=lenS e1
  obtain⟨z,_,rfl,e3⟩:=lenS e2
  obtain⟨u,_,rfl,e4⟩:=lenS e3
  cases len0 e4;exact h4 _ _ _ _ _ _ _ _
theorem b4{p:Nat→Prop}{m n:Nat}(h:n≤4)(h':m<n)(h1:m<1→p 1)(h2:m<2→p 2)(h3:m<3→p 3)(h4:m<4→p 4):p n:=by
 have:n=1∨n=2∨n=3∨n=4:=(by decide:∀n:Nat,n≤4→0<n→n=1∨n=2∨n=3∨n=4) n h (Nat.zero_lt_of_lt h')
 rcases this with rfl|rfl|rfl|rfl
 ·exact h1 h'
 ·exact h2 h'
 ·exact h3 h'
 ·exact h4 h'
@[elab_as_elim] theorem nlE{α:Type}{p:Nat→List α→Prop}(n:Nat)(l:List α)(h:n≤4)(h':l.length<n)(a1:p 1 [])(a2:p 2 [])(a3:p 3 [])(a4:p 4 [])(b2:∀a,p 2 [a])(b3:∀a,p 3 [a])(b4':∀a,p 4 [a])(c3:∀a b,p 3 [a,b])(c4:∀a b,p 4 [a,b])(d4:∀a b c,p 4 [a,b,c]):p n l:=by
 have f:∀{a b:Nat}{q:Prop},Nat.ble b a=true→a<b→q:=fun e g=>absurd g (Nat.not_lt.mpr (Nat.le_of_ble_eq_true e))
 rcases l with _|⟨a,_|⟨b,_|⟨c,_|⟨d,l⟩⟩⟩⟩
 ·exact b4 (p:=fun n=>p n []) h h' (fun _=>a1) (fun _=>a2) (fun _=>a3) fun _=>a4
 ·exact b4 (p:=fun n=>p n [a]) h h' (f rfl) (fun _=>b2 a) (fun _=>b3 a) fun _=>b4' a
 ·exact b4 (p:=fun n=>p n [a,b]) h h' (f rfl) (f rfl) (fun _=>c3 a b) fun _=>c4 a b
 ·exact b4 (p:=fun n=>p n [a,b,c]) h h' (f rfl) (f rfl) (f rfl) fun _=>d4 a b c
 ·exact absurd (Nat.lt_of_lt_of_le h' h) (by simp only[List.length_cons];omega)
@[elab_as_elim] theorem nlK{α:Type}{p:Nat→List α→Nat→Prop}(n:Nat)(l:List α)(m:Nat)(h:n≤4)(e:l.length=m)(h':m<n)(a1:p 1 [] 0)(a2:p 2 [] 0)(a3:p 3 [] 0)(a4:p 4 [] 0)(b2:∀a,p 2 [a] 1)(b3:∀a,p 3 [a] 1)(b4':∀a,p 4 [a] 1)(c3:∀a b,p 3 [a,b] 2)(c4:∀a b,p 4 [a,b] 2)(d4:∀a b c,p 4 [a,b,c] 3):p n l m:=by
 subst e
 exact nlE (p:=fun n l=>p n l l.length) n l h h' a1 a2 a3 a4 b2 b3 b4' c3 c4 d4
@[elab_as_elim] theorem j4E{p:Nat→Prop}(j:Nat)(h:j<4)(h0:p 0)(h1:p 1)(h2:p 2)(h3:p 3):p j:=by
 rcases(by decide:∀j:Nat,j<4→j=0∨j=1∨j=2∨j=3) j h with rfl|rfl|rfl|rfl
 ·exact h0
 ·exact h1
 ·exact h2
 ·exact h3
@[elab_as_elim] theorem j8E{p:Nat→Prop}(j:Nat)(h:j<8)(h0:p 0)(h1:p 1)(h2:p 2)(h3:p 3)(h4:p 4)(h5:p 5)(h6:p 6)(h7:p 7):p j:=by
 by_cases g:j<4
 ·exact j4E j g h0 h1 h2 h3
 ·obtain⟨i,rfl⟩:∃i,j=4+i:=⟨j-4,by omega⟩
  exact j4E (p:=fun i=>p (4+i)) i (by omega) h4 h5 h6 h7
@[elab_as_elim] theorem lrE{α:Type}{p:List α→Nat→Prop}(l:List α)(r:Nat)(h:l.length≤4)(h':r<l.length)(a1:∀a,p [a] 0)(a2:∀a b,p [a,b] 0)(b2:∀a b,p [a,b] 1)(a3:∀a b c,p [a,b,c] 0)(b3:∀a b c,p [a,b,c] 1)(c3:∀a b c,p [a,b,c] 2)(a4:∀a b c d,p [a,b,c,d] 0)(b4:∀a b c d,p [a,b,c,d] 1)(c4:∀a b c d,p [a,b,c,d] 2)(d4:∀a b c d,p [a,b,c,d] 3):p l r:=by
 revert h'
 have f:∀{a b:Nat}{q:Prop},Nat.ble b a=true→a<b→q:=fun e g=>absurd g (Nat.not_lt.mpr (Nat.le_of_ble_eq_true e))
 refine l4E l h (fun g=>f rfl g) (fun a g=> ?_) (fun a b g=> ?_) (fun a b c g=> ?_) fun a b c d g=> ?_
 ·exact j4E (p:=fun r=>r<1→p [a] r) r (Nat.lt_of_lt_of_le g (Nat.le_of_ble_eq_true rfl)) (fun _=>a1 a) (f rfl) (f rfl) (f rfl) g
 ·exact j4E (p:=fun r=>r<2→p [a,b] r) r (Nat.lt_of_lt_of_le g (Nat.le_of_ble_eq_true rfl)) (fun _=>a2 a b) (fun _=>b2 a b) (f rfl) (f rfl) g
 ·exact j4E (p:=fun r=>r<3→p [a,b,c] r) r (Nat.lt_of_lt_of_le g (Nat.le_of_ble_eq_true rfl)) (fun _=>a3 a b c) (fun _=>b3 a b c) (fun _=>c3 a b c) (f rfl) g
 ·exact j4E (p:=p [a,b,c,d]) r g (a4 a b c d) (b4 a b c d) (c4 a b c d) (d4 a b c d)
@[elab_as_elim] theorem ldE{α β:Type}{p:List α→List β→Prop}(l:List α)(l':List β)(h:l.length+l'.length=4)(h':0<l.length)(h1:∀a x y z,p [a] [x,y,z])(h2:∀a b x y,p [a,b] [x,y])(h3:∀a b c x,p [a,b,c] [x])(h4:∀a b c d,p [a,b,c,d] []):p l l':=by
 revert h h'
 intro h
 have e:l.length≤4:=Nat.le_of_add_right_le (Nat.le_of_eq h)
 revert h
 refine l4E l e (fun _ g=>absurd g (Nat.not_lt_zero _)) (fun a h _=> ?_) (fun a b h _=> ?_) (fun a b c h _=> ?_) fun a b c d h _=> ?_
 ·obtain⟨x,_,rfl,e1⟩:=lenS (n:=2) (l:=l') (by simp only[List.length_cons,List.length_nil]at h;omega)
  obtain⟨y,_,rfl,e2⟩:=lenS e1
  obtain⟨z,_,rfl,e3⟩:=lenS e2
  cases len0 e3;exact h1 _ _ _ _
 ·obtain⟨x,_,rfl,e1⟩:=lenS (n:=1) (l:=l') (by simp only[List.length_cons,List.length_nil]at h;omega)
  obtain⟨y,_,rfl,e2⟩:=lenS e1
  cases len0 e2;exact h2 _ _ _ _
 ·obtain⟨x,_,rfl,e1⟩:=lenS (n:=0) (l:=l') (by simp only[List.length_cons,List.length_nil]at h;omega)
  cases len0 e1;exact h3 _ _ _ _
 ·cases len0 (l:=l') (by simp only[List.length_cons,List.length_nil]at h;omega);exact h4 _ _ _ _
section
variable{prog:Program}{w:World}{kt:KT}{nt:Nat}
noncomputable def AllOk(prog:Program)(w:World)(kt:KT)(nt:Nat)(l:List Fam):Prop:=∀C∈l,FamOk prog w kt nt C
theorem AllOk.app{l l':List Fam}(h:AllOk prog w kt nt l)(h':AllOk prog w kt nt l'):AllOk prog w kt nt (l++l'):=fun C hC=>(List.mem_append.mp hC).elim (h C) (h' C)
theorem AllOk.cons{F:Fam}{l:List Fam}(h:FamOk prog w kt nt F)(h':AllOk prog w kt nt l):AllOk prog w kt nt (F::l):=fc h h'
theorem AllOk.nil:AllOk prog w kt nt []:=fn0
theorem rep_ok{F:Fam}(h:FamOk prog w kt nt F)(n:Nat):AllOk prog w kt nt (List.replicate n F):=fun C hC=>List.eq_of_mem_replicate hC▸h
end
theorem koU{w:World}{P:Params}{b1 b2:Bool}(hP:w.params=parT P b1 b2){nt:Nat}{C:Con}(need:Nat)(ni:List Nat)(wf:(Nat→Sup)→List Wt)(n sc:Nat){cs:List Fam}(hc:∀C∈cs,FamOk pw w (Kq P b1 b2) nt C)
  (hn:need=C.need:=by exact rfl) (hsd:andB C.seg (isDef C.code)=false:=by exact rfl) (h:∀U z t gl,lhs ⟨C,ni,wf U⟩ (evU (VB (Kq P b1 b2) P b2 need) ⟨C,ni,[]⟩ n sc cs U z t gl)=rhs ⟨C,ni,wf U⟩ gl (evU (VB (Kq P b1 b2) P b2 need) ⟨C,ni,[]⟩ n sc cs U z t gl):=by intro U z t gl;kernel_rfl):
  CO w P b1 b2 nt C:=con_okU (env_okB hP need) ⟨C,ni,[]⟩ wf n sc cs hc hn hsd h
noncomputable def rd(sc k:Nat):Nat:=Nat.mod (Nat.div sc (Nat.pow 256 k)) 256
noncomputable def enAt(T:LT)(j i:Nat):DictEntry:=nthD ⟨0,.none,.none⟩ (entOf (objAt T j)) i
noncomputable def hsAt(T:LT)(j i:Nat):Int:=(enAt T j i).hash
noncomputable def kyAt(T:LT)(j i:Nat):Tok:=tokOf (enAt T j i).key
noncomputable def vlAt(T:LT)(j i:Nat):Tok:=tokOf (enAt T j i).val
noncomputable def kxRd(T:LT)(sc k:Nat):Kx:=⟨adrAt T (rd sc k),adrAt T (rd sc (k+1)),adrAt T (rd sc (k+2)),
 ⟨adrAt T (rd sc (k+3)),adrAt T (rd sc (k+4)),adrAt T (rd sc (k+5)),adrAt T (rd sc (k+6)),hsAt T (rd sc (k+4)) 0,hsAt T (rd sc (k+4)) 1,kyAt T (rd sc (k+4)) 0,kyAt T (rd sc (k+4)) 1,tkAt T (rd sc (k+5)) 0,tkAt T (rd sc (k+5)) 1⟩,
 hsAt T (rd sc (k+1)) 0,hsAt T (rd sc (k+1)) 1,hsAt T (rd sc (k+1)) 2,hsAt T (rd sc (k+1)) 3,kyAt T (rd sc (k+1)) 0,kyAt T (rd sc (k+1)) 1,kyAt T (rd sc (k+1)) 2,kyAt T (rd sc (k+1)) 3⟩
noncomputable def txRd(T:LT)(sc k:Nat):Tx:=⟨adrAt T (rd sc k),adrAt T (rd sc (k+1)),adrAt T (rd sc (k+2)),hsAt T (rd sc (k+1)) 0,hsAt T (rd sc (k+1)) 1,hsAt T (rd sc (k+1)) 2,kyAt T (rd sc (k+1)) 0,kyAt T (rd sc (k+1)) 1,kyAt T (rd sc (k+1)) 2⟩
noncomputable def roRd(T:LT)(j:Nat)(o:Array UInt8):Ro:=⟨adrAt T j,tkAt T j 0,o,tkAt T j 1⟩
noncomputable def rosRd(T:LT)(sc:Nat):List (Array UInt8)→Nat→List Ro
 |[],_=>[]
 |o::os,k=>roRd T (rd sc k) o::rosRd T sc os (k+1)
noncomputable def fdK(kt:KT)(a:Addr):FuncData:=match kt.get a with
 |some o=>(match o.data with
  |.func fd=>fd
  |_=>default)
 |none=>default
noncomputable def envK(kt:KT)(f loc:Addr)(cells:List (Str×Addr)):Env:={scope:=(fdK kt f).scope,locals:=loc,globals:=(fdK kt f).globals,cells:=cells,qual:=(fdK kt f).qualname++locName,func:=some f,code:=(fdK kt f).code,frame:=some loc,builtins:=(fdK kt f).builtins}
noncomputable def stK(kt:KT)(f i:Nat):Stmt:=match(fdK kt f).body with
 |.stmts b=>nthD (.Pass default) b i
 |_=>.Pass default
noncomputable def loopK(kt:KT)(f i it:Nat)(env:Env):Code:=match stK kt f i with
 |.For t _ b o _=>.forLoop t (.ref it) b o env
 |_=>.builtin "" ⟨[],[]⟩
noncomputable def frmObj(es:Array DictEntry)(e:Nat):Obj:={cls:=.type "frame",data:=.dict es e}
noncomputable def ritObj(a b:Nat):Obj:={cls:=.type "range_iterator",data:=.fields #[.int a 0,.int b 0,.int 1 0]}
noncomputable def hS(P:Params)(s:Str):Int:=reduceHash (P.strHash s.cps)
noncomputable def cLs(ra:Addr)(x y:Value):Con:=⟨.call (.type "list") ⟨[.ref ra],[]⟩,[(ra,tupObj #[x,y])],fun X=>.ref (X 0),fun _=>[tupObj #[x,y]],fun _=>[lstObj #[x,y] 1],2,none,false,false⟩
noncomputable def cEn(x y:Value)(o:Array UInt8)(a:Addr)(e:Nat):Con:=⟨.call (.ref 260) ⟨[.ref a],[]⟩,[(a,lstObj #[x,y] e)],fun X=>.bytes o (X 0),fun _=>[lstObj #[x,y] e],fun _=>[],3,none,false,false⟩
structure Lf where
 loc:Addr
 it:Addr
 mv:Addr
 ro:Addr
 h1:Int
 h2:Int
 h3:Int
 h4:Int
 h5:Int
 t1:Tok
 t2:Tok
 t3:Tok
 t4:Tok
 t5:Tok
noncomputable def movesS:Str:=⟨#[109,111,118,101,115]⟩
noncomputable def downS:Str:=⟨#[100,111,119,110]⟩
noncomputable def indexS:Str:=⟨#[105,110,100,101,120]⟩
noncomputable def tableS:Str:=⟨#[116,97,98,108,101]⟩
noncomputable def atS:Str:=⟨#[97,116]⟩
noncomputable def Lf.es(F:Lf)(down:Bool)(ka ta:Addr)(l:List DictEntry):List DictEntry:=
 ⟨F.h1,.str movesS F.t1,.ref F.mv⟩::⟨F.h2,.str rowsS F.t2,.ref F.ro⟩::⟨F.h3,.str downS F.t3,.bool down⟩::⟨F.h4,.str indexS F.t4,.ref ka⟩::⟨F.h5,.str tableS F.t5,.ref ta⟩::l
noncomputable def cLf(kt:KT)(n m:Nat)(F:Lf)(down:Bool)(K:Kx)(T:Tx)(L:List Ro)(eT:Nat)(tpT:Tok)(rs:Array Value)(e:Nat)(tpK:Tok)(vs:Array Value)(en:Nat)(ra:Addr)(xv yv:Value)(o1 o2:Array UInt8)(k:Nat)(al:List DictEntry)(ha:Int)(ka:(Nat→Nat)→Tok):Con:=
 ⟨loopK kt 921 1 F.it (envK kt 921 F.loc []),(F.loc,frmObj (F.es down K.a T.a al).toArray (5+al.length))::(F.it,ritObj m (n-m))::(F.ro,lstObj vs en)::(ra,tupObj #[xv,yv])::(T.objs L eT (-1) tpT++K.objs down rs e (-1) tpK),fun _=>.none,
  fun X=>frmObj (F.es down K.a T.a [⟨ha,.str atS (ka X),.int m (X 4)⟩]).toArray 6::ritObj (m+1) (n-m-1)::lstObj vs en::tupObj #[xv,yv]::((T.base (L++[⟨X 0,X 1,o1,X 2⟩]) (eT+1) (-1) tpT++roTs L 1)++K.objs down ((rs.extract 0 k).push (.bytes o2 (X 3))++rs.extract k) (e+1) (-1) tpK).map (·.2),
  fun X=>[tupObj #[.int (L.length+1:Nat) (X 1),.bytes o1 (X 2)]],8,none,true,false⟩
noncomputable def itAt(T:LT)(j i:Nat):Value:=nthD .none (seqOf (objAt T j)) i
noncomputable def Fls:Fam:=fun _ T sc=>cLs (adrAt T (rd sc 0)) (itAt T (rd sc 0) 0) (itAt T (rd sc 0) 1)
noncomputable def FenT(x y:Value)(o:Array UInt8):Fam:=fun _ T sc=>cEn x y o (adrAt T (rd sc 0)) (epOf (objAt T (rd sc 0)))
noncomputable def FenT2(x:Value)(k:Int)(o:Array UInt8):Fam:=fun _ T sc=>cEn x (.int k (tkAt T (rd sc 0) 1)) o (adrAt T (rd sc 0)) (epOf (objAt T (rd sc 0)))
noncomputable def cLt(kt:KT)(P:Params)(n:Nat)(F:Lf)(down:Bool)(K:Kx)(T:Tx)(L:List Ro)(eT:Nat)(tpT:Tok)(rs:Array Value)(e:Nat)(tpK:Tok)(vs:Array Value)(en:Nat)(ra:Addr)(xv yv:Value)(o1 o2:Array UInt8)(k:Nat)(o:Int×Tok×Tok):Con:=match L with
 |[]=>cLf kt n 0 F down K T [] eT tpT rs e tpK vs en ra xv yv o1 o2 k [] (hS P atS) (fun X=>X 5)
 |r::l=>cLf kt n (l.length+1) F down K T (r::l) eT tpT rs e tpK vs en ra xv yv o1 o2 k [⟨o.1,.str atS o.2.1,.int l.length o.2.2⟩] o.1 (fun _=>o.2.1)
noncomputable def scLf:List Nat:=[(k_c7 (kq 16 0x800000008000000080106050401000e (k_a (kq 3 0x908 (k_dz 0x30d0c0b0a090807010010))))),(k_c7 (kq 17 0x90000000900000009010706050401000f (k_a (kq 3 0xa09 (k_dz 0x30e0d0c0b0a0908010011))))),(k_c7 (kq 18 0xa0000000a0000000a010807060504010010 (k_a (kq 3 0xb0a (k_dz 0x30f0e0d0c0b0a09010012))))),(k_c7 (kq 19 0xb0000000b0000000b01090807060504010011 (k_a 0x3100f0e0d0c0b0a01001301000000010004000400040404020103000303030101000c0b)))]
section
variable{w:World}{P:Params}{b1 b2:Bool}(hP:w.params=parT P b1 b2)(nt:Nat)
include hP
theorem ls_ok(ra:Addr)(x y:Value):CO w P b1 b2 nt (cLs ra x y):=by
 exact ko hP 2 [1] [] 32 0x10102000202000000 (fc linit_ok fn0)
theorem lf_ok(n:Nat)(hn:n≤4)(L:List Ro)(m:Nat)(em:L.length=m)(hm:m<n)(o:Int×Tok×Tok)(F:Lf)(down:Bool)(K:Kx)(T:Tx)(eT:Nat)(tpT:Tok)(rs:Array Value)(e:Nat)(tpK:Tok)(vs:Array Value)(en:Nat)(ra:Addr)(hv:vs[m]?=some (.ref ra))(xv:Value)(p:Pv)(ty:Tok)(o1 o2:Array UInt8)(k:Nat)
  (He1:∀a e,CO w P b1 b2 nt (cEn xv (p.val ty) o1 a e)) (He2:∀t a e,CO w P b1 b2 nt (cEn (p.val ty) (.int (m+1:Nat) t) o2 a e)) (Hi:∀tb,CO w P b1 b2 nt (cIns K down rs e tpK o2 tb k)):
  CO w P b1 b2 nt (cLt (Kq P b1 b2) P n F down K T L eT tpT rs e tpK vs en ra xv (p.val ty) o1 o2 k o):=
 koU hP 8 [15+m] (fun U=>[.itm (15+m) 0,.itm (15+m) 1,.num ((U 5).n 0),.ent 0 5]++@Nat.rec (fun _=>List Wt) [.key 0 5] (fun _ _=>[]) m) 160 (nthD 0 scLf m) (cs:=[lget F.ro vs en m (.ref ra),Fls,FenT xv (p.val ty) o1,(fun c _ _=>cIr T L eT tpT o1 (cTok c 1) (cTok c 2)),lget F.ro vs en m (.ref ra),FenT2 (p.val ty) (m+1:Nat) o2,(fun c _ _=>cIns K down rs e tpK o2 (cTok c 1) k)]) (fc (lget_ok hv (by omega)) (fc (fun _ _ _=>ls_ok hP nt _ _ _) (fc (fun _ _ _=>He1 _ _) (fc (fun _ _ _=>ir_ok hP nt T L (by omega) eT tpT o1 _ _) (fc (lget_ok hv (by omega)) (fc (fun _ _ _=>He2 _ _ _) (fc (fun _ _ _=>Hi _) fn0))))))) (hn:=by subst em;refine nlE n L hn hm ?_ ?_ ?_ ?_ ?_ ?_ ?_ ?_ ?_ ?_<;>intros<;>rfl) (hsd:=by subst em;refine nlE n L hn hm ?_ ?_ ?_ ?_ ?_ ?_ ?_ ?_ ?_ ?_<;>intros<;>rfl) (h:=by
  clear hv He2
  refine nlK n L m hn em hm ?_ ?_ ?_ ?_ ?_ ?_ ?_ ?_ ?_ ?_<;>intros<;>refine pvE p ?_ ?_ ?_<;>intros<;>kernel_rfl)
end
structure Rv where
 ad:Addr
 xv:Value
 p:Pv
 ty:Tok
 o1:Array UInt8
 o2:Array UInt8
structure Mv where
 a:Addr
 d:Addr
 cu:Addr
 nu:Addr
 co:Addr
 h1:Int
 h2:Int
 h3:Int
 t1:Tok
 t2:Tok
 t3:Tok
noncomputable def coreS:Str:=⟨#[99,111,114,101]⟩
noncomputable def cursS:Str:=⟨#[99,117,114,115,111,114,115]⟩
noncomputable def nullsS:Str:=⟨#[110,117,108,108,115]⟩
noncomputable def Mv.hd(M:Mv):List (Addr×Obj):=[(M.a,insObj 779 M.d),(M.d,dicObj #[⟨M.h1,.str coreS M.t1,.ref M.co⟩,⟨M.h2,.str cursS M.t2,.ref M.cu⟩,⟨M.h3,.str nullsS M.t3,.ref M.nu⟩] 3)]
noncomputable def Rv.obj(r:Rv):Addr×Obj:=(r.ad,tupObj #[r.xv,r.p.val r.ty])
noncomputable def insAt{α:Type}(l:List α)(k:Nat)(a:α):List α:=l.take k++a::l.drop k
noncomputable def bytesL(tk:Nat→Tok):List (Array UInt8)→Nat→List Value
 |[],_=>[]
 |o::os,i=>.bytes o (tk i)::bytesL tk os (i+1)
noncomputable def fT(P:Params)(X:Nat→Nat)(n:Nat):Tx:=⟨X 0,X 1,X 2,hS P rowsS,hS P placeS,hS P goneS,X (n+10),X (n+11),X (n+12)⟩
noncomputable def fK(P:Params)(X:Nat→Nat)(n:Nat):Kx:=⟨X (n+3),X (n+4),X (n+5),⟨X (n+6),X (n+7),X (n+8),X (n+9),hS P collS,hS P descS,X (n+19),X (n+20),X (n+21),X (n+22)⟩,hS P infoS,hS P recsS,hS P placeS,hS P goneS,X (n+14),X (n+15),X (n+16),X (n+17)⟩
noncomputable def fL(X:Nat→Nat)(n:Nat):List Rv→Nat→List Ro
 |[],_=>[]
 |r::L,i=>⟨X (3+i),X (n+25+2*i),r.o1,X (n+26+2*i)⟩::fL X n L (i+1)
noncomputable def cFi(P:Params)(M:Mv)(down:Bool)(ro:Addr)(en:Nat)(rows:List Rv)(os:List (Array UInt8)):Con:=
 ⟨.call (.ref 921) ⟨[.ref M.a,.ref ro,.bool down],[]⟩,M.hd++(M.cu,dicObj #[] 0)::(ro,lstObj (rows.map fun r=>Value.ref r.ad).toArray en)::rows.map Rv.obj,fun _=>.none,
  fun X=>M.hd.map (·.2)++dicObj #[⟨0,.int 0 (X (rows.length+23)),.ref (X 0)⟩,⟨1,.int 1 (X (rows.length+24)),.ref (X (rows.length+3))⟩] 2::lstObj (rows.map fun r=>Value.ref r.ad).toArray en::rows.map (·.obj.2),
  fun X=>((fT P X rows.length).base (fL X rows.length rows 0) rows.length (-1) (X (rows.length+13))++roTs (fL X rows.length rows 0) 1++(fK P X rows.length).objs down (bytesL (fun i=>X (3*rows.length+25+i)) os 0).toArray rows.length (-1) (X (rows.length+18))).map (·.2),9,none,false,false⟩
noncomputable def lfRd(T:LT)(sc:Nat)(mv ro:Addr):Lf:=⟨adrAt T (rd sc 0),adrAt T (rd sc 1),mv,ro,hsAt T (rd sc 0) 0,hsAt T (rd sc 0) 1,hsAt T (rd sc 0) 2,hsAt T (rd sc 0) 3,hsAt T (rd sc 0) 4,kyAt T (rd sc 0) 0,kyAt T (rd sc 0) 1,kyAt T (rd sc 0) 2,kyAt T (rd sc 0) 3,kyAt T (rd sc 0) 4⟩
noncomputable def FJ(kt:KT)(P:Params)(n m:Nat)(M:Mv)(down:Bool)(ro:Addr)(vs:Array Value)(en:Nat)(o1s os:List (Array UInt8))(r:Rv)(k:Nat):Fam:=fun _ T sc=>
 cLt kt P n (lfRd T sc M.a ro) down (kxRd T sc (7+m)) (txRd T sc 4) (rosRd T sc o1s 7) m (vlAt T (rd sc 5) 1) (bytesL (tkAt T (rd sc (7+m+2))) os 0).toArray m (vlAt T (rd sc (7+m+1)) 2) vs en r.ad r.xv (r.p.val r.ty) r.o1 r.o2 k (hsAt T (rd sc 0) 5,kyAt T (rd sc 0) 5,vlAt T (rd sc 0) 5)
theorem rosRd_len(T:LT)(sc:Nat):∀(os:List (Array UInt8))(k:Nat),(rosRd T sc os k).length=os.length
 |[],_=>rfl
 |_::os,k=>congrArg Nat.succ (rosRd_len T sc os (k+1))
noncomputable def osL:List (Rv×Nat)→List (Array UInt8)→List (Array UInt8)
 |[],a=>a
 |x::l,a=>osL l (insAt a x.2 x.1.o2)
noncomputable def fjF(kt:KT)(w:World)(P:Params)(n:Nat)(M:Mv)(down:Bool)(ro:Addr)(vs:Array Value)(en:Nat):List (Rv×Nat)→List (Array UInt8)→List (Array UInt8)→Nat→List Fam
 |[],_,_,_=>[dSet w,dSet w]
 |x::l,o1s,os,i=>FJ kt P n i M down ro vs en o1s os x.1 x.2::fjF kt w P n M down ro vs en l (o1s++[x.1.o1]) (insAt os x.2 x.1.o2) (i+1)
noncomputable def fiN(n:Nat):List Nat:=[6+n,5+n,8+n]++(List.range' (24+n) n++[15+n,14+n,17+n,12+n,11+n,9+n,10+n])
noncomputable def itmK(j:Nat):Nat→Nat→List Wt
 |_,0=>[]
 |i,n+1=>.itm j i::itmK j (i+1) n
noncomputable def itmP:Nat→Nat→List Wt→List Wt
 |_,0,r=>r
 |j,n+1,r=>.itm j 0::.itm j 1::itmP (j+1) n r
noncomputable def fiW(n:Nat):List Wt:=[.key (5+n) 0,.key (5+n) 1,.key (5+n) 2,.ent (5+n) 1,.key (14+n) 0,.key (14+n) 1,.key (14+n) 2,.key (14+n) 3,.ent (14+n) 2,.key (11+n) 0,.key (11+n) 1,.itm (9+n) 0,.itm (9+n) 1,.key 2 0,.key 2 1]++itmP (24+n) n (itmK (17+n) 0 n)
noncomputable def scFi:List Nat:=[(kq 8 0x505050505050000 (k_bj (kq 2 7 (k_c (kq 8 0x800000808000000 (k_dA (kq 3 0x80000 (k_dA (kq 1 8 (k_dA (kq 3 0x50000 (k_bj (kq 5 0xd000d0000 (k_bE (kq 6 0xe0e0e0e0e0e (k_a (kq 18 0xb000b000b00000e00000a000a000a00000e (k_a (kq 1 0xe (k_a (k_N (k_ea (kq 3 0xe0000 (k_a (k_1 (k_ea (k_bj (kq 5 0x1000100000 (k_a (kq 11 0x1111000011111111000000 (k_cE (kq 1 0x11 (k_cE (kq 3 0x110000 (k_cE (kq 1 0x11 (k_cE (kq 6 0x1300131313 (k_cN (kq 15 0x50505051614141314140014001414 (k_a (kq 1 5 (k_cO (kq 29 0x505001a18181800180018000005181717170017001717170017001717 (k_eb (kq 1 5 (k_2 (kq 3 0x50201 (k_2 0x201))))))))))))))))))))))))))))))))))))))))))))))))),(kq 8 0x606060606060000 (k_bj (kq 3 0x80008 (k_a (kq 8 0x900000909000000 (k_dB (kq 3 0x90000 (k_dB (kq 1 9 (k_dB (kq 3 0x60000 (k_a (k_dC (kq 3 0xe000e (k_bE (kq 6 0xf0f0f0f0f0f (k_a (kq 18 0xc000c000c00000f00000b000b000b00000f (k_a (kq 1 0xf (k_a (k_1 (k_ec (kq 3 0xf0000 (k_a (k_w (k_ec (k_ed (kq 4 0x12120000 (k_cF (kq 1 0x12 (k_cF (kq 3 0x120000 (k_cF (kq 1 0x12 (k_cF (kq 39 0x60606061715151415150015001515151415150015001515151415150015001515001400141414 (k_a (kq 1 6 (k_cO (kq 43 0x606001c19191900190019000b0a0c0d120f10090607040318050105191818180018001818180018001818 (k_dD (kq 1 6 (k_2 (kq 3 0x60201 (k_2 0x201)))))))))))))))))))))))))))))))))))))))))))))),(kq 2 0 (k_e (kq 2 0x707 (k_bj (kq 3 0x90009 (k_bE (kq 4 0xa0a (k_dE (kq 2 0 (k_dE (k_dE (kq 2 0 (k_c (k_dC (kq 3 0xf000f (k_a (kq 9 0x101010101010000000 (k_a (kq 18 0xd000d000d00001000000c000c000c000010 (k_a (kq 1 0x10 (k_a (k_w (k_ee (kq 3 0x100000 (k_a (k_n (k_ee (k_bj (kq 5 0x1200120000 (k_bE (kq 9 0x121313000013131313 (k_a (kq 14 0x1111110012000000120012000012 (k_dF (kq 2 0 (k_dF (k_dF (kq 35 0x1816161516160016001616161516160016001616161516160016001616001500151515 (k_e (k_a (kq 1 7 (k_cO (kq 58 0x707001e1a1a1a001a001a000c0b0d0e1310111a0a0708050319060c0b0d0e1310110a07080403190602051a1919190019001919190019001919 (k_ef (kq 1 7 (k_2 (kq 3 0x70201 (k_2 0x201))))))))))))))))))))))))))))))))))))))))))))))))),(kq 8 0x808080808080000 (k_bj (kq 3 0xa000a (k_bE (kq 5 0xb00000b0b (k_cG (kq 3 0xb0000 (k_cG (kq 1 0xb (k_cG (kq 3 0x80000 (k_bj (kq 5 0x1000100000 (k_a (kq 9 0x111111111111000000 (k_a (kq 18 0xe000e000e00001100000d000d000d000011 (k_a (kq 1 0x11 (k_a (k_n (kq 1 0x11 (k_cE (kq 3 0x110000 (k_a (k_q (kq 1 0x11 (k_cE (k_eg (k_co (kq 1 0x14 (k_co (kq 3 0x140000 (k_co (kq 1 0x14 (k_co (kq 39 0x80808081917171617170017001717171617170017001717171617170017001717001600161616 (k_a (kq 1 8 (k_cO (kq 74 0x80800201b1b1b001b001b000d0c0e0f1411121c1b0b080906031a070d0c0e0f1411121b0b080905031a070d0c0e0f1411120b080904031a0703051b1a1a1a001a001a1a1a001a001a1a (k_dG (kq 1 8 (k_2 (kq 3 0x80201 (k_2 0x201)))))))))))))))))))))))))))))))))))))))))))))),(kq 8 0x909090909090000 (k_bj (kq 3 0xb000b (k_bE (kq 5 0xc00000c0c (k_dH (kq 3 0xc0000 (k_dH (kq 1 0xc (k_dH (kq 3 0x90000 (k_ed (kq 2 0x1212 (k_a (kq 18 0xf000f000f00001200000e000e000e000012 (k_a (kq 1 0x12 (k_a (k_q (kq 1 0x12 (k_cF (kq 3 0x120000 (k_a (k_o (kq 1 0x12 (k_cF (k_bj (kq 5 0x1400140000 (k_a (kq 11 0x1515000015151515000000 (k_c8 (kq 1 0x15 (k_c8 (kq 3 0x150000 (k_c8 (kq 1 0x15 (k_c8 (kq 5 0x1700171717 (k_eh (kq 4 0x9090909 (k_a (kq 1 9 (k_cO (kq 127 0x92624242324240024002424242324240024002424242324240024002424002300232323090900221c1c1c001c001c000e0d0f101512131e1d1c0c090a07031b080e0d0f101512131d1c0c090a06031b080e0d0f101512131c0c090a05031b080e0d0f101512130c090a04031b0804051c1b1b1b001b001b1b1b001b001b1b (k_2 (kq 3 0x90201 (k_2 0x201)))))))))))))))))))))))))))))))))))))))))))))))]
@[elab_as_elim] theorem j2E{p:Nat→Prop}(k:Nat)(h:k≤1)(h0:p 0)(h1:p 1):p k:=by
 rcases(by omega:k=0∨k=1)with rfl|rfl
 ·exact h0
 ·exact h1
@[elab_as_elim] theorem j3E{p:Nat→Prop}(k:Nat)(h:k≤2)(h0:p 0)(h1:p 1)(h2:p 2):p k:=by
 rcases(by omega:k=0∨k=1∨k=2)with rfl|rfl|rfl
 ·exact h0
 ·exact h1
 ·exact h2
@[elab_as_elim] theorem kxE{p:Nat→List (Rv×Nat)→Prop}(n:Nat)(l:List (Rv×Nat))(e:l.length=n)(h:n≤4)(hk:∀(i:Nat)(x:Rv×Nat),l[i]?=some x→x.2≤i)(h0:p 0 [])(h1:∀a,p 1 [(a,0)])(h2:∀a b k,k≤1→p 2 [(a,0),(b,k)])(h3:∀a b k c j,k≤1→j≤2→p 3 [(a,0),(b,k),(c,j)])(h4:∀a b k c j d i,k≤1→j≤2→i≤3→p 4 [(a,0),(b,k),(c,j),(d,i)]):p n l:=by
 revert hk
 refine l4K n l e h (fun _=>h0) (fun⟨a,ka⟩ hk=> ?_) (fun⟨a,ka⟩ ⟨b,kb⟩ hk=> ?_) (fun⟨a,ka⟩ ⟨b,kb⟩ ⟨c,kc⟩ hk=> ?_) fun⟨a,ka⟩ ⟨b,kb⟩ ⟨c,kc⟩ ⟨d,kd⟩ hk=> ?_<;>cases Nat.le_zero.mp (hk 0 (a,ka) rfl)
 ·exact h1 a
 ·exact h2 a b kb (hk 1 _ rfl)
 ·exact h3 a b kb c kc (hk 1 _ rfl) (hk 2 _ rfl)
 ·exact h4 a b kb c kc d kd (hk 1 _ rfl) (hk 2 _ rfl) (hk 3 _ rfl)
noncomputable def rvEn(w:World)(P:Params)(b1 b2:Bool)(nt:Nat)(r:Rv)(i:Nat):Prop:=(∀a e,CO w P b1 b2 nt (cEn r.xv (r.p.val r.ty) r.o1 a e))∧∀t a e,CO w P b1 b2 nt (cEn (r.p.val r.ty) (.int i t) r.o2 a e)
noncomputable def rvIn(w:World)(P:Params)(b1 b2:Bool)(nt:Nat)(down:Bool)(os:List (Array UInt8))(r:Rv)(k:Nat):Prop:=∀K e tp tk tb,CO w P b1 b2 nt (cIns K down (bytesL tk os 0).toArray e tp r.o2 tb k)
section
variable{w:World}{P:Params}{b1 b2:Bool}(hP:w.params=parT P b1 b2)(nt:Nat)
include hP
theorem fj_ok(n:Nat)(hn:n≤4)(m:Nat)(hm:m<n)(M:Mv)(down:Bool)(ro:Addr)(vs:Array Value)(en:Nat)(o1s os:List (Array UInt8))(eo:o1s.length=m)(r:Rv)(k:Nat)(hv:vs[m]?=some (.ref r.ad))(e:rvEn w P b1 b2 nt r (m+1:Nat))(i:rvIn w P b1 b2 nt down os r k):FamOk pw w (Kq P b1 b2) nt (FJ (Kq P b1 b2) P n m M down ro vs en o1s os r k):=
 fun _ T sc=>lf_ok hP nt n hn _ m (by rw[rosRd_len];exact eo) hm _ _ down _ _ _ _ _ _ _ vs en r.ad hv r.xv r.p r.ty r.o1 r.o2 k e.1 e.2 (i _ _ _ _)
theorem fjF_ok(n:Nat)(hn:n≤4)(M:Mv)(down:Bool)(ro:Addr)(vs:Array Value)(en:Nat):∀(l:List (Rv×Nat))(o1s os:List (Array UInt8))(i:Nat),o1s.length=i→i+l.length=n→(∀(j:Nat)(x:Rv×Nat),l[j]?=some x→vs[i+j]?=some (.ref x.1.ad))→(∀(j:Nat)(x:Rv×Nat),l[j]?=some x→rvEn w P b1 b2 nt x.1 (i+j+1:Nat))→(∀(j:Nat)(x:Rv×Nat),l[j]?=some x→rvIn w P b1 b2 nt down (osL (l.take j) os) x.1 x.2)→AllOk pw w (Kq P b1 b2) nt (fjF (Kq P b1 b2) w P n M down ro vs en l o1s os i)
 |[],_,_,_,_,_,_,_,_=>.cons dSet_ok (.cons dSet_ok .nil)
 |x::l,o1s,os,i,e1,e2,hv,hE,hI=>.cons (fj_ok hP nt n hn i (by rw[←e2,List.length_cons];omega) M down ro vs en o1s os e1 x.1 x.2 (hv 0 x rfl) (hE 0 x rfl) (hI 0 x rfl)) (fjF_ok n hn M down ro vs en l _ _ (i+1) (by rw[List.length_append,e1];rfl) (by rw[←e2,List.length_cons];omega) (fun j y h=>by rw[Nat.add_right_comm];exact hv (j+1) y h) (fun j y h=>by rw[Nat.add_right_comm i 1 j];exact hE (j+1) y h) fun j y h=>hI (j+1) y h)
set_option maxHeartbeats 8000000 in
theorem fill_l(n:Nat)(l:List (Rv×Nat))(el:l.length=n)(hn:n≤4)(hk:∀(i:Nat)(x:Rv×Nat),l[i]?=some x→x.2≤i)(M:Mv)(down:Bool)(ro:Addr)(en:Nat)(hE:∀(j:Nat)(x:Rv×Nat),l[j]?=some x→rvEn w P b1 b2 nt x.1 (j+1:Nat))(hI:∀(j:Nat)(x:Rv×Nat),l[j]?=some x→rvIn w P b1 b2 nt down (osL (l.take j) []) x.1 x.2):CO w P b1 b2 nt (cFi P M down ro en (l.map (·.1)) (osL l [])):=
 ko hP 9 (fiN n) (fiW n) 831 (nthD 0 scFi n) (cs:=fjF (Kq P b1 b2) w P n M down ro (l.map fun x=>Value.ref x.1.ad).toArray en l [] [] 0) (fjF_ok hP nt n hn M down ro _ en l [] [] 0 rfl (by rw[Nat.zero_add];exact el) (fun j x h=>by rw[Nat.zero_add,List.getElem?_toArray,List.getElem?_map,h];rfl) (fun j x h=>by rw[Nat.zero_add];exact hE j x h) hI) (h:=by
  refine kxE n l el hn hk ?_ ?_ ?_ ?_ ?_
  ·intros;kernel_rfl
  ·intros;kernel_rfl
  ·intro a b k hk;refine j2E k hk ?_ ?_<;>intros<;>kernel_rfl
  ·intro a b k c j hk hj;refine j2E k hk ?_ ?_<;>refine j3E j hj ?_ ?_ ?_<;>intros<;>kernel_rfl
  ·intro a b k c j d i hk hj hi;refine j2E k hk ?_ ?_<;>refine j3E j hj ?_ ?_ ?_<;>refine j4E i (Nat.lt_succ_of_le hi) ?_ ?_ ?_ ?_<;>intros<;>kernel_rfl)
end
noncomputable def lkK(o:Obj)(k:Int):Option (Option Nat):=match dcOf o with
 |none=>none
 |some es=>@Bool.rec (fun _=>Option (Option Nat)) none (look (.int k 0) es.toList) (Nat.blt es.toList.length 1000)
noncomputable def vlK(o:Obj)(r:Option Nat):Option Value:=match dcOf o with
 |none=>none
 |some es=>valAt es.toList r
noncomputable def orN(v:Option Value):Value:=@Option.rec Value (fun _=>Value) .none (fun v=>v) v
theorem lkK_some{o:Obj}{k:Int}{r:Option Nat}(h:lkK o k=some r):∃es,dcOf o=some es∧(∀t,look (.int k t) es.toList=some r)∧Nat.blt es.toList.length 1000=true∧∀r,vlK o r=valAt es.toList r:=by
 unfold lkK at h
 split at h
 ·cases h
 ·rename_i es e
  cases q:Nat.blt es.toList.length 1000 with
  |false=>rw[q]at h;cases h
  |true=>
   rw[q]at h
   refine⟨es,e,fun t=>h,q,fun r=> ?_⟩
   unfold vlK
   rw[e]
section
variable{prog:Program}{w:World}{kt:KT}{nt:Nat}
noncomputable def dGetK(a:Addr)(o:Obj)(k:Int)(v:Value):Fam:=fun c _ _=>conV (.builtin "dict.get" ⟨[.ref a,.int k (bTok c 1)],[]⟩) [(a,o)] v 1
theorem dGetK_ok{a:Addr}{o:Obj}{k:Int}{r:Option Nat}{v:Value}(h:lkK o k=some r)(hv:orN (vlK o r)=v):FamOk prog w kt nt (dGetK a o k v):=by
 intro c T sc
 obtain⟨es,h1,h2,_,h4⟩:=lkK_some h
 have z:=dCon_ok (prog:=prog) (w:=w) (kt:=kt) (nt:=nt) (id:="dict.get") (a:=a) (key:=.int k (bTok c 1)) (o:=o) (pre:=[(a,o)]) (fun need val s P=>own_sys P (List.mem_singleton.mpr rfl)) fun need val s P=>(P.pre _ (List.mem_singleton.mpr rfl)).1
 have e:dCon "dict.get" a (.int k (bTok c 1)) o [(a,o)]=dGetK a o k v c T sc:=by
  unfold dCon dGetK
  rw[h1]
  simp only[h2]
  have:dId "dict.get"=0:=by decide+kernel
  simp only[this]
  rw[←hv,h4]
  rfl
 rw[←e]
 exact z
noncomputable def dHasK(a:Addr)(o:Obj)(k:Int)(v:Value):Fam:=fun c _ _=>conV (.builtin "dict.__getitem__" ⟨[.ref a,.int k (bTok c 1)],[]⟩) [(a,o)] v 1
noncomputable def dEs(w:World)(key v:Value)(es:Array DictEntry)(r:Option Nat):Array DictEntry:=@Option.rec Nat (fun _=>Array DictEntry) (es.push ⟨hashK w key,key,v⟩) (fun i=>es.modify i fun e=>{e with val:=v}) r
noncomputable def dEp(e:Nat)(r:Option Nat):Nat:=@Option.rec Nat (fun _=>Nat) (e+1) (fun _=>e) r
theorem dPut_es(w:World)(key v:Value)(es:Array DictEntry)(e:Nat)(r:Option Nat):dPut w key v {cls:=.type "dict",data:=.dict es e} r={cls:=.type "dict",data:=.dict (dEs w key v es r) (dEp e r)}:=by
 cases r<;>rfl
noncomputable def dSetK(w:World)(a:Addr)(es:Array DictEntry)(e:Nat)(k:Int)(v:Value)(r:Option Nat):Fam:=fun c _ _=>⟨.builtin "dict.__setitem__" ⟨[.ref a,.int k (bTok c 1),v],[]⟩,[(a,{cls:=.type "dict",data:=.dict es e})],fun _=>.none,fun _=>[{cls:=.type "dict",data:=.dict (dEs w (.int k (bTok c 1)) v es r) (dEp e r)}],fun _=>[],1,none,false,false⟩
theorem dSetK_ok{a:Addr}{es:Array DictEntry}{e:Nat}{k:Int}{r:Option Nat}{v:Value}(h:lkK {cls:=.type "dict",data:=.dict es e} k=some r):FamOk prog w kt nt (dSetK w a es e k v r):=by
 intro c T sc
 obtain⟨es',h1,h2,h3,_⟩:=lkK_some h
 have z:=dSetCon_ok (prog:=prog) (w:=w) (kt:=kt) (nt:=nt) (id:="dict.__setitem__") (key:=.int k (bTok c 1)) (v:=v) (ao:=(a,{cls:=.type "dict",data:=.dict es e}))
 have e:dSetCon w "dict.__setitem__" (.int k (bTok c 1)) v (a,{cls:=.type "dict",data:=.dict es e})=dSetK w a es e k v r c T sc:=by
  unfold dSetCon dSetK
  simp only[h1,h2,h3]
  have:S.eqLit 0x60606e66756a75667460602f75646a65 "dict.__setitem__"=true:=by decide+kernel
  rw[this,←dPut_es]
  rfl
 rw[←e]
 exact z
end
noncomputable def bArg(c:Code)(i:Nat):Value:=match c with
 |.builtin _ ⟨as,_⟩=>nthD .none as i
 |_=>.none
noncomputable def cArg(c:Code)(i:Nat):Value:=match c with
 |.call _ ⟨as,_⟩=>nthD .none as i
 |_=>.none
structure Co where
 a:Addr
 d:Addr
 r:Addr
 bo:Addr
 on:Addr
 h1:Int
 h2:Int
 h3:Int
 t1:Tok
 t2:Tok
 t3:Tok
noncomputable def boundS:Str:=⟨#[98,111,117,110,100]⟩
noncomputable def regsS:Str:=⟨#[114,101,103,105,115,116,101,114,115]⟩
noncomputable def onceS:Str:=⟨#[111,110,99,101]⟩
noncomputable def regS:Str:=⟨#[114,101,103,105,115,116,101,114]⟩
noncomputable def selfS:Str:=⟨#[115,101,108,102]⟩
noncomputable def Co.objs(C:Co)(o:Obj):List (Addr×Obj):=[(C.a,insObj 700 C.d),(C.d,dicObj #[⟨C.h1,.str boundS C.t1,.ref C.bo⟩,⟨C.h2,.str regsS C.t2,.ref C.r⟩,⟨C.h3,.str onceS C.t3,.ref C.on⟩] 3),(C.r,o)]
noncomputable def exprK(kt:KT)(f i:Nat):PySem.Expr:=match stK kt f i with
 |.Return (some e) _=>e
 |.Assign _ e _=>e
 |_=>.Name ⟨#[]⟩ default
noncomputable def compEnv(env:Env)(e:PySem.Expr)(loc:Addr)(cells:List (Str×Addr)):Env:=match e with
 |.ListComp _ _ scope _=>{scope:={scope with names:=scope.names.map fun(n,k)=>if(k== .free&&env.scope.kind== .function&&env.kindOf n==some .cell)then(n,.cell)else(n,k)},locals:=loc,globals:=env.globals,cells:=cells,qual:=env.qual,func:=none,code:=env.code,frame:=some env.locals,builtins:=env.builtins}
 |_=>default
noncomputable def cellObj(v:Value):Obj:={cls:=.type "cell",data:=.cell (some v)}
noncomputable def cV(kt:KT)(loc it acc cell frm:Addr)(C:Co)(o:Obj)(st rem:Nat)(vs:List Value)(v:Value)(al:List DictEntry)(ha:Int)(ka:(Nat→Nat)→Tok):Con:=
 ⟨.compLoop (exprK kt 669 0) 0 (.ref it) (.ref acc) (compEnv (envK kt 669 frm [(selfS,cell)]) (exprK kt 669 0) loc [(selfS,cell)]),
  (loc,dicObj al.toArray al.length)::(it,ritObj st rem)::(acc,lstObj vs.toArray vs.length)::(cell,cellObj (.ref C.a))::C.objs o,fun _=>.none,
  fun X=>dicObj #[⟨ha,.str regS (ka X),.int st (X 0)⟩] 1::ritObj (st+1) (rem-1)::lstObj (vs++[v]).toArray (vs.length+1)::cellObj (.ref C.a)::(C.objs o).map (·.2),fun _=>[],2,none,true,false⟩
noncomputable def cVf(C:Co)(o:Obj)(first:Nat)(vs:List Value)(t1 t2:Tok):Con:=
 ⟨.call (.ref 669) ⟨[.ref C.a,.int first t1,.int vs.length t2],[]⟩,C.objs o,fun X=>.ref (X 0),fun _=>(C.objs o).map (·.2),fun _=>[lstObj vs.toArray vs.length],3,none,false,false⟩
noncomputable def cPutR(w:World)(C:Co)(es:Array DictEntry)(ep:Nat)(k:Nat)(v:Value)(r:Option Nat)(t:Tok):Con:=
 ⟨.call (.ref 664) ⟨[.ref C.a,.int k t,v],[]⟩,C.objs (dicObj es ep),fun _=>.none,fun _=>(C.objs (dicObj (dEs w (.int k t) v es r) (dEp ep r))).map (·.2),fun _=>[],2,none,false,false⟩
noncomputable def FV(kt:KT)(C:Co)(o:Obj)(st rem:Nat)(vs:List Value)(v:Value)(al:LT→Nat→List DictEntry)(ha:LT→Nat→Int)(ka:LT→Nat→(Nat→Nat)→Tok):Fam:=fun c T sc=>
 cV kt (adrAt T (rd sc 0)) (adrAt T (rd sc 1)) (adrAt T (rd sc 2)) (adrAt T (rd sc 3)) (match c with|.compLoop _ _ _ _ env=>env.frame.getD 0|_=>0) C o st rem vs v (al T sc) (ha T sc) (ka T sc)
noncomputable def vA(m:Nat)(T:LT)(sc:Nat):List DictEntry:=[⟨hsAt T (rd sc 0) 0,.str regS (kyAt T (rd sc 0) 0),.int (m:Nat) (vlAt T (rd sc 0) 0)⟩]
noncomputable def vH(T:LT)(sc:Nat):Int:=hsAt T (rd sc 0) 0
noncomputable def vK(T:LT)(sc:Nat)(_:Nat→Nat):Tok:=kyAt T (rd sc 0) 0
noncomputable def u15q0:Nat:=(k_dI (kq 2 0x504 (k_a (kq 8 0x600050500000005 (k_e 0x30303030003000601070001)))))
noncomputable def u15q1:Nat:=(k_c9 (kq 8 0x105070007000707 (k_da 0)))
noncomputable def u15q2:Nat:=(k_c9 (kq 2 0x105 (k_da 0)))
noncomputable def u15q3:Nat:=(k_c9 (kq 6 0x70007000707 (k_ei 0)))
noncomputable def u15q4:Nat:=(k_c9 (k_ei 0))
noncomputable def u15q5:Nat:=(kq 12 0x40400000404040404040000 (k_d 0x2010300030304))
section
variable{w:World}{P:Params}{b1 b2:Bool}(hP:w.params=parT P b1 b2)(nt:Nat)
include hP
section
variable(loc it acc cell frm:Addr)(C:Co)(es:Array DictEntry)(ep:Nat)(r:Option Nat)(v:Value)
include loc it acc cell frm C es ep r v
theorem V_1(h:lkK (dicObj es ep) (1:Nat)=some r)(hv:orN (vlK (dicObj es ep) r)=v):CO w P b1 b2 nt (cV (Kq P b1 b2) loc it acc cell frm C (dicObj es ep) 1 1 [] v [] (hS P regS) (fun X=>X 1)):=by
 cases v<;>exact ko hP 2 [] [.ent 0 0,.key 0 0] 81 u15q0 (fc (dGetK_ok (a:=C.r) h hv) fn0)
theorem V_2(h:lkK (dicObj es ep) (2:Nat)=some r)(hv:orN (vlK (dicObj es ep) r)=v):CO w P b1 b2 nt (cV (Kq P b1 b2) loc it acc cell frm C (dicObj es ep) 2 1 [] v [] (hS P regS) (fun X=>X 1)):=by
 cases v<;>exact ko hP 2 [] [.ent 0 0,.key 0 0] 81 u15q0 (fc (dGetK_ok (a:=C.r) h hv) fn0)
theorem V_3(h:lkK (dicObj es ep) (3:Nat)=some r)(hv:orN (vlK (dicObj es ep) r)=v):CO w P b1 b2 nt (cV (Kq P b1 b2) loc it acc cell frm C (dicObj es ep) 3 3 [] v [] (hS P regS) (fun X=>X 1)):=by
 cases v<;>exact ko hP 2 [] [.ent 0 0,.key 0 0] 81 u15q0 (fc (dGetK_ok (a:=C.r) h hv) fn0)
end
theorem V_4(v0:Value)(ha:Int)(kt va:Tok)(loc it acc cell frm:Addr)(C:Co)(es:Array DictEntry)(ep:Nat)(r:Option Nat)(v:Value)(h:lkK (dicObj es ep) (4:Nat)=some r)(hv:orN (vlK (dicObj es ep) r)=v):CO w P b1 b2 nt (cV (Kq P b1 b2) loc it acc cell frm C (dicObj es ep) 4 2 [v0] v [⟨ha,.str regS kt,.int (3:Nat) va⟩] ha (fun _=>kt)):=by
 cases v<;>exact ko hP 2 [] [.ent 0 0] 81 u15q0 (fc (dGetK_ok (a:=C.r) h hv) fn0)
theorem V_5(v0 v1:Value)(ha:Int)(kt va:Tok)(loc it acc cell frm:Addr)(C:Co)(es:Array DictEntry)(ep:Nat)(r:Option Nat)(v:Value)(h:lkK (dicObj es ep) (5:Nat)=some r)(hv:orN (vlK (dicObj es ep) r)=v):CO w P b1 b2 nt (cV (Kq P b1 b2) loc it acc cell frm C (dicObj es ep) 5 1 [v0,v1] v [⟨ha,.str regS kt,.int (4:Nat) va⟩] ha (fun _=>kt)):=by
 cases v<;>exact ko hP 2 [] [.ent 0 0] 81 u15q0 (fc (dGetK_ok (a:=C.r) h hv) fn0)
section
variable(C:Co)(es:Array DictEntry)(ep:Nat)
include C es ep
theorem vf1_1(r:Option Nat)(v:Value)(h:lkK (dicObj es ep) (1:Nat)=some r)(hv:orN (vlK (dicObj es ep) r)=v)(t1 t2:Tok):CO w P b1 b2 nt (cVf C (dicObj es ep) 1 [v] t1 t2):=by
 cases b2
 ·exact ko hP 3 [7] [] 118 u15q1 (cs:=[FV (KTp (parT P _ _)) C (dicObj es ep) 1 1 [] v (fun _ _=>[]) (fun _ _=>hS P regS) (fun _ _ X=>X 1)]) (fc (fun _ _ _=>V_1 hP nt _ _ _ _ _ C es ep r v h hv) fn0)
 ·exact ko hP 3 [7] [] 108 u15q2 (cs:=[FV (KTp (parT P _ _)) C (dicObj es ep) 1 1 [] v (fun _ _=>[]) (fun _ _=>hS P regS) (fun _ _ X=>X 1)]) (fc (fun _ _ _=>V_1 hP nt _ _ _ _ _ C es ep r v h hv) fn0)
theorem vf1_2(r:Option Nat)(v:Value)(h:lkK (dicObj es ep) (2:Nat)=some r)(hv:orN (vlK (dicObj es ep) r)=v)(t1 t2:Tok):CO w P b1 b2 nt (cVf C (dicObj es ep) 2 [v] t1 t2):=by
 cases b2
 ·exact ko hP 3 [7] [] 118 u15q1 (cs:=[FV (KTp (parT P _ _)) C (dicObj es ep) 2 1 [] v (fun _ _=>[]) (fun _ _=>hS P regS) (fun _ _ X=>X 1)]) (fc (fun _ _ _=>V_2 hP nt _ _ _ _ _ C es ep r v h hv) fn0)
 ·exact ko hP 3 [7] [] 108 u15q2 (cs:=[FV (KTp (parT P _ _)) C (dicObj es ep) 2 1 [] v (fun _ _=>[]) (fun _ _=>hS P regS) (fun _ _ X=>X 1)]) (fc (fun _ _ _=>V_2 hP nt _ _ _ _ _ C es ep r v h hv) fn0)
theorem vf3(r3 r4 r5:Option Nat)(v3 v4 v5:Value)(h3:lkK (dicObj es ep) (3:Nat)=some r3)(hv3:orN (vlK (dicObj es ep) r3)=v3)(h4:lkK (dicObj es ep) (4:Nat)=some r4)(hv4:orN (vlK (dicObj es ep) r4)=v4)(h5:lkK (dicObj es ep) (5:Nat)=some r5)(hv5:orN (vlK (dicObj es ep) r5)=v5)(t1 t2:Tok):CO w P b1 b2 nt (cVf C (dicObj es ep) 3 [v3,v4,v5] t1 t2):=by
 cases b2
 ·exact ko hP 3 [7] [] 118 u15q3 (cs:=[FV (KTp (parT P _ _)) C (dicObj es ep) 3 3 [] v3 (fun _ _=>[]) (fun _ _=>hS P regS) (fun _ _ X=>X 1),FV (KTp (parT P _ _)) C (dicObj es ep) 4 2 [v3] v4 (vA 3) vH vK,FV (KTp (parT P _ _)) C (dicObj es ep) 5 1 [v3,v4] v5 (vA 4) vH vK]) (fc (fun _ _ _=>V_3 hP nt _ _ _ _ _ C es ep r3 v3 h3 hv3) (fc (fun _ T sc=>V_4 hP nt v3 (hsAt T (rd sc 0) 0) (kyAt T (rd sc 0) 0) (vlAt T (rd sc 0) 0) _ _ _ _ _ C es ep r4 v4 h4 hv4) (fc (fun _ T sc=>V_5 hP nt v3 v4 (hsAt T (rd sc 0) 0) (kyAt T (rd sc 0) 0) (vlAt T (rd sc 0) 0) _ _ _ _ _ C es ep r5 v5 h5 hv5) fn0)))
 ·exact ko hP 3 [7] [] 108 u15q4 (cs:=[FV (KTp (parT P _ _)) C (dicObj es ep) 3 3 [] v3 (fun _ _=>[]) (fun _ _=>hS P regS) (fun _ _ X=>X 1),FV (KTp (parT P _ _)) C (dicObj es ep) 4 2 [v3] v4 (vA 3) vH vK,FV (KTp (parT P _ _)) C (dicObj es ep) 5 1 [v3,v4] v5 (vA 4) vH vK]) (fc (fun _ _ _=>V_3 hP nt _ _ _ _ _ C es ep r3 v3 h3 hv3) (fc (fun _ T sc=>V_4 hP nt v3 (hsAt T (rd sc 0) 0) (kyAt T (rd sc 0) 0) (vlAt T (rd sc 0) 0) _ _ _ _ _ C es ep r4 v4 h4 hv4) (fc (fun _ T sc=>V_5 hP nt v3 v4 (hsAt T (rd sc 0) 0) (kyAt T (rd sc 0) 0) (vlAt T (rd sc 0) 0) _ _ _ _ _ C es ep r5 v5 h5 hv5) fn0)))
theorem put_ok(k:Nat)(v:Value)(r:Option Nat)(h:lkK (dicObj es ep) k=some r)(t:Tok):CO w P b1 b2 nt (cPutR w C es ep k v r t):=by
 cases v<;>exact ko hP 2 [] [] 69 u15q5 (cs:=[(fun c T sc=>dSetK w C.r es ep k (bArg c 2) r c T sc)]) (fc (fun c T sc=>dSetK_ok h c T sc) fn0)
end
end
noncomputable def nmRewind:Str:=⟨#[82,101,119,105,110,100]⟩
noncomputable def nmLast:Str:=⟨#[76,97,115,116]⟩
noncomputable def nmSeekGE:Str:=⟨#[83,101,101,107,71,69]⟩
noncomputable def nmSeekGT:Str:=⟨#[83,101,101,107,71,84]⟩
noncomputable def nmSeekLE:Str:=⟨#[83,101,101,107,76,69]⟩
noncomputable def nmSeekLT:Str:=⟨#[83,101,101,107,76,84]⟩
noncomputable def nmValue:Str:=⟨#[86,97,108,117,101]⟩
noncomputable def nmIdxGT:Str:=⟨#[73,100,120,71,84]⟩
noncomputable def nmIdxGE:Str:=⟨#[73,100,120,71,69]⟩
noncomputable def nmIdxLT:Str:=⟨#[73,100,120,76,84]⟩
noncomputable def nmIdxLE:Str:=⟨#[73,100,120,76,69]⟩
noncomputable def nmSeekFromIdx:Str:=⟨#[83,101,101,107,70,114,111,109,73,100,120]⟩
noncomputable def nmRowid:Str:=⟨#[82,111,119,105,100]⟩
noncomputable def nmColumn:Str:=⟨#[67,111,108,117,109,110]⟩
noncomputable def nmNext:Str:=⟨#[78,101,120,116]⟩
noncomputable def nmPrev:Str:=⟨#[80,114,101,118]⟩
noncomputable def nmResultRow:Str:=⟨#[82,101,115,117,108,116,82,111,119]⟩
noncomputable def nmHalt:Str:=⟨#[72,97,108,116]⟩
structure Op where
 ad:Addr
 tn:Tok
 t1:Tok
 t2:Tok
 t3:Tok
noncomputable def Op.obj(O:Op)(nm:Str)(p1 p2 p3:Int)(p4:Value):Addr×Obj:=(O.ad,lstObj #[.str nm O.tn,.int p1 O.t1,.int p2 O.t2,.int p3 O.t3,p4] 0)
noncomputable def Mv.on(M:Mv)(a:Addr):Mv:={M with co:=a}
noncomputable def cuObj(ta ka:Addr)(c0 c1:Tok):Obj:=dicObj #[⟨0,.int 0 c0,.ref ta⟩,⟨1,.int 1 c1,.ref ka⟩] 2
noncomputable def Mv.objs(M:Mv)(ta ka:Addr)(c0 c1:Tok)(ne:Array DictEntry)(np:Nat):List (Addr×Obj):=M.hd++[(M.cu,cuObj ta ka c0 c1),(M.nu,dicObj ne np)]
noncomputable def cOp(M:Mv)(O:Op)(f:Int)(tf:Tok)(pre:List (Addr×Obj))(v:Value)(post:(Nat→Nat)→List (Addr×Obj))(need:Nat):Con:=
 ⟨.call (.ref 734) ⟨[.ref M.a,.ref O.ad,.int f tf],[]⟩,pre,fun _=>v,fun X=>(post X).map (·.2),fun _=>[],need,none,false,false⟩
noncomputable def cMvK(w:World)(M:Mv)(O:Op)(nm:Str)(p2 p3:Int)(p4:Value)(f:Int)(tf:Tok)(ta:Addr)(c0 c1:Tok)(ne:Array DictEntry)(np:Nat)(r:Option Nat)(K:Kx)(down:Bool)(rs:List Value)(e:Nat)(pl:Int)(tp:Tok)(ex:List (Addr×Obj))(pl':Int)(v:Value):Con:=
 cOp M O f tf (O.obj nm 1 p2 p3 p4::(M.objs ta K.a c0 c1 ne np++(K.objs down rs.toArray e pl tp++ex))) v (fun X=>O.obj nm 1 p2 p3 p4::(M.objs ta K.a c0 c1 (dEs w (.int 1 O.t1) (.bool false) ne r) (dEp np r)++(K.objs down rs.toArray e pl' (X 0)++ex))) 8
noncomputable def cLen(a:Addr)(rs:List Value)(e:Nat):Con:=⟨.builtin "len" ⟨[.ref a],[]⟩,[(a,lstObj rs.toArray e)],fun X=>.int (rs.length:Nat) (X 0),fun _=>[lstObj rs.toArray e],fun _=>[],2,none,false,false⟩
noncomputable def iop(id:String)(a b n:Int):Fam:=fun c _ _=>conI (.builtin id ⟨[.int a (bTok c 0),.int b (bTok c 1)],[]⟩) n
noncomputable def cTs(Tb:Tx)(L:List Ro)(e:Nat)(pl:Int)(tp:Tok)(r:Nat)(t:Tok):Con:=
 ⟨.call (.ref 555) ⟨[.ref Tb.a,.int (r+1:Nat) t],[]⟩,Tb.objs L e pl tp,fun X=>.int 0 (X 0),fun X=>(Tb.objs L e (r:Nat) (X 1)).map (·.2),fun _=>[],4,none,false,false⟩
noncomputable def txV(Tb:Tx)(va:Array Value)(e:Nat)(pl:Int)(tp:Tok):List (Addr×Obj):=
 [(Tb.a,insObj 621 Tb.d),(Tb.d,dicObj #[⟨Tb.h1,.str rowsS Tb.t1,.ref Tb.rl⟩,⟨Tb.h2,.str placeS Tb.t2,.int pl tp⟩,⟨Tb.h3,.str goneS Tb.t3,.none⟩] 3),(Tb.rl,lstObj va e)]
noncomputable def cIdx(M:Mv)(O:Op)(nm:Str)(p2:Int)(t4:Tok)(f:Int)(tf:Tok)(ta:Addr)(c0 c1:Tok)(ne:Array DictEntry)(np:Nat)(K:Kx)(down:Bool)(rs:List Value)(e j:Nat)(tp:Tok)(C:Co)(re:Array DictEntry)(rp:Nat)(v:Value):Con:=
 cOp M O f tf (O.obj nm 1 p2 2 (.int 1 t4)::(M.objs ta K.a c0 c1 ne np++(K.objs down rs.toArray e j tp++C.objs (dicObj re rp)))) v (fun _=>O.obj nm 1 p2 2 (.int 1 t4)::(M.objs ta K.a c0 c1 ne np++(K.objs down rs.toArray e j tp++C.objs (dicObj re rp)))) 8
noncomputable def cSfi(w:World)(M:Mv)(O:Op)(f:Int)(tf:Tok)(c0 c1:Tok)(ne:Array DictEntry)(np:Nat)(r1 r2:Option Nat)(K:Kx)(down:Bool)(rs:List Value)(e j:Nat)(tp:Tok)(Tb:Tx)(L:List Ro)(D:List (Addr×Obj))(eT:Nat)(plT:Int)(tpT:Tok)(r:Nat):Con:=
 cOp M O f tf (O.obj nmSeekFromIdx 1 0 0 .none::(M.objs Tb.a K.a c0 c1 ne np++(K.objs down rs.toArray e j tp++(Tb.objs L eT plT tpT++D)))) (.int f tf) (fun X=>O.obj nmSeekFromIdx 1 0 0 .none::(M.objs Tb.a K.a c0 c1 (dEs w (.int 0 O.t2) (.bool false) (dEs w (.int 1 O.t1) (.bool false) ne r1) r2) (dEp (dEp np r1) r2)++(K.objs down rs.toArray e j tp++(Tb.objs L eT (r:Nat) (X 0)++D)))) 8
noncomputable def cRid(w:World)(M:Mv)(O:Op)(f:Int)(tf:Tok)(ka:Addr)(c0 c1:Tok)(ne:Array DictEntry)(np:Nat)(Tb:Tx)(va:Array Value)(eT j:Nat)(tpT:Tok)(qs:List (Addr×Obj))(rid:Int)(tn:Tok)(C:Co)(re:Array DictEntry)(rp:Nat)(r3:Option Nat):Con:=
 cOp M O f tf (O.obj nmRowid 0 3 0 .none::(M.objs Tb.a ka c0 c1 ne np++(txV Tb va eT j tpT++qs++C.objs (dicObj re rp)))) (.int f tf) (fun _=>O.obj nmRowid 0 3 0 .none::(M.objs Tb.a ka c0 c1 ne np++(txV Tb va eT j tpT++qs++C.objs (dicObj (dEs w (.int 3 O.t2) (.int rid tn) re r3) (dEp rp r3))))) 8
noncomputable def cCl0(w:World)(M:Mv)(O:Op)(f:Int)(tf:Tok)(ka:Addr)(c0 c1:Tok)(ne:Array DictEntry)(np:Nat)(Tb:Tx)(va:Array Value)(eT j:Nat)(tpT:Tok)(qs:List (Addr×Obj))(rid:Int)(tn:Tok)(C:Co)(re:Array DictEntry)(rp:Nat)(r3:Option Nat)(x:Tok→Value):Con:=
 cOp M O f tf (O.obj nmColumn 0 0 4 .none::(M.objs Tb.a ka c0 c1 ne np++(txV Tb va eT j tpT++qs++C.objs (dicObj re rp)))) (.int f tf) (fun X=>O.obj nmColumn 0 0 4 .none::(M.objs Tb.a ka c0 c1 ne np++(txV Tb va eT j tpT++qs++C.objs (dicObj (dEs w (.int 4 O.t3) (x (X 0)) re r3) (dEp rp r3))))) 8
noncomputable def cCl1(w:World)(M:Mv)(O:Op)(f:Int)(tf:Tok)(ta:Addr)(c0 c1:Tok)(ne:Array DictEntry)(np:Nat)(K:Kx)(down:Bool)(rs:List Value)(e j:Nat)(tp:Tok)(C:Co)(re:Array DictEntry)(rp:Nat)(r3:Option Nat)(x:Tok→Value):Con:=
 cOp M O f tf (O.obj nmColumn 1 0 5 .none::(M.objs ta K.a c0 c1 ne np++(K.objs down rs.toArray e j tp++C.objs (dicObj re rp)))) (.int f tf) (fun X=>O.obj nmColumn 1 0 5 .none::(M.objs ta K.a c0 c1 ne np++(K.objs down rs.toArray e j tp++C.objs (dicObj (dEs w (.int 5 O.t3) (x (X 0)) re r3) (dEp rp r3))))) 8
noncomputable def cVl(w:World)(C:Co)(O:Op)(k:Nat)(v:Value)(f:Int)(tf:Tok)(re:Array DictEntry)(rp:Nat)(r:Option Nat):Con:=
 ⟨.call (.ref 676) ⟨[.ref C.a,.ref O.ad,.int f tf],[]⟩,O.obj nmValue 0 k 0 v::C.objs (dicObj re rp),fun _=>.int f tf,fun _=>(O.obj nmValue 0 k 0 v::C.objs (dicObj (dEs w (.int k O.t2) v re r) (dEp rp r))).map (·.2),fun _=>[],8,none,false,false⟩
noncomputable def u14T:List Nat:=[(kq 9 0x50000050505050000 (k_bB (kq 1 5 (k_d7 (kq 15 0x50000050505060000060600060606 (k_J (kq 3 0x50000 (k_l (kq 1 5 (k_a (k_e (kq 4 0x7070000 (k_L (kq 1 7 (k_L (kq 1 7 (k_l (k_a (kq 5 0x800000808 (k_d (kq 1 8 (k_d (k_a (kq 1 8 (k_J (kq 3 0x50000 (k_d (kq 1 5 (k_bT 5))))))))))))))))))))))))))))),(k_ej (kq 18 0x60000060606070000070700070707000007 (k_J (k_ek (k_d (kq 1 6 (k_bT 6))))))),(k_ej (k_d8 (k_ek (k_d (kq 1 6 (k_bF 6)))))),(k_el (kq 7 0x80808000008 (k_dK (k_bT 7)))),(k_el (kq 9 0x808000008000008 (k_dK (k_bF 7)))),(k_dJ (k_d9 (kq 7 0x80808000008 (k_dK (k_ce 7))))),(k_em (kq 11 0x900000909000909090000 (k_dc (k_bT 8)))),(k_em (kq 13 0x9000009090009090000090000 (k_dc (k_bF 8)))),(k_db (kq 7 0x90909000009 (k_bU (k_bF (kq 14 0x900000909000909000009000009 (k_dc (k_ce 8))))))),(k_db (kq 9 0x909000009000009 (k_bU (k_7 (k_k (kq 14 0x900000909000909090000090007 (k_dc (k_7 (k_k 0x80007)))))))))]
section
variable{prog:Program}{w:World}{kt:KT}{nt:Nat}
theorem isub_ok{a b n:Int}(h:a-b=n):FamOk prog w kt nt (iop "int.__sub__" a b n):=fun _ _ _=>
 gives_int_ok (entryFor_of_fast (b:=Builtin.«int.__sub__») (by kernel_rfl)) (by decide+kernel) (h▸gives_int_sub a b _ _)
theorem le_nat{k:Nat}:FamOk prog w kt nt (icmp "int.__le__" 0 k true):=ile_ok (by rw[decide_eq_true_eq];omega)
end
noncomputable def u14S:List Nat:=[0,(k_dd 0x1c00000f),(k_dd 0x1c0000100f),(k_dd 0x1c000011100f),(k_dd 0x1c00001211100f)]
noncomputable def u14R:List Nat:=[(k_de (k_z 0x100e0d0c010000)),(k_de (k_N 0x100e0d0c010000)),(k_de (k_1 0x100e0d0c010000)),(k_de (k_w 0x100e0d0c010000))]
noncomputable def u14C:List Nat:=[(k_cP (kq 8 0x9000900090909 (k_cQ 0))),(k_cP (kq 8 0xa000a000a0a0a (k_cQ 0))),(k_cP (kq 8 0xb000b000b0b0b (k_cQ 0))),(k_cP (k_w (kq 1 0 (k_cQ 0))))]
noncomputable def mvF(kt:KT)(w:World)(M:Mv)(ne:Array DictEntry)(np:Nat)(r:Option Nat)(k:Nat):List Fam:=tinTop kt::dOwn::tinOwn::dSetK w M.nu ne np 1 (.bool false) r::List.replicate k tinOwn
noncomputable def plF0(K:Kx)(rs:List Value)(e:Nat)(k:Int)(b:Bool):List Fam:=[icmp "int.__le__" 0 k true,(fun _ _ _=>cLen K.rl rs e),icmp "int.__lt__" k rs.length b]
noncomputable def seF(C:Co)(re:Array DictEntry)(rp:Nat)(v:Value)(K:Kx)(down:Bool)(rs:List Value)(e:Nat)(pl:Int)(tp:Tok)(least:Int)(k:Nat):List Fam:=[(fun c _ _=>cVf C (dicObj re rp) 1 [v] (cTok c 1) (cTok c 2)),(fun c T sc=>cPl K down rs.toArray e pl tp (adrAt T (rd sc 0),lstObj #[v] 1) least k (cTok c 2))]
inductive Ic where
 |g|ge|l|le
noncomputable def Ic.nm:Ic→Str
 |.g=>nmIdxGT
 |.ge=>nmIdxGE
 |.l=>nmIdxLT
 |.le=>nmIdxLE
noncomputable def Ic.F(rr:Int)(b:Bool):Ic→Fam
 |.g=>icmp "int.__gt__" rr 0 b
 |.ge=>icmp "int.__ge__" rr 0 b
 |.l=>icmp "int.__lt__" rr 0 b
 |.le=>icmp "int.__le__" rr 0 b
noncomputable def Ic.an(rr:Int):Ic→Bool
 |.g=>decide (rr>0)
 |.ge=>decide (rr≥0)
 |.l=>decide (rr<0)
 |.le=>decide (rr≤0)
noncomputable def Ic.S:Ic→Nat
 |.g=>(k_dL 0x110100)
 |.ge=>(k_dL (k_i 0x110100160000))
 |_=>(k_dL (k_i (kq 3 0x160000 (k_i 0x110100160000))))
@[elab_as_elim] theorem icE{p:Ic→Prop}(i:Ic)(h1:p .g)(h2:p .ge)(h3:p .l)(h4:p .le):p i:=by
 cases i
 ·exact h1
 ·exact h2
 ·exact h3
 ·exact h4
section
variable{w:World}{P:Params}{b1 b2:Bool}(hP:w.params=parT P b1 b2)(nt:Nat)
include hP
theorem llen_ok(a:Addr)(rs:List Value)(hl:rs.length≤4)(e:Nat):CO w P b1 b2 nt (cLen a rs e):=
 ko hP 2 [] [.ret] 30 0x100010001 (cs:=[]) fn0 (h:=by refine l4E rs hl ?_ ?_ ?_ ?_ ?_<;>intros<;>kernel_rfl)
theorem ts_ok(Tb:Tx)(L:List Ro)(hl:L.length≤4)(e:Nat)(pl:Int)(tp:Tok)(r:Nat)(hr:r<L.length)(t:Tok):CO w P b1 b2 nt (cTs Tb L e pl tp r t):=
 ko hP 4 [] [.ret,.ent 1 1] 800 (nthD 0 u14T (L.length*(L.length-1)/2+r)) (cs:=[]) fn0 (h:=by refine lrE L r hl hr ?_ ?_ ?_ ?_ ?_ ?_ ?_ ?_ ?_ ?_<;>intros<;>kernel_rfl)
omit hP in
theorem mvF_ok{M:Mv}{ne:Array DictEntry}{np:Nat}{r:Option Nat}(hr:lkK (dicObj ne np) 1=some r)(k:Nat):AllOk pw w (Kq P b1 b2) nt (mvF (Kq P b1 b2) w M ne np r k):=fc tinTop_ok (fc dOwn_ok (fc tinOwn_ok (fc (dSetK_ok hr) (rep_ok tinOwn_ok k))))
theorem plF0_ok{K:Kx}{rs:List Value}(hl:rs.length≤4){e k:Nat}{b:Bool}(h:decide (k<rs.length)=b):AllOk pw w (Kq P b1 b2) nt (plF0 K rs e k b):=fc le_nat (fc (fun _ _ _=>llen_ok hP nt K.rl rs hl e) (fc (ilt_ok (by rw[←h];exact decide_eq_decide.mpr Int.ofNat_lt)) fn0))
section
variable(M:Mv)(O:Op)(p2:Int)(f:Int)(tf:Tok)(ta:Addr)(c0 c1:Tok)(ne:Array DictEntry)(np:Nat)(r:Option Nat)(hr:lkK (dicObj ne np) 1=some r)(K:Kx)(down:Bool)(rs:List Value)(hl:rs.length≤4)(e:Nat)
include M O p2 f tf ta c0 c1 ne np r hr K down rs hl e
theorem op_Rewind(pl:Int)(tp:Tok):CO w P b1 b2 nt (cMvK w M O nmRewind p2 0 .none f tf ta c0 c1 ne np r K down rs e pl tp [] 0 (@Bool.rec (fun _=>Value) (.int p2 O.t2) (.int f tf) (decide (0<rs.length)))):=by
 generalize hb:decide (0<rs.length)=b
 exact ko hP 8 [] [.ent 6 2] 582 (k_cH (kq 11 0xe1301140014140e00000e (k_U (kq 5 0x1500001515 (k_U (k_dM (kq 3 0x170000 (k_C 0xe0100070100)))))))) (cs:=mvF (Kq P b1 b2) w M ne np r 2++plF0 K rs e (0:Nat) b) (AllOk.app (mvF_ok nt hr 2) (plF0_ok hP nt hl hb)) (h:=by refine bE b ?_ ?_<;>intros<;>kernel_rfl)
theorem op_Last_y(pl:Int)(tp:Tok)(k:Nat)(hn:k+1=rs.length):CO w P b1 b2 nt (cMvK w M O nmLast p2 0 .none f tf ta c0 c1 ne np r K down rs e pl tp [] (k:Nat) (.int f tf)):=
 ko hP 8 [] [.ent 6 2] 620 (k_en (k_dM (kq 3 0x170000 (k_C 0xe0100070100)))) (cs:=mvF (Kq P b1 b2) w M ne np r 2++((fun _ _ _=>cLen K.rl rs e)::iop "int.__sub__" (rs.length:Nat) 1 (k:Nat)::plF0 K rs e k true)) (AllOk.app (mvF_ok nt hr 2) (fc (fun _ _ _=>llen_ok hP nt K.rl rs hl e) (fc (isub_ok (by omega)) (plF0_ok hP nt hl (decide_eq_true (by omega))))))
theorem op_Last_n(pl:Int)(tp:Tok)(hn:0=rs.length):CO w P b1 b2 nt (cMvK w M O nmLast p2 0 .none f tf ta c0 c1 ne np r K down rs e pl tp [] (-1) (.int p2 O.t2)):=
 ko hP 8 [] [.ent 6 2] 590 (k_en (k_dM 0xe)) (cs:=mvF (Kq P b1 b2) w M ne np r 2++[(fun _ _ _=>cLen K.rl rs e),iop "int.__sub__" (rs.length:Nat) 1 (-1),icmp "int.__le__" 0 (-1) false]) (AllOk.app (mvF_ok nt hr 2) (fc (fun _ _ _=>llen_ok hP nt K.rl rs hl e) (fc (isub_ok (by omega)) (fc (ile_ok rfl) fn0))))
section
variable(pl:Int)(tp:Tok)(C:Co)(re:Array DictEntry)(rp:Nat)(r1:Option Nat)(v:Value)(h1:lkK (dicObj re rp) (1:Nat)=some r1)(hv1:orN (vlK (dicObj re rp) r1)=v)(t4:Tok)(has:Bool)
include pl tp C re rp r1 v h1 hv1 t4 has
theorem op_SeekG(k:Nat)(Hp:∀qa t,CO w P b1 b2 nt (cPl K down rs.toArray e pl tp (qa,lstObj #[v] 1) (@Bool.rec (fun _=>Int) 1 0 has) k t)):CO w P b1 b2 nt (cMvK w (M.on C.a) O (@Bool.rec (fun _=>Str) nmSeekGT nmSeekGE has) p2 1 (.int 1 t4) f tf ta c0 c1 ne np r K down rs e pl tp (C.objs (dicObj re rp)) (k:Nat) (@Bool.rec (fun _=>Value) (.int p2 O.t2) (.int f tf) (decide (k<rs.length)))):=by
 generalize hb:decide (k<rs.length)=b
 exact ko hP 8 [] [.ent 6 2] 900 (@Bool.rec (fun _=>Nat) (k_df (kq 3 0x1a0000 (k_eo 0))) (k_df (k_eo 0)) has) (cs:=mvF (Kq P b1 b2) w M ne np r 4++(seF C re rp v K down rs e pl tp (@Bool.rec (fun _=>Int) 1 0 has) k++plF0 K rs e k b)) (AllOk.app (mvF_ok nt hr 4) (AllOk.app (fc (fun _ _ _=>vf1_1 hP nt C re rp r1 v h1 hv1 _ _) (fc (fun _ _ _=>Hp _ _) fn0)) (plF0_ok hP nt hl hb))) (h:=by refine bE b ?_ ?_<;>refine bE has ?_ ?_<;>intros<;>kernel_rfl)
theorem op_SeekL_y(k:Nat)(Hp:∀qa t,CO w P b1 b2 nt (cPl K down rs.toArray e pl tp (qa,lstObj #[v] 1) (@Bool.rec (fun _=>Int) 0 1 has) (k+1) t))(hk:k<rs.length):CO w P b1 b2 nt (cMvK w (M.on C.a) O (@Bool.rec (fun _=>Str) nmSeekLT nmSeekLE has) p2 1 (.int 1 t4) f tf ta c0 c1 ne np r K down rs e pl tp (C.objs (dicObj re rp)) (k:Nat) (.int f tf)):=
 ko hP 8 [] [.ent 6 2] 909 (k_df (kq 6 0x1a00001a0000 (k_dg (kq 2 0x100 (k_dh (kq 3 0x210000 (k_C 0x110100070100))))))) (cs:=mvF (Kq P b1 b2) w M ne np r 4++(seF C re rp v K down rs e pl tp (@Bool.rec (fun _=>Int) 0 1 has) (k+1)++(iop "int.__sub__" (k+1:Nat) 1 (k:Nat)::plF0 K rs e k true))) (AllOk.app (mvF_ok nt hr 4) (AllOk.app (fc (fun _ _ _=>vf1_1 hP nt C re rp r1 v h1 hv1 _ _) (fc (fun _ _ _=>Hp _ _) fn0)) (fc (isub_ok (by omega)) (plF0_ok hP nt hl (decide_eq_true hk))))) (h:=by refine bE has ?_ ?_<;>intros<;>kernel_rfl)
omit hl in
theorem op_SeekL_n(Hp:∀qa t,CO w P b1 b2 nt (cPl K down rs.toArray e pl tp (qa,lstObj #[v] 1) (@Bool.rec (fun _=>Int) 0 1 has) 0 t)):CO w P b1 b2 nt (cMvK w (M.on C.a) O (@Bool.rec (fun _=>Str) nmSeekLT nmSeekLE has) p2 1 (.int 1 t4) f tf ta c0 c1 ne np r K down rs e pl tp (C.objs (dicObj re rp)) (-1) (.int p2 O.t2)):=
 ko hP 8 [] [.ent 6 2] 879 (k_df (kq 6 0x1a00001a0000 (k_dg (kq 2 0x100 (k_dh 0x11))))) (cs:=mvF (Kq P b1 b2) w M ne np r 4++(seF C re rp v K down rs e pl tp (@Bool.rec (fun _=>Int) 0 1 has) 0++[iop "int.__sub__" 0 1 (-1),icmp "int.__le__" 0 (-1) false])) (AllOk.app (mvF_ok nt hr 4) (AllOk.app (fc (fun _ _ _=>vf1_1 hP nt C re rp r1 v h1 hv1 _ _) (fc (fun _ _ _=>Hp _ _) fn0)) (fc (isub_ok rfl) (fc (ile_ok rfl) fn0)))) (h:=by refine bE has ?_ ?_<;>intros<;>kernel_rfl)
end
theorem op_Next(j:Nat)(tp:Tok)(hj:j<rs.length):CO w P b1 b2 nt (cMvK w M O nmNext p2 0 .none f tf ta c0 c1 ne np r K down rs e (j:Nat) tp [] (j+1:Nat) (@Bool.rec (fun _=>Value) (.int f tf) (.int p2 O.t2) (decide (j+1<rs.length)))):=by
 generalize hb:decide (j+1<rs.length)=b
 exact ko hP 8 [] [.ent 6 2] 704 (k_cH (kq 1 0xe (k_dN (kq 1 6 (k_a (kq 7 0x60600000006 (k_c (kq 1 0x14 (k_C (kq 5 0x70100 (k_dO (kq 3 0x1b0000 (k_C 0xe0100070100))))))))))))) (cs:=mvF (Kq P b1 b2) w M ne np r 1++((fun _ _ _=>cLen K.rl rs e)::icmp "int.__lt__" (rs.length:Nat) (j+1:Nat) false::plF0 K rs e (j+1:Nat) b)) (AllOk.app (mvF_ok nt hr 1) (fc (fun _ _ _=>llen_ok hP nt K.rl rs hl e) (fc (ilt_ok (by rw[decide_eq_false_iff_not];omega)) (plF0_ok hP nt hl hb)))) (h:=by refine bE b ?_ ?_<;>intros<;>kernel_rfl)
theorem op_Prev_y(j:Nat)(tp:Tok)(hj:j<rs.length):CO w P b1 b2 nt (cMvK w M O nmPrev p2 0 .none f tf ta c0 c1 ne np r K down rs e (j+1:Nat) tp [] (j:Nat) (.int p2 O.t2)):=
 ko hP 8 [] [.ent 6 2] 691 (k_ep (k_dO (kq 3 0x1b0000 (k_C 0xe0100070100)))) (cs:=mvF (Kq P b1 b2) w M ne np r 1++(iop "int.__sub__" (j+1:Nat) 1 (j:Nat)::icmp "int.__gt__" (-1) (j:Nat) false::plF0 K rs e j true)) (AllOk.app (mvF_ok nt hr 1) (fc (isub_ok (by omega)) (fc (igt_ok (by rw[decide_eq_false_iff_not];omega)) (plF0_ok hP nt hl (decide_eq_true hj)))))
omit hl in
theorem op_Prev_n(tp:Tok):CO w P b1 b2 nt (cMvK w M O nmPrev p2 0 .none f tf ta c0 c1 ne np r K down rs e 0 tp [] (-1) (.int f tf)):=
 ko hP 8 [] [.ent 6 2] 661 (k_ep (k_dO 0xe)) (cs:=mvF (Kq P b1 b2) w M ne np r 1++[iop "int.__sub__" 0 1 (-1),icmp "int.__gt__" (-1) (-1) false,icmp "int.__le__" 0 (-1) false]) (AllOk.app (mvF_ok nt hr 1) (fc (isub_ok rfl) (fc (igt_ok rfl) (fc (ile_ok rfl) fn0))))
end
omit hP in
theorem Ic.ok{rr:Int}{b:Bool}:∀{i:Ic},i.an rr=b→FamOk pw w (Kq P b1 b2) nt (i.F rr b)
 |.g,h=>igt_ok h
 |.ge,h=>ige_ok h
 |.l,h=>ilt_ok h
 |.le,h=>ile_ok h
theorem op_Idx(M:Mv)(O:Op)(p2:Int)(f:Int)(tf:Tok)(ta:Addr)(c0 c1:Tok)(ne:Array DictEntry)(np:Nat)(K:Kx)(down:Bool)(rs:List Value)(e:Nat)(j:Nat)(tp:Tok)(C:Co)(re:Array DictEntry)(rp:Nat)(r1:Option Nat)(v:Value)(h1:lkK (dicObj re rp) (2:Nat)=some r1)(hv1:orN (vlK (dicObj re rp) r1)=v)(t4:Tok)(rr:Int)(i:Ic)(b:Bool)(hb:i.an rr=b)(Hc:∀qa t,CO w P b1 b2 nt (cCa K down rs.toArray e (j:Nat) tp (qa,lstObj #[v] 1) j rr t)):CO w P b1 b2 nt (cIdx (M.on C.a) O i.nm p2 t4 f tf ta c0 c1 ne np K down rs e j tp C re rp (@Bool.rec (fun _=>Value) (.int f tf) (.int p2 O.t2) b)):=
 ko hP 8 [] [] 544 i.S (cs:=[tinTop (Kq P b1 b2),dOwn,tinOwn,(fun c _ _=>cVf C (dicObj re rp) 2 [v] (cTok c 1) (cTok c 2)),(fun c T sc=>cCa K down rs.toArray e (j:Nat) tp (adrAt T (rd sc 0),lstObj #[v] 1) j rr (cTok c 1)),i.F rr b]) (fc tinTop_ok (fc dOwn_ok (fc tinOwn_ok (fc (fun _ _ _=>vf1_2 hP nt C re rp r1 v h1 hv1 _ _) (fc (fun _ _ _=>Hc _ _) (fc (Ic.ok nt hb) fn0)))))) (h:=by refine icE i ?_ ?_ ?_ ?_<;>refine bE b ?_ ?_<;>intros<;>kernel_rfl)
section
variable(M:Mv)(O:Op)(f:Int)(tf:Tok)
include M O f tf
theorem op_Sfi(c0 c1:Tok)(ne:Array DictEntry)(np:Nat)(r1 r2:Option Nat)(K:Kx)(down:Bool)(rs:List Value)(e j:Nat)(tp:Tok)(Tb:Tx)(L:List Ro)(D:List (Addr×Obj))(hL:L.length+D.length=4)(eT:Nat)(plT:Int)(tpT:Tok)(r:Nat)(hr:r<L.length)(o:Array UInt8)(tb:Tok)(y:Tok→Value)
  (hr1:lkK (dicObj ne np) 1=some r1) (hr2:lkK (dicObj (dEs w (.int 1 O.t1) (.bool false) ne r1) (dEp np r1)) 0=some r2) (hv:rs.toArray[j]?=some (.bytes o tb)) (hj:j<100) (Hd:∀t,CO w P b1 b2 nt (cDec o y (.int (r+1:Nat)) t)):CO w P b1 b2 nt (cSfi w M O f tf c0 c1 ne np r1 r2 K down rs e j tp Tb L D eT plT tpT r):=
 ko hP 8 [] [.ent 13 1] 699 (nthD 0 u14S L.length) (cs:=tinTop (Kq P b1 b2)::dOwn::tinOwn::dSetK w M.nu ne np 1 (.bool false) r1::tinOwn::tinOwn::dOwn::lget K.rl rs.toArray e j (.bytes o tb)::Fdec o y (.int (r+1:Nat))::dSetK w M.nu (dEs w (.int 1 O.t1) (.bool false) ne r1) (dEp np r1) 0 (.bool false) r2::[dOwn,(fun c _ _=>cTs Tb L eT plT tpT r (cTok c 1))]) (fc tinTop_ok (fc dOwn_ok (fc tinOwn_ok (fc (dSetK_ok hr1) (fc tinOwn_ok (fc tinOwn_ok (fc dOwn_ok (fc (lget_ok hv hj) (fc (Fc_ok fun _=>Hd _) (fc (dSetK_ok hr2) (fc dOwn_ok (fc (fun _ _ _=>ts_ok hP nt Tb L (by omega) eT plT tpT r hr _) fn0)))))))))))) (h:=by
  refine ldE L D hL (Nat.zero_lt_of_lt hr) ?_ ?_ ?_ ?_<;>intros<;>kernel_rfl)
theorem op_Rid(ka:Addr)(c0 c1:Tok)(ne:Array DictEntry)(np:Nat)(Tb:Tx)(va:Array Value)(eT j:Nat)(tpT:Tok)(q0 q1 q2 q3:Addr×Obj)(ra:Addr)(rid:Int)(tn:Tok)(o:Array UInt8)(tb:Tok)(hq:[q0,q1,q2,q3][j]?=some (ra,tupObj #[.int rid tn,.bytes o tb]))(C:Co)(re:Array DictEntry)(rp:Nat)(r0 r3:Option Nat)
  (h0:lkK (dicObj ne np) 0=some r0) (hv0:orN (vlK (dicObj ne np) r0)=.bool false) (hv:va[j]?=some (.ref ra)) (hj:j<100) (h3:lkK (dicObj re rp) (3:Nat)=some r3):CO w P b1 b2 nt (cRid w (M.on C.a) O f tf ka c0 c1 ne np Tb va eT j tpT [q0,q1,q2,q3] rid tn C re rp r3):=by
 have hj4:j<4:=by have:=(List.getElem?_eq_some_iff.mp hq).1;simpa using this
 refine ko hP 8 [] [] 443 (nthD 0 u14R j) (cs:=[tinTop (Kq P b1 b2),dGetK M.nu (dicObj ne np) 0 (.bool false),dOwn,lget Tb.rl va eT j (.ref ra),(fun c _ _=>cPutR w C re rp 3 (cArg c 2) r3 (cTok c 1))]) (fc tinTop_ok (fc (dGetK_ok h0 hv0) (fc dOwn_ok (fc (lget_ok hv hj) (fc (fun _ _ _=>put_ok hP nt C re rp 3 _ r3 h3 _) fn0))))) (h:= ?_)
 revert hq
 clear hv hj
 refine j4E j hj4 ?_ ?_ ?_ ?_<;>intro hq<;>cases hq<;>intros<;>kernel_rfl
theorem op_Cl0(ka:Addr)(c0 c1:Tok)(ne:Array DictEntry)(np:Nat)(Tb:Tx)(va:Array Value)(eT j:Nat)(tpT:Tok)(q0 q1 q2 q3:Addr×Obj)(ra:Addr)(rid:Int)(tn:Tok)(o:Array UInt8)(tb:Tok)(hq:[q0,q1,q2,q3][j]?=some (ra,tupObj #[.int rid tn,.bytes o tb]))(C:Co)(re:Array DictEntry)(rp:Nat)(r0 r3:Option Nat)(p:Pv)
  (h0:lkK (dicObj ne np) 0=some r0) (hv0:orN (vlK (dicObj ne np) r0)=.bool false) (hv:va[j]?=some (.ref ra)) (hj:j<100) (h3:lkK (dicObj re rp) (4:Nat)=some r3) (Hcol:∀t u,CO w P b1 b2 nt (cCol o p.val t u)):CO w P b1 b2 nt (cCl0 w (M.on C.a) O f tf ka c0 c1 ne np Tb va eT j tpT [q0,q1,q2,q3] rid tn C re rp r3 p.val):=by
 have hj4:j<4:=by have:=(List.getElem?_eq_some_iff.mp hq).1;simpa using this
 refine koU hP 8 [] (fun U=>nms (U 4) 0 1) 483 (nthD 0 u14C j) (cs:=[tinTop (Kq P b1 b2),dGetK M.nu (dicObj ne np) 0 (.bool false),dOwn,lget Tb.rl va eT j (.ref ra),(Fc fun as=>cCol o p.val (arg0 as) (arg1 as)),(fun c _ _=>cPutR w C re rp 4 (cArg c 2) r3 (cTok c 1))]) (fc tinTop_ok (fc (dGetK_ok h0 hv0) (fc dOwn_ok (fc (lget_ok hv hj) (fc (Fc_ok fun _=>Hcol _ _) (fc (fun _ _ _=>put_ok hP nt C re rp 4 _ r3 h3 _) fn0)))))) (h:= ?_)
 revert hq
 clear hv hj
 refine j4E j hj4 ?_ ?_ ?_ ?_<;>intro hq<;>cases hq<;>refine pvE p ?_ ?_ ?_<;>intros<;>kernel_rfl
theorem op_Cl1(ta:Addr)(c0 c1:Tok)(ne:Array DictEntry)(np:Nat)(K:Kx)(down:Bool)(rs:List Value)(e j:Nat)(tp:Tok)(o:Array UInt8)(tb:Tok)(C:Co)(re:Array DictEntry)(rp:Nat)(r0 r3:Option Nat)(p:Pv)
  (h0:lkK (dicObj ne np) 1=some r0) (hv0:orN (vlK (dicObj ne np) r0)=.bool false) (hv:rs.toArray[j]?=some (.bytes o tb)) (hj:j<100) (h3:lkK (dicObj re rp) (5:Nat)=some r3) (Hcol:∀t u,CO w P b1 b2 nt (cCol o p.val t u)):CO w P b1 b2 nt (cCl1 w (M.on C.a) O f tf ta c0 c1 ne np K down rs e j tp C re rp r3 p.val):=by
 cases p<;>exact koU hP 8 [] (fun U=>nms (U 4) 0 1) 471 (k_cP (k_cQ 0)) (cs:=[tinTop _,dGetK M.nu (dicObj ne np) 1 (.bool false),dOwn,lget K.rl rs.toArray e j (.bytes o tb),(Fc fun as=>cCol o _ (arg0 as) (arg1 as)),(fun c _ _=>cPutR w C re rp 5 (cArg c 2) r3 (cTok c 1))]) (fc tinTop_ok (fc (dGetK_ok h0 hv0) (fc dOwn_ok (fc (lget_ok hv hj) (fc (Fc_ok fun _=>Hcol _ _) (fc (fun _ _ _=>put_ok hP nt C re rp 5 _ r3 h3 _) fn0))))))
end
theorem op_Val(C:Co)(O:Op)(k:Nat)(p:Pv)(tv:Tok)(f:Int)(tf:Tok)(re:Array DictEntry)(rp:Nat)(r:Option Nat)(h:lkK (dicObj re rp) (k:Nat)=some r):CO w P b1 b2 nt (cVl w C O k (p.val tv) f tf re rp r):=by
 cases p<;>exact ko hP 8 [] [] 255 (kq 11 0x500000505050505050000 (k_i (k_y (kq 1 5 (k_F (kq 1 5 (k_a (kq 21 0x10707000700070700010001010106000006060606 (k_k (kq 3 0x10707 (k_k (kq 3 0x10707 (k_k (kq 3 0x10707 (k_k (kq 3 0x10707 (k_k (kq 10 0x6060606090707010707 (k_cc (kq 3 0x60000 (k_F 0x503020101000606))))))))))))))))))))) (cs:=[tinTop _,(fun c _ _=>cPutR w C re rp k (cArg c 2) r (cTok c 1))]) (fc tinTop_ok (fc (fun _ _ _=>put_ok hP nt C re rp k _ r h _) fn0))
end
section
variable{prog:Program}{w:World}{kt:KT}{nt:Nat}
theorem imod_ok{a b n:Int}(hb:b≠0)(h:a.fmod b=n):FamOk prog w kt nt (iop "int.__mod__" a b n):=fun _ _ _=>
 gives_int_ok (entryFor_of_fast (b:=Builtin.«int.__mod__») (by kernel_rfl)) (by decide+kernel) (h▸AutoIntG6.int___mod___int_int_1 a _ b _ (by simpa using hb))
theorem pylong_small(a:Int){b:Int}(h:b.natAbs.log2/30+1≤300):Builtin.divisionGoesByPylong a b=false:=by
 unfold Builtin.divisionGoesByPylong
 simp only[Bool.and_eq_false_iff,decide_eq_false_iff_not]
 left
 split
 ·omega
 ·omega
theorem ifd_ok{a b n:Int}(hb:b≠0)(hl:b.natAbs.log2/30+1≤300)(h:a.fdiv b=n):FamOk prog w kt nt (iop "int.__floordiv__" a b n):=fun _ _ _=>
 gives_int_ok (entryFor_of_fast (b:=Builtin.«int.__floordiv__») (by kernel_rfl)) (by decide+kernel) (h▸AutoIntG4.int___floordiv___int_int_1 a _ b _ (by simpa using hb) (by rw[pylong_small a hl];decide))
theorem imul_ok{a b n:Int}(hm:IntMulOk a b)(h:a*b=n):FamOk prog w kt nt (iop "int.__mul__" a b n):=fun _ _ _=>
 gives_int_ok (entryFor_of_fast (b:=Builtin.«int.__mul__») (by kernel_rfl)) (by decide+kernel) (h▸gives_int_mul a b _ _ hm)
theorem iadd_ok{a b n:Int}(h:a+b=n):FamOk prog w kt nt (iop "int.__add__" a b n):=fun _ _ _=>
 gives_int_ok (entryFor_of_fast (b:=Builtin.«int.__add__») (by kernel_rfl)) (by decide+kernel) (h▸gives_int_add a b _ _)
noncomputable def llenG(a:Addr)(vs:Array Value)(e:Nat):Fam:=fun _ _ _=>⟨.builtin "len" ⟨[.ref a],[]⟩,[(a,lstObj vs e)],fun X=>.int (vs.size:Nat) (X 0),fun _=>[lstObj vs e],fun _=>[],2,none,false,false⟩
theorem llenG_ok{a:Addr}{vs:Array Value}{e:Nat}(hs:vs.size<1000):FamOk prog w kt nt (llenG a vs e):=by
 intro c T sc A s R hr P post
 refine codeAny_of (codeAny_builtin (entryFor_of_fast (b:=Builtin.«len») (by kernel_rfl)) ?_)
 rw[Around.under_plainId (by decide+kernel)]
 have ho:s.heap.get? a=some (lstObj vs e):=(P.pre (a,lstObj vs e) (List.mem_singleton.mpr rfl)).1
 refine PySem.wpAny_mono (wpAny_len_body_list (Q:=fun v s'=>R (.ok (.ret v)) s') ⟨_,ho,rfl,e,rfl⟩ (by omega) ?_) (fun fin s' h=> ?_) (fun _ _ h=>h)
 ·refine post (fun _=>s.toks+1) s.heap (s.toks+2) ⟨Nat.le_refl _,?_,?_,?_,fun b o h _=>h⟩
  ·intro i p o h1 h2
   cases i with
   |zero=>cases h1;cases h2;exact ho
   |succ i=>cases i<;>cases h1
  ·intro i o h;cases i<;>cases h
  ·intro i j hi;exact absurd hi (Nat.not_lt_zero _)
 ·obtain⟨v,rfl,hv⟩:=h
  exact hv
end
noncomputable def dst(s1:Int):Int:=(s1*39373+7).fmod 2147483647
noncomputable def drw(s0 s1 k:Int):Int:=if s0>0 then s0.fmod k else(((dst s1*dst s1).fmod 2147483629).fdiv 32).fmod k
noncomputable def dn0(s0 k:Int):Int:=if s0>0 then s0.fdiv k else s0
noncomputable def dn1(s0 s1:Int):Int:=if s0>0 then s1 else dst s1
theorem dst_lo(s1:Int):0≤dst s1∧dst s1<2147483647:=⟨Int.fmod_nonneg_of_pos _ (by decide),Int.fmod_lt_of_pos _ (by decide)⟩
theorem drw_lo(s0 s1:Int){k:Int}(hk:0<k):0≤drw s0 s1 k∧drw s0 s1 k<k:=by
 unfold drw
 split<;>exact⟨Int.fmod_nonneg_of_pos _ hk,Int.fmod_lt_of_pos _ hk⟩
noncomputable def SrcOk(s1:Int):Prop:=0≤s1∧s1<2147483647
theorem dn1_ok{s0 s1:Int}(h:SrcOk s1):SrcOk (dn1 s0 s1):=by
 unfold dn1
 split
 ·exact h
 ·exact dst_lo s1
noncomputable def It.rk:It→Nat
 |.n=>0|.i0=>1|.i1=>2|.i2=>3|.i3=>9|.i4=>9|.i5=>4|.sB=>5|.sa=>6|.sb=>7
noncomputable def cRk(v:Value)(r:Int):Con:=⟨.call (.ref 914) ⟨[v],[]⟩,[],fun X=>.int r (X 0),fun _=>[],fun _=>[],3,none,false,false⟩
noncomputable def exprA(kt:KT)(f i:Nat):PySem.Expr:=match stK kt f i with
 |.Assign _ (.Call _ (a::_) _ _) _=>a
 |.Assign _ e _=>e
 |_=>.Name ⟨#[]⟩ default
noncomputable def signS:Str:=⟨#[115,105,103,110]⟩
noncomputable def cDc(kt:KT)(loc it acc frm k1 k2 ro:Addr)(sg:Int)(tg:Tok)(n m:Nat)(as:List Addr)(vs:Array Value)(en:Nat)(ra:Addr)(xv yv:Value)(r:Int)(al:List DictEntry)(ha:Int)(ka:(Nat→Nat)→Tok):Con:=
 ⟨.compLoop (exprA kt 933 2) 0 (.ref it) (.ref acc) (compEnv (envK kt 933 frm [(signS,k1),(rowsS,k2)]) (exprA kt 933 2) loc [(signS,k1),(rowsS,k2)]),
  [(loc,dicObj al.toArray al.length),(it,ritObj m (n-m)),(acc,lstObj (as.map Value.ref).toArray m),(k1,cellObj (.int sg tg)),(k2,cellObj (.ref ro)),(ro,lstObj vs en),(ra,tupObj #[xv,yv])],fun _=>.none,
  fun X=>[dicObj #[⟨ha,.str atS (ka X),.int m (X 3)⟩] 1,ritObj (m+1) (n-m-1),lstObj (as.map Value.ref++[Value.ref (X 0)]).toArray (m+1),cellObj (.int sg tg),cellObj (.ref ro),lstObj vs en,tupObj #[xv,yv]],fun X=>[tupObj #[.int (sg*r) (X 1),.int (m+1:Nat) (X 2)]],4,none,true,false⟩
noncomputable def Frk(v:Tok→Value)(r:Int):Fam:=fun c _ _=>cRk (v (cTok c 0)) r
noncomputable def SgOk(sg:Int):Prop:=sg=1∨sg= -1
theorem SgOk.mul{sg:Int}(h:SgOk sg)(r:Int):IntMulOk sg r:=.of_left (intBits_le_64 (by rcases h with rfl|rfl<;>decide) (by rcases h with rfl|rfl<;>decide))
noncomputable def cDt(kt:KT)(P:Params)(loc it acc frm k1 k2 ro:Addr)(sg:Int)(tg:Tok)(n:Nat)(as:List Addr)(o:Int×Tok×Tok)(vs:Array Value)(en:Nat)(ra:Addr)(xv yv:Value)(r:Int):Con:=match as with
 |[]=>cDc kt loc it acc frm k1 k2 ro sg tg n 0 [] vs en ra xv yv r [] (hS P atS) (fun X=>X 4)
 |a::l=>cDc kt loc it acc frm k1 k2 ro sg tg n (l.length+1) (a::l) vs en ra xv yv r [⟨o.1,.str atS o.2.1,.int l.length o.2.2⟩] o.1 (fun _=>o.2.1)
section
variable{w:World}{P:Params}{b1 b2:Bool}(hP:w.params=parT P b1 b2)(nt:Nat)
include hP
theorem rank_ok(x:It)(hx:x.st=true)(t:Tok):CO w P b1 b2 nt (cRk (x.val t) x.rk):=by
 cases x<;>first|exact absurd hx (by decide)|exact ko hP 3 [] [.ret] 54 0x10102000102020202000001010000 (fc lixOwn_ok fn0)
theorem dc_ok(n:Nat)(hn:n≤4)(as:List Addr)(hm:as.length<n)(o:Int×Tok×Tok)(loc it acc frm k1 k2 ro:Addr)(sg:Int)(tg:Tok)(hs:SgOk sg)(vs:Array Value)(en:Nat)(ra:Addr)(hv:vs[as.length]?=some (.ref ra))(xv:Value)(p:Pv)(ty:Tok)(r:Int)(Hr:∀t,CO w P b1 b2 nt (cRk (p.val t) r)):CO w P b1 b2 nt (cDt (Kq P b1 b2) P loc it acc frm k1 k2 ro sg tg n as o vs en ra xv (p.val ty) r):=
 ko hP 4 [7] ([.itm 7 0,.itm 7 1,.ent 0 0]++@List.rec Addr (fun _=>List Wt) [.key 0 0] (fun _ _ _=>[]) as) 93 (k_dI (kq 11 0x501060006060601050004 (k_k 0x3030303000300000001010001000007))) (cs:=[lget ro vs en as.length (.ref ra),Frk p.val r,iop "int.__mul__" sg r (sg*r)]) (fc (lget_ok hv (by omega)) (fc (fun _ _ _=>Hr _) (fc (imul_ok (hs.mul r) rfl) fn0))) (hn:=by refine nlE n as hn hm ?_ ?_ ?_ ?_ ?_ ?_ ?_ ?_ ?_ ?_<;>intros<;>rfl) (hsd:=by refine nlE n as hn hm ?_ ?_ ?_ ?_ ?_ ?_ ?_ ?_ ?_ ?_<;>intros<;>rfl) (h:=by
  refine nlE n as hn hm ?_ ?_ ?_ ?_ ?_ ?_ ?_ ?_ ?_ ?_<;>intros<;>refine pvE p ?_ ?_ ?_<;>intros<;>kernel_rfl)
end
theorem oBk0{x0:Nat}{x1:Nat}{x2:Nat}(h0:(¬(x0=x1)))(h1:(¬(((x1+1)≤x0)∧(x0<((x1+1)+x2))))):(¬((x1≤x0)∧(x0<(x1+(x2+1))))):=oSd91 h0 h1
theorem oBk1{x0:Nat}{x1:Nat}{x2:Nat}(h0:(((x0+1)≤x1)∧(x1<((x0+1)+x2)))):((x1-x0)=((x1-(x0+1))+1)):=oSd92 h0
theorem oBk2{x0:Nat}{x1:Nat}{x2:Nat}(h0:(((x0+1)≤x1)∧(x1<((x0+1)+x2)))):((x0≤x1)∧(x1<(x0+(x2+1)))):=oSd93 h0
theorem oBk3{x0:Nat}{x1:Nat}:((x0≤x0)∧(x0<(x0+(x1+1)))):=by omega
theorem oBk4{x0:Nat}{x1:Nat}:(¬(((x0+1)≤x0)∧(x0<((x0+1)+x1)))):=by omega
theorem oBk5{x0:Nat}{x1:Nat}:(¬((x0≤x1)∧(x1<(x0+0)))):=by omega
noncomputable def evT(V:Par)(u:Unit0)(t0:Sem PySem.Fin)(n sc:Nat)(cs:List Fam)(U:Nat→Sup)(z t:Nat)(gl:List GenState):Out:=
 layGo (fun T=>run V n u.C.code none .base t0 sc cs U T (lenB u.C.pre) z 0 t 0 (glOf u.C gl)) u.C.pre 0 .nil
noncomputable def TOk(prog:Program)(w:World)(kt:KT)(nt:Nat)(t0:Sem PySem.Fin)(C:Con):Prop:=
 ∀(A:Ar)(s:Shared)(R:Result→Shared→Prop),Rm C.need 0 A→PreOk kt nt C s→
  (∀X h' t',PostOk C s.heap h' X→R (.ok (.ret (C.val X))) ⟨h',gensAfter C s.gens,s.drawn,t',s.os⟩)→wpOwn (model prog w) A C.code t0 (postC prog w A R) (postE R) s
section
variable{prog:Program}{w:World}{V:Par}{nt:Nat}
abbrev TO(w:World)(P:Params)(b1 b2:Bool)(nt:Nat)(t0:Sem PySem.Fin)(C:Con):Prop:=TOk pw w (Kq P b1 b2) nt t0 C
theorem tok_ok(E:EnvOk prog w V)(u:Unit0)(wf:(Nat→Sup)→List Wt)(t0:Sem PySem.Fin)(n sc:Nat)(cs:List Fam)(hc:∀C∈cs,FamOk prog w V.kt nt C)(hn:V.need=u.C.need)(hj:u.C.jump=false)
  (h:∀U z t gl,lhs ⟨u.C,u.ni,wf U⟩ (evT V u t0 n sc cs U z t gl)=rhs ⟨u.C,u.ni,wf U⟩ gl (evT V u t0 n sc cs U z t gl)):TOk prog w V.kt nt t0 u.C:=by
 intro A s R hA P hR
 let B:Bs:=⟨prog,w,A,R,[],fun _ _=>False,s.drawn,s.os⟩
 let S:Sys:=⟨V,B,nt,⟨s.heap,u.C.pre.map (·.1)⟩⟩
 have hB:BRm B V.need:=by rw[hn];exact⟨hA,hA.seg⟩
 have O:S.Ok:=⟨E.hprog,E.par,E.tree,E.alt,E.quiet,E.plain,hB⟩
 have hR':u.C.jump=false→∀X h' t',PostOk u.C s.heap h' X→B.R (.ok (.ret (u.C.val X))) ⟨h',⟨glTo u.C s.gens.toList⟩,B.d,t',B.os⟩:=
  fun _ X h' t' P'=>by have:=hR X h' t' P';rw[gensAfter_glTo]at this;exact this
 have hA':u.C.jump=true→∀md κ X h' t',mdOk md κ u.C.seg=true→PostOk u.C s.heap h' X→Mn B u.C.code md κ (denote table u.C.code) ⟨h',⟨glTo u.C s.gens.toList⟩,B.d,t',B.os⟩:=fun e=>by rw[hj]at e;cases e
 have same:∀U,Good S (layGo (fun T=>run V n u.C.code none .base t0 sc cs U T (lenB u.C.pre) s.heap.objs.size 0 s.toks 0 (glOf u.C s.gens.toList)) u.C.pre 0 .nil):=
  fun U=>good_of (S:=S) (u:=⟨u.C,u.ni,wf U⟩) rfl hR' hA' _ (h U s.heap.objs.size s.toks s.gens.toList)
 have lay:∀(ps:List (Addr×Obj))(i:Nat)(T:LT),(∀U,Good S (layGo (fun T=>run V n u.C.code none .base t0 sc cs U T (lenB u.C.pre) s.heap.objs.size 0 s.toks 0 (glOf u.C s.gens.toList)) ps i T))→
   ∃T',(∀U,Good S (run V n u.C.code none .base t0 sc cs U T' (lenB u.C.pre) s.heap.objs.size 0 s.toks 0 (glOf u.C s.gens.toList)))∧(∀x,T'.get x=if i≤x∧x<i+ps.length then ps[x-i]? else T.get x):=by
  intro ps
  induction ps with
  |nil=>exact fun i T G=>⟨T,G,fun x=>by rw[if_neg];simp only[List.length_nil];exact oBk5⟩
  |cons p ps ih=>
   intro i T G
   have G:∀U,Good S (@Option.rec (Addr×Obj) (fun _=>Out) (.stop 57) (fun _=>layGo (fun T=>run V n u.C.code none .base t0 sc cs U T (lenB u.C.pre) s.heap.objs.size 0 s.toks 0 (glOf u.C s.gens.toList)) ps (i+1) (T.ins p.1 p.2 i)) ((T.ins p.1 p.2 i).get i)):=G
   cases q:(T.ins p.1 p.2 i).get i with
   |none=>have:=G U0;rw[q]at this;exact this.elim
   |some y=>
    rw[q]at G
    obtain⟨T',h1,h2⟩:=ih (i+1) (T.ins p.1 p.2 i) G
    have GI:=LT.get_ins p.1 p.2 T i (by rw[q];rfl)
    refine⟨T',h1,fun x=> ?_⟩
    rw[h2,GI]
    simp only[List.length_cons]
    by_cases hx:x=i
    ·subst hx
     rw[if_neg (by exact oBk4),if_pos rfl,if_pos (by exact oBk3),Nat.sub_self]
     rfl
    ·by_cases hr:i+1≤x∧x<i+1+ps.length
     ·rw[if_pos hr,if_pos (by exact oBk2 hr)]
      have:x-i=(x-(i+1))+1:=by exact oBk1 hr
      rw[this,List.getElem?_cons_succ]
     ·rw[if_neg hr,if_neg hx,if_neg (by exact oBk0 hx hr)]
 obtain⟨T',G,hT⟩:=lay u.C.pre 0 .nil same
 have D:=rep_start P hT
 rw[lenB_eq]at G
 have z:=run_sound O n u.C.code none .base t0 sc cs T' u.C.pre.length s.heap.objs.size 0 s.toks 0 (glOf u.C s.gens.toList) s.heap hc G D
 have es:(⟨s.heap,⟨glOf u.C s.gens.toList⟩,B.d,s.toks+0,B.os⟩:Shared)=s:=by
  rw[←glOf_pre P];rfl
 have z:Mn B u.C.code none .base t0 ⟨s.heap,⟨glOf u.C s.gens.toList⟩,B.d,s.toks+0,B.os⟩:=z
 rw[es]at z
 exact z
end
noncomputable def encN(f:Flow):Sem PySem.Fin:=match f with
 |.next=>.pure (.done (.ret .none))
 |_=>.pure (.done .next)
noncomputable def encR(f:Flow):Sem PySem.Fin:=match f with
 |.ret v=>.pure (.done (.ret v))
 |_=>.pure (.done .next)
noncomputable def blkN(b:List Stmt)(env:Env):Sem PySem.Fin:=R.bindR (PySem.W.Fast.tw12563942051412417395 b env) encN
noncomputable def blkR(b:List Stmt)(env:Env):Sem PySem.Fin:=R.bindR (PySem.W.Fast.tw12563942051412417395 b env) encR
noncomputable def headT(target:PySem.Expr)(it:Value)(env:Env):Sem PySem.Fin:=
 R.bindR (standAt target.pos) fun _=>R.bindR (R.onRaiseR (PySem.W.Fast.tw9404975358583537561 it) (fun _=>standAt {target.pos with line:=0})) fun o=>match o with
  |none=>.pure (.done .next)
  |some v=>R.bindR (PySem.W.Fast.tw1578499551869305889 target it v) fun _=>R.bindR (PySem.W.Fast.tw17772580674575903948 target env v) fun _=>.pure (.done (.ret .none))
section
variable{prog:Program}{w:World}{kt:KT}{nt:Nat}{A:Ar}{s:Shared}{C:Con}
theorem blk_next{b:List Stmt}{env:Env}(hT:TOk prog w kt nt (blkN b env) C)(hr:Rm C.need 0 A)(hp:PreOk kt nt C s){Q:Flow→Shared→Prop}{E:Value→Shared→Prop}
  (h:∀X h' t',PostOk C s.heap h' X→Q .next ⟨h',gensAfter C s.gens,s.drawn,t',s.os⟩):wpOwn (model prog w) A C.code (execs b env) Q E s:=by
 intro Γ p hc hΓ
 have z:=hT A s (fun r s'=>match r with|.ok (.ret _)=>Q .next s'|_=>False) hr hp (fun X h' t' P=>h X h' t' P) Γ p hc hΓ
 unfold blkN at z
 rw[bindR_wp,←PySem.W.Fast.te12563942051412417395]at z
 refine Sem.wp_mono _ _ _ (fun f p' s' hf=> ?_) (fun _ _ _ q=>q.elim) p s z
 cases f with
 |next=>exact hf
 |_=>exact False.elim hf
theorem blk_ret{b:List Stmt}{env:Env}(hT:TOk prog w kt nt (blkR b env) C)(hr:Rm C.need 0 A)(hp:PreOk kt nt C s){Q:Flow→Shared→Prop}{E:Value→Shared→Prop}
  (h:∀X h' t',PostOk C s.heap h' X→Q (.ret (C.val X)) ⟨h',gensAfter C s.gens,s.drawn,t',s.os⟩):wpOwn (model prog w) A C.code (execs b env) Q E s:=by
 intro Γ p hc hΓ
 have z:=hT A s (fun r s'=>match r with|.ok (.ret v)=>Q (.ret v) s'|_=>False) hr hp (fun X h' t' P=>h X h' t' P) Γ p hc hΓ
 unfold blkR at z
 rw[bindR_wp,←PySem.W.Fast.te12563942051412417395]at z
 refine Sem.wp_mono _ _ _ (fun f p' s' hf=> ?_) (fun _ _ _ q=>q.elim) p s z
 cases f with
 |ret v=>exact hf
 |_=>exact False.elim hf
theorem wp_execs_app{M:Model}{Γ:PySem.Ctx}{env:Env}{Q:Flow→Pos→Shared→Prop}{E:Value→Pos→Shared→Prop}(b₂:List Stmt):∀(b₁:List Stmt)(p:Pos)(s:Shared),
  Sem.wp M Γ (execs b₁ env) (fun f p' s'=>match f with|.next=>Sem.wp M Γ (execs b₂ env) Q E p' s'|f=>Q f p' s') E p s→Sem.wp M Γ (execs (b₁++b₂) env) Q E p s
 |[],p,s,h=>by
  rw[execs]at h
  exact h
 |x::b₁,p,s,h=>by
  rw[List.cons_append,execs]
  rw[execs]at h
  rw[Sem.wp_bind']at h ⊢
  refine Sem.wp_mono _ _ _ (fun f p' s' hf=> ?_) (fun _ _ _ q=>q) p s h
  cases f with
  |next=>exact wp_execs_app b₂ b₁ p' s' hf
  |_=>exact hf
theorem own_app{M:Model}{c:Code}{env:Env}{Q:Flow→Shared→Prop}{E:Value→Shared→Prop}(b₁ b₂:List Stmt)
  (h:wpOwn M A c (execs b₁ env) (fun f s'=>match f with|.next=>wpOwn M A c (execs b₂ env) Q E s'|f=>Q f s') E s):wpOwn M A c (execs (b₁++b₂) env) Q E s:=fun Γ p hc hΓ=>by
 refine wp_execs_app b₂ b₁ p s (Sem.wp_mono _ _ _ (fun f p' s' hf=> ?_) (fun _ _ _ q=>q) p s (h Γ p hc hΓ))
 cases f with
 |next=>exact hf Γ p' hc hΓ
 |_=>exact hf
theorem own_cut{M:Model}{c:Code}{env:Env}{Q:Flow→Shared→Prop}{E:Value→Shared→Prop}(b:List Stmt)(i k:Nat)
  (h:wpOwn M A c (execs ((b.drop i).take k) env) (fun f s'=>match f with|.next=>wpOwn M A c (execs (b.drop (i+k)) env) Q E s'|f=>Q f s') E s):wpOwn M A c (execs (b.drop i) env) Q E s:=by
 have:b.drop i=(b.drop i).take k++b.drop (i+k):=by rw[←List.drop_drop,List.take_append_drop]
 rw[this]
 exact own_app _ _ h
theorem func_own{R:Result→Shared→Prop}{b:List Stmt}{env:Env}(h:wpOwn (model prog w) A (.func b env) (execs b env) (fun f s'=>match f with|.ret v=>R (.ok (.ret v)) s'|_=>R (.ok (.ret .none)) s') (fun _ _=>False) s):
  wpOwn (model prog w) A (.func b env) (denote table (.func b env)) (postC prog w A R) (postE R) s:=by
 intro Γ p hc hΓ
 have z:=h Γ p hc hΓ
 show Sem.wp _ Γ (PySem.point >>= fun _=>((execs b env).onRaise (leaving env)) >>= fun f=>match f with|.ret v=>ret v|_=>ret .none) _ _ p s
 rw[Sem.wp_bind']
 show Sem.wp _ Γ (((execs b env).onRaise (leaving env)) >>= fun f=>match f with|.ret v=>ret v|_=>ret .none) _ _ p s
 rw[Sem.wp_bind',Sem.wp_onRaise]
 refine Sem.wp_mono _ _ _ (fun f p' s' hf=> ?_) (fun _ _ _ q=>q.elim) p s z
 cases f<;>exact hf
theorem turn_own{R:Result→Shared→Prop}{target:PySem.Expr}{it:Value}{body orelse:List Stmt}{env:Env}(hq:(Code.forLoop target it body orelse env).quiet=true)
  (hT:TOk prog w kt nt (headT target it env) C) (hc:C.code=.forLoop target it body orelse env) (hr:Rm C.need 0 A) (hp:PreOk kt nt C s)
  (h:∀X h' t',PostOk C s.heap h' X→wpOwn (model prog w) A C.code (execs body env) (fun f s'=>match f with|.next=>wpOwn (model prog w) A C.code (denote table C.code) (postC prog w A R) (postE R) s'|_=>False) (fun _ _=>False) ⟨h',gensAfter C s.gens,s.drawn,t',s.os⟩):
  wpOwn (model prog w) A C.code (denote table C.code) (postC prog w A R) (postE R) s:=by
 intro Γ p hcΓ hΓ
 have z:=hT A s (fun r s'=>match r with|.ok (.ret _)=>wpOwn (model prog w) A C.code (execs body env) (fun f s'=>match f with|.next=>wpOwn (model prog w) A C.code (denote table C.code) (postC prog w A R) (postE R) s'|_=>False) (fun _ _=>False) s'|_=>False) hr hp (fun X h' t' P=>h X h' t' P) Γ p hcΓ hΓ
 unfold headT at z
 rw[bindR_wp]at z
 generalize eD:wpOwn (model prog w) A C.code (denote table C.code) (postC prog w A R) (postE R)=D at z
 rw[hc]
 show Sem.wp _ Γ ((standAt target.pos >>= fun _=>(pyNext it).onRaise (fun _=>standAt {target.pos with line:=0}) >>= fun o=>match o with
  |none=>again (.block orelse env)
  |some v=>letOwnedTupleGo target it v >>= fun _=>assign target env v >>= fun _=>execs body env >>= fun f=>match f with
   |.next|.cont=>again (.forLoop target it body orelse env)
   |.brk=>pure (.done .next)
   |.ret v=>pure (.done (.ret v))).onRaise (fun x=>do noteFrame x env;theTreesLotGoes x)) _ _ p s
 rw[Sem.wp_onRaise,Sem.wp_bind']
 refine Sem.wp_mono _ _ _ (fun _ p1 s1 z=> ?_) (fun _ _ _ q=>q.elim) p s z
 rw[bindR_wp,←PySem.W.R.onRaiseR_eq,←PySem.W.Fast.te9404975358583537561]at z
 rw[Sem.wp_bind']
 refine Sem.wp_mono _ _ _ (fun o p2 s2 z=> ?_) (fun _ _ _ q=>q.elim) p1 s1 z
 cases o with
 |none=>exact False.elim z
 |some v=>
  have z:Sem.wp _ Γ (PySem.W.R.bindR (PySem.W.Fast.tw1578499551869305889 target it v) fun _=>PySem.W.R.bindR (PySem.W.Fast.tw17772580674575903948 target env v) fun _=>(Sem.pure (Fin.done (Flow.ret Value.none)):Sem PySem.Fin)) _ _ p2 s2:=z
  rw[bindR_wp,←PySem.W.Fast.te1578499551869305889]at z
  show Sem.wp _ Γ (letOwnedTupleGo target it v >>= fun _=>assign target env v >>= fun _=>execs body env >>= _) _ _ p2 s2
  rw[Sem.wp_bind']
  refine Sem.wp_mono _ _ _ (fun _ p3 s3 z=> ?_) (fun _ _ _ q=>q.elim) p2 s2 z
  rw[bindR_wp,←PySem.W.Fast.te17772580674575903948]at z
  rw[Sem.wp_bind']
  refine Sem.wp_mono _ _ _ (fun _ p4 s4 z=> ?_) (fun _ _ _ q=>q.elim) p3 s3 z
  have z:wpOwn (model prog w) A C.code (execs body env) (fun f s'=>match f with|.next=>D s'|_=>False) (fun _ _=>False) s4:=z
  rw[Sem.wp_bind']
  refine Sem.wp_mono _ _ _ (fun f p5 s5 z=> ?_) (fun _ _ _ q=>q.elim) p4 s4 (z Γ p4 hcΓ hΓ)
  cases f with
  |next=>
   have z:D s5:=z
   rw[←eD,hc]at z
   exact⟨hq,y_code _ _ _ _ _ _ z⟩
  |_=>exact False.elim z
end
theorem oBs0{x0:Nat}{x1:Nat}{x2:Nat}(h0:(x0≤x1))(h1:((x2+(48*x1))≤(8500+(4*0)))):((x2+(48*x0))≤(8500+(4*0))):=Nat.le_trans (Nat.add_le_add_left (Nat.mul_le_mul_left 48 h0) x2) h1
theorem oBs1{x0:Nat}{x1:Nat}{x2:Nat}(h0:(x0≤x1))(h1:((x2+(24*x1))≤(930+(2*0)))):((x2+(24*x0))≤(930+(2*0))):=Nat.le_trans (Nat.add_le_add_left (Nat.mul_le_mul_left 24 h0) x2) h1
theorem oBs2{x0:Nat}{x1:Nat}{x2:Nat}{x3:Nat}{x4:Nat}(h0:(x0<x1))(h1:(x1≤x2))(h2:(x0=x2)):(x3≤x4):=by omega
theorem oBs3{x0:Nat}{x1:Nat}{x2:Nat}{x3:Nat}{x4:Nat}(h0:(x0<x1))(h1:(x2<x3))(h2:(x1≤x2))(h3:((min x1 x4)=(min x1 x3))):(x0<x4):=Nat.lt_of_lt_of_le h0 (Nat.le_trans (Nat.le_of_eq (h3.trans (Nat.min_eq_left (Nat.le_of_lt (Nat.lt_of_le_of_lt h2 h1)))).symm) (Nat.min_le_right x1 x4))
theorem oBs4{x0:Nat}{x1:Nat}:(((x0+1)+x1)=(x0+(x1+1))):=Nat.add_right_comm x0 1 x1
structure Hs(kt:KT)(nt:Nat)(h₀:Heap)(A₀:List Addr)(L:List (Addr×Obj))(h:Heap):Prop where
 top:TopF kt nt h
 nz:nt≤h.objs.size
 grow:h₀.objs.size≤h.objs.size
 own:∀p∈L,h.get? p.1=some p.2∧nt≤p.1
 nd:(L.map (·.1)).Nodup
 old:∀p∈L,p.1∈A₀∨h₀.objs.size≤p.1
 keep:∀b o,h₀.get? b=some o→b∉A₀→h.get? b=some o
noncomputable def modL(o:Obj):List (Addr×Obj)→Nat→List (Addr×Obj)
 |[],_=>[]
 |p::L,0=>(p.1,o)::L
 |p::L,i+1=>p::modL o L i
noncomputable def putL:List (Addr×Obj)→List Nat→List Obj→List (Addr×Obj)
 |L,i::is,o::os=>putL (modL o L i) is os
 |L,_,_=>L
noncomputable def nwL(X:Nat→Nat):List Obj→Nat→List (Addr×Obj)
 |[],_=>[]
 |o::os,i=>(X i,o)::nwL X os (i+1)
theorem modL_map(o:Obj):∀(L:List (Addr×Obj))(i:Nat),(modL o L i).map (·.1)=L.map (·.1)
 |[],_=>rfl
 |_::_,0=>rfl
 |p::L,i+1=>by show p.1::(modL o L i).map (·.1)=_;rw[modL_map o L i];rfl
theorem modL_get(o:Obj):∀(L:List (Addr×Obj))(i j:Nat),(modL o L i)[j]?=if i=j then L[j]?.map (fun p=>(p.1,o))else L[j]?
 |[],i,j=>by simp[modL]
 |p::L,0,0=>by simp[modL]
 |p::L,0,j+1=>by simp[modL]
 |p::L,i+1,0=>by simp[modL]
 |p::L,i+1,j+1=>by
  show(modL o L i)[j]?=_
  rw[modL_get o L i j]
  simp
theorem putL_map:∀(is:List Nat)(os:List Obj)(L:List (Addr×Obj)),(putL L is os).map (·.1)=L.map (·.1)
 |[],_,_=>rfl
 |_::_,[],_=>rfl
 |i::is,o::os,L=>by rw[putL,putL_map is os,modL_map]
theorem putL_get:∀(is:List Nat)(os:List Obj)(L:List (Addr×Obj))(j:Nat),j∉is→(putL L is os)[j]?=L[j]?
 |[],_,_,_,_=>rfl
 |_::_,[],_,_,_=>rfl
 |i::is,o::os,L,j,hj=>by
  rw[putL,putL_get is os _ j (fun q=>hj (List.mem_cons_of_mem _ q)),modL_get,if_neg (fun q=>hj (by rw[q];exact List.mem_cons_self))]
theorem putL_at:∀(is:List Nat)(os:List Obj)(L:List (Addr×Obj))(k j:Nat)(o:Obj)(p:Addr×Obj),is.Nodup→is[k]?=some j→os[k]?=some o→L[j]?=some p→(putL L is os)[j]?=some (p.1,o)
 |[],_,_,_,_,_,_,_,e,_,_=>by simp at e
 |_::_,[],_,_,_,_,_,_,_,e,_=>by simp at e
 |i::is,o'::os,L,0,j,o,p,hn,e,e',ht=>by
  simp only[List.getElem?_cons_zero,Option.some.injEq]at e e'
  subst e e'
  rw[putL,putL_get _ _ _ _ (List.nodup_cons.mp hn).1,modL_get,if_pos rfl,ht];rfl
 |i::is,o'::os,L,k+1,j,o,p,hn,e,e',ht=>by
  simp only[List.getElem?_cons_succ]at e e'
  have hne:i≠j:=fun q=>(List.nodup_cons.mp hn).1 (q▸List.mem_of_getElem? e)
  rw[putL]
  exact putL_at is os _ k j o p (List.nodup_cons.mp hn).2 e e' (by rw[modL_get,if_neg hne];exact ht)
theorem nwL_get(X:Nat→Nat):∀(os:List Obj)(i k:Nat),(nwL X os i)[k]?=os[k]?.map (fun o=>(X (i+k),o))
 |[],_,_=>by simp[nwL]
 |o::os,i,0=>by simp[nwL]
 |o::os,i,k+1=>by
  show(nwL X os (i+1))[k]?=_
  rw[nwL_get X os (i+1) k,List.getElem?_cons_succ,show i+1+k=i+(k+1) by exact oBs4]
theorem nd_get{L:List (Addr×Obj)}(nd:(L.map (·.1)).Nodup){i j:Nat}{p q:Addr×Obj}(hi:L[i]?=some p)(hj:L[j]?=some q)(e:p.1=q.1):i=j:=by
 obtain⟨i',e1⟩:=List.getElem?_eq_some_iff.mp hi
 obtain⟨j',e2⟩:=List.getElem?_eq_some_iff.mp hj
 have pw:=List.pairwise_iff_getElem.mp nd
 apply Decidable.byContradiction
 intro hne
 rcases Nat.lt_or_gt_of_ne hne with h|h
 ·exact pw i j (by rw[List.length_map];exact i') (by rw[List.length_map];exact j') h (by rw[List.getElem_map,List.getElem_map,e1,e2];exact e)
 ·exact pw j i (by rw[List.length_map];exact j') (by rw[List.length_map];exact i') h (by rw[List.getElem_map,List.getElem_map,e1,e2];exact e.symm)
section
variable{kt:KT}{nt:Nat}{h₀ h h':Heap}{A₀:List Addr}{L:List (Addr×Obj)}{C:Con}{is:List Nat}{X:Nat→Nat}
theorem pick1(hi:is.map (L[·]?)=C.pre.map some){k:Nat}{p:Addr×Obj}(e:C.pre[k]?=some p):∃j,is[k]?=some j∧L[j]?=some p:=by
 have:=congrArg (·[k]?) hi
 simp only[List.getElem?_map,e,Option.map_some]at this
 cases q:is[k]? with
 |none=>rw[q]at this;cases this
 |some j=>rw[q]at this;exact⟨j,rfl,Option.some.inj this⟩
theorem pick2(hi:is.map (L[·]?)=C.pre.map some){k j:Nat}(e:is[k]?=some j):∃p,C.pre[k]?=some p∧L[j]?=some p:=by
 have:=congrArg (·[k]?) hi
 simp only[List.getElem?_map,e,Option.map_some]at this
 cases q:C.pre[k]? with
 |none=>rw[q]at this;cases this
 |some p=>rw[q]at this;exact⟨p,rfl,Option.some.inj this⟩
theorem nodup_at{l:List Nat}(h:l.Nodup){i j x:Nat}(hi:l[i]?=some x)(hj:l[j]?=some x):i=j:=by
 obtain⟨i',e1⟩:=List.getElem?_eq_some_iff.mp hi
 obtain⟨j',e2⟩:=List.getElem?_eq_some_iff.mp hj
 have pw:=List.pairwise_iff_getElem.mp h
 apply Decidable.byContradiction
 intro hne
 rcases Nat.lt_or_gt_of_ne hne with q|q
 ·exact pw i j i' j' q (e1.trans e2.symm)
 ·exact pw j i j' i' q (e2.trans e1.symm)
theorem Hs.pre(S:Hs kt nt h₀ A₀ L h){s:Shared}(hs:s.heap=h)(hi:is.map (L[·]?)=C.pre.map some)(hn:is.Nodup)(hg:∀g,C.g=some g→s.gens=⟨g.1⟩):PreOk kt nt C s:=by
 subst hs
 refine⟨S.top,S.nz,?_,?_,hg⟩
 ·intro p hp
  obtain⟨k,hk⟩:=List.mem_iff_getElem?.mp hp
  obtain⟨j,_,ej⟩:=pick1 hi hk
  exact S.own p (List.mem_of_getElem? ej)
 ·rw[List.Nodup,List.pairwise_iff_getElem]
  intro a b ha hb hlt e
  rw[List.length_map]at ha hb
  rw[List.getElem_map,List.getElem_map]at e
  obtain⟨j,ja,ea⟩:=pick1 hi (List.getElem?_eq_getElem ha)
  obtain⟨j',jb,eb⟩:=pick1 hi (List.getElem?_eq_getElem hb)
  have:=nd_get S.nd ea eb e
  subst this
  exact absurd (nodup_at hn ja jb) (Nat.ne_of_lt hlt)
theorem Hs.step(S:Hs kt nt h₀ A₀ L h)(hi:is.map (L[·]?)=C.pre.map some)(hn:is.Nodup)(hl:C.pre.length≤(C.post X).length)(P:PostOk C h h' X):
  Hs kt nt h₀ A₀ (putL L is (C.post X)++nwL X (C.new X) 0) h':=by
 have hpre:∀b,b∈C.pre.map (·.1)→∃j p,j∈is∧L[j]?=some p∧p.1=b:=by
  intro b hb
  obtain⟨p,hp,rfl⟩:=List.mem_map.mp hb
  obtain⟨k,hk⟩:=List.mem_iff_getElem?.mp hp
  obtain⟨j,e1,e2⟩:=pick1 hi hk
  exact⟨j,p,List.mem_of_getElem? e1,e2,rfl⟩
 have hput:∀p∈putL L is (C.post X),(h'.get? p.1=some p.2∧nt≤p.1)∧∃q∈L,q.1=p.1:=by
  intro p hp
  obtain⟨j,hj⟩:=List.mem_iff_getElem?.mp hp
  by_cases q:j∈is
  ·obtain⟨k,hk⟩:=List.mem_iff_getElem?.mp q
   obtain⟨p0,e1,e2⟩:=pick2 hi hk
   have hk':k<(C.post X).length:=Nat.lt_of_lt_of_le (List.getElem?_eq_some_iff.mp e1).1 hl
   rw[putL_at is (C.post X) L k j _ p0 hn hk (List.getElem?_eq_getElem hk') e2]at hj
   cases hj
   exact⟨⟨P.post k p0 _ e1 (List.getElem?_eq_getElem hk'),(S.own p0 (List.mem_of_getElem? e2)).2⟩,p0,List.mem_of_getElem? e2,rfl⟩
  ·rw[putL_get _ _ _ _ q]at hj
   have o:=S.own p (List.mem_of_getElem? hj)
   refine⟨⟨P.keep p.1 p.2 o.1 fun hb=> ?_,o.2⟩,p,List.mem_of_getElem? hj,rfl⟩
   obtain⟨j',p',hj',e',e⟩:=hpre _ hb
   exact q (nd_get S.nd e' hj e▸hj')
 have hnew:∀p∈nwL X (C.new X) 0,∃k o,(C.new X)[k]?=some o∧p=(X k,o):=by
  intro p hp
  obtain⟨k,hk⟩:=List.mem_iff_getElem?.mp hp
  rw[nwL_get]at hk
  cases q:(C.new X)[k]? with
  |none=>rw[q]at hk;cases hk
  |some o=>rw[q]at hk;cases hk;exact⟨k,o,q,by rw[Nat.zero_add]⟩
 refine⟨S.top.change fun b o hb e=>P.keep b o e fun hm=> ?_,Nat.le_trans S.nz P.grow,Nat.le_trans S.grow P.grow,?_,?_,?_,?_⟩
 ·obtain⟨j,p,_,e',rfl⟩:=hpre _ hm
  exact absurd hb (Nat.not_lt.mpr (S.own p (List.mem_of_getElem? e')).2)
 ·intro p hp
  rcases List.mem_append.mp hp with hp|hp
  ·exact(hput p hp).1
  ·obtain⟨k,o,e,rfl⟩:=hnew p hp
   have:=P.new k o e
   exact⟨this.1,Nat.le_trans S.nz this.2⟩
 ·rw[List.map_append,putL_map,List.nodup_append]
  refine⟨S.nd,?_,?_⟩
  ·rw[List.Nodup,List.pairwise_iff_getElem]
   intro a b ha hb hlt e
   rw[List.length_map]at ha hb
   rw[List.getElem_map,List.getElem_map]at e
   have ea:=List.getElem?_eq_getElem ha
   have eb:=List.getElem?_eq_getElem hb
   rw[nwL_get]at ea eb
   cases qa:(C.new X)[a]? with
   |none=>rw[qa]at ea;cases ea
   |some oa=>
    cases qb:(C.new X)[b]? with
    |none=>rw[qb]at eb;cases eb
    |some ob=>
     rw[qa]at ea;rw[qb]at eb
     have ea:=Option.some.inj ea
     have eb:=Option.some.inj eb
     rw[←ea,←eb]at e
     simp only[Nat.zero_add]at e
     exact absurd (P.inj a b (List.getElem?_eq_some_iff.mp qa).1 (List.getElem?_eq_some_iff.mp qb).1 e) (Nat.ne_of_lt hlt)
  ·intro a ha b hb e
   obtain⟨p,hp,rfl⟩:=List.mem_map.mp ha
   obtain⟨q,hq,rfl⟩:=List.mem_map.mp hb
   obtain⟨k,o,e',rfl⟩:=hnew q hq
   have h1:=Heap.lt_size (S.own p hp).1
   have h2:=(P.new k o e').2
   rw[e]at h1
   exact absurd h1 (Nat.not_lt.mpr h2)
 ·intro p hp
  rcases List.mem_append.mp hp with hp|hp
  ·obtain⟨q,hq,e⟩:=(hput p hp).2
   exact e▸S.old q hq
  ·obtain⟨k,o,e,rfl⟩:=hnew p hp
   exact .inr (Nat.le_trans S.grow (P.new k o e).2)
 ·intro b o e hb
  refine P.keep b o (S.keep b o e hb) fun hm=> ?_
  obtain⟨j,p,_,e',rfl⟩:=hpre _ hm
  rcases S.old p (List.mem_of_getElem? e')with y|y
  ·exact hb y
  ·exact absurd (Heap.lt_size e) (Nat.not_lt.mpr y)
theorem Hs.start{s:Shared}(P:PreOk kt nt C s):Hs kt nt s.heap (C.pre.map (·.1)) C.pre s.heap:=
 ⟨P.top,P.nz,Nat.le_refl _,P.pre,P.nd,fun p hp=>.inl (List.mem_map_of_mem hp),fun b o e _=>e⟩
theorem Hs.post(S:Hs kt nt h₀ (C.pre.map (·.1)) L h')(ks:List Nat)(hp:List.zipWith (fun(p:Addr×Obj) o=>(p.1,o)) C.pre (C.post X)=L.take C.pre.length)(hnew:ks.map (L[·]?)=(nwL X (C.new X) 0).map some)(hkb:niB (lenB C.pre) ks=true):PostOk C h₀ h' X:=by
 obtain⟨hk,hkn⟩:=niB_ok _ _ hkb
 rw[lenB_eq]at hk
 have hn:∀i o,(C.new X)[i]?=some o→∃k,ks[i]?=some k∧L[k]?=some (X i,o):=by
  intro i o e
  have:=congrArg (·[i]?) hnew
  simp only[List.getElem?_map,nwL_get,e,Option.map_some,Nat.zero_add]at this
  cases q:ks[i]? with
  |none=>rw[q]at this;cases this
  |some k=>rw[q]at this;exact⟨k,rfl,Option.some.inj this⟩
 have hL:∀(i:Nat)(p:Addr×Obj)(o:Obj),C.pre[i]?=some p→(C.post X)[i]?=some o→L[i]?=some (p.1,o):=by
  intro i p o ep eo
  have hi:=(List.getElem?_eq_some_iff.mp ep).1
  have:=congrArg (·[i]?) hp
  simp only[List.getElem?_zipWith,ep,eo,List.getElem?_take,if_pos hi]at this
  exact this.symm
 refine⟨S.grow,?_,?_,?_,S.keep⟩
 ·intro i p o ep eo
  exact(S.own _ (List.mem_of_getElem? (hL i p o ep eo))).1
 ·intro i o e
  obtain⟨k,e1,e2⟩:=hn i o e
  refine⟨(S.own _ (List.mem_of_getElem? e2)).1,?_⟩
  rcases S.old _ (List.mem_of_getElem? e2)with y|y
  ·obtain⟨p,hpm,hpe⟩:=List.mem_map.mp y
   obtain⟨j,hj⟩:=List.mem_iff_getElem?.mp hpm
   have hjl:=(List.getElem?_eq_some_iff.mp hj).1
   have hkl:k<L.length:=(List.getElem?_eq_some_iff.mp e2).1
   have hle:=hk k (List.mem_of_getElem? e1)
   have:∃o',L[j]?=some (p.1,o'):=by
    have hz:=congrArg List.length hp
    rw[List.length_zipWith,List.length_take]at hz
    have hq:j<(C.post X).length:=by exact oBs3 hjl hkl hle hz
    exact⟨_,hL j p _ hj (List.getElem?_eq_getElem hq)⟩
   obtain⟨o',e3⟩:=this
   have:=nd_get S.nd e3 e2 hpe
   exact oBs2 hjl hle this
  ·exact y
 ·intro i j hi hj e
  obtain⟨k,e1,e2⟩:=hn i _ (List.getElem?_eq_getElem hi)
  obtain⟨k',e3,e4⟩:=hn j _ (List.getElem?_eq_getElem hj)
  have:=nd_get S.nd e2 e4 e
  subst this
  exact nodup_at hkn e1 e3
end
section
variable{prog:Program}{w:World}{kt:KT}{nt:Nat}{h₀:Heap}{A₀:List Addr}{L:List (Addr×Obj)}{C:Con}{A:Ar}{s:Shared}
theorem Rm.le{need need':Nat}{A:Ar}(H:Rm need 0 A)(h:need'≤need):Rm need' 0 A:=⟨H.cl,H.hd,H.gd,by have:=H.dp;exact oBs1 h this,by have:=H.un;exact oBs0 h this⟩
theorem Hs.blk(S:Hs kt nt h₀ A₀ L s.heap){b:List Stmt}{env:Env}(hT:TOk prog w kt nt (blkN b env) C){c:Code}(hc:C.code=c){need:Nat}(hr:Rm need 0 A)(hne:C.need≤need)(is:List Nat)(hi:is.map (L[·]?)=C.pre.map some)(hn:is.Nodup)(hl:∀X,C.pre.length≤(C.post X).length)
  (hg:∀g,C.g=some g→s.gens=⟨g.1⟩) (L':(Nat→Nat)→List (Addr×Obj)) (hL:∀X,putL L is (C.post X)++nwL X (C.new X) 0=L' X) {Q:Flow→Shared→Prop} {E:Value→Shared→Prop}
  (h:∀X h' t',Hs kt nt h₀ A₀ (L' X) h'→Q .next ⟨h',gensAfter C s.gens,s.drawn,t',s.os⟩):wpOwn (model prog w) A c (execs b env) Q E s:=by
 subst hc
 exact blk_next hT (hr.le hne) (S.pre rfl hi hn hg) fun X h' t' P=>h X h' t' (by rw[←hL];exact S.step hi hn (hl X) P)
theorem Hs.turn(S:Hs kt nt h₀ A₀ L s.heap){target:PySem.Expr}{it:Value}{body:List Stmt}{env:Env}(hT:TOk prog w kt nt (headT target it env) C){c:Code}(hc:C.code=c)(hcd:c=.forLoop target it body [] env)(hq:c.quiet=true){need:Nat}(hr:Rm need 0 A)(hne:C.need≤need)(is:List Nat)(hi:is.map (L[·]?)=C.pre.map some)(hn:is.Nodup)(hl:∀X,C.pre.length≤(C.post X).length)
  (hg:∀g,C.g=some g→s.gens=⟨g.1⟩) {R:Result→Shared→Prop} (L':(Nat→Nat)→List (Addr×Obj)) (hL:∀X,putL L is (C.post X)++nwL X (C.new X) 0=L' X)
  (h:∀X h' t',Hs kt nt h₀ A₀ (L' X) h'→wpOwn (model prog w) A c (execs body env) (fun f s'=>match f with|.next=>wpOwn (model prog w) A c (denote table c) (postC prog w A R) (postE R) s'|_=>False) (fun _ _=>False) ⟨h',gensAfter C s.gens,s.drawn,t',s.os⟩):
  wpOwn (model prog w) A c (denote table c) (postC prog w A R) (postE R) s:=by
 subst hc
 exact turn_own (hcd▸hq) hT hcd (hr.le hne) (S.pre rfl hi hn hg) fun X h' t' P=>h X h' t' (by rw[←hL];exact S.step hi hn (hl X) P)
theorem Hs.bret(S:Hs kt nt h₀ A₀ L s.heap){b:List Stmt}{env:Env}(hT:TOk prog w kt nt (blkR b env) C){c:Code}(hc:C.code=c){need:Nat}(hr:Rm need 0 A)(hne:C.need≤need)(is:List Nat)(hi:is.map (L[·]?)=C.pre.map some)(hn:is.Nodup)(hl:∀X,C.pre.length≤(C.post X).length)
  (hg:∀g,C.g=some g→s.gens=⟨g.1⟩) (L':(Nat→Nat)→List (Addr×Obj)) (hL:∀X,putL L is (C.post X)++nwL X (C.new X) 0=L' X) {Q:Flow→Shared→Prop} {E:Value→Shared→Prop}
  (h:∀X h' t',Hs kt nt h₀ A₀ (L' X) h'→Q (.ret (C.val X)) ⟨h',gensAfter C s.gens,s.drawn,t',s.os⟩):wpOwn (model prog w) A c (execs b env) Q E s:=by
 subst hc
 exact blk_ret hT (hr.le hne) (S.pre rfl hi hn hg) fun X h' t' P=>h X h' t' (by rw[←hL];exact S.step hi hn (hl X) P)
end
theorem kb{w:World}{P:Params}{b1 b2:Bool}(hP:w.params=parT P b1 b2){nt:Nat}{C:Con}{t0:Sem PySem.Fin}(need:Nat)(ni:List Nat)(wf:(Nat→Sup)→List Wt)(n sc:Nat){cs:List Fam}(hc:∀C∈cs,FamOk pw w (Kq P b1 b2) nt C)
  (hn:need=C.need:=by exact rfl) (hj:C.jump=false:=by exact rfl) (h:∀U z t gl,lhs ⟨C,ni,wf U⟩ (evT (VB (Kq P b1 b2) P b2 need) ⟨C,ni,[]⟩ t0 n sc cs U z t gl)=rhs ⟨C,ni,wf U⟩ gl (evT (VB (Kq P b1 b2) P b2 need) ⟨C,ni,[]⟩ t0 n sc cs U z t gl):=by intro U z t gl;kernel_rfl):
  TO w P b1 b2 nt t0 C:=tok_ok (env_okB hP need) ⟨C,ni,[]⟩ wf t0 n sc cs hc hn hj h
noncomputable def forTg(c:Code):PySem.Expr:=match c with
 |.forLoop t _ _ _ _=>t
 |_=>.Name ⟨#[]⟩ default
noncomputable def forBd(c:Code):List Stmt:=match c with
 |.forLoop _ _ b _ _=>b
 |.func b _=>b
 |_=>[]
noncomputable def cEnv(c:Code):Env:=match c with
 |.forLoop _ _ _ _ e=>e
 |.func _ e=>e
 |_=>default
noncomputable def slT(c:Code)(i k:Nat):Sem PySem.Fin:=blkN (((forBd c).drop i).take k) (cEnv c)
noncomputable def slRT(c:Code)(i:Nat):Sem PySem.Fin:=blkR ((forBd c).drop i) (cEnv c)
noncomputable def hdT(c:Code)(it:Addr):Sem PySem.Fin:=headT (forTg c) (.ref it) (cEnv c)
noncomputable def litObj(l:Addr)(i:Nat):Obj:={cls:=.type "list_iterator",data:=.fields #[.ref l,.int i 0]}
noncomputable def cLn(it l:Addr)(vs:Array Value)(e i:Nat)(v:Value):Con:=⟨.builtin "list_iterator.__next__" ⟨[.ref it],[]⟩,[(it,litObj l i),(l,lstObj vs e)],fun _=>v,fun _=>[litObj l (i+1),lstObj vs e],fun _=>[],1,none,false,false⟩
structure Df where
 loc:Addr
 sp:Addr
 pl:Addr
 fd:Addr
 h1:Int
 h2:Int
 h3:Int
 h4:Int
 h5:Int
 h6:Int
 h7:Int
 h8:Int
 h9:Int
 t1:Tok
 t2:Tok
 t3:Tok
 t4:Tok
 t5:Tok
 t6:Tok
 t7:Tok
 t8:Tok
 t9:Tok
noncomputable def d_spanS:Str:=⟨#[115,112,97,110]⟩
noncomputable def d_isbS:Str:=⟨#[105,115,95,98,97,99,107]⟩
noncomputable def d_lowS:Str:=⟨#[108,111,119]⟩
noncomputable def d_hlowS:Str:=⟨#[104,97,115,95,108,111,119]⟩
noncomputable def d_highS:Str:=⟨#[104,105,103,104]⟩
noncomputable def d_hhighS:Str:=⟨#[104,97,115,95,104,105,103,104]⟩
noncomputable def d_placedS:Str:=⟨#[112,108,97,99,101,100]⟩
noncomputable def d_foundS:Str:=⟨#[102,111,117,110,100]⟩
noncomputable def d_rankS:Str:=⟨#[114,97,110,107]⟩
noncomputable def d_rowidS:Str:=⟨#[114,111,119,105,100]⟩
noncomputable def d_aboveS:Str:=⟨#[97,98,111,118,101]⟩
noncomputable def d_belowS:Str:=⟨#[98,101,108,111,119]⟩
noncomputable def optV:Option (Addr×Value)→Value
 |some (a,_)=>.ref a
 |none=>.none
noncomputable def optO:Option (Addr×Value)→List (Addr×Obj)
 |some (a,v)=>[(a,tupObj #[v])]
 |none=>[]
noncomputable def Df.es(F:Df)(down ib hl hh:Bool)(lo hi:Option (Addr×Value))(l:List DictEntry):List DictEntry:=
 ⟨F.h1,.str downS F.t1,.bool down⟩::⟨F.h2,.str d_spanS F.t2,.ref F.sp⟩::⟨F.h3,.str d_isbS F.t3,.bool ib⟩::⟨F.h4,.str d_lowS F.t4,optV lo⟩::⟨F.h5,.str d_hlowS F.t5,.bool hl⟩::⟨F.h6,.str d_highS F.t6,optV hi⟩::⟨F.h7,.str d_hhighS F.t7,.bool hh⟩::⟨F.h8,.str d_placedS F.t8,.ref F.pl⟩::⟨F.h9,.str d_foundS F.t9,.ref F.fd⟩::l
structure Dg where
 g1:Int
 g2:Int
 g3:Int
 g4:Int
 u1:Tok
 u2:Tok
 u3:Tok
 u4:Tok
structure Dw where
 w1:Int
 x1:Tok
 w2:Int
 x2:Tok
 w3:Bool
 w4:Bool
noncomputable def dE(g:Dg)(v:Dw):List DictEntry:=[⟨g.g1,.str d_rankS g.u1,.int v.w1 v.x1⟩,⟨g.g2,.str d_rowidS g.u2,.int v.w2 v.x2⟩,⟨g.g3,.str d_aboveS g.u3,.bool v.w3⟩,⟨g.g4,.str d_belowS g.u4,.bool v.w4⟩]
noncomputable def dS(o:Option (Dg×Dw))(n:Nat)(g:Dg)(v:Dw):List DictEntry:=@Option.rec (Dg×Dw) (fun _=>List DictEntry) ((dE g v).take n) (fun p=>dE p.1 v) o
noncomputable def dEo(o:Option (Dg×Dw)):List DictEntry:=@Option.rec (Dg×Dw) (fun _=>List DictEntry) [] (fun p=>dE p.1 p.2) o
noncomputable def w3o(o:Option (Dg×Dw)):Bool:=@Option.rec (Dg×Dw) (fun _=>Bool) false (fun p=>p.2.w3) o
noncomputable def w4o(o:Option (Dg×Dw)):Bool:=@Option.rec (Dg×Dw) (fun _=>Bool) false (fun p=>p.2.w4) o
noncomputable def dlC(kt:KT)(F:Df)(it k1 k2:Addr):Code:=loopK kt 933 4 it (envK kt 933 F.loc [(signS,k1),(rowsS,k2)])
noncomputable def cDs(kt:KT)(F:Df)(it k1 k2:Addr)(down ib hl hh:Bool)(lo hi:Option (Addr×Value))(al:List DictEntry)(be:(Nat→Nat)→List DictEntry)(pre:List (Addr×Obj))(post:(Nat→Nat)→List Obj)(new:(Nat→Nat)→List Obj):Con:=
 ⟨dlC kt F it k1 k2,(F.loc,frmObj (F.es down ib hl hh lo hi al).toArray (9+al.length))::pre,fun _=>.none,fun X=>frmObj (F.es down ib hl hh lo hi (be X)).toArray (9+(be X).length)::post X,new,4,none,false,false⟩
structure Bd where
 a:Addr
 p:Pv
 t:Tok
 r:Int
noncomputable def Bd.v(b:Bd):Addr×Value:=(b.a,b.p.val b.t)
@[elab_as_elim] theorem o2{p:Option Bd→Option Bd→Prop}(lo hi:Option Bd)(a:p none none)(b:∀y,p none (some y))(c:∀x,p (some x) none)(d:∀x y,p (some x) (some y)):p lo hi:=by
 cases lo<;>cases hi
 ·exact a
 ·exact b _
 ·exact c _
 ·exact d _ _
@[elab_as_elim] theorem bqE{p:Option Bd→Prop}(o:Option Bd)(h0:p none)(h1:∀a t r,p (some ⟨a,.n,t,r⟩))(h2:∀a i t r,p (some ⟨a,.i i,t,r⟩))(h3:∀a s t r,p (some ⟨a,.s s,t,r⟩)):p o:=by
 rcases o with _|⟨a,_|i|s,t,r⟩
 ·exact h0
 ·exact h1 a t r
 ·exact h2 a i t r
 ·exact h3 a s t r
@[elab_as_elim] theorem cfE{p:Bool→Bool→Bool→Prop}(c fl e:Bool)(h1:∀fl e,p true fl e)(h2:∀e,p false false e)(h3:p false true true)(h4:p false true false):p c fl e:=by
 cases c
 ·cases fl
  ·exact h2 e
  ·cases e
   ·exact h4
   ·exact h3
 ·exact h1 fl e
noncomputable def sdB{α:Type}(sd:Bool)(a b:α):α:=@Bool.rec (fun _=>α) a b sd
noncomputable def cmC(sd:Bool)(sg rk:Int)(b:Bd):Bool:=@Bool.rec (fun _=>Bool) (decide (rk>sg*b.r)) (decide (rk<sg*b.r)) sd
noncomputable def ansB(b:Option Bd)(c fl e:Bool):Bool:=@Option.rec Bd (fun _=>Bool) true (fun _=>or c (and fl e)) b
noncomputable def cmF(sd:Bool)(rk k:Int)(c:Bool):Fam:=@Bool.rec (fun _=>Fam) (icmp "int.__gt__" rk k c) (icmp "int.__lt__" rk k c) sd
noncomputable def daF(sd:Bool)(sg rk:Int)(b:Option Bd)(c fl e:Bool):List Fam:=@Option.rec Bd (fun _=>List Fam) [] (fun b=>Frk b.p.val b.r::iop "int.__mul__" sg b.r (sg*b.r)::cmF sd rk (sg*b.r) c::@Bool.rec (fun _=>List Fam) (@Bool.rec (fun _=>List Fam) [] [Frk b.p.val b.r,iop "int.__mul__" sg b.r (sg*b.r),icmp "int.__eq__" rk (sg*b.r) e] fl) [] c) b
noncomputable def daS(x c fl:Bool):Nat:=@Bool.rec (fun _=>Nat) 0x10101 (@Bool.rec (fun _=>Nat) (@Bool.rec (fun _=>Nat) (k_dP 0x101010100) (k_dP 0x1010100010001000300030003030301000201010100) fl) (k_dP 0x1010100) c) x
section
variable{w:World}{P:Params}{b1 b2:Bool}(hP:w.params=parT P b1 b2)(nt:Nat)
include hP
theorem ln_ok(it l:Addr)(vs:List Value)(hl:vs.length≤4)(e i:Nat)(v:Value)(hv:vs[i]?=some v):CO w P b1 b2 nt (cLn it l vs.toArray e i v):=by
 obtain⟨hi,rfl⟩:=List.getElem?_eq_some_iff.mp hv
 have e0:vs[i]=nthD .none vs i:=by rw[nthD_eq,List.getD_eq_getElem?_getD,hv];rfl
 rw[e0]
 exact ko hP 1 [] [] 26 0x101020101 (cs:=[]) fn0 (h:=by
  refine lrE vs i hl hi ?_ ?_ ?_ ?_ ?_ ?_ ?_ ?_ ?_ ?_<;>intros<;>kernel_rfl)
omit hP in
theorem daF_ok{sg:Int}(hs:SgOk sg){rk:Int}{sd:Bool}{b:Option Bd}(H:∀x,b=some x→∀t,CO w P b1 b2 nt (cRk (x.p.val t) x.r)){c fl e:Bool}(hc:∀x,b=some x→cmC sd sg rk x=c)(he:∀x,b=some x→(rk==sg*x.r)=e):AllOk pw w (Kq P b1 b2) nt (daF sd sg rk b c fl e):=by
 rcases b with _|x
 ·exact .nil
 ·refine .cons (fun _ _ _=>H x rfl _) (.cons (imul_ok (hs.mul _) rfl) (.cons ?_ ?_))
  ·cases sd
   ·exact igt_ok (hc x rfl)
   ·exact ilt_ok (hc x rfl)
  ·cases c
   ·cases fl
    ·exact .nil
    ·exact .cons (fun _ _ _=>H x rfl _) (.cons (imul_ok (hs.mul _) rfl) (.cons (ieq_ok (he x rfl)) .nil))
   ·exact .nil
section
variable(F:Df)(it k1 k2:Addr)(o:Option (Dg×Dw))
include F it k1 k2 o
theorem dh_ok(down ib hl hh:Bool)(lo hi:Option (Addr×Value))(tu:Addr)(ps:Array Value)(pe m:Nat)(rk:Int)(j:Nat)(rt rw:Tok)(Hn:CO w P b1 b2 nt (cLn it F.pl ps pe m (.ref tu))):TO w P b1 b2 nt (hdT (dlC (Kq P b1 b2) F it k1 k2) it) (cDs (Kq P b1 b2) F it k1 k2 down ib hl hh lo hi (dEo o) (fun X=>dS o 2 ⟨hS P d_rankS,hS P d_rowidS,0,0,X 0,X 1,0,0⟩ ⟨rk,rt,(j+1:Nat),rw,w3o o,w4o o⟩) [(it,litObj F.pl m),(F.pl,lstObj ps pe),(tu,tupObj #[.int rk rt,.int (j+1:Nat) rw])] (fun _=>[litObj F.pl (m+1),lstObj ps pe,tupObj #[.int rk rt,.int (j+1:Nat) rw]]) (fun _=>[])):=
 kb hP 4 [] (fun U=>@Option.rec (Dg×Dw) (fun _=>List Wt) [.key 0 9,.key 0 10] (fun _=>[]) o) 87 (kq 7 0x2020101020002 (k_eq 0)) (cs:=[fun _ _ _=>cLn it F.pl ps pe m (.ref tu)]) (fc (fun _ _ _=>Hn) fn0) (h:=by
  refine o2E o ?_ ?_<;>intros<;>kernel_rfl)
theorem da_ok(down ib:Bool)(sg:Int)(tg:Tok)(hs:SgOk sg)(rk:Int)(sd:Bool)(b:Option Bd)(x:Bool)(hx:b.isSome=x)(fl fo:Bool)(ot:Option (Addr×Value))(H:∀x,b=some x→∀t,CO w P b1 b2 nt (cRk (x.p.val t) x.r))(c e:Bool)(hc:∀x,b=some x→cmC sd sg rk x=c)(he:∀x,b=some x→(rk==sg*x.r)=e)(g:Dg)(v:Dw):
  TO w P b1 b2 nt (slT (dlC (Kq P b1 b2) F it k1 k2) (sdB sd 0 1) 1) (cDs (Kq P b1 b2) F it k1 k2 down ib (sdB sd fl fo) (sdB sd fo fl) (sdB sd (b.map Bd.v) ot) (sdB sd ot (b.map Bd.v)) (dS o (sdB sd 2 3) g {v with w1:=rk}) (fun X=>dS o (sdB sd 3 4) (sdB sd {g with g3:=hS P d_aboveS,u3:=X 0} {g with g4:=hS P d_belowS,u4:=X 0}) (sdB sd {v with w1:=rk,w3:=ansB b c fl e} {v with w1:=rk,w4:=ansB b c fl e})) ((k1,cellObj (.int sg tg))::optO (b.map Bd.v)) (fun _=>cellObj (.int sg tg)::(optO (b.map Bd.v)).map (·.2)) (fun _=>[])):=
 kb hP 4 [] (fun U=>@Option.rec (Dg×Dw) (fun _=>List Wt) [.key 0 (sdB sd 11 12)] (fun _=>[]) o) 95 (daS x c fl) (cs:=daF sd sg rk b c fl e) (daF_ok nt hs H hc he) (h:=by
  subst hx
  refine bE sd ?_ ?_<;>refine o2E o ?_ ?_<;>intros<;>refine bqE b (by intros;kernel_rfl) ?_ ?_ ?_<;>intros<;>refine cfE c fl e ?_ ?_ ?_ ?_<;>intros<;>kernel_rfl)
section
variable(down ib hl hh:Bool)(lo hi:Option (Addr×Value))(j:Nat)(g:Dg)(v:Dw)
include down ib hl hh lo hi j g v
theorem di_tt(hw:v.w2=(j+1:Nat))(fs:Array Value)(hf:fs.size<1000)(fe:Nat)(ro ra:Addr)(vs:Array Value)(en:Nat)(p q:Pv)(tx ty:Tok)(hv:vs[j]?=some (.ref ra))(hj:j<100):TO w P b1 b2 nt (slT (dlC (Kq P b1 b2) F it k1 k2) 2 1) (cDs (Kq P b1 b2) F it k1 k2 down ib hl hh lo hi (dS o 4 g {v with w3:=true,w4:=true}) (fun _=>dS o 4 g {v with w3:=true,w4:=true}) [(F.fd,lstObj fs fe),(k2,cellObj (.ref ro)),(ro,lstObj vs en),(ra,tupObj #[p.val tx,q.val ty])] (fun X=>[lstObj (fs.push (.ref (X 0))) (fe+1),cellObj (.ref ro),lstObj vs en,tupObj #[p.val tx,q.val ty]]) (fun _=>[tupObj #[.int (j+1:Nat) v.x2,p.val tx,q.val ty]])):=by
 obtain⟨w1,x1,w2,x2,w3,w4⟩:=v
 cases hw
 exact kb hP 4 [5] (fun U=>[]) 100 (kq 12 0x10001030102020202010101 (k_M (k_f (kq 6 0x10001030005 (k_M (k_p 0x101020000)))))) (cs:=[iop "int.__sub__" (j+1:Nat) 1 (j:Nat),lget ro vs en (j:Nat) (.ref ra),iop "int.__sub__" (j+1:Nat) 1 (j:Nat),lget ro vs en (j:Nat) (.ref ra),lapp F.fd fs fe]) (fc (isub_ok (by omega)) (fc (lget_ok hv hj) (fc (isub_ok (by omega)) (fc (lget_ok hv hj) (fc (lapp_ok hf) fn0))))) (h:=by
  refine o2E o ?_ ?_<;>intros<;>refine pvE p ?_ ?_ ?_<;>intros<;>refine pvE q ?_ ?_ ?_<;>intros<;>kernel_rfl)
omit j in
theorem di_f(va vb:Bool)(hf:and va vb=false):TO w P b1 b2 nt (slT (dlC (Kq P b1 b2) F it k1 k2) 2 1) (cDs (Kq P b1 b2) F it k1 k2 down ib hl hh lo hi (dS o 4 g {v with w3:=va,w4:=vb}) (fun _=>dS o 4 g {v with w3:=va,w4:=vb}) [] (fun _=>[]) (fun _=>[])):=by
 cases va
 ·exact kb hP 4 [] (fun U=>[]) 25 0x1 (cs:=[]) fn0 (h:=by refine o2E o ?_ ?_<;>intros<;>kernel_rfl)
 ·cases vb
  ·exact kb hP 4 [] (fun U=>[]) 28 0x101 (cs:=[]) fn0 (h:=by refine o2E o ?_ ?_<;>intros<;>kernel_rfl)
  ·cases hf
end
end
end
end Mine
set_option maxHeartbeats 0
namespace Mine
open PySem PySem.W PySem.W.X PySem.Spec PySem.Calls PyProof.Rows
noncomputable def abvB(lo:Option Bd)(hl:Bool)(sg rk:Int):Bool:=match lo with
 |none=>true
 |some b=>decide (rk>sg*b.r)||(hl&&(rk==sg*b.r))
noncomputable def blwB(hi:Option Bd)(hh:Bool)(sg rk:Int):Bool:=match hi with
 |none=>true
 |some b=>decide (rk<sg*b.r)||(hh&&(rk==sg*b.r))
noncomputable def cDl(kt:KT)(F:Df)(it tu k1 k2 ro ra:Addr)(down ib hl hh:Bool)(lo hi:Option (Addr×Value))(sg:Int)(tg:Tok)(ps:Array Value)(pe m:Nat)(rk:Int)(j:Nat)(rt rw:Tok)(fs:Array Value)(fe:Nat)(vs:Array Value)(en:Nat)(xv yv:Value)(al:List DictEntry)(be:(Nat→Nat)→List DictEntry)(ap:Bool):Con:=
 ⟨dlC kt F it k1 k2,
  (F.loc,frmObj (F.es down ib hl hh lo hi al).toArray (9+al.length))::(it,litObj F.pl m)::(F.pl,lstObj ps pe)::(tu,tupObj #[.int rk rt,.int (j+1:Nat) rw])::(F.fd,lstObj fs fe)::(k1,cellObj (.int sg tg))::(k2,cellObj (.ref ro))::(ro,lstObj vs en)::(ra,tupObj #[xv,yv])::(optO lo++optO hi),fun _=>.none,
  fun X=>frmObj (F.es down ib hl hh lo hi (be (@Bool.rec (fun _=>Nat→Nat) X (fun i=>X (i+1)) ap))).toArray (9+(be (@Bool.rec (fun _=>Nat→Nat) X (fun i=>X (i+1)) ap)).length)::litObj F.pl (m+1)::lstObj ps pe::tupObj #[.int rk rt,.int (j+1:Nat) rw]::(@Bool.rec (fun _=>Obj) (lstObj fs fe) (lstObj (fs.push (.ref (X 0))) (fe+1)) ap)::cellObj (.int sg tg)::cellObj (.ref ro)::lstObj vs en::tupObj #[xv,yv]::(optO lo++optO hi).map (·.2),
  fun X=>@Bool.rec (fun _=>List Obj) [] [tupObj #[.int (j+1:Nat) rw,xv,yv]] ap,4,none,true,false⟩
noncomputable def dlL(F:Df)(it tu k1 k2 ro ra:Addr)(lo hi:Option (Addr×Value))(sg:Int)(tg:Tok)(ps:Array Value)(pe:Nat)(rk:Int)(j:Nat)(rt rw:Tok)(vs:Array Value)(en:Nat)(xv yv:Value)(m:Nat)(fr fo:Obj):List (Addr×Obj):=
 (F.loc,fr)::(it,litObj F.pl m)::(F.pl,lstObj ps pe)::(tu,tupObj #[.int rk rt,.int (j+1:Nat) rw])::(F.fd,fo)::(k1,cellObj (.int sg tg))::(k2,cellObj (.ref ro))::(ro,lstObj vs en)::(ra,tupObj #[xv,yv])::(optO lo++optO hi)
noncomputable def ixl(lo:Option Bd):List Nat:=match lo with|none=>[0,5]|some _=>[0,5,9]
noncomputable def ixh(lo hi:Option Bd):List Nat:=match hi with|none=>[0,5]|some _=>(match lo with|none=>[0,5,9]|some _=>[0,5,10])
theorem ixl_nd(lo:Option Bd):(ixl lo).Nodup:=match lo with|none=>(by decide:[0,5].Nodup)|some _=>(by decide:[0,5,9].Nodup)
theorem ixh_nd(lo hi:Option Bd):(ixh lo hi).Nodup:=match hi with|none=>(by decide:[0,5].Nodup)|some _=>(match lo with|none=>(by decide:[0,5,9].Nodup)|some _=>(by decide:[0,5,10].Nodup))
noncomputable def ixn(lo hi:Option Bd):List Nat:=match lo,hi with|none,none=>[9]|some _,some _=>[11]|_,_=>[10]
noncomputable def beD(P:Params)(o:Option (Dg×Dw))(rk:Int)(rt:Tok)(j:Nat)(rw:Tok)(va vb:Bool)(X:Nat→Nat):List DictEntry:=dS o 4 ⟨hS P d_rankS,hS P d_rowidS,hS P d_aboveS,hS P d_belowS,X 0,X 1,X 2,X 3⟩ ⟨rk,rt,(j+1:Nat),rw,va,vb⟩
theorem ans_lo(b:Option Bd)(fl:Bool)(sg rk:Int):∃c e,abvB b fl sg rk=ansB b c fl e∧(∀x,b=some x→cmC false sg rk x=c)∧∀x,b=some x→(rk==sg*x.r)=e:=by
 cases b with
 |none=>exact⟨true,true,rfl,fun _ h=>(nomatch h),fun _ h=>(nomatch h)⟩
 |some b=>exact⟨_,_,rfl,fun _ h=>by cases h;rfl,fun _ h=>by cases h;rfl⟩
theorem ans_hi(b:Option Bd)(fl:Bool)(sg rk:Int):∃c e,blwB b fl sg rk=ansB b c fl e∧(∀x,b=some x→cmC true sg rk x=c)∧∀x,b=some x→(rk==sg*x.r)=e:=by
 cases b with
 |none=>exact⟨true,true,rfl,fun _ h=>(nomatch h),fun _ h=>(nomatch h)⟩
 |some b=>exact⟨_,_,rfl,fun _ h=>by cases h;rfl,fun _ h=>by cases h;rfl⟩
section
variable{w:World}{P:Params}{b1 b2:Bool}(hP:w.params=parT P b1 b2)(nt:Nat)
include hP
theorem dl_ok(o:Option (Dg×Dw))(F:Df)(it tu k1 k2 ro ra:Addr)(down ib hl hh:Bool)(lo hi:Option Bd)(Hl:∀b,lo=some b→∀t,CO w P b1 b2 nt (cRk (b.p.val t) b.r))(Hh:∀b,hi=some b→∀t,CO w P b1 b2 nt (cRk (b.p.val t) b.r))(sg:Int)(tg:Tok)(hs:SgOk sg)(ps:Array Value)(pe m:Nat)(rk:Int)(j:Nat)(rt rw:Tok)(fs:Array Value)(hf:fs.size<1000)(fe:Nat)(vs:Array Value)(en:Nat)(p q:Pv)(tx ty:Tok)(Hn:CO w P b1 b2 nt (cLn it F.pl ps pe m (.ref tu)))(hv:vs[j]?=some (.ref ra))(hj:j<100):
  CO w P b1 b2 nt (cDl (Kq P b1 b2) F it tu k1 k2 ro ra down ib hl hh (lo.map Bd.v) (hi.map Bd.v) sg tg ps pe m rk j rt rw fs fe vs en (p.val tx) (q.val ty) (dEo o) (beD P o rk rt j rw (abvB lo hl sg rk) (blwB hi hh sg rk)) (and (abvB lo hl sg rk) (blwB hi hh sg rk))):=by
 obtain⟨ca,ea,ha,hca,hea⟩:=ans_lo lo hl sg rk
 obtain⟨cb,eb,hb',hcb,heb⟩:=ans_hi hi hh sg rk
 rw[ha,hb']
 have Ta:=fun g v=>da_ok hP nt F it k1 k2 o down ib sg tg hs rk false lo _ rfl hl hh (hi.map Bd.v) Hl ca ea hca hea g v
 have Tb:=fun g v=>da_ok hP nt F it k1 k2 o down ib sg tg hs rk true hi _ rfl hh hl (lo.map Bd.v) Hh cb eb hcb heb g v
 generalize ansB lo ca hl ea=va at Ta ⊢
 generalize ansB hi cb hh eb=vb at Tb ⊢
 intro A s R hr hp hR
 have S0:=Hs.start hp
 generalize hA0:List.map (fun(p:Addr×Obj)=>p.1) (Con.pre (cDl (Kq P b1 b2) F it tu k1 k2 ro ra down ib hl hh (lo.map Bd.v) (hi.map Bd.v) sg tg ps pe m rk j rt rw fs fe vs en (p.val tx) (q.val ty) (dEo o) (beD P o rk rt j rw va vb) (and va vb)))=A0 at S0
 have hb:(forBd (dlC (Kq P b1 b2) F it k1 k2)).drop 3=[]:=by kernel_rfl
 have hcd:dlC (Kq P b1 b2) F it k1 k2=.forLoop (forTg (dlC (Kq P b1 b2) F it k1 k2)) (.ref it) (forBd (dlC (Kq P b1 b2) F it k1 k2)) [] (cEnv (dlC (Kq P b1 b2) F it k1 k2)):=by kernel_rfl
 have hq:(Code.forLoop (forTg (dlC (Kq P b1 b2) F it k1 k2)) (.ref it) (forBd (dlC (Kq P b1 b2) F it k1 k2)) [] (cEnv (dlC (Kq P b1 b2) F it k1 k2))).quiet=true:=rfl
 have S0:Hs (Kq P b1 b2) nt s.heap A0 (dlL F it tu k1 k2 ro ra (lo.map Bd.v) (hi.map Bd.v) sg tg ps pe rk j rt rw vs en (p.val tx) (q.val ty) m (frmObj (F.es down ib hl hh (lo.map Bd.v) (hi.map Bd.v) (dEo o)).toArray (9+List.length (dEo o))) (lstObj fs fe)) s.heap:=S0
 refine S0.turn (dh_ok hP nt F it k1 k2 o down ib hl hh (lo.map Bd.v) (hi.map Bd.v) tu ps pe m rk j rt rw Hn) rfl hcd hq hr (Nat.le_of_ble_eq_true rfl) [0,1,2,3] (by exact o2 lo hi (by kernel_rfl) (fun _=>by kernel_rfl) (fun _=>by kernel_rfl) fun _ _=>by kernel_rfl) (by decide) (fun _=>by exact o2 lo hi (Nat.le_of_ble_eq_true rfl) (fun _=>Nat.le_of_ble_eq_true rfl) (fun _=>Nat.le_of_ble_eq_true rfl) fun _ _=>Nat.le_of_ble_eq_true rfl) (fun _ e=>nomatch e) (fun X1=>dlL F it tu k1 k2 ro ra (lo.map Bd.v) (hi.map Bd.v) sg tg ps pe rk j rt rw vs en (p.val tx) (q.val ty) (m+1) (frmObj (F.es down ib hl hh (lo.map Bd.v) (hi.map Bd.v) (dS o 2 ⟨hS P d_rankS,hS P d_rowidS,0,0,X1 0,X1 1,0,0⟩ ⟨rk,rt,(j+1:Nat),rw,w3o o,w4o o⟩)).toArray (9+List.length (dS o 2 ⟨hS P d_rankS,hS P d_rowidS,0,0,X1 0,X1 1,0,0⟩ ⟨rk,rt,(j+1:Nat),rw,w3o o,w4o o⟩))) (lstObj fs fe)) (fun _=>by exact o2 lo hi (by kernel_rfl) (fun _=>by kernel_rfl) (fun _=>by kernel_rfl) fun _ _=>by kernel_rfl) fun X1 h1 t1 S1=> ?_
 refine own_cut (forBd (dlC (Kq P b1 b2) F it k1 k2)) 0 1 ?_
 refine S1.blk (Ta ⟨hS P d_rankS,hS P d_rowidS,0,0,X1 0,X1 1,0,0⟩ ⟨rk,rt,(j+1:Nat),rw,w3o o,w4o o⟩) rfl hr (Nat.le_of_ble_eq_true rfl) (ixl lo) (by exact o2 lo hi (by kernel_rfl) (fun _=>by kernel_rfl) (fun _=>by kernel_rfl) fun _ _=>by kernel_rfl) (ixl_nd lo) (fun _=>by exact o2 lo hi (Nat.le_of_ble_eq_true rfl) (fun _=>Nat.le_of_ble_eq_true rfl) (fun _=>Nat.le_of_ble_eq_true rfl) fun _ _=>Nat.le_of_ble_eq_true rfl) (fun _ e=>nomatch e) (fun X2=>dlL F it tu k1 k2 ro ra (lo.map Bd.v) (hi.map Bd.v) sg tg ps pe rk j rt rw vs en (p.val tx) (q.val ty) (m+1) (frmObj (F.es down ib hl hh (lo.map Bd.v) (hi.map Bd.v) (dS o 3 ⟨hS P d_rankS,hS P d_rowidS,hS P d_aboveS,0,X1 0,X1 1,X2 0,0⟩ ⟨rk,rt,(j+1:Nat),rw,va,w4o o⟩)).toArray (9+List.length (dS o 3 ⟨hS P d_rankS,hS P d_rowidS,hS P d_aboveS,0,X1 0,X1 1,X2 0,0⟩ ⟨rk,rt,(j+1:Nat),rw,va,w4o o⟩))) (lstObj fs fe)) (fun _=>by exact o2 lo hi (by kernel_rfl) (fun _=>by kernel_rfl) (fun _=>by kernel_rfl) fun _ _=>by kernel_rfl) fun X2 h2 t2 S2=> ?_
 refine own_cut (forBd (dlC (Kq P b1 b2) F it k1 k2)) 1 1 ?_
 refine S2.blk (Tb ⟨hS P d_rankS,hS P d_rowidS,hS P d_aboveS,0,X1 0,X1 1,X2 0,0⟩ ⟨rk,rt,(j+1:Nat),rw,va,w4o o⟩) rfl hr (Nat.le_of_ble_eq_true rfl) (ixh lo hi) (by exact o2 lo hi (by kernel_rfl) (fun _=>by kernel_rfl) (fun _=>by kernel_rfl) fun _ _=>by kernel_rfl) (ixh_nd lo hi) (fun _=>by exact o2 lo hi (Nat.le_of_ble_eq_true rfl) (fun _=>Nat.le_of_ble_eq_true rfl) (fun _=>Nat.le_of_ble_eq_true rfl) fun _ _=>Nat.le_of_ble_eq_true rfl) (fun _ e=>nomatch e) (fun X3=>dlL F it tu k1 k2 ro ra (lo.map Bd.v) (hi.map Bd.v) sg tg ps pe rk j rt rw vs en (p.val tx) (q.val ty) (m+1) (frmObj (F.es down ib hl hh (lo.map Bd.v) (hi.map Bd.v) (dS o 4 ⟨hS P d_rankS,hS P d_rowidS,hS P d_aboveS,hS P d_belowS,X1 0,X1 1,X2 0,X3 0⟩ ⟨rk,rt,(j+1:Nat),rw,va,vb⟩)).toArray (9+List.length (dS o 4 ⟨hS P d_rankS,hS P d_rowidS,hS P d_aboveS,hS P d_belowS,X1 0,X1 1,X2 0,X3 0⟩ ⟨rk,rt,(j+1:Nat),rw,va,vb⟩))) (lstObj fs fe)) (fun _=>by exact o2 lo hi (by kernel_rfl) (fun _=>by kernel_rfl) (fun _=>by kernel_rfl) fun _ _=>by kernel_rfl) fun X3 h3 t3 S3=> ?_
 refine own_cut (forBd (dlC (Kq P b1 b2) F it k1 k2)) 2 1 ?_
 cases hab:and va vb with
 |false=>
  rw[hab]at hR hA0
  refine S3.blk (di_f hP nt F it k1 k2 o down ib hl hh (lo.map Bd.v) (hi.map Bd.v) ⟨hS P d_rankS,hS P d_rowidS,hS P d_aboveS,hS P d_belowS,X1 0,X1 1,X2 0,X3 0⟩ ⟨rk,rt,(j+1:Nat),rw,va,vb⟩ va vb hab) rfl hr (Nat.le_of_ble_eq_true rfl) [0] (by exact o2 lo hi (by kernel_rfl) (fun _=>by kernel_rfl) (fun _=>by kernel_rfl) fun _ _=>by kernel_rfl) (by decide) (fun _=>by exact o2 lo hi (Nat.le_of_ble_eq_true rfl) (fun _=>Nat.le_of_ble_eq_true rfl) (fun _=>Nat.le_of_ble_eq_true rfl) fun _ _=>Nat.le_of_ble_eq_true rfl) (fun _ e=>nomatch e) (fun X4=>dlL F it tu k1 k2 ro ra (lo.map Bd.v) (hi.map Bd.v) sg tg ps pe rk j rt rw vs en (p.val tx) (q.val ty) (m+1) (frmObj (F.es down ib hl hh (lo.map Bd.v) (hi.map Bd.v) (dS o 4 ⟨hS P d_rankS,hS P d_rowidS,hS P d_aboveS,hS P d_belowS,X1 0,X1 1,X2 0,X3 0⟩ ⟨rk,rt,(j+1:Nat),rw,va,vb⟩)).toArray (9+List.length (dS o 4 ⟨hS P d_rankS,hS P d_rowidS,hS P d_aboveS,hS P d_belowS,X1 0,X1 1,X2 0,X3 0⟩ ⟨rk,rt,(j+1:Nat),rw,va,vb⟩))) (lstObj fs fe)) (fun _=>by exact o2 lo hi (by kernel_rfl) (fun _=>by kernel_rfl) (fun _=>by kernel_rfl) fun _ _=>by kernel_rfl) fun X4 h4 t4 S4=> ?_
  subst hA0
  have P4:=S4.post (X:=(fun i=>nthD 0 [X1 0,X1 1,X2 0,X3 0] i)) [] (by exact o2 lo hi (by kernel_rfl) (fun _=>by kernel_rfl) (fun _=>by kernel_rfl) fun _ _=>by kernel_rfl) (by exact o2 lo hi (by kernel_rfl) (fun _=>by kernel_rfl) (fun _=>by kernel_rfl) fun _ _=>by kernel_rfl) (by exact o2 lo hi (by kernel_rfl) (fun _=>by kernel_rfl) (fun _=>by kernel_rfl) fun _ _=>by kernel_rfl)
  show wpOwn _ _ _ (execs ((forBd (dlC (Kq P b1 b2) F it k1 k2)).drop 3) _) _ _ _
  rw[hb,execs]
  exact y_pure _ _ _ _ _ _ _ _ _ (hR _ h4 t4 P4)
 |true=>
  obtain⟨rfl,rfl⟩:va=true∧vb=true:=by revert hab;cases va<;>cases vb<;>decide
  refine S3.blk (di_tt hP nt F it k1 k2 o down ib hl hh (lo.map Bd.v) (hi.map Bd.v) j ⟨hS P d_rankS,hS P d_rowidS,hS P d_aboveS,hS P d_belowS,X1 0,X1 1,X2 0,X3 0⟩ ⟨rk,rt,(j+1:Nat),rw,true,true⟩ rfl fs hf fe ro ra vs en p q tx ty hv hj) rfl hr (Nat.le_of_ble_eq_true rfl) [0,4,6,7,8] (by exact o2 lo hi (by kernel_rfl) (fun _=>by kernel_rfl) (fun _=>by kernel_rfl) fun _ _=>by kernel_rfl) (by decide) (fun _=>by exact o2 lo hi (Nat.le_of_ble_eq_true rfl) (fun _=>Nat.le_of_ble_eq_true rfl) (fun _=>Nat.le_of_ble_eq_true rfl) fun _ _=>Nat.le_of_ble_eq_true rfl) (fun _ e=>nomatch e) (fun X4=>dlL F it tu k1 k2 ro ra (lo.map Bd.v) (hi.map Bd.v) sg tg ps pe rk j rt rw vs en (p.val tx) (q.val ty) (m+1) (frmObj (F.es down ib hl hh (lo.map Bd.v) (hi.map Bd.v) (dS o 4 ⟨hS P d_rankS,hS P d_rowidS,hS P d_aboveS,hS P d_belowS,X1 0,X1 1,X2 0,X3 0⟩ ⟨rk,rt,(j+1:Nat),rw,true,true⟩)).toArray (9+List.length (dS o 4 ⟨hS P d_rankS,hS P d_rowidS,hS P d_aboveS,hS P d_belowS,X1 0,X1 1,X2 0,X3 0⟩ ⟨rk,rt,(j+1:Nat),rw,true,true⟩))) (lstObj (fs.push (.ref (X4 0))) (fe+1))++[(X4 0,tupObj #[.int (j+1:Nat) rw,p.val tx,q.val ty])]) (fun _=>by exact o2 lo hi (by kernel_rfl) (fun _=>by kernel_rfl) (fun _=>by kernel_rfl) fun _ _=>by kernel_rfl) fun X4 h4 t4 S4=> ?_
  subst hA0
  have P4:=S4.post (X:=(fun i=>nthD 0 [X4 0,X1 0,X1 1,X2 0,X3 0] i)) (ixn lo hi) (by exact o2 lo hi (by kernel_rfl) (fun _=>by kernel_rfl) (fun _=>by kernel_rfl) fun _ _=>by kernel_rfl) (by exact o2 lo hi (by kernel_rfl) (fun _=>by kernel_rfl) (fun _=>by kernel_rfl) fun _ _=>by kernel_rfl) (by exact o2 lo hi (by kernel_rfl) (fun _=>by kernel_rfl) (fun _=>by kernel_rfl) fun _ _=>by kernel_rfl)
  show wpOwn _ _ _ (execs ((forBd (dlC (Kq P b1 b2) F it k1 k2)).drop 3) _) _ _ _
  rw[hb,execs]
  exact y_pure _ _ _ _ _ _ _ _ _ (hR _ h4 t4 P4)
end
end Mine
namespace Mine
open PySem PySem.W PySem.W.X PySem.Spec PySem.Calls PyProof.Rows
noncomputable def iterT(iter:PySem.Expr)(pos:Pos)(env:Env):Sem PySem.Fin:=
 W.R.bindR (standAt pos) fun _=>W.R.bindR (PySem.W.Fast.tw14044960220447912780 iter env) fun x=>W.R.bindR (PySem.W.Fast.tw7768414822394308030 iter env x) fun x=>W.R.bindR (standAt iter.pos) fun _=>W.R.bindR (PySem.W.Fast.tw17359229931016689406 [x] (PySem.W.Fast.tw8711993805878244202 x)) fun it=>.pure (.done (.ret it))
noncomputable def exhT(target:PySem.Expr)(it:Value)(env:Env):Sem PySem.Fin:=
 W.R.bindR (standAt target.pos) fun _=>W.R.bindR (W.R.onRaiseR (PySem.W.Fast.tw9404975358583537561 it) (fun _=>standAt {target.pos with line:=0})) fun o=>match o with
  |none=>.pure (.done (.ret .none))
  |some _=>.pure (.done .next)
section
variable{prog:Program}{w:World}{kt:KT}{nt:Nat}{A:Ar}{s:Shared}{C:Con}
theorem exh_own{R:Result→Shared→Prop}{target:PySem.Expr}{it:Value}{body:List Stmt}{env:Env}(hT:TOk prog w kt nt (exhT target it env) C){c:Code}(hcc:C.code=c)(hc:c=.forLoop target it body [] env){need:Nat}(hr:Rm need 0 A)(hne:C.need≤need)(hp:PreOk kt nt C s)
  (h:∀X h' t',PostOk C s.heap h' X→R (.ok .next) ⟨h',gensAfter C s.gens,s.drawn,t',s.os⟩):
  wpOwn (model prog w) A c (denote table c) (postC prog w A R) (postE R) s:=by
 subst hcc
 intro Γ p hcΓ hΓ
 have z:=hT A s (fun r s'=>match r with|.ok (.ret _)=>R (.ok .next) s'|_=>False) (hr.le hne) hp (fun X h' t' P=>h X h' t' P) Γ p hcΓ hΓ
 unfold exhT at z
 rw[bindR_wp]at z
 rw[hc]
 show Sem.wp _ Γ ((standAt target.pos >>= fun _=>(pyNext it).onRaise (fun _=>standAt {target.pos with line:=0}) >>= fun o=>match o with
  |none=>again (.block [] env)
  |some v=>letOwnedTupleGo target it v >>= fun _=>assign target env v >>= fun _=>execs body env >>= fun f=>match f with
   |.next|.cont=>again (.forLoop target it body [] env)
   |.brk=>pure (.done .next)
   |.ret v=>pure (.done (.ret v))).onRaise (fun x=>do noteFrame x env;theTreesLotGoes x)) _ _ p s
 rw[Sem.wp_onRaise,Sem.wp_bind']
 refine Sem.wp_mono _ _ _ (fun _ p1 s1 z=> ?_) (fun _ _ _ q=>q.elim) p s z
 rw[bindR_wp,←PySem.W.R.onRaiseR_eq,←PySem.W.Fast.te9404975358583537561]at z
 rw[Sem.wp_bind']
 refine Sem.wp_mono _ _ _ (fun o p2 s2 z=> ?_) (fun _ _ _ q=>q.elim) p1 s1 z
 cases o with
 |some v=>exact False.elim z
 |none=>
  have z:R (.ok .next) s2:=z
  refine⟨rfl,y_code _ _ _ _ _ _ fun Γ' p' _ _=> ?_⟩
  show Sem.wp _ Γ' (((execs [] env).onRaise (fun x=>do noteFrame x env;theTreesLotGoes x)) >>= fun f=>(Sem.pure (Fin.done f):Sem PySem.Fin)) _ _ p' s2
  rw[Sem.wp_bind',Sem.wp_onRaise,execs]
  exact z
theorem for_own{target iter:PySem.Expr}{body:List Stmt}{pos:Pos}{env:Env}{Q:Flow→Shared→Prop}{E:Value→Shared→Prop}(hT:TOk prog w kt nt (iterT iter pos env) C){c:Code}(hcc:C.code=c){need:Nat}(hr:Rm need 0 A)(hne:C.need≤need)(hp:PreOk kt nt C s)
  (h:∀X h' t',PostOk C s.heap h' X→codeAny (model prog w) ((A.under c).mark none) (.forLoop target (C.val X) body [] env) (fun r s'=>r=.ok .next∧Q .next s') ⟨h',gensAfter C s.gens,s.drawn,t',s.os⟩):
  wpOwn (model prog w) A c (execs [.For target iter body [] pos] env) Q E s:=by
 subst hcc
 intro Γ p hcΓ hΓ
 have z:=hT A s (fun r s'=>match r with|.ok (.ret v)=>codeAny (model prog w) ((A.under C.code).mark none) (.forLoop target v body [] env) (fun r s'=>r=.ok .next∧Q .next s') s'|_=>False) (hr.le hne) hp (fun X h' t' P=>h X h' t' P) Γ p hcΓ hΓ
 unfold iterT at z
 rw[bindR_wp]at z
 rw[execs,arm_exec_For,Sem.wp_bind',Sem.wp_bind']
 refine Sem.wp_mono _ _ _ (fun _ p1 s1 z=> ?_) (fun _ _ _ q=>q.elim) p s z
 rw[bindR_wp,←PySem.W.Fast.te14044960220447912780]at z
 rw[Sem.wp_bind']
 refine Sem.wp_mono _ _ _ (fun x p2 s2 z=> ?_) (fun _ _ _ q=>q.elim) p1 s1 z
 rw[bindR_wp,←PySem.W.Fast.te7768414822394308030]at z
 rw[Sem.wp_bind']
 refine Sem.wp_mono _ _ _ (fun x p3 s3 z=> ?_) (fun _ _ _ q=>q.elim) p2 s2 z
 rw[bindR_wp]at z
 rw[Sem.wp_bind']
 refine Sem.wp_mono _ _ _ (fun _ p4 s4 z=> ?_) (fun _ _ _ q=>q.elim) p3 s3 z
 rw[bindR_wp,←PySem.W.Fast.te17359229931016689406,←PySem.W.Fast.te8711993805878244202]at z
 rw[Sem.wp_bind']
 refine Sem.wp_mono _ _ _ (fun it p5 s5 z=> ?_) (fun _ _ _ q=>q.elim) p4 s4 z
 have z:codeAny (model prog w) ((A.under C.code).mark none) (.forLoop target it body [] env) (fun r s'=>r=.ok .next∧Q .next s') s5:=z
 have g:=y_call Flow prog w A C.code (fun f s'=>f=.next∧Q .next s') (fun _ _=>False) s5 (.forLoop target it body [] env) none false [] (fun r=>match r with|.ok f=>.pure f|.error e=>.raise e) (by intro e;cases e)
  (fun Γ' p' h1 h2=>wpCode_mono (fun r s' q=>by
   obtain⟨rfl,q⟩:=q
   intro Γ'' p'' _ _
   exact⟨rfl,q⟩) (z Γ' p' h1 h2))
 unfold runOwn
 rw[Sem.wp_onRaise]
 refine Sem.wp_mono _ _ _ (fun f p6 s6 q=> ?_) ?_ p5 s5 (show Sem.wp (model prog w) Γ (PySem.run (.forLoop target it body [] env)) (fun f _ s'=>f=.next∧Q .next s') _ p5 s5 from g Γ p5 hcΓ hΓ)
 ·obtain⟨rfl,q⟩:=q
  rw[execs]
  exact q
 ·exact fun _ _ _ q=>q.elim
end
theorem oBg0{x0:Nat}{x1:Nat}(h0:(x0≤x1)):(x0≤(x1+1)):=by omega
theorem oBg1{x0:Nat}{x1:Nat}(h0:(¬(x0<x1))):(x1≤x0):=by omega
theorem oBg2{x0:Nat}{x1:Nat}{x2:Nat}(h0:(x0=x1)):(x0≤(x1+(1*x2))):=Nat.le_trans (Nat.le_of_eq h0) (Nat.le_add_right _ _)
theorem oBg3:((0+1)≤11):=by omega
theorem oBg4{x0:Nat}{x1:Nat}{x2:Nat}(h0:(¬(x0=x1)))(h1:(¬(((x1+1)≤x0)∧(x0<((x1+1)+x2))))):(¬((x1≤x0)∧(x0<(x1+(x2+1))))):=oSd91 h0 h1
theorem oBg5{x0:Nat}{x1:Nat}{x2:Nat}(h0:(((x0+1)≤x1)∧(x1<((x0+1)+x2)))):((x1-x0)=((x1-(x0+1))+1)):=oSd92 h0
theorem oBg6{x0:Nat}{x1:Nat}{x2:Nat}(h0:(((x0+1)≤x1)∧(x1<((x0+1)+x2)))):((x0≤x1)∧(x1<(x0+(x2+1)))):=oSd93 h0
theorem oBg7{x0:Nat}{x1:Nat}:((x0≤x0)∧(x0<(x0+(x1+1)))):=by omega
theorem oBg8{x0:Nat}{x1:Nat}:(¬(((x0+1)≤x0)∧(x0<((x0+1)+x1)))):=by omega
theorem oBg9{x0:Nat}{x1:Nat}:(¬((x0≤x1)∧(x1<(x0+0)))):=by omega
noncomputable def lhsA(u:Unit0)(o:Out):List Oh:=@Out.rec (fun _=>List Oh) (fun x _ ih=>x.l::ih) (fun _ _=>[.bad]) (fun c md κ s=>.b (mdOk md κ false)::.c c::endL u s.T s.gl) (fun _=>[.bad]) o
noncomputable def rhsA(u:Unit0)(c2:(Nat→Nat)→Code)(gl:List GenState)(o:Out):List Oh:=@Out.rec (fun _=>List Oh) (fun x _ ih=>x.r::ih) (fun _ _=>[]) (fun _ _ _ s=>.b true::.c (c2 (wit u s.T .none))::endR u (wit u s.T .none) gl) (fun _=>[]) o
theorem good_ofA{S:Sys}{u:Unit0}{c2:(Nat→Nat)→Code}{gl:List GenState}(hI:S.I.pre=u.C.pre.map (·.1))
  (hA:∀X h' t',PostOk u.C S.I.h₀ h' X→Mn S.B (c2 X) none .base (denote table (c2 X)) ⟨h',⟨glTo u.C gl⟩,S.B.d,t',S.B.os⟩):
  ∀o,lhsA u o=rhsA u c2 gl o→Good S o
 |.ob x o,h=>by
  have h:x.l::lhsA u o=x.r::rhsA u c2 gl o:=h
  injection h with h1 h2
  exact⟨Ob.ok_of h1,good_ofA hI hA o h2⟩
 |.stop n,h=>by cases h
 |.done r st,h=>by cases h
 |.again c md κ st,h=>by
  have h:(Oh.b (mdOk md κ false)::Oh.c c::endL u st.T st.gl)=(Oh.b true::Oh.c (c2 (wit u st.T .none))::endR u (wit u st.T .none) gl):=h
  simp only[List.cons.injEq,Oh.b.injEq,Oh.c.injEq]at h
  obtain⟨e1,e2,e3⟩:=h
  intro h' m D
  obtain⟨P,eg⟩:=end_post D hI e3
  rw[e2,eg]
  have:=hA _ _ st.t P
  unfold mdOk at e1
  split at e1
  ·exact this
  ·rename_i e;cases e
  ·cases e1
noncomputable def AOk(prog:Program)(w:World)(kt:KT)(nt:Nat)(C:Con)(c2:(Nat→Nat)→Code):Prop:=
 ∀(A:Ar)(s:Shared)(R:Result→Shared→Prop),Rm C.need 0 A→PreOk kt nt C s→
  (∀X h' t',PostOk C s.heap h' X→wpOwn (model prog w) A (c2 X) (denote table (c2 X)) (postC prog w A R) (postE R) ⟨h',gensAfter C s.gens,s.drawn,t',s.os⟩)→codeAny (model prog w) A C.code R s
section
variable{prog:Program}{w:World}{V:Par}{nt:Nat}
theorem aok_ok(E:EnvOk prog w V)(u:Unit0)(wf:(Nat→Sup)→List Wt)(c2:(Nat→Nat)→Code)(n sc:Nat)(cs:List Fam)(hc:∀C∈cs,FamOk prog w V.kt nt C)(hn:V.need=u.C.need)(hj:u.C.jump=false)
  (h:∀U z t gl,lhsA ⟨u.C,u.ni,wf U⟩ (evU V u n sc cs U z t gl)=rhsA ⟨u.C,u.ni,wf U⟩ c2 gl (evU V u n sc cs U z t gl)):AOk prog w V.kt nt u.C c2:=by
 intro A s R hA P hR
 let B:Bs:=⟨prog,w,A,R,[],fun _ _=>False,s.drawn,s.os⟩
 let S:Sys:=⟨V,B,nt,⟨s.heap,u.C.pre.map (·.1)⟩⟩
 have hB:BRm B V.need:=by rw[hn];exact⟨hA,hA.seg⟩
 have O:S.Ok:=⟨E.hprog,E.par,E.tree,E.alt,E.quiet,E.plain,hB⟩
 have hm:md0 u.C=none:=by unfold md0;rw[hj];rfl
 have hk:κ0 u.C=.base:=by unfold κ0;rw[hj];rfl
 have hA':∀X h' t',PostOk u.C S.I.h₀ h' X→Mn S.B (c2 X) none .base (denote table (c2 X)) ⟨h',⟨glTo u.C s.gens.toList⟩,S.B.d,t',S.B.os⟩:=fun X h' t' P'=>by
  have:=hR X h' t' P';rw[gensAfter_glTo]at this;exact this
 have same:∀U,Good S (layGo (fun T=>run V n u.C.code none .base (V.tree u.C.code) sc cs U T (lenB u.C.pre) s.heap.objs.size 0 s.toks 0 (glOf u.C s.gens.toList)) u.C.pre 0 .nil):=fun U=>by
  have z:=good_ofA (S:=S) (u:=⟨u.C,u.ni,wf U⟩) rfl hA' _ (h U s.heap.objs.size s.toks s.gens.toList)
  unfold evU at z
  rw[hm,hk]at z
  exact z
 have lay:∀(ps:List (Addr×Obj))(i:Nat)(T:LT),(∀U,Good S (layGo (fun T=>run V n u.C.code none .base (V.tree u.C.code) sc cs U T (lenB u.C.pre) s.heap.objs.size 0 s.toks 0 (glOf u.C s.gens.toList)) ps i T))→
   ∃T',(∀U,Good S (run V n u.C.code none .base (V.tree u.C.code) sc cs U T' (lenB u.C.pre) s.heap.objs.size 0 s.toks 0 (glOf u.C s.gens.toList)))∧(∀x,T'.get x=if i≤x∧x<i+ps.length then ps[x-i]? else T.get x):=by
  intro ps
  induction ps with
  |nil=>exact fun i T G=>⟨T,G,fun x=>by rw[if_neg];simp only[List.length_nil];exact oBg9⟩
  |cons p ps ih=>
   intro i T G
   have G:∀U,Good S (@Option.rec (Addr×Obj) (fun _=>Out) (.stop 57) (fun _=>layGo (fun T=>run V n u.C.code none .base (V.tree u.C.code) sc cs U T (lenB u.C.pre) s.heap.objs.size 0 s.toks 0 (glOf u.C s.gens.toList)) ps (i+1) (T.ins p.1 p.2 i)) ((T.ins p.1 p.2 i).get i)):=G
   cases q:(T.ins p.1 p.2 i).get i with
   |none=>have:=G U0;rw[q]at this;exact this.elim
   |some y=>
    rw[q]at G
    obtain⟨T',h1,h2⟩:=ih (i+1) (T.ins p.1 p.2 i) G
    have GI:=LT.get_ins p.1 p.2 T i (by rw[q];rfl)
    refine⟨T',h1,fun x=> ?_⟩
    rw[h2,GI]
    simp only[List.length_cons]
    by_cases hx:x=i
    ·subst hx
     rw[if_neg (by exact oBg8),if_pos rfl,if_pos (by exact oBg7),Nat.sub_self]
     rfl
    ·by_cases hr:i+1≤x∧x<i+1+ps.length
     ·rw[if_pos hr,if_pos (by exact oBg6 hr)]
      have:x-i=(x-(i+1))+1:=by exact oBg5 hr
      rw[this,List.getElem?_cons_succ]
     ·rw[if_neg hr,if_neg hx,if_neg (by exact oBg4 hx hr)]
 obtain⟨T',G,hT⟩:=lay u.C.pre 0 .nil same
 have D:=rep_start P hT
 rw[lenB_eq]at G
 have z:=run_sound O n u.C.code none .base (V.tree u.C.code) sc cs T' u.C.pre.length s.heap.objs.size 0 s.toks 0 (glOf u.C s.gens.toList) s.heap hc G D
 have es:(⟨s.heap,⟨glOf u.C s.gens.toList⟩,B.d,s.toks+0,B.os⟩:Shared)=s:=by
  rw[←glOf_pre P];rfl
 have z:Mn B u.C.code none .base (V.tree u.C.code) ⟨s.heap,⟨glOf u.C s.gens.toList⟩,B.d,s.toks+0,B.os⟩:=z
 rw[es]at z
 have z:wpOwn (model prog w) A u.C.code (V.tree u.C.code) (postC prog w A R) (postE R) s:=z
 refine y_code _ _ _ _ _ _ ?_
 cases q:isDef u.C.code with
 |false=>rw[←E.tree.1 _ q];exact z
 |true=>exact E.tree.2 _ q _ _ _ _ ((hA.under (E.plain _ (E.pdef _ q))).l (by exact oBg3)) P.top.2.1 z
end
section
variable{kt:KT}{nt:Nat}{h₀ h h':Heap}{A₀:List Addr}{L L' F:List (Addr×Obj)}{C:Con}{X:Nat→Nat}
theorem Hs.perm(S:Hs kt nt h₀ A₀ L h)(p:L.Perm L'):Hs kt nt h₀ A₀ L' h:=
 ⟨S.top,S.nz,S.grow,fun q hq=>S.own q (p.mem_iff.mpr hq),(p.map _).nodup_iff.mp S.nd,fun q hq=>S.old q (p.mem_iff.mpr hq),S.keep⟩
theorem Hs.sub(S:Hs kt nt h₀ A₀ L h)(p:L'.Sublist L):Hs kt nt h₀ A₀ L' h:=
 ⟨S.top,S.nz,S.grow,fun q hq=>S.own q (p.subset hq),S.nd.sublist (p.map _),fun q hq=>S.old q (p.subset hq),S.keep⟩
noncomputable def zpL(ps:List (Addr×Obj))(os:List Obj):List (Addr×Obj):=List.zipWith (fun(p:Addr×Obj) o=>(p.1,o)) ps os
theorem modL_mid(o:Obj)(p:Addr×Obj)(l:List (Addr×Obj)):∀acc:List (Addr×Obj),modL o (acc++p::l) acc.length=acc++(p.1,o)::l
 |[]=>rfl
 |q::acc=>by show q::modL o (acc++p::l) acc.length=_;rw[modL_mid o p l acc];rfl
theorem putL_range:∀(pre:List (Addr×Obj))(post:List Obj)(acc:List (Addr×Obj)),pre.length=post.length→putL (acc++pre++F) (List.range' acc.length pre.length) post=acc++zpL pre post++F
 |[],[],acc,_=>by unfold zpL;simp[putL]
 |p::pre,o::post,acc,h=>by
  have e:List.range' acc.length (pre.length+1)=acc.length::List.range' (acc.length+1) pre.length:=List.range'_succ ..
  rw[List.length_cons,e,putL,List.append_assoc,List.cons_append,modL_mid]
  have:=putL_range pre post (acc++[(p.1,o)]) (Nat.succ.inj h)
  rw[List.length_append,List.length_singleton]at this
  rw[show acc++(p.1,o)::(pre++F)=acc++[(p.1,o)]++pre++F by simp,this]
  unfold zpL
  simp
 |[],_::_,_,h=>nomatch h
 |_::_,[],_,h=>nomatch h
theorem Hs.stepP(S:Hs kt nt h₀ A₀ (C.pre++F) h)(hl:C.pre.length=(C.post X).length)(P:PostOk C h h' X):Hs kt nt h₀ A₀ (zpL C.pre (C.post X)++(F++nwL X (C.new X) 0)) h':=by
 have z:=S.step (is:=List.range' 0 C.pre.length) (C:=C) (X:=X) (h':=h') ?_ List.nodup_range' (Nat.le_of_eq hl) P
 ·have e:=putL_range (F:=F) C.pre (C.post X) [] hl
  simp only[List.nil_append,List.length_nil]at e
  rw[e,List.append_assoc]at z
  exact z
 ·apply List.ext_getElem?
  intro i
  rw[List.getElem?_map,List.getElem?_map]
  by_cases hi:i<C.pre.length
  ·rw[List.getElem?_range' hi]
   simp[List.getElem?_append_left hi,List.getElem?_eq_getElem hi]
  ·rw[List.getElem?_eq_none (by rw[List.length_range'];exact oBg1 hi),List.getElem?_eq_none (by exact oBg1 hi)]
   rfl
theorem Hs.preP(S:Hs kt nt h₀ A₀ (C.pre++F) h){s:Shared}(hs:s.heap=h)(hg:∀g,C.g=some g→s.gens=⟨g.1⟩):PreOk kt nt C s:=by
 subst hs
 refine⟨S.top,S.nz,fun p hp=>S.own p (List.mem_append_left _ hp),?_,hg⟩
 have:=S.nd
 rw[List.map_append]at this
 exact(List.nodup_append.mp this).1
end
section
variable{prog:Program}{w:World}{kt:KT}{nt:Nat}{h₀:Heap}{A₀:List Addr}{L F:List (Addr×Obj)}{C:Con}{A:Ar}{s:Shared}
theorem Hs.blkP(S:Hs kt nt h₀ A₀ L s.heap){b:List Stmt}{env:Env}(hT:TOk prog w kt nt (blkN b env) C){c:Code}(hc:C.code=c){need:Nat}(hr:Rm need 0 A)(hne:C.need≤need)(F:List (Addr×Obj))(hp:L.Perm (C.pre++F))(hl:∀X,C.pre.length=(C.post X).length)
  (hg:∀g,C.g=some g→s.gens=⟨g.1⟩) {Q:Flow→Shared→Prop} {E:Value→Shared→Prop}
  (h:∀X h' t',Hs kt nt h₀ A₀ (zpL C.pre (C.post X)++(F++nwL X (C.new X) 0)) h'→Q .next ⟨h',gensAfter C s.gens,s.drawn,t',s.os⟩):wpOwn (model prog w) A c (execs b env) Q E s:=by
 subst hc
 have S:=S.perm hp
 exact blk_next hT (hr.le hne) (S.preP rfl hg) fun X h' t' P=>h X h' t' (S.stepP (hl X) P)
theorem Hs.retP(S:Hs kt nt h₀ A₀ L s.heap){b:List Stmt}{env:Env}(hT:TOk prog w kt nt (blkR b env) C){c:Code}(hc:C.code=c){need:Nat}(hr:Rm need 0 A)(hne:C.need≤need)(F:List (Addr×Obj))(hp:L.Perm (C.pre++F))(hl:∀X,C.pre.length=(C.post X).length)
  (hg:∀g,C.g=some g→s.gens=⟨g.1⟩) {Q:Flow→Shared→Prop} {E:Value→Shared→Prop}
  (h:∀X h' t',Hs kt nt h₀ A₀ (zpL C.pre (C.post X)++(F++nwL X (C.new X) 0)) h'→Q (.ret (C.val X)) ⟨h',gensAfter C s.gens,s.drawn,t',s.os⟩):wpOwn (model prog w) A c (execs b env) Q E s:=by
 subst hc
 have S:=S.perm hp
 exact blk_ret hT (hr.le hne) (S.preP rfl hg) fun X h' t' P=>h X h' t' (S.stepP (hl X) P)
theorem Hs.forP(S:Hs kt nt h₀ A₀ L s.heap){target iter:PySem.Expr}{body:List Stmt}{pos:Pos}{env:Env}(hT:TOk prog w kt nt (iterT iter pos env) C){c:Code}(hc:C.code=c){need:Nat}(hr:Rm need 0 A)(hne:C.need≤need)(F:List (Addr×Obj))(hp:L.Perm (C.pre++F))(hl:∀X,C.pre.length=(C.post X).length)
  (hg:∀g,C.g=some g→s.gens=⟨g.1⟩) {Q:Flow→Shared→Prop} {E:Value→Shared→Prop}
  (h:∀X h' t',Hs kt nt h₀ A₀ (zpL C.pre (C.post X)++(F++nwL X (C.new X) 0)) h'→wpOwn (model prog w) ((A.under c).mark none) (.forLoop target (C.val X) body [] env) (denote table (.forLoop target (C.val X) body [] env)) (postC prog w ((A.under c).mark none) (fun r s'=>r=.ok .next∧Q .next s')) (postE (fun r s'=>r=.ok .next∧Q .next s')) ⟨h',gensAfter C s.gens,s.drawn,t',s.os⟩):
  wpOwn (model prog w) A c (execs [.For target iter body [] pos] env) Q E s:=by
 subst hc
 have S:=S.perm hp
 exact for_own hT rfl hr hne (S.preP rfl hg) fun X h' t' P=>y_code _ _ _ _ _ _ (h X h' t' (S.stepP (hl X) P))
theorem Hs.exhP(S:Hs kt nt h₀ A₀ L s.heap){R:Result→Shared→Prop}{target:PySem.Expr}{it:Value}{body:List Stmt}{env:Env}(hT:TOk prog w kt nt (exhT target it env) C){c:Code}(hcc:C.code=c)(hc:c=.forLoop target it body [] env){need:Nat}(hr:Rm need 0 A)(hne:C.need≤need)(F:List (Addr×Obj))(hp:L.Perm (C.pre++F))(hl:∀X,C.pre.length=(C.post X).length)
  (hg:∀g,C.g=some g→s.gens=⟨g.1⟩) (h:∀X h' t',Hs kt nt h₀ A₀ (zpL C.pre (C.post X)++(F++nwL X (C.new X) 0)) h'→R (.ok .next) ⟨h',gensAfter C s.gens,s.drawn,t',s.os⟩):
  wpOwn (model prog w) A c (denote table c) (postC prog w A R) (postE R) s:=by
 have S:=S.perm hp
 exact exh_own hT hcc hc hr hne (S.preP rfl hg) fun X h' t' P=>h X h' t' (S.stepP (hl X) P)
theorem Hs.jmpP(S:Hs kt nt h₀ A₀ L s.heap){R:Result→Shared→Prop}(hJ:ConOk prog w kt nt C)(hj:C.jump=true)(hs:C.seg=false){c:Code}(hcc:C.code=c){need:Nat}(hr:Rm need 0 A)(hne:C.need≤need)(F:List (Addr×Obj))(hp:L.Perm (C.pre++F))(hl:∀X,C.pre.length=(C.post X).length)
  (hg:∀g,C.g=some g→s.gens=⟨g.1⟩) (h:∀X h' t',Hs kt nt h₀ A₀ (zpL C.pre (C.post X)++(F++nwL X (C.new X) 0)) h'→wpOwn (model prog w) A c (denote table c) (postC prog w A R) (postE R) ⟨h',gensAfter C s.gens,s.drawn,t',s.os⟩):
  wpOwn (model prog w) A c (denote table c) (postC prog w A R) (postE R) s:=by
 subst hcc
 have S:=S.perm hp
 unfold ConOk at hJ
 rw[hj,hs]at hJ
 exact hJ A s R (hr.le hne) (S.preP rfl hg) fun X h' t' P=>h X h' t' (S.stepP (hl X) P)
theorem Hs.postP{h':Heap}{X:Nat→Nat}(S:Hs kt nt h₀ (C.pre.map (·.1)) L h')(hp:L.Perm (zpL C.pre (C.post X)++(nwL X (C.new X) 0++F)))(hl:C.pre.length=(C.post X).length):PostOk C h₀ h' X:=by
 have S:=S.perm hp
 have lz:(zpL C.pre (C.post X)).length=C.pre.length:=by unfold zpL;rw[List.length_zipWith,←hl,Nat.min_self]
 have ln:∀(os:List Obj)(i:Nat),(nwL X os i).length=os.length:=by
  intro os
  induction os with
  |nil=>exact fun _=>rfl
  |cons o os ih=>exact fun i=>congrArg Nat.succ (ih (i+1))
 refine S.post (ks:=List.range' C.pre.length (C.new X).length) ?_ ?_ ?_
 ·rw[List.take_append_of_le_length (Nat.le_of_eq lz.symm),←lz,List.take_length];rfl
 ·apply List.ext_getElem?
  intro i
  rw[List.getElem?_map,List.getElem?_map]
  by_cases hi:i<(C.new X).length
  ·rw[List.getElem?_range' hi]
   have:(zpL C.pre (C.post X)++(nwL X (C.new X) 0++F))[C.pre.length+1*i]?=(nwL X (C.new X) 0)[i]?:=by
    rw[List.getElem?_append_right (by exact oBg2 lz),lz,Nat.one_mul,Nat.add_sub_cancel_left,List.getElem?_append_left (by rw[ln];exact hi)]
   show some ((zpL C.pre (C.post X)++(nwL X (C.new X) 0++F))[C.pre.length+1*i]?)=_
   rw[this,List.getElem?_eq_getElem (by rw[ln];exact hi)]
   rfl
  ·rw[List.getElem?_eq_none (by rw[List.length_range'];exact oBg1 hi),List.getElem?_eq_none (by rw[ln];exact oBg1 hi)]
   rfl
 ·have key:∀(n a:Nat),C.pre.length≤a→niB (lenB C.pre) (List.range' a n)=true:=by
   intro n
   induction n with
   |zero=>exact fun _ _=>rfl
   |succ n ih=>
    intro a ha
    rw[List.range'_succ]
    show andB (Nat.ble (lenB C.pre) a) (andB (notB (memB a (List.range' (a+1) n))) (niB (lenB C.pre) (List.range' (a+1) n)))=true
    rw[ih (a+1) (by exact oBg0 ha)]
    have h1:Nat.ble (lenB C.pre) a=true:=by rw[lenB_eq];exact Nat.ble_eq_true_of_le ha
    have h2:memB a (List.range' (a+1) n)=false:=by
     cases q:memB a (List.range' (a+1) n)with
     |false=>rfl
     |true=>
      have:=(memB_iff _ _).mp q
      rw[List.mem_range']at this
      omega
    rw[h1,h2];rfl
  exact key _ _ (Nat.le_refl _)
end
theorem ka{w:World}{P:Params}{b1 b2:Bool}(hP:w.params=parT P b1 b2){nt:Nat}{C:Con}{c2:(Nat→Nat)→Code}(need:Nat)(ni:List Nat)(wf:(Nat→Sup)→List Wt)(n sc:Nat){cs:List Fam}(hc:∀C∈cs,FamOk pw w (Kq P b1 b2) nt C)
  (hn:need=C.need:=by exact rfl) (hj:C.jump=false:=by exact rfl) (h:∀U z t gl,lhsA ⟨C,ni,wf U⟩ (evU (VB (Kq P b1 b2) P b2 need) ⟨C,ni,[]⟩ n sc cs U z t gl)=rhsA ⟨C,ni,wf U⟩ c2 gl (evU (VB (Kq P b1 b2) P b2 need) ⟨C,ni,[]⟩ n sc cs U z t gl):=by intro U z t gl;kernel_rfl):
  AOk pw w (Kq P b1 b2) nt C c2:=aok_ok (env_okB hP need) ⟨C,ni,[]⟩ wf c2 n sc cs hc hn hj h
noncomputable def funcK(kt:KT)(f:Nat)(env:Env):Code:=match(fdK kt f).body with
 |.stmts b=>.func b env
 |.expr e=>.expr e env
noncomputable def stC(c:Code)(i:Nat):Stmt:=nthD (.Pass default) (forBd c) i
noncomputable def forIt(s:Stmt):PySem.Expr:=match s with
 |.For _ it _ _ _=>it
 |_=>.Name ⟨#[]⟩ default
noncomputable def forPos(s:Stmt):Pos:=match s with
 |.For _ _ _ _ p=>p
 |_=>default
noncomputable def itT(c:Code)(i:Nat):Sem PySem.Fin:=iterT (forIt (stC c i)) (forPos (stC c i)) (cEnv c)
noncomputable def exT(c:Code)(it:Addr):Sem PySem.Fin:=exhT (forTg c) (.ref it) (cEnv c)
end Mine
namespace Mine
open PySem PySem.W PySem.Spec PySem.Calls PyProof.Rows
noncomputable def plt(a b:Int×Int):Bool:=if a.1=b.1 then decide (a.2<b.2)else decide (a.1<b.1)
noncomputable def tupI(a:Int×Int)(t u:Tok):Obj:={cls:=.type "tuple",data:=.seq #[.int a.1 t,.int a.2 u] 0}
section
variable{prog:Program}{w:World}{A:Around}{E:Value→Shared→Prop}{s:Shared}{Q:Bool→Shared→Prop}
theorem lt_tup{x y:Addr}{a b:Int×Int}{t u t' u':Tok}(hx:s.heap.get? x=some (tupI a t u))(hy:s.heap.get? y=some (tupI b t' u'))(h:Q (plt a b) s):
  PySem.wpAny (model prog w) A (keyLt' (tuples' true) (.ref x) (.ref y)) Q E s:=by
 refine kat_lt hx rfl hy rfl ?_
 refine kat_cons (wpAny_eqBool_int (kat_go (fun e=>kat_yes (kat_cons (wpAny_eqBool_int (kat_go (fun e'=>kat_yes (kat_nil ?_)) fun e'=>kat_no ?_)))) fun e=>kat_no ?_))
 ·have e1:a.1=b.1:=by simpa using e
  have e2:a.2=b.2:=by simpa using e'
  have:plt a b=false:=by unfold plt;rw[if_pos e1];simp[e2]
  rw[this]at h;exact h
 ·have e1:a.1=b.1:=by simpa using e
  have:plt a b=decide (a.2<b.2):=by unfold plt;rw[if_pos e1]
  rw[this]at h
  refine kat_one _ _ ?_
  exact wpAny_lt_int h
 ·have e1:¬a.1=b.1:=by simpa using e
  have:plt a b=decide (a.1<b.1):=by unfold plt;rw[if_neg e1]
  rw[this]at h
  exact oneLt_int h
end
noncomputable def kasRun{α:Type}(n:Nat)(lt:Nat→Nat→Bool):KasT α→Option α
 |.ret a=>some a
 |.ask i j k=>if i<n∧j<n then kasRun n lt (k (lt i j))else none
theorem kasRun_wp{α:Type}{n:Nat}{lt:Nat→Nat→Bool}{cmp:Nat→Nat→(Bool→Shared→Prop)→Shared→Prop}{Q:α→Shared→Prop}{s:Shared}(hc:∀i j C,i<n→j<n→C (lt i j) s→cmp i j C s):
  ∀(t:KasT α)(a:α),kasRun n lt t=some a→Q a s→t.kasWp cmp Q s
 |.ret b,a,h,q=>by cases h;exact q
 |.ask i j k,a,h,q=>by
  unfold kasRun at h
  by_cases hij:i<n∧j<n
  ·rw[if_pos hij]at h
   exact hc i j _ hij.1 hij.2 (kasRun_wp hc (k (lt i j)) a h q)
  ·rw[if_neg hij]at h;cases h
noncomputable def rkLt(π:List Nat)(i j:Nat):Bool:=decide (π.getD i 0<π.getD j 0)
noncomputable def sortOk(n:Nat)(π:List Nat):Bool:=match kasRun n (rkLt π) (kas_sort n)with
 |some p=>(p.toList.map fun i=>π.getD i 0)==List.range n&&p.size==n&&p.toList.all (fun i=>decide (i<n))
 |none=>false
noncomputable def ins1(a:Nat):List Nat→List (List Nat)
 |[]=>[[a]]
 |b::l=>(a::b::l)::(ins1 a l).map (b:: ·)
noncomputable def perms:Nat→List (List Nat)
 |0=>[[]]
 |n+1=>(perms n).flatMap (ins1 n)
theorem sort_all:((List.range 5).all fun n=>(perms n).all fun π=>n<2||sortOk n π)=true:=by decide+kernel
theorem sort_perm{n:Nat}(hn:n≤4)(h2:2≤n){π:List Nat}(hπ:π∈perms n):∃p:Array Nat,kasRun n (rkLt π) (kas_sort n)=some p∧(p.toList.map fun i=>π.getD i 0)=List.range n∧p.size=n∧∀i∈p.toList,i<n:=by
 have h:=List.all_eq_true.mp (List.all_eq_true.mp sort_all n (List.mem_range.mpr (by omega))) π hπ
 have h:sortOk n π=true:=by
  rcases Bool.or_eq_true _ _ |>.mp h with h|h
  ·exact absurd (of_decide_eq_true h) (by omega)
  ·exact h
 unfold sortOk at h
 cases e:kasRun n (rkLt π) (kas_sort n)with
 |none=>rw[e]at h;cases h
 |some p=>
  rw[e]at h
  simp only[Bool.and_eq_true,beq_iff_eq,List.all_eq_true,decide_eq_true_eq]at h
  exact⟨p,rfl,h.1.1,h.1.2,h.2⟩
end Mine
set_option autoImplicit false
namespace Mine
open PySem PySem.W PySem.Spec PySem.Calls PyProof.Rows
section
variable{prog:Program}{w:World}{A:Around}{E:Value→Shared→Prop}{s:Shared}
noncomputable def preHeap(h:Heap)(a:Addr)(vs:List Value):Heap:=((h.update a (Obj.mapSeq fun _=> #[])).push (seqObj "tuple" vs.toArray 0)).push (seqObj "list" #[] 0)
theorem list_sort_tup{a:Addr}{vs:List Value}{n:Nat}{P:PySem.Fin→Shared→Prop}(ho:s.heap.get? a=some (seqObj "list" vs.toArray n))(h2:2≤vs.length)(h64:vs.length<64)(p:Array Nat)(hp:p.size=vs.length)
  (hk:∀Q:SortKind→Shared→Prop,Q (tuples' true) {s with heap:=preHeap s.heap a vs}→PySem.wpAny (model prog w) A (keyKind' vs.toArray) Q E {s with heap:=preHeap s.heap a vs})
  (hr:(kas_sort vs.length).kasWp (kas_cmp prog w A (tuples' true) (pairsOf vs)) (fun q s'=>q=p∧s'={s with heap:=preHeap s.heap a vs}) {s with heap:=preHeap s.heap a vs})
  (h:P (.done (.ret .none)) {s with heap:=sortedHeap s.heap a vs (List.toArray (p.toList.map fun i=>vs.getD i Value.none))}):
  PySem.wpAny (model prog w) A (Builtin.«list.sort» ⟨[.ref a],[]⟩) P E s:=by
 rw[list_sort_plain]
 have ha:a<s.heap.objs.size:=Heap.lt_size ho
 refine PySem.wpAny_bind (listItems_at ho rfl ?_)
 refine PySem.wpAny_bind (listUpdate_at ho rfl ?_ (by rw[List.size_toArray,sizeLine_eq];omega) (Nat.zero_le _))
 obtain⟨e1,ho1⟩:∃e1,(s.heap.update a (Obj.mapSeq fun _=> #[])).get? a=some (seqObj "list" #[] e1):=⟨_,get?_update_seq ho (fun _=> #[])⟩
 refine PySem.wpAny_bind (seqEpoch_at ho1 rfl ?_)
 refine PySem.wpAny_bind (wpAny_newTuple ?_ (by show vs.length≤_;rw[sizeLine_eq];omega))
 refine PySem.wpAny_bind (wpAny_newList ?_ (Nat.zero_le _))
 refine wpAny_holding ?_
 have ho6:(preHeap s.heap a vs).get? a=some (seqObj "list" #[] e1):=by
  unfold preHeap
  rw[Heap.get?_push_ne _ _ _ (by rw[size_push',Heap.size_update];exact Nat.ne_of_lt (Nat.lt_succ_of_lt ha)),Heap.get?_push_ne _ _ _ (by rw[Heap.size_update];exact Nat.ne_of_lt ha)]
  exact ho1
 show PySem.wpAny (model prog w) A _ P E {s with heap:=preHeap s.heap a vs}
 dsimp only
 have hn2:¬vs.toArray.size<2:=by rw[List.size_toArray];omega
 rw[if_neg hn2,if_neg hn2]
 refine PySem.wpAny_bind (hk _ ?_)
 have est:SortSt.mk' (tuples' true) (vs.toArray.zip vs.toArray) #[] 7 none=kas_st (tuples' true) (pairsOf vs) (List.toArray (List.range vs.length)):=by
  have e:=kas_range (pairsOf vs)
  rw[pairsOf_size]at e
  show SortSt.mk' (tuples' true) (pairsOf vs) #[] 7 none=SortSt.mk' (tuples' true) ((List.toArray (List.range vs.length)).map (kas_item (pairsOf vs))) #[] 7 none
  rw[e]
 have run:=kas_runs (E:=E) (Q:=fun _ st' s'=>arrOf st'=p.map (kas_item (pairsOf vs))∧failedOf st'=none∧s'={s with heap:=preHeap s.heap a vs})
  h2 h64 (fun p' st' s' a1 a2 a3 a4=>⟨by rw[←a4.1];exact a2,a3,a4.2⟩) hr
 rw[←est]at run
 refine PySem.wpAny_bind (PySem.wpAny_mono run ?_ fun _ _ e=>e)
 rintro⟨⟨⟩,st'⟩ s' ⟨har,hf,rfl⟩
 dsimp only
 have hout:(arrOf st').map (·.2)=List.toArray (p.toList.map fun i=>vs.getD i Value.none):=by
  apply Array.toList_inj.mp
  rw[har,Array.map_map,Array.toList_map]
  exact List.map_congr_left fun i _=>by show(kas_item (pairsOf vs) i).2=_;rw[kas_item_eq]
 have hsz:(List.toArray (p.toList.map fun i=>vs.getD i Value.none)).size=vs.length:=by rw[List.size_toArray,List.length_map,Array.length_toList,hp]
 rw[hout]
 refine PySem.wpAny_bind (seqEpoch_at ho6 rfl ?_)
 refine PySem.wpAny_bind (listUpdate_at ho6 rfl ?_ (Nat.zero_le _) (Nat.le_trans (Nat.le_of_eq hsz) (by rw[sizeLine_eq];omega)))
 rw[hf]
 simp only[bne_self_eq_false,Bool.false_eq_true,if_false]
 exact PySem.wpAny_pure h
noncomputable def srtHeap(h:Heap)(vs:List Value):Heap:=((h.push (seqObj "list" #[] 0)).update h.objs.size (Obj.mapSeq (· ++vs.toArray))).push (seqObj "list" vs.toArray 0)
theorem sorted_tup{l:Addr}{vs:List Value}{Q:Value→Shared→Prop}(hl:s.heap.IsList l vs.toArray)(h2:2≤vs.length)(h64:vs.length<64)(p:Array Nat)(hp:p.size=vs.length)
  (hk:∀(A:Around)(E:Value→Shared→Prop)(Q:SortKind→Shared→Prop),Q (tuples' true) {s with heap:=preHeap (srtHeap s.heap vs) (s.heap.objs.size+1) vs}→PySem.wpAny (model prog w) A (keyKind' vs.toArray) Q E {s with heap:=preHeap (srtHeap s.heap vs) (s.heap.objs.size+1) vs})
  (hr:∀A:Around,(kas_sort vs.length).kasWp (kas_cmp prog w A (tuples' true) (pairsOf vs)) (fun q s'=>q=p∧s'={s with heap:=preHeap (srtHeap s.heap vs) (s.heap.objs.size+1) vs}) {s with heap:=preHeap (srtHeap s.heap vs) (s.heap.objs.size+1) vs})
  (h:Q (.ref (s.heap.objs.size+1)) {s with heap:=sortedHeap (srtHeap s.heap vs) (s.heap.objs.size+1) vs (List.toArray (p.toList.map fun i=>vs.getD i Value.none))}):
  PySem.wpAny (model prog w) A (call (.builtin "sorted") [.ref l]) Q E s:=by
 refine Calls.call_function_entry kind_sorted plain_sorted entry_sorted (args_sorted1 _) ?_
 unfold Builtin.«sorted»
 refine PySem.wpAny_bind (m:=checkCount "sorted" 1 1 _) (PySem.wpAny_pure ?_)
 refine PySem.wpAny_bind (collect_list hl ?_ (by rw[sizeLine_eq];omega))
 refine PySem.wpAny_bind (wpAny_newList ?_ (by rw[sizeLine_eq];omega))
 have hsz:((s.heap.push (seqObj "list" #[] 0)).update s.heap.objs.size (Obj.mapSeq (· ++vs.toArray))).objs.size=s.heap.objs.size+1:=by
  rw[Heap.size_update,size_push']
 have hoL:(srtHeap s.heap vs).get? (s.heap.objs.size+1)=some (seqObj "list" vs.toArray 0):=by
  unfold srtHeap
  rw[←hsz];exact Heap.get?_push_size _ rfl
 show PySem.wpAny _ _ _ _ _ {s with heap:=srtHeap s.heap vs}
 rw[hsz]
 refine PySem.wpAny_bind (wpAny_holding (wpAny_call_entry slot_list_sort ⟨_,hoL,rfl⟩ entry_list_sort (list_sort_tup (s:={s with heap:=srtHeap s.heap vs}) hoL h2 h64 p hp (hk _ _) (hr _) ⟨_,rfl,?_⟩) (args_list_sort _)))
 exact PySem.wpAny_pure ⟨_,rfl,h⟩
theorem sorted_body{l:Addr}{vs:List Value}{P:PySem.Fin→Shared→Prop}(hl:s.heap.IsList l vs.toArray)(h2:2≤vs.length)(h64:vs.length<64)(p:Array Nat)(hp:p.size=vs.length)
  (hk:∀(A:Around)(E:Value→Shared→Prop)(Q:SortKind→Shared→Prop),Q (tuples' true) {s with heap:=preHeap (srtHeap s.heap vs) (s.heap.objs.size+1) vs}→PySem.wpAny (model prog w) A (keyKind' vs.toArray) Q E {s with heap:=preHeap (srtHeap s.heap vs) (s.heap.objs.size+1) vs})
  (hr:∀A:Around,(kas_sort vs.length).kasWp (kas_cmp prog w A (tuples' true) (pairsOf vs)) (fun q s'=>q=p∧s'={s with heap:=preHeap (srtHeap s.heap vs) (s.heap.objs.size+1) vs}) {s with heap:=preHeap (srtHeap s.heap vs) (s.heap.objs.size+1) vs})
  (h:P (.done (.ret (.ref (s.heap.objs.size+1)))) {s with heap:=sortedHeap (srtHeap s.heap vs) (s.heap.objs.size+1) vs (List.toArray (p.toList.map fun i=>vs.getD i Value.none))}):
  PySem.wpAny (model prog w) A (Builtin.«sorted» ⟨[.ref l],[]⟩) P E s:=by
 unfold Builtin.«sorted»
 refine PySem.wpAny_bind (m:=checkCount "sorted" 1 1 _) (PySem.wpAny_pure ?_)
 refine PySem.wpAny_bind (collect_list hl ?_ (by rw[sizeLine_eq];omega))
 refine PySem.wpAny_bind (wpAny_newList ?_ (by rw[sizeLine_eq];omega))
 have hsz:((s.heap.push (seqObj "list" #[] 0)).update s.heap.objs.size (Obj.mapSeq (· ++vs.toArray))).objs.size=s.heap.objs.size+1:=by
  rw[Heap.size_update,size_push']
 have hoL:(srtHeap s.heap vs).get? (s.heap.objs.size+1)=some (seqObj "list" vs.toArray 0):=by
  unfold srtHeap
  rw[←hsz];exact Heap.get?_push_size _ rfl
 show PySem.wpAny _ _ _ _ _ {s with heap:=srtHeap s.heap vs}
 rw[hsz]
 refine PySem.wpAny_bind (wpAny_holding (wpAny_call_entry slot_list_sort ⟨_,hoL,rfl⟩ entry_list_sort (list_sort_tup (s:={s with heap:=srtHeap s.heap vs}) hoL h2 h64 p hp (hk _ _) (hr _) ⟨_,rfl,?_⟩) (args_list_sort _)))
 exact PySem.wpAny_pure h
end
end Mine
set_option autoImplicit false
namespace Mine
open PySem PySem.W PySem.Spec PySem.Calls PyProof.Rows
theorem pre_get{h:Heap}{vs:List Value}{b:Addr}{o:Obj}(q:h.get? b=some o):(preHeap (srtHeap h vs) (h.objs.size+1) vs).get? b=some o:=by
 have hlt:b<h.objs.size:=Heap.lt_size q
 have hsz:((h.push (seqObj "list" #[] 0)).update h.objs.size (Obj.mapSeq (· ++vs.toArray))).objs.size=h.objs.size+1:=by rw[Heap.size_update,size_push']
 have h1:(srtHeap h vs).get? b=some o:=by
  unfold srtHeap
  rw[Heap.get?_push_ne _ _ _ (by rw[hsz];exact Nat.ne_of_lt (Nat.lt_succ_of_lt hlt)),Heap.get?_update_ne _ _ _ _ (Nat.ne_of_lt hlt),Heap.get?_push_ne _ _ _ (Nat.ne_of_lt hlt)]
  exact q
 have s1:(srtHeap h vs).objs.size=h.objs.size+2:=by unfold srtHeap;rw[size_push',hsz]
 unfold preHeap
 rw[Heap.get?_push_ne _ _ _ (by rw[size_push',Heap.size_update,s1];exact Nat.ne_of_lt (Nat.lt_succ_of_lt (Nat.lt_succ_of_lt (Nat.lt_succ_of_lt hlt)))),Heap.get?_push_ne _ _ _ (by rw[Heap.size_update,s1];exact Nat.ne_of_lt (Nat.lt_succ_of_lt (Nat.lt_succ_of_lt hlt))),Heap.get?_update_ne _ _ _ _ (Nat.ne_of_lt (Nat.lt_succ_of_lt hlt))]
 exact h1
section
variable{prog:Program}{w:World}{A:Around}{E:Value→Shared→Prop}
structure Tp where
 a:Addr
 k:Int×Int
 t:Tok
 u:Tok
theorem tups{h:Heap}:∀(l:List Tp),(∀x∈l,h.get? x.a=some (tupI x.k x.t x.u))→KatTups h (l.map fun x=>.ref x.a) (l.map fun x=>.int x.k.1 x.t)
 |[],_=>KatTups.nil
 |x::l,H=>KatTups.cons (H x (.head _)) rfl rfl rfl (tups l fun y hy=>H y (.tail _ hy))
theorem kind_tup{s:Shared}{l:List Tp}(hl:0<l.length)(H:∀x∈l,s.heap.get? x.a=some (tupI x.k x.t x.u)){Q:SortKind→Shared→Prop}(h:Q (tuples' true) s):
  PySem.wpAny (model prog w) A (keyKind' (l.map fun x=>Value.ref x.a).toArray) Q E s:=by
 refine kat_kind (T:=.type "int") (tups l H) (by rw[List.length_map];exact hl) (fun v hv=> ?_) rfl h
 obtain⟨x,_,rfl⟩:=List.mem_map.mp hv
 exact fun _ _ _ _ _ hq=>PySem.wpAny_pure hq
theorem run_tup{s:Shared}{l:List Tp}(h2:2≤l.length)(h4:l.length≤4)(H:∀x∈l,s.heap.get? x.a=some (tupI x.k x.t x.u)){π:List Nat}(hπ:π∈perms l.length)
  (ho:∀i j (hi:i<l.length) (hj:j<l.length),plt l[i].k l[j].k=rkLt π i j):
  ∃p:Array Nat,p.size=l.length∧(p.toList.map fun i=>π.getD i 0)=List.range l.length∧(∀i∈p.toList,i<l.length)∧
   ∀(A:Around),(kas_sort l.length).kasWp (kas_cmp prog w A (tuples' true) (pairsOf (l.map fun x=>Value.ref x.a))) (fun q s'=>q=p∧s'=s) s:=by
 obtain⟨p,e,e1,e2,e3⟩:=sort_perm h4 h2 hπ
 refine⟨p,e2,e1,e3,fun A=> ?_⟩
 refine kasRun_wp (n:=l.length) (lt:=rkLt π) (fun i j C hi hj hC=> ?_) _ p e ⟨rfl,rfl⟩
 unfold kas_cmp
 rw[kas_item_eq,kas_item_eq]
 have g:∀i (hi:i<l.length),(l.map fun x=>Value.ref x.a).getD i Value.none=.ref l[i].a:=fun i hi=>by
  rw[List.getD_eq_getElem?_getD,List.getElem?_map,List.getElem?_eq_getElem hi];rfl
 show PySem.wpAny _ _ (keyLt' (tuples' true) ((l.map fun x=>Value.ref x.a).getD i Value.none) ((l.map fun x=>Value.ref x.a).getD j Value.none)) _ _ _
 rw[g i hi,g j hj]
 refine lt_tup (H _ (List.getElem_mem hi)) (H _ (List.getElem_mem hj)) ?_
 rw[ho i j hi hj]
 exact hC
end
end Mine
set_option autoImplicit false
namespace Mine
open PySem PySem.W PySem.Spec PySem.Calls PyProof.Rows
section
variable{prog:Program}{w:World}{A:Around}{E:Value→Shared→Prop}{s:Shared}
theorem list_sort_small{a:Addr}{vs:List Value}{n:Nat}{P:PySem.Fin→Shared→Prop}(ho:s.heap.get? a=some (seqObj "list" vs.toArray n))(h2:vs.length<2)
  (h:P (.done (.ret .none)) {s with heap:=sortedHeap s.heap a vs vs.toArray}):
  PySem.wpAny (model prog w) A (Builtin.«list.sort» ⟨[.ref a],[]⟩) P E s:=by
 rw[list_sort_plain]
 have ha:a<s.heap.objs.size:=Heap.lt_size ho
 refine PySem.wpAny_bind (listItems_at ho rfl ?_)
 refine PySem.wpAny_bind (listUpdate_at ho rfl ?_ (by rw[List.size_toArray,sizeLine_eq];omega) (Nat.zero_le _))
 obtain⟨e1,ho1⟩:∃e1,(s.heap.update a (Obj.mapSeq fun _=> #[])).get? a=some (seqObj "list" #[] e1):=⟨_,get?_update_seq ho (fun _=> #[])⟩
 refine PySem.wpAny_bind (seqEpoch_at ho1 rfl ?_)
 refine PySem.wpAny_bind (wpAny_newTuple ?_ (by show vs.length≤_;rw[sizeLine_eq];omega))
 refine PySem.wpAny_bind (wpAny_newList ?_ (Nat.zero_le _))
 refine wpAny_holding ?_
 have ho6:(preHeap s.heap a vs).get? a=some (seqObj "list" #[] e1):=by
  unfold preHeap
  rw[Heap.get?_push_ne _ _ _ (by rw[size_push',Heap.size_update];exact Nat.ne_of_lt (Nat.lt_succ_of_lt ha)),Heap.get?_push_ne _ _ _ (by rw[Heap.size_update];exact Nat.ne_of_lt ha)]
  exact ho1
 show PySem.wpAny (model prog w) A _ P E {s with heap:=preHeap s.heap a vs}
 dsimp only
 have hn2:vs.toArray.size<2:=by rw[List.size_toArray];omega
 rw[if_pos hn2,if_pos hn2]
 refine PySem.wpAny_bind (PySem.wpAny_pure ?_)
 refine PySem.wpAny_bind (PySem.wpAny_pure ?_)
 dsimp only
 have hout:(arrOf (SortSt.mk' general' (vs.toArray.zip vs.toArray) #[] 7 none)).map (·.2)=vs.toArray:=by
  have e:arrOf (SortSt.mk' general' (vs.toArray.zip vs.toArray) #[] 7 none)=vs.toArray.zip vs.toArray:=rfl
  rw[e]
  match vs,h2 with
  |[],_=>simp
  |[x],_=>simp
  |_::_::_,h=>simp only[List.length_cons]at h;omega
 rw[hout]
 refine PySem.wpAny_bind (seqEpoch_at ho6 rfl ?_)
 refine PySem.wpAny_bind (listUpdate_at ho6 rfl ?_ (Nat.zero_le _) (by rw[List.size_toArray,sizeLine_eq];omega))
 simp only[bne_self_eq_false,Bool.false_eq_true,if_false]
 exact PySem.wpAny_pure h
theorem sorted_small{l:Addr}{vs:List Value}{P:PySem.Fin→Shared→Prop}(hl:s.heap.IsList l vs.toArray)(h2:vs.length<2)
  (h:P (.done (.ret (.ref (s.heap.objs.size+1)))) {s with heap:=sortedHeap (srtHeap s.heap vs) (s.heap.objs.size+1) vs vs.toArray}):
  PySem.wpAny (model prog w) A (Builtin.«sorted» ⟨[.ref l],[]⟩) P E s:=by
 unfold Builtin.«sorted»
 refine PySem.wpAny_bind (m:=checkCount "sorted" 1 1 _) (PySem.wpAny_pure ?_)
 refine PySem.wpAny_bind (collect_list hl ?_ (by rw[sizeLine_eq];omega))
 refine PySem.wpAny_bind (wpAny_newList ?_ (by rw[sizeLine_eq];omega))
 have hsz:((s.heap.push (seqObj "list" #[] 0)).update s.heap.objs.size (Obj.mapSeq (· ++vs.toArray))).objs.size=s.heap.objs.size+1:=by
  rw[Heap.size_update,size_push']
 have hoL:(srtHeap s.heap vs).get? (s.heap.objs.size+1)=some (seqObj "list" vs.toArray 0):=by
  unfold srtHeap
  rw[←hsz];exact Heap.get?_push_size _ rfl
 show PySem.wpAny _ _ _ _ _ {s with heap:=srtHeap s.heap vs}
 rw[hsz]
 refine PySem.wpAny_bind (wpAny_holding (wpAny_call_entry slot_list_sort ⟨_,hoL,rfl⟩ entry_list_sort (list_sort_small (s:={s with heap:=srtHeap s.heap vs}) hoL h2 ⟨_,rfl,?_⟩) (args_list_sort _)))
 exact PySem.wpAny_pure h
end
end Mine
set_option autoImplicit false
set_option maxHeartbeats 400000
namespace Mine
open PySem PySem.W PySem.W.X PySem.Spec PySem.Calls PyProof.Rows
noncomputable def SoOk(ks:List (Int×Int))(q:List Nat):Prop:=
 ∃π∈perms ks.length,(∀i j (hi:i<ks.length) (hj:j<ks.length),plt ks[i] ks[j]=rkLt π i j)∧(q.map fun i=>π.getD i 0)=List.range ks.length∧∀i∈q,i<ks.length
noncomputable def soArr(as:List Addr)(q:List Nat):Array Value:=(q.map fun i=>Value.ref (nthD 0 as i)).toArray
noncomputable def cSo(l:Addr)(ts:List Tp)(e:Nat)(q:List Nat):Con:=
 ⟨.builtin "sorted" ⟨[.ref l],[]⟩,(l,lstObj (ts.map fun x=>Value.ref x.a).toArray e)::ts.map (fun x=>(x.a,tupI x.k x.t x.u)),fun X=>.ref (X 0),fun _=>lstObj (ts.map fun x=>Value.ref x.a).toArray e::ts.map (fun x=>tupI x.k x.t x.u),fun X=>[lstObj (soArr (ts.map (·.a)) q) (X 1)],2,none,false,false⟩
noncomputable def tpsR(T:LT)(sc:Nat):List (Int×Int)→Nat→List Tp
 |[],_=>[]
 |k::ks,i=>⟨adrAt T (rd sc i),k,tkAt T (rd sc i) 0,tkAt T (rd sc i) 1⟩::tpsR T sc ks (i+1)
theorem tpsR_k(T:LT)(sc:Nat):∀(ks:List (Int×Int))(i:Nat),(tpsR T sc ks i).map (·.k)=ks
 |[],_=>rfl
 |k::ks,i=>by show k::(tpsR T sc ks (i+1)).map (·.k)=_;rw[tpsR_k T sc ks (i+1)]
noncomputable def FSo(ks:List (Int×Int))(q:List Nat):Fam:=fun _ T sc=>cSo (adrAt T (rd sc 0)) (tpsR T sc ks 1) (epOf (objAt T (rd sc 0))) q
theorem perms_nd:((List.range 5).all fun n=>(perms n).all fun π=>decide π.Nodup&&π.length==n)=true:=by decide+kernel
theorem perm_at{n:Nat}(hn:n≤4){π:List Nat}(h:π∈perms n):π.Nodup∧π.length=n:=by
 have:=List.all_eq_true.mp (List.all_eq_true.mp perms_nd n (List.mem_range.mpr (by omega))) π h
 simp only[Bool.and_eq_true,decide_eq_true_eq,beq_iff_eq]at this
 exact this
theorem nodup_at'{l:List Nat}(h:l.Nodup){i j:Nat}{hi:i<l.length}{hj:j<l.length}(e:l[i]=l[j]):i=j:=by
 have pw:=List.pairwise_iff_getElem.mp h
 apply Decidable.byContradiction
 intro hne
 rcases Nat.lt_or_gt_of_ne hne with q|q
 ·exact pw i j hi hj q e
 ·exact pw j i hj hi q e.symm
theorem so_one{n:Nat}(hn:n≤4){π:List Nat}(h:π∈perms n){q q':List Nat}(h1:(q.map fun i=>π.getD i 0)=List.range n)(h2:∀i∈q,i<n)(h1':(q'.map fun i=>π.getD i 0)=List.range n)(h2':∀i∈q',i<n):q=q':=by
 obtain⟨nd,hl⟩:=perm_at hn h
 have l1:q.length=n:=by have:=congrArg List.length h1;rwa [List.length_map,List.length_range]at this
 have l2:q'.length=n:=by have:=congrArg List.length h1';rwa [List.length_map,List.length_range]at this
 apply List.ext_getElem (by rw[l1,l2])
 intro i hi hi'
 have e1:π.getD q[i] 0=i:=by
  have:=congrArg (·[i]?) h1
  simp only[List.getElem?_map,List.getElem?_eq_getElem hi,Option.map_some,List.getElem?_range (show i<n by omega),Option.some.injEq]at this
  exact this
 have e2:π.getD q'[i] 0=i:=by
  have:=congrArg (·[i]?) h1'
  simp only[List.getElem?_map,List.getElem?_eq_getElem hi',Option.map_some,List.getElem?_range (show i<n by omega),Option.some.injEq]at this
  exact this
 have b1:=h2 _ (List.getElem_mem hi)
 have b2:=h2' _ (List.getElem_mem hi')
 rw[List.getD_eq_getElem?_getD,List.getElem?_eq_getElem (by omega)]at e1 e2
 have:π[q[i]]'(by omega)=π[q'[i]]'(by omega):=by
  simp only[Option.getD_some]at e1 e2
  rw[e1,e2]
 exact nodup_at' nd this
section
variable{w:World}{P:Params}{b1 b2:Bool}(nt:Nat)
theorem srt_facts{h:Heap}{vs:List Value}(out:Array Value):(sortedHeap (srtHeap h vs) (h.objs.size+1) vs out).objs.size=h.objs.size+4∧(∃n,(sortedHeap (srtHeap h vs) (h.objs.size+1) vs out).get? (h.objs.size+1)=some (seqObj "list" out n))∧
  ∀b o,h.get? b=some o→(sortedHeap (srtHeap h vs) (h.objs.size+1) vs out).get? b=some o:=by
 have hsz:((h.push (seqObj "list" #[] 0)).update h.objs.size (Obj.mapSeq (· ++vs.toArray))).objs.size=h.objs.size+1:=by
  rw[Heap.size_update,size_push']
 have hoL:(srtHeap h vs).get? (h.objs.size+1)=some (seqObj "list" vs.toArray 0):=by
  unfold srtHeap
  rw[←hsz];exact Heap.get?_push_size _ rfl
 have s1:(srtHeap h vs).objs.size=h.objs.size+2:=by unfold srtHeap;rw[size_push',hsz]
 have ha:h.objs.size+1<(srtHeap h vs).objs.size:=by rw[s1];omega
 obtain⟨n1,ho1⟩:∃n1,((srtHeap h vs).update (h.objs.size+1) (Obj.mapSeq fun _=> #[])).get? (h.objs.size+1)=some (seqObj "list" #[] n1):=⟨_,get?_update_seq hoL (fun _=> #[])⟩
 have ho6:(preHeap (srtHeap h vs) (h.objs.size+1) vs).get? (h.objs.size+1)=some (seqObj "list" #[] n1):=by
  unfold preHeap
  rw[Heap.get?_push_ne _ _ _ (by rw[size_push',Heap.size_update];exact Nat.ne_of_lt (Nat.lt_succ_of_lt ha)),Heap.get?_push_ne _ _ _ (by rw[Heap.size_update];exact Nat.ne_of_lt ha)]
  exact ho1
 have e:sortedHeap (srtHeap h vs) (h.objs.size+1) vs out=(preHeap (srtHeap h vs) (h.objs.size+1) vs).update (h.objs.size+1) (Obj.mapSeq fun _=>out):=by unfold sortedHeap preHeap;rfl
 rw[e]
 refine⟨?_,⟨_,get?_update_seq ho6 (fun _=>out)⟩,fun b o hb=> ?_⟩
 ·unfold preHeap
  rw[Heap.size_update,size_push',size_push',Heap.size_update,s1]
 ·have hlt:=Heap.lt_size hb
  rw[Heap.get?_update_ne _ _ _ _ (Nat.ne_of_lt (Nat.lt_succ_of_lt hlt))]
  exact pre_get hb
section
variable(l:Addr)(e:Nat)(ts:List Tp)
include l e ts
theorem so_fin(q:List Nat){s:Shared}{R:Result→Shared→Prop}(PO:PreOk (Kq P b1 b2) nt (cSo l ts e q) s)
  (post:∀X h' t',PostOk (cSo l ts e q) s.heap h' X→R (.ok (.ret ((cSo l ts e q).val X))) ⟨h',gensAfter (cSo l ts e q) s.gens,s.drawn,t',s.os⟩):
  R (.ok (.ret (.ref (s.heap.objs.size+1)))) {s with heap:=sortedHeap (srtHeap s.heap (ts.map fun x=>Value.ref x.a)) (s.heap.objs.size+1) (ts.map fun x=>Value.ref x.a) (soArr (ts.map (·.a)) q)}:=by
 have hl:s.heap.get? l=some (lstObj (ts.map fun x=>Value.ref x.a).toArray e):=(PO.pre (l,lstObj (ts.map fun x=>Value.ref x.a).toArray e) List.mem_cons_self).1
 have hts:∀x∈ts,s.heap.get? x.a=some (tupI x.k x.t x.u):=fun x hx=>(PO.pre (x.a,tupI x.k x.t x.u) (List.mem_cons_of_mem _ (List.mem_map_of_mem hx))).1
 obtain⟨f1,⟨n2,ho2⟩,hold⟩:=srt_facts (h:=s.heap) (vs:=ts.map fun x=>Value.ref x.a) (soArr (ts.map (·.a)) q)
 generalize sortedHeap (srtHeap s.heap (ts.map fun x=>Value.ref x.a)) (s.heap.objs.size+1) (ts.map fun x=>Value.ref x.a) (soArr (ts.map (·.a)) q)=H at f1 ho2 hold ⊢
 refine post (fun i=>match i with|0=>s.heap.objs.size+1|_=>n2) H s.toks ⟨?_,?_,?_,?_,fun b o hb _=>hold b o hb⟩
 ·rw[f1];omega
 ·intro i p o e1 e2
  cases i with
  |zero=>
   cases e1;cases e2
   exact hold _ _ hl
  |succ i=>
   have e1:(ts.map (fun x=>(x.a,tupI x.k x.t x.u)))[i]?=some p:=e1
   have e2:(ts.map (fun x=>tupI x.k x.t x.u))[i]?=some o:=e2
   rw[List.getElem?_map]at e1 e2
   cases q:ts[i]? with
   |none=>rw[q]at e1;cases e1
   |some x=>
    rw[q]at e1 e2
    cases e1;cases e2
    exact hold _ _ (hts x (List.mem_of_getElem? q))
 ·intro i o e
  cases i with
  |zero=>
   cases e
   exact⟨ho2,Nat.le_succ _⟩
  |succ i=>cases i<;>cases e
 ·intro i j hi hj _
  have hi:i<1:=hi
  have hj:j<1:=hj
  omega
theorem so2(h2:2≤ts.length)(h4:ts.length≤4)(q:List Nat)(hq:SoOk (ts.map (·.k)) q):CO w P b1 b2 nt (cSo l ts e q):=by
 intro A s R hr PO post
 obtain⟨π,hπ,ho,hq1,hq2⟩:=hq
 rw[List.length_map]at hπ hq1 hq2
 refine codeAny_of (codeAny_builtin (entryFor_of_fast (b:=Builtin.«sorted») (by kernel_rfl)) ?_)
 have hlen:(ts.map fun x=>Value.ref x.a).length=ts.length:=List.length_map _
 have hl:s.heap.get? l=some (lstObj (ts.map fun x=>Value.ref x.a).toArray e):=(PO.pre (l,lstObj (ts.map fun x=>Value.ref x.a).toArray e) List.mem_cons_self).1
 have hts:∀x∈ts,s.heap.get? x.a=some (tupI x.k x.t x.u):=fun x hx=>(PO.pre (x.a,tupI x.k x.t x.u) (List.mem_cons_of_mem _ (List.mem_map_of_mem hx))).1
 have hts':∀x∈ts,(preHeap (srtHeap s.heap (ts.map fun x=>Value.ref x.a)) (s.heap.objs.size+1) (ts.map fun x=>Value.ref x.a)).get? x.a=some (tupI x.k x.t x.u):=fun x hx=>pre_get (hts x hx)
 obtain⟨p,ep,e1,e2,hrun⟩:=run_tup (prog:=pw) (w:=w) (s:={s with heap:=preHeap (srtHeap s.heap (ts.map fun x=>Value.ref x.a)) (s.heap.objs.size+1) (ts.map fun x=>Value.ref x.a)}) h2 h4 hts' hπ (fun i j hi hj=>by
  have:=ho i j (by rw[List.length_map];exact hi) (by rw[List.length_map];exact hj)
  rw[List.getElem_map,List.getElem_map]at this
  exact this)
 have eq:p.toList=q:=so_one h4 hπ e1 e2 hq1 hq2
 refine sorted_body (E:=fun e s'=>R (.error e) s') ⟨_,hl,rfl,e,rfl⟩ (by rw[hlen];exact h2) (by rw[hlen];omega) p (by rw[hlen];exact ep) (fun A E Q hQ=> ?_) (fun A=> ?_) ?_
 ·exact kind_tup (s:={s with heap:=preHeap (srtHeap s.heap (ts.map fun x=>Value.ref x.a)) (s.heap.objs.size+1) (ts.map fun x=>Value.ref x.a)}) (by omega) hts' hQ
 ·rw[hlen];exact hrun A
 ·have hout:(List.toArray (p.toList.map fun i=>(ts.map fun x=>Value.ref x.a).getD i Value.none))=soArr (ts.map (·.a)) q:=by
   unfold soArr
   rw[eq]
   congr 1
   apply List.map_congr_left
   intro i hi
   have hi:=hq2 i hi
   rw[nthD_eq,List.getD_eq_getElem?_getD,List.getD_eq_getElem?_getD,List.getElem?_map,List.getElem?_map,List.getElem?_eq_getElem hi]
   rfl
  rw[hout]
  exact so_fin nt l e ts q PO post
theorem so1(h2:ts.length<2)(q:List Nat)(hq:q=List.range ts.length):CO w P b1 b2 nt (cSo l ts e q):=by
 intro A s R hr PO post
 refine codeAny_of (codeAny_builtin (entryFor_of_fast (b:=Builtin.«sorted») (by kernel_rfl)) ?_)
 have hl:s.heap.get? l=some (lstObj (ts.map fun x=>Value.ref x.a).toArray e):=(PO.pre (l,lstObj (ts.map fun x=>Value.ref x.a).toArray e) List.mem_cons_self).1
 refine sorted_small (E:=fun e s'=>R (.error e) s') ⟨_,hl,rfl,e,rfl⟩ (by rw[List.length_map];exact h2) ?_
 have hout:(ts.map fun x=>Value.ref x.a).toArray=soArr (ts.map (·.a)) q:=by
  subst hq
  match ts,h2 with
  |[],_=>rfl
  |[x],_=>rfl
  |_::_::_,h=>simp only[List.length_cons]at h;omega
 have z:=so_fin nt l e ts q PO post
 rw[←hout]at z
 exact z
end
theorem FSo_ok{ks:List (Int×Int)}{q:List Nat}(h4:ks.length≤4)(hq:SoOk ks q):FamOk pw w (Kq P b1 b2) nt (FSo ks q):=by
 intro c T sc
 have hk:=tpsR_k T sc ks 1
 have hl:(tpsR T sc ks 1).length=ks.length:=by have:=congrArg List.length hk;rwa [List.length_map]at this
 by_cases h2:2≤ks.length
 ·exact so2 nt _ _ _ (by rw[hl];exact h2) (by rw[hl];exact h4) q (by rw[hk];exact hq)
 ·refine so1 nt _ _ _ (by rw[hl];omega) q ?_
  obtain⟨π,hπ,_,h1,h2'⟩:=hq
  rw[hl]
  have l1:=congrArg List.length h1
  rw[List.length_map,List.length_range]at l1
  match ks,h2,q,l1,h2' with
  |[],_,[],_,_=>rfl
  |[k],_,[x],_,h2'=>
   have:=h2' x (List.mem_singleton.mpr rfl)
   have hx:x<1:=this
   have:x=0:=by omega
   rw[this];rfl
  |_::_::_,h,_,_,_=>exact absurd (by simp only[List.length_cons];omega) h
end
end Mine
namespace Mine
open PySem PySem.W PySem.W.X PySem.Spec PySem.Calls PyProof.Rows
noncomputable def duC(kt:KT)(loc k1 k2:Addr):Code:=funcK kt 933 (envK kt 933 loc [(signS,k1),(rowsS,k2)])
noncomputable def cellE:Obj:={cls:=.type "cell",data:=.cell none}
noncomputable def Df.e3(F:Df)(down ib:Bool):List DictEntry:=[⟨F.h1,.str downS F.t1,.bool down⟩,⟨F.h2,.str d_spanS F.t2,.ref F.sp⟩,⟨F.h3,.str d_isbS F.t3,.bool ib⟩]
noncomputable def Df.e4(F:Df)(hl hh:Bool)(lo hi:Option (Addr×Value)):List DictEntry:=[⟨F.h4,.str d_lowS F.t4,optV lo⟩,⟨F.h5,.str d_hlowS F.t5,.bool hl⟩,⟨F.h6,.str d_highS F.t6,optV hi⟩,⟨F.h7,.str d_hhighS F.t7,.bool hh⟩]
noncomputable def Df.eP(F:Df):DictEntry:=⟨F.h8,.str d_placedS F.t8,.ref F.pl⟩
noncomputable def cDf(kt:KT)(loc k1 k2:Addr)(es:List DictEntry)(es':(Nat→Nat)→List DictEntry)(val:(Nat→Nat)→Value)(pre:List (Addr×Obj))(post:(Nat→Nat)→List Obj)(new:(Nat→Nat)→List Obj):Con:=
 ⟨duC kt loc k1 k2,(loc,frmObj es.toArray es.length)::pre,val,fun X=>frmObj (es' X).toArray (es' X).length::post X,new,5,none,false,false⟩
noncomputable def cDe(P:Params)(ro sp:Addr)(down ib:Bool):Con:=
 ⟨.call (.ref 933) ⟨[.ref ro,.bool down,.ref sp,.bool ib],[]⟩,[],fun _=>.none,fun _=>[],fun X=>[frmObj #[⟨hS P downS,.str downS (X 3),.bool down⟩,⟨hS P d_spanS,.str d_spanS (X 4),.ref sp⟩,⟨hS P d_isbS,.str d_isbS (X 5),.bool ib⟩] 3,cellObj (.ref ro),cellE],5,none,false,false⟩
noncomputable def adW(v:Value):Nat:=match v with
 |.ref a=>a
 |_=>0
noncomputable def sgB(down:Bool):Int:=@Bool.rec (fun _=>Int) 1 (-1) down
noncomputable def tgB(down:Bool)(t:Nat):Tok:=@Bool.rec (fun _=>Tok) (t+4) (t+5) down
structure Rw where
 a:Addr
 px:Pv
 tx:Tok
 p:Pv
 ty:Tok
 r:Int
noncomputable def Rw.x(R:Rw):Value:=R.px.val R.tx
noncomputable def Rw.o(R:Rw):Addr×Obj:=(R.a,tupObj #[R.x,R.p.val R.ty])
section
variable{w:World}{P:Params}{b1 b2:Bool}(hP:w.params=parT P b1 b2)(nt:Nat)
include hP
theorem de_ok(ro sp:Addr)(down ib:Bool):AOk pw w (Kq P b1 b2) nt (cDe P ro sp down ib) (fun X=>duC (Kq P b1 b2) (X 0) (X 2) (X 1)):=by
 exact ka hP 5 [0,1,2] (fun U=>[.key 0 0,.key 0 1,.key 0 2]) 41 0x30001010101010102020000 (cs:=[]) fn0
section
variable(F:Df)
include F
theorem d0_ok(k1 k2:Addr)(down ib hl hh:Bool)(lo hi:Option (Addr×Value)):TO w P b1 b2 nt (slT (duC (Kq P b1 b2) F.loc k1 k2) 0 2) (cDf (Kq P b1 b2) F.loc k1 k2 (F.e3 down ib) (fun X=>F.e3 down ib++[⟨hS P d_lowS,.str d_lowS (X 0),optV lo⟩,⟨hS P d_hlowS,.str d_hlowS (X 1),.bool hl⟩,⟨hS P d_highS,.str d_highS (X 2),optV hi⟩,⟨hS P d_hhighS,.str d_hhighS (X 3),.bool hh⟩]) (fun _=>.none) [(F.sp,tupObj #[optV lo,.bool hl,optV hi,.bool hh]),(k1,cellE)] (fun X=>[tupObj #[optV lo,.bool hl,optV hi,.bool hh],cellObj (.int (sgB down) (tgB down (X 0)))]) (fun _=>[])):=by
 exact kb hP 5 [] (fun U=>[.key 0 3,.key 0 4,.key 0 5,.key 0 6]) 133 (@Bool.rec (fun _=>Nat) (k_er 0x303) (k_er 0x3030000) down) (cs:=[]) fn0 (h:=by
  refine bE down ?_ ?_<;>refine o2E lo ?_ ?_<;>intros<;>refine o2E hi ?_ ?_<;>intros<;>kernel_rfl)
theorem d2_ok(k1 k2:Addr)(down ib hl hh:Bool)(lo hi:Option (Addr×Value)):TO w P b1 b2 nt (slT (duC (Kq P b1 b2) F.loc k1 k2) 3 1) (cDf (Kq P b1 b2) F.loc k1 k2 (F.e3 down ib++F.e4 hl hh lo hi++[F.eP]) (fun X=>F.e3 down ib++F.e4 hl hh lo hi++[F.eP]++[⟨hS P d_foundS,.str d_foundS (X 1),.ref (X 0)⟩]) (fun _=>.none) [] (fun _=>[]) (fun _=>[lstObj #[] 0])):=by
 exact kb hP 5 [1] (fun U=>[.key 0 8]) 31 0x101 (cs:=[]) fn0
theorem d3_ok(k1 k2:Addr)(down ib hl hh:Bool)(lo hi:Option (Addr×Value))(ps:Array Value)(pe:Nat):TO w P b1 b2 nt (itT (duC (Kq P b1 b2) F.loc k1 k2) 4) (cDf (Kq P b1 b2) F.loc k1 k2 (F.es down ib hl hh lo hi []) (fun _=>F.es down ib hl hh lo hi []) (fun X=>.ref (X 0)) [(F.pl,lstObj ps pe)] (fun _=>[lstObj ps pe]) (fun _=>[litObj F.pl 0])):=by
 exact kb hP 5 [2] (fun U=>[]) 34 0x3000200020201 (cs:=[]) fn0
end
noncomputable def litE(i:Nat):Obj:={cls:=.type "list_iterator",data:=.fields #[.none,.int i 0]}
theorem d4_ok(F:Df)(it k1 k2:Addr)(vs:List Value)(hn:vs.length≤4)(pe:Nat):TO w P b1 b2 nt (exT (dlC (Kq P b1 b2) F it k1 k2) it) ⟨dlC (Kq P b1 b2) F it k1 k2,[(it,litObj F.pl vs.length),(F.pl,lstObj vs.toArray pe)],fun _=>.none,fun _=>[litE vs.length,lstObj vs.toArray pe],fun _=>[],4,none,false,false⟩:=by
 exact kb hP 4 [] (fun U=>[]) 37 0x4010102010100010001 (cs:=[]) fn0 (h:=by refine l4E vs hn ?_ ?_ ?_ ?_ ?_<;>intros<;>kernel_rfl)
section
variable(F:Df)(k1 k2:Addr)(down hl hh:Bool)(lo hi:Option (Addr×Value))(l:List DictEntry)
include F k1 k2 down hl hh lo hi l
theorem d5_f:TO w P b1 b2 nt (slRT (duC (Kq P b1 b2) F.loc k1 k2) 5) (cDf (Kq P b1 b2) F.loc k1 k2 (F.es down false hl hh lo hi l) (fun _=>F.es down false hl hh lo hi l) (fun _=>.ref F.fd) [] (fun _=>[]) (fun _=>[])):=by
 exact kb hP 5 [] (fun U=>[]) 27 0x101 (cs:=[]) fn0
theorem d5_t(fs:List Addr)(hn:fs.length≤4)(fe:Nat):TO w P b1 b2 nt (slRT (duC (Kq P b1 b2) F.loc k1 k2) 5) (cDf (Kq P b1 b2) F.loc k1 k2 (F.es down true hl hh lo hi l) (fun _=>F.es down true hl hh lo hi l) (fun X=>.ref (X 0)) [(F.fd,lstObj (fs.map Value.ref).toArray fe)] (fun _=>[lstObj (fs.map Value.ref).toArray fe]) (fun _=>[lstObj (fs.reverse.map Value.ref).toArray 0])):=by
 exact kb hP 5 [3] (fun U=>[]) 50 0x2030303030300020002020200000101 (cs:=[]) fn0 (h:=by refine l4E fs hn ?_ ?_ ?_ ?_ ?_<;>intros<;>kernel_rfl)
end
end
section
open Classical in
noncomputable def cnt{α:Type}(a:α)(l:List α):Nat:=List.count a l
open Classical in
noncomputable def one{α:Type}(a b:α):Nat:=if(b==a)=true then 1 else 0
theorem cnt_nil{α:Type}(a:α):cnt a ([]:List α)=0:=rfl
open Classical in
theorem cnt_cons{α:Type}(a b:α)(l:List α):cnt a (b::l)=cnt a l+one a b:=by unfold cnt one;rw[List.count_cons]
open Classical in
theorem cnt_app{α:Type}(a:α)(l l':List α):cnt a (l++l')=cnt a l+cnt a l':=by unfold cnt;rw[List.count_append]
open Classical in
theorem cnt_perm{α:Type}{l l':List α}(h:l.Perm l')(a:α):cnt a l=cnt a l':=by unfold cnt;exact h.count_eq a
theorem eqA{A B l r:Nat}(c:l=r)(h:A+r=B+l):A=B:=by subst c;exact Nat.add_right_cancel h
theorem pm{α:Type}{l l':List α}(h:∀a,cnt a l=cnt a l'):l.Perm l':=by
 classical
 refine List.perm_iff_count.mpr fun a=> ?_
 have:=h a
 unfold cnt at this
 exact this
theorem er{α:Type}{x:α}:∀{l:List α}{i:Nat},l[i]?=some x→l.Perm (x::l.eraseIdx i)
 |[],i,h=>by simp at h
 |a::l,0,h=>by
  simp only[List.getElem?_cons_zero,Option.some.injEq]at h
  subst h
  exact List.Perm.refl _
 |a::l,i+1,h=>by
  simp only[List.getElem?_cons_succ]at h
  exact((er h).cons a).trans (List.Perm.swap ..)
theorem zpL_self:∀l:List (Addr×Obj),zpL l (l.map (·.2))=l
 |[]=>rfl
 |p::l=>congrArg (p:: ·) (zpL_self l)
structure Ts where
 tu:Addr
 j:Nat
 R:Rw
 rt:Tok
 rw:Tok
noncomputable def Ts.o(sg:Int)(t:Ts):Addr×Obj:=(t.tu,tupObj #[.int (sg*t.R.r) t.rt,.int (t.j+1:Nat) t.rw])
structure Fo where
 a:Addr
 j:Nat
 tk:Tok
 x:Value
 y:Value
noncomputable def Fo.o(f:Fo):Addr×Obj:=(f.a,tupObj #[.int (f.j+1:Nat) f.tk,f.x,f.y])
noncomputable def Fo.key(f:Fo):Nat×Value×Value:=(f.j,f.x,f.y)
noncomputable def Rw.y(R:Rw):Value:=R.p.val R.ty
noncomputable def apB(lo hi:Option Bd)(hl hh:Bool)(sg:Int)(R:Rw):Bool:=abvB lo hl sg (sg*R.r)&&blwB hi hh sg (sg*R.r)
noncomputable def luL(F:Df)(it k1 k2 ro:Addr)(sg:Int)(tg:Tok)(ps:List Value)(pe:Nat)(vs:Array Value)(en:Nat)(fr:Obj)(io:Obj)(fds:List Fo)(Y:List (Addr×Obj)):List (Addr×Obj):=
 (F.loc,fr)::(it,io)::(F.pl,lstObj ps.toArray pe)::(F.fd,lstObj (fds.map fun f=>Value.ref f.a).toArray fds.length)::(k1,cellObj (.int sg tg))::(k2,cellObj (.ref ro))::(ro,lstObj vs en)::(Y++fds.map Fo.o)
noncomputable def FrOk(F:Df)(down ib hl hh:Bool)(lo hi:Option (Addr×Value))(fr:Obj):Prop:=
 ∃o:Option (Dg×Dw),fr=frmObj (F.es down ib hl hh lo hi (dEo o)).toArray (9+(dEo o).length)
theorem beD_E(P:Params)(o:Option (Dg×Dw))(rk:Int)(rt:Tok)(j:Nat)(rw:Tok)(va vb:Bool)(X:Nat→Nat):∃p,beD P o rk rt j rw va vb X=dEo (some p):=by
 cases o with
 |none=>exact⟨(⟨hS P d_rankS,hS P d_rowidS,hS P d_aboveS,hS P d_belowS,X 0,X 1,X 2,X 3⟩,⟨rk,rt,(j+1:Nat),rw,va,vb⟩),rfl⟩
 |some p=>exact⟨(p.1,⟨rk,rt,(j+1:Nat),rw,va,vb⟩),rfl⟩
section
variable{w:World}{P:Params}{b1 b2:Bool}(hP:w.params=parT P b1 b2)(nt:Nat)
include hP
theorem due_loop(F:Df)(it k1 k2 ro:Addr)(down ib hl hh:Bool)(lo hi:Option Bd)(Hl:∀b,lo=some b→∀t,CO w P b1 b2 nt (cRk (b.p.val t) b.r))(Hh:∀b,hi=some b→∀t,CO w P b1 b2 nt (cRk (b.p.val t) b.r))(sg:Int)(tg:Tok)(hs:SgOk sg)
  (tss:List Ts) (hts:tss.length≤4) (pe:Nat) (rows:List Rw) (hr:∀t∈tss,rows[t.j]?=some t.R∧t.j<100) (en:Nat) (Z:List (Addr×Obj)) {h₀:Heap} {A₀:List Addr} {A:Ar} (hA:Rm 4 0 A) {R:Result→Shared→Prop}:
  ∀(rest done:List Ts),done++rest=tss→∀(fds:List Fo)(fr:Obj)(s:Shared),fds.length≤done.length→FrOk F down ib hl hh (lo.map Bd.v) (hi.map Bd.v) fr→fds.map Fo.key=(done.filter fun t=>apB lo hi hl hh sg t.R).map (fun t=>(t.j,t.R.x,t.R.y))→
   Hs (Kq P b1 b2) nt h₀ A₀ (luL F it k1 k2 ro sg tg (tss.map fun t=>Value.ref t.tu) pe (rows.map fun R=>Value.ref R.a).toArray en fr (litObj F.pl done.length) fds (tss.map (Ts.o sg)++(rows.map Rw.o++((optO (lo.map Bd.v)++optO (hi.map Bd.v))++Z)))) s.heap→
   (∀(fds':List Fo)(fr':Obj)(h':Heap)(t':Nat),FrOk F down ib hl hh (lo.map Bd.v) (hi.map Bd.v) fr'→fds'.map Fo.key=(tss.filter fun t=>apB lo hi hl hh sg t.R).map (fun t=>(t.j,t.R.x,t.R.y))→fds'.length≤4→
    Hs (Kq P b1 b2) nt h₀ A₀ (luL F it k1 k2 ro sg tg (tss.map fun t=>Value.ref t.tu) pe (rows.map fun R=>Value.ref R.a).toArray en fr' (litE tss.length) fds' (tss.map (Ts.o sg)++(rows.map Rw.o++((optO (lo.map Bd.v)++optO (hi.map Bd.v))++Z)))) h'→R (.ok .next) ⟨h',s.gens,s.drawn,t',s.os⟩)→
   wpOwn (model pw w) A (dlC (Kq P b1 b2) F it k1 k2) (denote table (dlC (Kq P b1 b2) F it k1 k2)) (postC pw w A R) (postE R) s
 |[],done,hd,fds,fr,s,hlen,hfr,hkey,S,K=>by
  rw[List.append_nil]at hd
  subst hd
  have hcd:dlC (Kq P b1 b2) F it k1 k2=.forLoop (forTg (dlC (Kq P b1 b2) F it k1 k2)) (.ref it) (forBd (dlC (Kq P b1 b2) F it k1 k2)) [] (cEnv (dlC (Kq P b1 b2) F it k1 k2)):=by kernel_rfl
  have T:=d4_ok hP nt F it k1 k2 (done.map fun t=>Value.ref t.tu) (by rw[List.length_map];exact hts) pe
  rw[List.length_map]at T
  refine S.exhP T rfl hcd hA (Nat.le_refl _) ((F.loc,fr)::(F.fd,lstObj (fds.map fun f=>Value.ref f.a).toArray fds.length)::(k1,cellObj (.int sg tg))::(k2,cellObj (.ref ro))::(ro,lstObj (rows.map fun R=>Value.ref R.a).toArray en)::((done.map (Ts.o sg)++(rows.map Rw.o++((optO (lo.map Bd.v)++optO (hi.map Bd.v))++Z)))++fds.map Fo.o)) ?_ (fun _=>rfl) (fun _ e=>nomatch e) fun X h' t' S'=> ?_
  ·unfold luL
   refine pm fun a=> ?_
   simp+arith only[cnt_app,cnt_cons,cnt_nil,List.cons_append,List.nil_append]
  ·refine K fds fr h' t' hfr hkey (by omega) (S'.perm ?_)
   unfold luL
   refine pm fun a=> ?_
   simp+arith only[zpL,nwL,List.zipWith,cnt_app,cnt_cons,cnt_nil,List.cons_append,List.nil_append]
 |t::rest,done,hd,fds,fr,s,hlen,hfr,hkey,S,K=>by
  have hm:tss[done.length]?=some t:=by rw[←hd,List.getElem?_append_right (Nat.le_refl _),Nat.sub_self];rfl
  have htm:t∈tss:=List.mem_of_getElem? hm
  have hlt:done.length+1+rest.length=tss.length:=by rw[←hd,List.length_append,List.length_cons];omega
  obtain⟨hR,hj⟩:=hr t htm
  obtain⟨o,rfl⟩:=hfr
  have hC:CO w P b1 b2 nt (cDl (Kq P b1 b2) F it t.tu k1 k2 ro t.R.a down ib hl hh (lo.map Bd.v) (hi.map Bd.v) sg tg (tss.map fun t=>Value.ref t.tu).toArray pe done.length (sg*t.R.r) t.j t.rt t.rw (fds.map fun f=>Value.ref f.a).toArray fds.length (rows.map fun R=>Value.ref R.a).toArray en t.R.x t.R.y (dEo o) (beD P o (sg*t.R.r) t.rt t.j t.rw (abvB lo hl sg (sg*t.R.r)) (blwB hi hh sg (sg*t.R.r))) (apB lo hi hl hh sg t.R)):=dl_ok hP nt o F it t.tu k1 k2 ro t.R.a down ib hl hh lo hi Hl Hh sg tg hs _ pe _ (sg*t.R.r) t.j t.rt t.rw _ (by rw[List.size_toArray,List.length_map];omega) fds.length _ en t.R.px t.R.p t.R.tx t.R.ty (ln_ok hP nt it F.pl _ (by rw[List.length_map];exact hts) pe _ _ (by rw[List.getElem?_map,hm];rfl)) (by rw[List.getElem?_toArray,List.getElem?_map,hR];rfl) hj
  have e1:=er (l:=tss.map (Ts.o sg)) (i:=done.length) (x:=t.o sg) (by rw[List.getElem?_map,hm];rfl)
  have e2:=er (l:=rows.map Rw.o) (i:=t.j) (x:=t.R.o) (by rw[List.getElem?_map,hR];rfl)
  refine S.jmpP hC rfl rfl rfl hA (Nat.le_refl _) ((tss.map (Ts.o sg)).eraseIdx done.length++((rows.map Rw.o).eraseIdx t.j++(fds.map Fo.o++Z))) ?_ (fun X=> ?_) (fun _ e=>nomatch e) fun X h' t' S'=> ?_
  ·unfold luL
   refine pm fun a=> ?_
   refine eqA (cnt_perm e1 a) (eqA (cnt_perm e2 a) ?_)
   simp+arith only[cDl,cnt_app,cnt_cons,cnt_nil,List.cons_append,List.nil_append,Ts.o,Rw.o,Rw.y]
  ·simp only[cDl,List.length_cons,List.length_map]
  ·have hE:=beD_E P o (sg*t.R.r) t.rt t.j t.rw (abvB lo hl sg (sg*t.R.r)) (blwB hi hh sg (sg*t.R.r))
   generalize beD P o (sg*t.R.r) t.rt t.j t.rw (abvB lo hl sg (sg*t.R.r)) (blwB hi hh sg (sg*t.R.r))=be at S' hE
   have hd':(done++[t])++rest=tss:=by rw[List.append_assoc];exact hd
   have ld:(done++[t]).length=done.length+1:=by rw[List.length_append];rfl
   cases hap:apB lo hi hl hh sg t.R with
   |false=>
    rw[hap]at S'
    refine due_loop F it k1 k2 ro down ib hl hh lo hi Hl Hh sg tg hs tss hts pe rows hr en Z hA rest (done++[t]) hd' fds (frmObj (F.es down ib hl hh (lo.map Bd.v) (hi.map Bd.v) (be X)).toArray (9+(be X).length)) ⟨h',s.gens,s.drawn,t',s.os⟩ (by omega) (hE _ |>.elim fun p e=>⟨some p,by rw[e]⟩) ?_ (S'.perm ?_) K
    ·rw[List.filter_append,List.map_append,hkey]
     simp[hap]
    ·unfold luL
     rw[ld]
     refine pm fun a=> ?_
     refine eqA (cnt_perm e1 a).symm (eqA (cnt_perm e2 a).symm (eqA (congrArg (cnt a) (zpL_self (optO (lo.map Bd.v)++optO (hi.map Bd.v)))) ?_))
     simp+arith only[cDl,zpL,nwL,List.zipWith_cons_cons,cnt_app,cnt_cons,cnt_nil,List.cons_append,List.nil_append,Ts.o,Rw.o,Rw.y]
   |true=>
    rw[hap]at S'
    refine due_loop F it k1 k2 ro down ib hl hh lo hi Hl Hh sg tg hs tss hts pe rows hr en Z hA rest (done++[t]) hd' (fds++[⟨X 0,t.j,t.rw,t.R.x,t.R.y⟩]) (frmObj (F.es down ib hl hh (lo.map Bd.v) (hi.map Bd.v) (be fun i=>X (i+1))).toArray (9+(be fun i=>X (i+1)).length)) ⟨h',s.gens,s.drawn,t',s.os⟩ (by rw[List.length_append,ld];exact Nat.succ_le_succ hlen) (hE _ |>.elim fun p e=>⟨some p,by rw[e]⟩) ?_ (S'.perm ?_) K
    ·rw[List.filter_append,List.map_append,List.map_append,hkey]
     simp[hap,Fo.key]
    ·unfold luL
     rw[ld]
     have ef:lstObj ((fds.map fun f=>Value.ref f.a).toArray.push (.ref (X 0))) (fds.length+1)=lstObj ((fds++[(⟨X 0,t.j,t.rw,t.R.x,t.R.y⟩:Fo)]).map fun f=>Value.ref f.a).toArray (fds++[(⟨X 0,t.j,t.rw,t.R.x,t.R.y⟩:Fo)]).length:=by
      rw[List.length_append,List.map_append]
      simp
     rw[←ef]
     refine pm fun a=> ?_
     refine eqA (cnt_perm e1 a).symm (eqA (cnt_perm e2 a).symm (eqA (congrArg (cnt a) (zpL_self (optO (lo.map Bd.v)++optO (hi.map Bd.v)))) ?_))
     simp+arith only[cDl,zpL,nwL,List.zipWith_cons_cons,List.map_append,List.map_cons,List.map_nil,cnt_app,cnt_cons,cnt_nil,List.cons_append,List.nil_append,Ts.o,Rw.o,Rw.y,Fo.o]
end
end
noncomputable def keysR(sg:Int):List Rw→Nat→List (Int×Int)
 |[],_=>[]
 |R::l,i=>(sg*R.r,((i+1:Nat):Int))::keysR sg l (i+1)
theorem keysR_len(sg:Int):∀(l:List Rw)(i:Nat),(keysR sg l i).length=l.length
 |[],_=>rfl
 |R::l,i=>congrArg Nat.succ (keysR_len sg l (i+1))
noncomputable def adrsX(X:Nat→Nat)(n:Nat):List Addr:=(upB n 1).map X
noncomputable def tupsX(sg:Int)(X:Nat→Nat)(n:Nat):List Rw→Nat→List Obj
 |[],_=>[]
 |R::l,i=>tupObj #[.int (sg*R.r) (X (n+2+2*i)),.int (i+1:Nat) (X (n+3+2*i))]::tupsX sg X n l (i+1)
noncomputable def foObjs(X:Nat→Nat)(c:Nat):List (Nat×Value×Value)→Nat→List Obj
 |[],_=>[]
 |k::l,i=>tupObj #[.int (k.1+1:Nat) (X (c+1+i)),k.2.1,k.2.2]::foObjs X c l (i+1)
noncomputable def foLst(X:Nat→Nat)(ib:Bool)(c:Nat):Obj:=@Bool.rec (fun _=>Obj) (lstObj ((adrsX X c).map Value.ref).toArray c) (lstObj ((adrsX X c).reverse.map Value.ref).toArray 0) ib
noncomputable def spO(hl hh:Bool)(lo hi:Option Bd):Obj:=tupObj #[optV (lo.map Bd.v),.bool hl,optV (hi.map Bd.v),.bool hh]
noncomputable def cDue(ro sp:Addr)(down ib hl hh:Bool)(lo hi:Option Bd)(rows:List Rw)(en:Nat)(fk:List (Nat×Value×Value)):Con:=
 ⟨.call (.ref 933) ⟨[.ref ro,.bool down,.ref sp,.bool ib],[]⟩,(ro,lstObj (rows.map fun R=>Value.ref R.a).toArray en)::(sp,spO hl hh lo hi)::(rows.map Rw.o++(optO (lo.map Bd.v)++optO (hi.map Bd.v))),fun X=>.ref (X 0),
  fun _=>lstObj (rows.map fun R=>Value.ref R.a).toArray en::spO hl hh lo hi::(rows.map Rw.o++(optO (lo.map Bd.v)++optO (hi.map Bd.v))).map (·.2),fun X=>foLst X ib fk.length::foObjs X fk.length fk 0,5,none,false,false⟩
noncomputable def dueK(rows:List Rw)(lo hi:Option Bd)(hl hh:Bool)(sg:Int)(q:List Nat):List (Nat×Value×Value):=
 q.filterMap fun j=>match rows[j]? with
  |some R=>@Bool.rec (fun _=>Option (Nat×Value×Value)) none (some (j,R.x,R.y)) (apB lo hi hl hh sg R)
  |none=>none
theorem nwL_fo(X:Nat→Nat)(c:Nat):∀(fds:List Fo)(i:Nat),(∀k f,fds[k]?=some f→X (i+k+1)=f.a∧X (c+1+(i+k))=f.tk)→nwL X (foObjs X c (fds.map Fo.key) i) (i+1)=fds.map Fo.o
 |[],_,_=>rfl
 |f::l,i,h=>by
  have h0:=h 0 f rfl
  simp only[Nat.add_zero]at h0
  show(X (i+1),tupObj #[.int (f.j+1:Nat) (X (c+1+i)),f.x,f.y])::nwL X (foObjs X c (l.map Fo.key) (i+1)) (i+1+1)=_
  rw[nwL_fo X c l (i+1) (fun k g e=>by
   have:=h (k+1) g e
   rw[show i+1+k=i+(k+1) by omega];exact this),h0.1,h0.2]
  rfl
theorem adrsX_eq(X:Nat→Nat)(fds:List Fo)(h:∀(k:Nat)(f:Fo),fds[k]?=some f→X (k+1)=f.a):adrsX X fds.length=fds.map (·.a):=by
 unfold adrsX
 rw[upB_eq,List.map_map]
 apply List.ext_getElem?
 intro k
 rw[List.getElem?_map,List.getElem?_map]
 by_cases hk:k<fds.length
 ·rw[List.getElem?_range hk,List.getElem?_eq_getElem hk]
  have:=h k _ (List.getElem?_eq_getElem hk)
  simp only[Option.map_some,Function.comp]
  rw[Nat.add_comm,this]
 ·rw[List.getElem?_eq_none (by rw[List.length_range];omega),List.getElem?_eq_none (by omega)];rfl
theorem perms_inv:((List.range 5).all fun n=>(perms n).all fun π=>((((List.range n).map fun k=>π.idxOf k).map fun i=>π.getD i 0)==List.range n)&&(((List.range n).map fun k=>π.idxOf k).all fun i=>decide (i<n))&&((List.range n).map fun k=>π.idxOf k).isPerm (List.range n))=true:=by decide+kernel
theorem so_perm{ks:List (Int×Int)}(h4:ks.length≤4){q:List Nat}(hq:SoOk ks q):q.Perm (List.range ks.length):=by
 obtain⟨π,hπ,_,h1,h2⟩:=hq
 have h:=List.all_eq_true.mp (List.all_eq_true.mp perms_inv ks.length (List.mem_range.mpr (by omega))) π hπ
 simp only[Bool.and_eq_true,beq_iff_eq,List.all_eq_true,decide_eq_true_eq]at h
 have e:=so_one h4 hπ h1 h2 h.1.1 h.1.2
 rw[e]
 exact List.isPerm_iff.mp h.2
noncomputable def xFo(res:Nat)(fds:List Fo)(n:Nat):Nat:=if n=0 then res else if n-1<fds.length then(nthD ⟨0,0,0,.none,.none⟩ fds (n-1)).a else(nthD ⟨0,0,0,.none,.none⟩ fds (n-1-fds.length)).tk
noncomputable def rwD:Rw:=⟨0,.n,0,.n,0,0⟩
noncomputable def tsAt(X:Nat→Nat)(rows:List Rw)(j:Nat):Ts:=⟨nthD 0 (adrsX X rows.length) j,j,nthD rwD rows j,X (rows.length+2+2*j),X (rows.length+3+2*j)⟩
theorem adrsX_at(X:Nat→Nat){n j:Nat}(h:j<n):nthD 0 (adrsX X n) j=X (j+1):=by
 unfold adrsX
 rw[nthD_eq,List.getD_eq_getElem?_getD,List.getElem?_map,upB_eq,List.getElem?_map,List.getElem?_range h]
 simp only[Option.map_some,Option.getD_some]
 rw[Nat.add_comm]
theorem nwL_tups(sg:Int)(X:Nat→Nat)(rows:List Rw):∀(l:List Rw)(i:Nat),(∀(k:Nat)(R:Rw),l[k]?=some R→rows[i+k]?=some R)→nwL X (tupsX sg X rows.length l i) (i+1)=(List.range' i l.length).map fun j=>(tsAt X rows j).o sg
 |[],_,_=>rfl
 |R::l,i,h=>by
  have h0:=h 0 R rfl
  simp only[Nat.add_zero]at h0
  have hi:=(List.getElem?_eq_some_iff.mp h0).1
  rw[List.length_cons,List.range'_succ,List.map_cons,←nwL_tups sg X rows l (i+1) (fun k g e=>by
   have:=h (k+1) g e
   rw[show i+1+k=i+(k+1) by omega];exact this)]
  show(X (i+1),_)::_=_
  congr 1
  unfold Ts.o tsAt
  simp only[adrsX_at X hi]
  rw[nthD_eq,List.getD_eq_getElem?_getD,h0]
  rfl
noncomputable def stTg(s:Stmt):PySem.Expr:=match s with
 |.For t _ _ _ _=>t
 |_=>.Name ⟨#[]⟩ default
noncomputable def stBd(s:Stmt):List Stmt:=match s with
 |.For _ _ b _ _=>b
 |_=>[]
theorem dueK_eq(rows:List Rw)(lo hi:Option Bd)(hl hh:Bool)(sg:Int)(X:Nat→Nat):∀(q:List Nat),(∀i∈q,i<rows.length)→((q.map (tsAt X rows)).filter fun t=>apB lo hi hl hh sg t.R).map (fun t=>(t.j,t.R.x,t.R.y))=dueK rows lo hi hl hh sg q
 |[],_=>rfl
 |j::q,h=>by
  have hj:=h j List.mem_cons_self
  have ih:=dueK_eq rows lo hi hl hh sg X q fun i hi=>h i (List.mem_cons_of_mem _ hi)
  have e:(tsAt X rows j).R=rows[j]:=by
   show nthD rwD rows j=_
   rw[nthD_eq,List.getD_eq_getElem?_getD,List.getElem?_eq_getElem hj];rfl
  unfold dueK at ih ⊢
  rw[List.map_cons,List.filter_cons,List.filterMap_cons,List.getElem?_eq_getElem hj]
  simp only[e]
  cases hap:apB lo hi hl hh sg rows[j]with
  |false=>simpa[hap]using ih
  |true=>
   simp only[if_true,List.map_cons,e]
   rw[ih]
   rfl
section
variable{w:World}{P:Params}{b1 b2:Bool}(hP:w.params=parT P b1 b2)(nt:Nat)
include hP
omit hP in
noncomputable def dcF(kt:KT)(P:Params)(F:Df)(k1 k2 ro:Addr)(sg:Int)(tg:Tok)(vs:Array Value)(n en:Nat):List Rw→Nat→List Fam
 |[],_=>[]
 |R::l,i=>(fun _ T sc=>cDt kt P (adrAt T (rd sc 0)) (adrAt T (rd sc 1)) (adrAt T (rd sc 2)) F.loc k1 k2 ro sg tg n ((List.range i).map fun j=>adW (itAt T (rd sc 2) j)) (hsAt T (rd sc 0) 0,kyAt T (rd sc 0) 0,vlAt T (rd sc 0) 0) vs en R.a R.x (R.p.val R.ty) R.r)::dcF kt P F k1 k2 ro sg tg vs n en l (i+1)
theorem dcF_ok(F:Df)(k1 k2 ro:Addr)(sg:Int)(tg:Tok)(hs:SgOk sg)(vs:Array Value)(n:Nat)(hn:n≤4)(en:Nat):∀(l:List Rw)(i:Nat),i+l.length=n→(∀(j:Nat)(R:Rw),l[j]?=some R→vs[i+j]?=some (.ref R.a))→(∀R∈l,∀t,CO w P b1 b2 nt (cRk (R.p.val t) R.r))→AllOk pw w (Kq P b1 b2) nt (dcF (Kq P b1 b2) P F k1 k2 ro sg tg vs n en l i)
 |[],_,_,_,_=>.nil
 |R::l,i,e,hv,H=>.cons (fun c T sc=>dc_ok hP nt n hn _ (by rw[List.length_map,List.length_range,←e,List.length_cons];omega) _ _ _ _ _ _ _ _ sg tg hs vs en R.a (by rw[List.length_map,List.length_range];exact hv 0 R rfl) _ R.p R.ty R.r (H R List.mem_cons_self)) (dcF_ok F k1 k2 ro sg tg hs vs n hn en l (i+1) (by rw[←e,List.length_cons];omega) (fun j R' h=>by rw[Nat.add_right_comm];exact hv (j+1) R' h) fun R' m=>H R' (List.mem_cons_of_mem _ m))
omit hP in
noncomputable def itm2:List Nat→List Wt
 |[]=>[]
 |i::l=>.itm i 0::.itm i 1::itm2 l
omit hP in
noncomputable def scD(b:Bool):List Nat:=@Bool.rec (fun _=>List Nat) [(k_bV (kq 5 0x5000505 (k_f 0x101060100080a06060600060006000600060006060006050505))),(k_bV (kq 5 0x6000606 (k_P (kq 11 0x700070007070007060606 (k_es 0))))),(k_bV (kq 5 0x7000707 (k_k (kq 11 0x800080008080008070707 (k_et 0))))),(k_eu (kq 6 0x90009000909 (k_ev 0))),(k_bV (kq 22 0xa000a000a0a000a0909090009000909090009000909 (k_ew 0)))] [(k_bV (k_ex 0x101060100080a)),(k_bV (kq 5 0x6000606 (k_P (kq 5 0x7060606 (k_es 0))))),(k_bV (kq 5 0x7000707 (k_k (kq 5 0x8070707 (k_et 0))))),(k_eu (k_ev 0)),(k_bV (kq 16 0xa0909090009000909090009000909 (k_ew 0)))] b
theorem d1_all(F:Df)(k1 k2 ro:Addr)(down ib hl hh:Bool)(lo hi:Option (Addr×Value))(sg:Int)(tg:Tok)(hs:SgOk sg)(rows:List Rw)(k:Nat)(ek:rows.length=k)(hn:k≤4)(en:Nat)(HR:∀R∈rows,∀t,CO w P b1 b2 nt (cRk (R.p.val t) R.r))(q:List Nat)(hq:SoOk (keysR sg rows 0) q):
  TO w P b1 b2 nt (slT (duC (Kq P b1 b2) F.loc k1 k2) 2 1) (cDf (Kq P b1 b2) F.loc k1 k2 (F.e3 down ib++F.e4 hl hh lo hi) (fun X=>F.e3 down ib++F.e4 hl hh lo hi++[⟨hS P d_placedS,.str d_placedS (X (rows.length+1)),.ref (X 0)⟩]) (fun _=>.none)
   ((k1,cellObj (.int sg tg))::(k2,cellObj (.ref ro))::(ro,lstObj (rows.map fun R=>Value.ref R.a).toArray en)::rows.map Rw.o) (fun _=>cellObj (.int sg tg)::cellObj (.ref ro)::lstObj (rows.map fun R=>Value.ref R.a).toArray en::rows.map fun R=>R.o.2) (fun X=>lstObj (soArr (adrsX X rows.length) q) (X (rows.length+2+2*rows.length))::tupsX sg X rows.length rows 0)):=by
 exact kb hP 5 ((10+2*k)::List.range' (8+k) k) (fun U=>.key 0 7::(itm2 (List.range' (8+k) k)++nms (U k) 1 1)) 130 (nthD 0 (scD b2) k) (cs:=dcF (Kq P b1 b2) P F k1 k2 ro sg tg (rows.map fun R=>Value.ref R.a).toArray k en rows 0++[FSo (keysR sg rows 0) q]) (AllOk.app (dcF_ok hP nt F k1 k2 ro sg tg hs _ k hn en rows 0 (by rw[ek,Nat.zero_add]) (fun j R h=>by rw[Nat.zero_add,List.getElem?_toArray,List.getElem?_map,h];rfl) HR) (fc (FSo_ok nt (by rw[keysR_len,ek];exact hn) hq) fn0)) (h:=by
  refine l4K k rows ek hn ?_ ?_ ?_ ?_ ?_<;>intros<;>refine bE b2 ?_ ?_<;>intros<;>kernel_rfl)
theorem due_ok(ro sp:Addr)(down ib hl hh:Bool)(lo hi:Option Bd)(Hl:∀b,lo=some b→∀t,CO w P b1 b2 nt (cRk (b.p.val t) b.r))(Hh:∀b,hi=some b→∀t,CO w P b1 b2 nt (cRk (b.p.val t) b.r))
  (rows:List Rw) (hn:rows.length≤4) (en:Nat) (HR:∀R∈rows,∀t,CO w P b1 b2 nt (cRk (R.p.val t) R.r)) (q:List Nat) (hq:SoOk (keysR (sgB down) rows 0) q):
  CO w P b1 b2 nt (cDue ro sp down ib hl hh lo hi rows en (dueK rows lo hi hl hh (sgB down) q)):=by
 intro A s R hr hp hR
 have hs:SgOk (sgB down):=by cases down<;>first|exact .inl rfl|exact .inr rfl
 have S0:=Hs.start hp
 refine de_ok hP nt ro sp down ib A s R hr (Hs.preP (C:=cDe P ro sp down ib) (F:=_) S0 rfl (fun _ e=>nomatch e)) fun X0 h0 t0 P0=> ?_
 have S1:=Hs.stepP (C:=cDe P ro sp down ib) (F:=_) S0 rfl P0
 let F0:Df:=⟨X0 0,sp,0,0,hS P downS,hS P d_spanS,hS P d_isbS,hS P d_lowS,hS P d_hlowS,hS P d_highS,hS P d_hhighS,hS P d_placedS,hS P d_foundS,X0 3,X0 4,X0 5,0,0,0,0,0,0⟩
 have hfun:duC (Kq P b1 b2) (X0 0) (X0 2) (X0 1)=.func (forBd (duC (Kq P b1 b2) (X0 0) (X0 2) (X0 1))) (cEnv (duC (Kq P b1 b2) (X0 0) (X0 2) (X0 1))):=by kernel_rfl
 generalize hA0:(cDue ro sp down ib hl hh lo hi rows en (dueK rows lo hi hl hh (sgB down) q)).pre.map (fun(p:Addr×Obj)=>p.1)=A0 at S1
 have S1:Hs (Kq P b1 b2) nt s.heap A0 ((ro,lstObj (rows.map fun R=>Value.ref R.a).toArray en)::(sp,spO hl hh lo hi)::((rows.map Rw.o++(optO (lo.map Bd.v)++optO (hi.map Bd.v)))++[(X0 0,frmObj (F0.e3 down ib).toArray 3),(X0 1,cellObj (.ref ro)),(X0 2,cellE)])) h0:=S1
 show wpOwn (model pw w) A (duC (Kq P b1 b2) (X0 0) (X0 2) (X0 1)) (denote table (duC (Kq P b1 b2) (X0 0) (X0 2) (X0 1))) _ _ _
 rw[hfun]
 refine func_own ?_
 refine own_cut (forBd (duC (Kq P b1 b2) (X0 0) (X0 2) (X0 1))) 0 2 ?_
 refine S1.blkP (d0_ok hP nt F0 (X0 2) (X0 1) down ib hl hh (lo.map Bd.v) (hi.map Bd.v)) hfun hr (Nat.le_refl _) ((ro,lstObj (rows.map fun R=>Value.ref R.a).toArray en)::(X0 1,cellObj (.ref ro))::(rows.map Rw.o++(optO (lo.map Bd.v)++optO (hi.map Bd.v)))) ?_ (fun _=>rfl) (fun _ e=>nomatch e) fun X1 h1 t1 S2=> ?_
 ·show List.Perm _ ((X0 0,frmObj (F0.e3 down ib).toArray 3)::(sp,spO hl hh lo hi)::(X0 2,cellE)::([]++_))
  refine pm fun a=> ?_
  simp+arith only[cnt_app,cnt_cons,cnt_nil,List.cons_append,List.nil_append]
 let F1:Df:={F0 with t4:=X1 0,t5:=X1 1,t6:=X1 2,t7:=X1 3}
 have S2:Hs (Kq P b1 b2) nt s.heap A0 ((X0 0,frmObj (F1.e3 down ib++F1.e4 hl hh (lo.map Bd.v) (hi.map Bd.v)).toArray 7)::(sp,spO hl hh lo hi)::(X0 2,cellObj (.int (sgB down) (tgB down (X1 0))))::(((ro,lstObj (rows.map fun R=>Value.ref R.a).toArray en)::(X0 1,cellObj (.ref ro))::(rows.map Rw.o++(optO (lo.map Bd.v)++optO (hi.map Bd.v))))++[])) h1:=S2
 refine own_cut (forBd (duC (Kq P b1 b2) (X0 0) (X0 2) (X0 1))) 2 1 ?_
 refine S2.blkP (d1_all hP nt F1 (X0 2) (X0 1) ro down ib hl hh (lo.map Bd.v) (hi.map Bd.v) (sgB down) (tgB down (X1 0)) hs rows _ rfl hn en HR q hq) hfun hr (Nat.le_refl _) ((sp,spO hl hh lo hi)::(optO (lo.map Bd.v)++optO (hi.map Bd.v))) ?_ (fun _=>by simp only[cDf,List.length_cons,List.length_map]) (fun _ e=>nomatch e) fun X2 h2 t2 S3=> ?_
 ·show List.Perm _ ((X0 0,frmObj (F1.e3 down ib++F1.e4 hl hh (lo.map Bd.v) (hi.map Bd.v)).toArray 7)::(X0 2,cellObj (.int (sgB down) (tgB down (X1 0))))::(X0 1,cellObj (.ref ro))::(ro,lstObj (rows.map fun R=>Value.ref R.a).toArray en)::(rows.map Rw.o++_))
  refine pm fun a=> ?_
  simp+arith only[cnt_app,cnt_cons,cnt_nil,List.cons_append,List.nil_append]
 let F2:Df:={F1 with pl:=X2 0,t8:=X2 (rows.length+1)}
 have hkl:(keysR (sgB down) rows 0).length=rows.length:=keysR_len _ _ _
 have hq2:∀i∈q,i<rows.length:=by obtain⟨_,_,_,_,h⟩:=hq;rw[hkl]at h;exact h
 have hqp:q.Perm (List.range rows.length):=by have:=so_perm (by rw[hkl];exact hn) hq;rw[hkl]at this;exact this
 let tss:List Ts:=q.map (tsAt X2 rows)
 have hlen:tss.length=rows.length:=by show(q.map _).length=_;rw[List.length_map,hqp.length_eq,List.length_range]
 have hps:soArr (adrsX X2 rows.length) q=(tss.map fun t=>Value.ref t.tu).toArray:=by
  show _=((q.map _).map _).toArray
  unfold soArr
  rw[List.map_map];rfl
 have htp:(nwL X2 (tupsX (sgB down) X2 rows.length rows 0) 1).Perm (tss.map (Ts.o (sgB down))):=by
  rw[nwL_tups (sgB down) X2 rows rows 0 (fun k R e=>by rw[Nat.zero_add];exact e)]
  show List.Perm _ ((q.map _).map _)
  rw[List.map_map,←List.range_eq_range']
  exact(hqp.map _).symm
 have S3:Hs (Kq P b1 b2) nt s.heap A0 ((X0 0,frmObj (F2.e3 down ib++F2.e4 hl hh (lo.map Bd.v) (hi.map Bd.v)++[F2.eP]).toArray 8)::(X0 2,cellObj (.int (sgB down) (tgB down (X1 0))))::(X0 1,cellObj (.ref ro))::(ro,lstObj (rows.map fun R=>Value.ref R.a).toArray en)::(zpL (rows.map Rw.o) (rows.map fun R=>R.o.2)++(((sp,spO hl hh lo hi)::(optO (lo.map Bd.v)++optO (hi.map Bd.v)))++((X2 0,lstObj (soArr (adrsX X2 rows.length) q) (X2 (rows.length+2+2*rows.length)))::nwL X2 (tupsX (sgB down) X2 rows.length rows 0) 1)))) h2:=S3
 rw[hps]at S3
 have hz:zpL (rows.map Rw.o) (rows.map fun R=>R.o.2)=rows.map Rw.o:=by
  have:=zpL_self (rows.map Rw.o)
  rw[List.map_map]at this
  exact this
 rw[hz]at S3
 refine own_cut (forBd (duC (Kq P b1 b2) (X0 0) (X0 2) (X0 1))) 3 1 ?_
 refine S3.blkP (d2_ok hP nt F2 (X0 2) (X0 1) down ib hl hh (lo.map Bd.v) (hi.map Bd.v)) hfun hr (Nat.le_refl _) ((X0 2,cellObj (.int (sgB down) (tgB down (X1 0))))::(X0 1,cellObj (.ref ro))::(ro,lstObj (rows.map fun R=>Value.ref R.a).toArray en)::(rows.map Rw.o++(((sp,spO hl hh lo hi)::(optO (lo.map Bd.v)++optO (hi.map Bd.v)))++((X2 0,lstObj (tss.map fun t=>Value.ref t.tu).toArray (X2 (rows.length+2+2*rows.length)))::nwL X2 (tupsX (sgB down) X2 rows.length rows 0) 1)))) (List.Perm.refl _) (fun _=>rfl) (fun _ e=>nomatch e) fun X3 h3 t3 S4=> ?_
 let F3:Df:={F2 with fd:=X3 0,t9:=X3 1}
 have S4:Hs (Kq P b1 b2) nt s.heap A0 ((X0 0,frmObj (F3.es down ib hl hh (lo.map Bd.v) (hi.map Bd.v) []).toArray 9)::(((X0 2,cellObj (.int (sgB down) (tgB down (X1 0))))::(X0 1,cellObj (.ref ro))::(ro,lstObj (rows.map fun R=>Value.ref R.a).toArray en)::(rows.map Rw.o++(((sp,spO hl hh lo hi)::(optO (lo.map Bd.v)++optO (hi.map Bd.v)))++((X2 0,lstObj (tss.map fun t=>Value.ref t.tu).toArray (X2 (rows.length+2+2*rows.length)))::nwL X2 (tupsX (sgB down) X2 rows.length rows 0) 1))))++[(X3 0,lstObj #[] 0)])) h3:=S4
 refine own_cut (forBd (duC (Kq P b1 b2) (X0 0) (X0 2) (X0 1))) 4 1 ?_
 have hst:((forBd (duC (Kq P b1 b2) (X0 0) (X0 2) (X0 1))).drop 4).take 1=[.For (stTg (stC (duC (Kq P b1 b2) (X0 0) (X0 2) (X0 1)) 4)) (forIt (stC (duC (Kq P b1 b2) (X0 0) (X0 2) (X0 1)) 4)) (stBd (stC (duC (Kq P b1 b2) (X0 0) (X0 2) (X0 1)) 4)) [] (forPos (stC (duC (Kq P b1 b2) (X0 0) (X0 2) (X0 1)) 4))]:=by kernel_rfl
 rw[hst]
 refine S4.forP (d3_ok hP nt F3 (X0 2) (X0 1) down ib hl hh (lo.map Bd.v) (hi.map Bd.v) (tss.map fun t=>Value.ref t.tu).toArray (X2 (rows.length+2+2*rows.length))) hfun hr (Nat.le_refl _) ((X3 0,lstObj #[] 0)::(X0 2,cellObj (.int (sgB down) (tgB down (X1 0))))::(X0 1,cellObj (.ref ro))::(ro,lstObj (rows.map fun R=>Value.ref R.a).toArray en)::(rows.map Rw.o++(((sp,spO hl hh lo hi)::(optO (lo.map Bd.v)++optO (hi.map Bd.v)))++nwL X2 (tupsX (sgB down) X2 rows.length rows 0) 1))) ?_ (fun _=>rfl) (fun _ e=>nomatch e) fun X4 h4 t4 S5=> ?_
 ·show List.Perm _ ((X0 0,frmObj (F3.es down ib hl hh (lo.map Bd.v) (hi.map Bd.v) []).toArray 9)::(X2 0,lstObj (tss.map fun t=>Value.ref t.tu).toArray (X2 (rows.length+2+2*rows.length)))::([]++_))
  refine pm fun a=> ?_
  simp+arith only[cnt_app,cnt_cons,cnt_nil,List.cons_append,List.nil_append]
 have hloop:Code.forLoop (stTg (stC (duC (Kq P b1 b2) (X0 0) (X0 2) (X0 1)) 4)) (.ref (X4 0)) (stBd (stC (duC (Kq P b1 b2) (X0 0) (X0 2) (X0 1)) 4)) [] (cEnv (duC (Kq P b1 b2) (X0 0) (X0 2) (X0 1)))=dlC (Kq P b1 b2) F3 (X4 0) (X0 2) (X0 1):=by kernel_rfl
 show wpOwn (model pw w) _ (.forLoop (stTg (stC (duC (Kq P b1 b2) (X0 0) (X0 2) (X0 1)) 4)) (.ref (X4 0)) (stBd (stC (duC (Kq P b1 b2) (X0 0) (X0 2) (X0 1)) 4)) [] (cEnv (duC (Kq P b1 b2) (X0 0) (X0 2) (X0 1)))) (denote table (.forLoop (stTg (stC (duC (Kq P b1 b2) (X0 0) (X0 2) (X0 1)) 4)) (.ref (X4 0)) (stBd (stC (duC (Kq P b1 b2) (X0 0) (X0 2) (X0 1)) 4)) [] (cEnv (duC (Kq P b1 b2) (X0 0) (X0 2) (X0 1))))) _ _ _
 rw[hloop]
 have S5:Hs (Kq P b1 b2) nt s.heap A0 ((X0 0,frmObj (F3.es down ib hl hh (lo.map Bd.v) (hi.map Bd.v) []).toArray 9)::(X2 0,lstObj (tss.map fun t=>Value.ref t.tu).toArray (X2 (rows.length+2+2*rows.length)))::(((X3 0,lstObj #[] 0)::(X0 2,cellObj (.int (sgB down) (tgB down (X1 0))))::(X0 1,cellObj (.ref ro))::(ro,lstObj (rows.map fun R=>Value.ref R.a).toArray en)::(rows.map Rw.o++(((sp,spO hl hh lo hi)::(optO (lo.map Bd.v)++optO (hi.map Bd.v)))++nwL X2 (tupsX (sgB down) X2 rows.length rows 0) 1)))++[(X4 0,litObj (X2 0) 0)])) h4:=S5
 have hA4:Rm 4 0 ((A.under (.func (forBd (duC (Kq P b1 b2) (X0 0) (X0 2) (X0 1))) (cEnv (duC (Kq P b1 b2) (X0 0) (X0 2) (X0 1))))).mark none):=by
  have h1:Rm 5 0 A:=hr
  have h2:=(h1.under (c:=.func (forBd (duC (Kq P b1 b2) (X0 0) (X0 2) (X0 1))) (cEnv (duC (Kq P b1 b2) (X0 0) (X0 2) (X0 1)))) ⟨⟨⟨rfl,rfl⟩,Nat.le_refl _⟩,trivial⟩).mark
  exact h2.down (by omega) (Nat.le_refl _)
 refine due_loop hP nt F3 (X4 0) (X0 2) (X0 1) ro down ib hl hh lo hi Hl Hh (sgB down) (tgB down (X1 0)) hs tss (by rw[hlen];exact hn) (X2 (rows.length+2+2*rows.length)) rows ?_ en [(sp,spO hl hh lo hi)] (h₀:=s.heap) (A₀:=A0) hA4 tss [] rfl [] _ _ (Nat.le_refl _) ⟨none,rfl⟩ rfl ?_ ?_
 ·intro t ht
  obtain⟨j,hj,rfl⟩:=List.mem_map.mp ht
  have hj:=hq2 j hj
  refine⟨?_,by show j<100;omega⟩
  show rows[j]?=some (nthD rwD rows j)
  rw[nthD_eq,List.getD_eq_getElem?_getD,List.getElem?_eq_getElem hj];rfl
 ·refine S5.perm ?_
  show List.Perm _ ((X0 0,frmObj (F3.es down ib hl hh (lo.map Bd.v) (hi.map Bd.v) []).toArray 9)::(X4 0,litObj (X2 0) 0)::(X2 0,lstObj (tss.map fun t=>Value.ref t.tu).toArray (X2 (rows.length+2+2*rows.length)))::(X3 0,lstObj #[] 0)::(X0 2,cellObj (.int (sgB down) (tgB down (X1 0))))::(X0 1,cellObj (.ref ro))::(ro,lstObj (rows.map fun R=>Value.ref R.a).toArray en)::((tss.map (Ts.o (sgB down))++(rows.map Rw.o++((optO (lo.map Bd.v)++optO (hi.map Bd.v))++[(sp,spO hl hh lo hi)])))++[]))
  refine pm fun a=> ?_
  simp+arith only[cnt_app,cnt_cons,cnt_nil,List.cons_append,cnt_perm htp a]
 ·intro fds fr h5 t5 hfr hkey hf4 S6
  rw[dueK_eq rows lo hi hl hh (sgB down) X2 q hq2]at hkey
  refine⟨rfl,?_⟩
  obtain⟨o,rfl⟩:=hfr
  generalize dEo o=l at S6
  have hfl:9+l.length=(F3.es down ib hl hh (lo.map Bd.v) (hi.map Bd.v) l).length:=by
   simp only[Df.es,List.length_cons];omega
  rw[hfl]at S6
  have S6:Hs (Kq P b1 b2) nt s.heap A0 ((X0 0,frmObj (F3.es down ib hl hh (lo.map Bd.v) (hi.map Bd.v) l).toArray (F3.es down ib hl hh (lo.map Bd.v) (hi.map Bd.v) l).length)::(X4 0,litE tss.length)::(X2 0,lstObj (tss.map fun t=>Value.ref t.tu).toArray (X2 (rows.length+2+2*rows.length)))::(X3 0,lstObj (fds.map fun f=>Value.ref f.a).toArray fds.length)::(X0 2,cellObj (.int (sgB down) (tgB down (X1 0))))::(X0 1,cellObj (.ref ro))::(ro,lstObj (rows.map fun R=>Value.ref R.a).toArray en)::((tss.map (Ts.o (sgB down))++(rows.map Rw.o++((optO (lo.map Bd.v)++optO (hi.map Bd.v))++[(sp,spO hl hh lo hi)])))++fds.map Fo.o)) h5:=S6
  have em:(fds.map fun f=>Value.ref f.a)=(fds.map (·.a)).map Value.ref:=by rw[List.map_map];rfl
  have hx1:∀res (k:Nat) (f:Fo),fds[k]?=some f→xFo res fds (k+1)=f.a:=fun res k f e=>by
   have hk:=(List.getElem?_eq_some_iff.mp e).1
   unfold xFo
   rw[if_neg (by omega),Nat.add_sub_cancel,if_pos hk,nthD_eq,List.getD_eq_getElem?_getD,e];rfl
  have hx2:∀res (k:Nat) (f:Fo),fds[k]?=some f→xFo res fds (fds.length+1+k)=f.tk:=fun res k f e=>by
   have hk:=(List.getElem?_eq_some_iff.mp e).1
   unfold xFo
   rw[if_neg (by omega),if_neg (by omega),show fds.length+1+k-1-fds.length=k by omega,nthD_eq,List.getD_eq_getElem?_getD,e];rfl
  have hnw:∀res,nwL (xFo res fds) (foObjs (xFo res fds) fds.length (fds.map Fo.key) 0) 1=fds.map Fo.o:=fun res=>
   nwL_fo (xFo res fds) fds.length fds 0 fun k f e=>by rw[Nat.zero_add];exact⟨hx1 res k f e,hx2 res k f e⟩
  have hx0:∀res,xFo res fds 0=res:=fun _=>rfl
  have had:∀res,adrsX (xFo res fds) fds.length=fds.map (·.a):=fun res=>adrsX_eq _ fds (hx1 res)
  rw[←hkey]at hR hA0
  have hfk:(fds.map Fo.key).length=fds.length:=List.length_map _
  cases ib with
  |false=>
   refine S6.retP (d5_f hP nt F3 (X0 2) (X0 1) down hl hh (lo.map Bd.v) (hi.map Bd.v) l) hfun hr (Nat.le_refl _) _ (List.Perm.refl _) (fun _=>rfl) (fun _ e=>nomatch e) fun X5 h6 t6 S7=> ?_
   subst hA0
   refine hR (xFo (X3 0) fds) h6 t6 (S7.postP (F:=(X0 0,frmObj (F3.es down false hl hh (lo.map Bd.v) (hi.map Bd.v) l).toArray (F3.es down false hl hh (lo.map Bd.v) (hi.map Bd.v) l).length)::(X4 0,litE tss.length)::(X2 0,lstObj (tss.map fun t=>Value.ref t.tu).toArray (X2 (rows.length+2+2*rows.length)))::(X0 2,cellObj (.int (sgB down) (tgB down (X1 0))))::(X0 1,cellObj (.ref ro))::tss.map (Ts.o (sgB down))) ?_ ?_)
   ·show List.Perm _ ((ro,lstObj (rows.map fun R=>Value.ref R.a).toArray en)::(sp,spO hl hh lo hi)::(zpL (rows.map Rw.o++(optO (lo.map Bd.v)++optO (hi.map Bd.v))) ((rows.map Rw.o++(optO (lo.map Bd.v)++optO (hi.map Bd.v))).map (·.2))++((xFo (X3 0) fds 0,lstObj ((adrsX (xFo (X3 0) fds) (fds.map Fo.key).length).map Value.ref).toArray (fds.map Fo.key).length)::(nwL (xFo (X3 0) fds) (foObjs (xFo (X3 0) fds) (fds.map Fo.key).length (fds.map Fo.key) 0) 1++_))))
    rw[hfk,zpL_self,hnw,had,hx0,←em]
    show List.Perm ((X0 0,frmObj (F3.es down false hl hh (lo.map Bd.v) (hi.map Bd.v) l).toArray (F3.es down false hl hh (lo.map Bd.v) (hi.map Bd.v) l).length)::(_++[])) _
    refine pm fun a=> ?_
    simp+arith only[cnt_app,cnt_cons,cnt_nil,List.cons_append,List.nil_append]
   ·simp only[cDue,List.length_cons,List.length_map]
  |true=>
   rw[em]at S6
   refine S6.retP (d5_t hP nt F3 (X0 2) (X0 1) down hl hh (lo.map Bd.v) (hi.map Bd.v) l (fds.map (·.a)) (by rw[List.length_map];exact hf4) fds.length) hfun hr (Nat.le_refl _) ((X4 0,litE tss.length)::(X2 0,lstObj (tss.map fun t=>Value.ref t.tu).toArray (X2 (rows.length+2+2*rows.length)))::(X0 2,cellObj (.int (sgB down) (tgB down (X1 0))))::(X0 1,cellObj (.ref ro))::(ro,lstObj (rows.map fun R=>Value.ref R.a).toArray en)::((tss.map (Ts.o (sgB down))++(rows.map Rw.o++((optO (lo.map Bd.v)++optO (hi.map Bd.v))++[(sp,spO hl hh lo hi)])))++fds.map Fo.o)) ?_ (fun _=>rfl) (fun _ e=>nomatch e) fun X5 h6 t6 S7=> ?_
   ·show List.Perm _ ((X0 0,frmObj (F3.es down true hl hh (lo.map Bd.v) (hi.map Bd.v) l).toArray (F3.es down true hl hh (lo.map Bd.v) (hi.map Bd.v) l).length)::(X3 0,lstObj ((fds.map (·.a)).map Value.ref).toArray fds.length)::([]++_))
    refine pm fun a=> ?_
    simp+arith only[cnt_app,cnt_cons,cnt_nil,List.cons_append,List.nil_append]
   ·subst hA0
    have S7:Hs (Kq P b1 b2) nt s.heap _ ((X0 0,frmObj (F3.es down true hl hh (lo.map Bd.v) (hi.map Bd.v) l).toArray (F3.es down true hl hh (lo.map Bd.v) (hi.map Bd.v) l).length)::(X3 0,lstObj ((fds.map (·.a)).map Value.ref).toArray fds.length)::(((X4 0,litE tss.length)::(X2 0,lstObj (tss.map fun t=>Value.ref t.tu).toArray (X2 (rows.length+2+2*rows.length)))::(X0 2,cellObj (.int (sgB down) (tgB down (X1 0))))::(X0 1,cellObj (.ref ro))::(ro,lstObj (rows.map fun R=>Value.ref R.a).toArray en)::((tss.map (Ts.o (sgB down))++(rows.map Rw.o++((optO (lo.map Bd.v)++optO (hi.map Bd.v))++[(sp,spO hl hh lo hi)])))++fds.map Fo.o))++[(X5 0,lstObj ((fds.map (·.a)).reverse.map Value.ref).toArray 0)])) h6:=S7
    refine hR (xFo (X5 0) fds) h6 t6 (S7.postP (F:=(X0 0,frmObj (F3.es down true hl hh (lo.map Bd.v) (hi.map Bd.v) l).toArray (F3.es down true hl hh (lo.map Bd.v) (hi.map Bd.v) l).length)::(X3 0,lstObj ((fds.map (·.a)).map Value.ref).toArray fds.length)::(X4 0,litE tss.length)::(X2 0,lstObj (tss.map fun t=>Value.ref t.tu).toArray (X2 (rows.length+2+2*rows.length)))::(X0 2,cellObj (.int (sgB down) (tgB down (X1 0))))::(X0 1,cellObj (.ref ro))::tss.map (Ts.o (sgB down))) ?_ ?_)
    ·show List.Perm _ ((ro,lstObj (rows.map fun R=>Value.ref R.a).toArray en)::(sp,spO hl hh lo hi)::(zpL (rows.map Rw.o++(optO (lo.map Bd.v)++optO (hi.map Bd.v))) ((rows.map Rw.o++(optO (lo.map Bd.v)++optO (hi.map Bd.v))).map (·.2))++((xFo (X5 0) fds 0,lstObj ((adrsX (xFo (X5 0) fds) (fds.map Fo.key).length).reverse.map Value.ref).toArray 0)::(nwL (xFo (X5 0) fds) (foObjs (xFo (X5 0) fds) (fds.map Fo.key).length (fds.map Fo.key) 0) 1++_))))
     rw[hfk,zpL_self,hnw,had,hx0]
     refine pm fun a=> ?_
     simp+arith only[cnt_app,cnt_cons,cnt_nil,List.cons_append,List.nil_append]
    ·simp only[cDue,List.length_cons,List.length_map]
end
noncomputable def ovE(l:List DictEntry)(v:Value):Nat→List DictEntry:=@List.rec DictEntry (fun _=>Nat→List DictEntry) (fun _=>[]) (fun e l r i=>@Nat.rec (fun _=>List DictEntry) ({e with val:=v}::l) (fun i _=>e::r i) i) l
theorem ovE_length(v:Value):∀(l:List DictEntry)(i:Nat),(ovE l v i).length=l.length
 |[],_=>rfl
 |_::_,0=>rfl
 |e::l,i+1=>by show(ovE l v i).length+1=_;rw[ovE_length v l i];rfl
theorem ovE_iKeys(v:Value):∀(l:List DictEntry)(i:Nat),iKeys (ovE l v i)=iKeys l
 |[],_=>rfl
 |_::_,0=>rfl
 |e::l,i+1=>by
  show(match e.key with|.int k _=>andB (intB e.hash (hashInt k)) (iKeys (ovE l v i))|_=>false)=_
  rw[ovE_iKeys v l i];rfl
theorem ovE_iFind(k:Int)(v:Value):∀(l:List DictEntry)(i n:Nat),iFind k (ovE l v i) n=iFind k l n
 |[],_,_=>rfl
 |_::_,0,_=>rfl
 |e::l,i+1,n=>by
  show(match e.key with|.int x _=>@Bool.rec (fun _=>Option Nat) (iFind k (ovE l v i) (Nat.succ n)) (some n) (intB k x)|_=>iFind k (ovE l v i) (Nat.succ n))=_
  rw[ovE_iFind k v l i (Nat.succ n)];rfl
theorem ovE_get(v:Value):∀(l:List DictEntry)(i:Nat),i<l.length→∃e,(ovE l v i)[i]?=some e∧e.val=v
 |[],_,h=>absurd h (Nat.not_lt_zero _)
 |e::_,0,_=>⟨{e with val:=v},rfl,rfl⟩
 |_::l,i+1,h=>ovE_get v l i (Nat.lt_of_succ_lt_succ h)
theorem lk_over{es:List DictEntry}{ep:Nat}{k:Int}{i:Nat}(v:Value)(h:lkK (dicObj es.toArray ep) k=some (some i)):
  lkK (dicObj (ovE es v i).toArray ep) k=some (some i)∧orN (vlK (dicObj (ovE es v i).toArray ep) (some i))=v:=by
 have e1:∀l:List DictEntry,lkK (dicObj l.toArray ep) k=@Bool.rec (fun _=>Option (Option Nat)) none (@Bool.rec (fun _=>Option (Option Nat)) none (some (iFind k l 0)) (iKeys l)) (Nat.blt l.length 1000):=fun l=>rfl
 have e2:orN (vlK (dicObj (ovE es v i).toArray ep) (some i))=orN (@Option.rec DictEntry (fun _=>Option Value) none (fun e=>some e.val) ((ovE es v i)[i]?)):=rfl
 rw[e1]at h
 refine⟨?_,?_⟩
 ·rw[e1,ovE_length,ovE_iKeys,ovE_iFind];exact h
 ·have hi:i<es.length:=by
   cases q:Nat.blt es.length 1000 with
   |false=>rw[q]at h;cases h
   |true=>
    rw[q]at h
    cases q2:iKeys es with
    |false=>rw[q2]at h;cases h
    |true=>
     rw[q2]at h
     have h:some (iFind k es 0)=some (some i):=h
     injection h with h
     rw[iFind_eq]at h
     cases q3:es.findIdx? fun e=>Value.isInt k e.key with
     |none=>rw[q3]at h;cases h
     |some j=>
      rw[q3]at h
      have:j=i:=by simpa using h
      subst this
      exact(List.findIdx?_eq_some_iff_getElem.mp q3).1
  obtain⟨e,g1,g2⟩:=ovE_get v es i hi
  rw[e2,g1]
  exact g2
section
variable{prog:Program}{w:World}{kt:KT}{nt:Nat}
noncomputable def Fseq(x y:Str)(v:Bool):Fam:=fun c _ _=>conV (.builtin "str.__eq__" ⟨[.str x (bTok c 0),.str y (bTok c 1)],[]⟩) [] (.bool v) 1
theorem seq_ok{x y:Str}{v:Bool}(h:(x.cps.toList==y.cps.toList)=v):FamOk prog w kt nt (Fseq x y v):=fun _ _ _=>
 gives_val_ok (entryFor_of_fast (b:=Builtin.«str.__eq__») (by kernel_rfl)) (by decide+kernel) (h▸gives_str_eq x y _ _)
noncomputable def RouteIs(o:Obj)(nm:Str)(part:Addr):Prop:=∃es r,dcOf o=some es∧(∀t,look (.str nm t) es.toList=some r)∧orN (valAt es.toList r)=.ref part
noncomputable def Frget(a:Addr)(o:Obj)(nm:Str)(part:Addr):Fam:=fun c _ _=>conV (.builtin "dict.get" ⟨[.ref a,.str nm (bTok c 1)],[]⟩) [(a,o)] (.ref part) 1
theorem rget_ok{a:Addr}{o:Obj}{nm:Str}{part:Addr}(h:RouteIs o nm part):FamOk prog w kt nt (Frget a o nm part):=by
 intro c T sc
 obtain⟨es,r,h1,h2,h4⟩:=h
 have z:=dCon_ok (prog:=prog) (w:=w) (kt:=kt) (nt:=nt) (id:="dict.get") (a:=a) (key:=.str nm (bTok c 1)) (o:=o) (pre:=[(a,o)]) (fun need val s P=>own_sys P (List.mem_singleton.mpr rfl)) fun need val s P=>(P.pre _ (List.mem_singleton.mpr rfl)).1
 have e:dCon "dict.get" a (.str nm (bTok c 1)) o [(a,o)]=Frget a o nm part c T sc:=by
  unfold dCon Frget
  rw[h1]
  simp only[h2]
  have:dId "dict.get"=0:=by decide+kernel
  simp only[this]
  rw[←h4]
  rfl
 rw[←e]
 exact z
end
noncomputable def epD(o:Obj):Nat:=match o.data with
 |.dict _ e=>e
 |_=>0
noncomputable def arAt(T:LT)(j:Nat):Array DictEntry:=(entOf (objAt T j)).toArray
noncomputable def edAt(T:LT)(j:Nat):Nat:=epD (objAt T j)
structure Wo where
 M:Mv
 C:Co
 K:Kx
 B:Tx
 down:Bool
 rs:List Value
 e:Nat
 L:List Ro
 D:List (Addr×Obj)
 q0:Addr×Obj
 q1:Addr×Obj
 q2:Addr×Obj
 q3:Addr×Obj
 eT:Nat
 c0:Tok
 c1:Tok
structure Rr where
 j:Nat
 r:Nat
 o:Array UInt8
 tb:Tok
 ra:Addr
 tn:Tok
 o1:Array UInt8
 tb1:Tok
 px:Pv
 py:Pv
noncomputable def Wo.va(W:Wo):Array Value:=(W.L.map fun r=>Value.ref r.ad).toArray
noncomputable def Wo.m(W:Wo):Mv:=W.M.on W.C.a
noncomputable def Wo.Ok(W:Wo):Prop:=roTs W.L 1++W.D=[W.q0,W.q1,W.q2,W.q3]∧W.L.length+W.D.length=4∧W.rs.length≤4
structure RrOk(w:World)(P:Params)(b1 b2:Bool)(nt:Nat)(W:Wo)(R:Rr):Prop where
 hv:W.rs.toArray[R.j]?=some (.bytes R.o R.tb)
 hj:R.j<100
 hr:R.r<W.L.length
 hq:[W.q0,W.q1,W.q2,W.q3][R.r]?=some (R.ra,tupObj #[.int (R.r+1:Nat) R.tn,.bytes R.o1 R.tb1])
 ha:W.va[R.r]?=some (.ref R.ra)
 hd:∀t,CO w P b1 b2 nt (cDec R.o R.py.val (.int (R.r+1:Nat)) t)
 h0:∀t u,CO w P b1 b2 nt (cCol R.o1 R.px.val t u)
 h1:∀t u,CO w P b1 b2 nt (cCol R.o R.py.val t u)
noncomputable def isF(v:Value):Bool:=match v with
 |.bool false=>true
 |_=>false
theorem isF_eq{v:Value}(h:isF v=true):v=.bool false:=by
 unfold isF at h
 split at h
 ·rfl
 ·cases h
noncomputable def cSfQ(w:World)(M:Mv)(O:Op)(f:Int)(tf:Tok)(c0 c1:Tok)(ne:Array DictEntry)(np:Nat)(r1 r2:Option Nat)(K:Kx)(down:Bool)(rs:List Value)(e j:Nat)(tp:Tok)(Tb:Tx)(va:Array Value)(qs:List (Addr×Obj))(eT:Nat)(plT:Int)(tpT:Tok)(r:Nat):Con:=
 cOp M O f tf (O.obj nmSeekFromIdx 1 0 0 .none::(M.objs Tb.a K.a c0 c1 ne np++(K.objs down rs.toArray e j tp++(txV Tb va eT plT tpT++qs)))) (.int f tf) (fun X=>O.obj nmSeekFromIdx 1 0 0 .none::(M.objs Tb.a K.a c0 c1 (dEs w (.int 0 O.t2) (.bool false) (dEs w (.int 1 O.t1) (.bool false) ne r1) r2) (dEp (dEp np r1) r2)++(K.objs down rs.toArray e j tp++(txV Tb va eT (r:Nat) (X 0)++qs)))) 8
theorem cSf_eq(w:World)(M:Mv)(O:Op)(f:Int)(tf:Tok)(c0 c1:Tok)(ne:Array DictEntry)(np:Nat)(r1 r2:Option Nat)(K:Kx)(down:Bool)(rs:List Value)(e j:Nat)(tp:Tok)(Tb:Tx)(L:List Ro)(D:List (Addr×Obj))(eT:Nat)(plT:Int)(tpT:Tok)(r:Nat):
  cSfi w M O f tf c0 c1 ne np r1 r2 K down rs e j tp Tb L D eT plT tpT r=cSfQ w M O f tf c0 c1 ne np r1 r2 K down rs e j tp Tb (L.map fun r=>Value.ref r.ad).toArray (roTs L 1++D) eT plT tpT r:=by
 have h:∀pl tp,Tb.objs L eT pl tp++D=txV Tb (L.map fun r=>Value.ref r.ad).toArray eT pl tp++(roTs L 1++D):=fun pl tp=>by
  unfold Tx.objs
  rw[List.append_assoc]
  rfl
 unfold cSfi cSfQ
 simp only[h]
noncomputable def FSfi(w:World)(W:Wo)(O:Op)(f:Int)(R:Rr):Fam:=fun c T sc=>
 match lkK (dicObj (arAt T (rd sc 4)) (edAt T (rd sc 4))) 1 with
 |some r1=>(match lkK (dicObj (dEs w (.int 1 O.t1) (.bool false) (arAt T (rd sc 4)) r1) (dEp (edAt T (rd sc 4)) r1)) 0 with
  |some r2=>cSfQ w W.m O f (cTok c 2) W.c0 W.c1 (arAt T (rd sc 4)) (edAt T (rd sc 4)) r1 r2 W.K W.down W.rs W.e R.j (vlAt T (rd sc 6) 2) W.B W.va [W.q0,W.q1,W.q2,W.q3] W.eT (@Int.rec (fun _=>Int) (fun n=>Int.ofNat n) (fun n=>Int.negSucc n) (match(enAt T (rd sc 13) 1).val with|.int i _=>i|_=>0)) (vlAt T (rd sc 13) 1) R.r
  |none=>conNo)
 |none=>conNo
noncomputable def FRid(w:World)(W:Wo)(O:Op)(f:Int)(R:Rr):Fam:=fun c T sc=>
 match lkK (dicObj (arAt T (rd sc 4)) (edAt T (rd sc 4))) 0,lkK (dicObj (arAt T (rd sc 14)) (edAt T (rd sc 14))) (3:Nat)with
 |some r0,some r3=>@Bool.rec (fun _=>Con) conNo (cRid w W.m O f (cTok c 2) W.K.a W.c0 W.c1 (arAt T (rd sc 4)) (edAt T (rd sc 4)) W.B W.va W.eT R.r (vlAt T (rd sc 6) 1) [W.q0,W.q1,W.q2,W.q3] (R.r+1:Nat) R.tn W.C (arAt T (rd sc 14)) (edAt T (rd sc 14)) r3) (isF (orN (vlK (dicObj (arAt T (rd sc 4)) (edAt T (rd sc 4))) r0)))
 |_,_=>conNo
noncomputable def FCl0(w:World)(W:Wo)(O:Op)(f:Int)(R:Rr):Fam:=fun c T sc=>
 match lkK (dicObj (arAt T (rd sc 4)) (edAt T (rd sc 4))) 0,lkK (dicObj (arAt T (rd sc 14)) (edAt T (rd sc 14))) (4:Nat)with
 |some r0,some r3=>@Bool.rec (fun _=>Con) conNo (cCl0 w W.m O f (cTok c 2) W.K.a W.c0 W.c1 (arAt T (rd sc 4)) (edAt T (rd sc 4)) W.B W.va W.eT R.r (vlAt T (rd sc 6) 1) [W.q0,W.q1,W.q2,W.q3] (R.r+1:Nat) R.tn W.C (arAt T (rd sc 14)) (edAt T (rd sc 14)) r3 R.px.val) (isF (orN (vlK (dicObj (arAt T (rd sc 4)) (edAt T (rd sc 4))) r0)))
 |_,_=>conNo
noncomputable def FCl1(w:World)(W:Wo)(O:Op)(f:Int)(R:Rr):Fam:=fun c T sc=>
 match lkK (dicObj (arAt T (rd sc 4)) (edAt T (rd sc 4))) 1,lkK (dicObj (arAt T (rd sc 14)) (edAt T (rd sc 14))) (5:Nat)with
 |some r0,some r3=>@Bool.rec (fun _=>Con) conNo (cCl1 w W.m O f (cTok c 2) W.B.a W.c0 W.c1 (arAt T (rd sc 4)) (edAt T (rd sc 4)) W.K W.down W.rs W.e R.j (vlAt T (rd sc 6) 2) W.C (arAt T (rd sc 14)) (edAt T (rd sc 14)) r3 R.py.val) (isF (orN (vlK (dicObj (arAt T (rd sc 4)) (edAt T (rd sc 4))) r0)))
 |_,_=>conNo
noncomputable def HIdx(w:World)(P:Params)(b1 b2:Bool)(nt:Nat)(W:Wo)(O:Op)(nm:Str)(p2:Int)(t4:Tok)(f:Int)(v:Value)(j:Nat)(b:Bool):Prop:=
 ∀tf ne np tp re rp r1,lkK (dicObj re rp) (2:Nat)=some r1→orN (vlK (dicObj re rp) r1)=v→CO w P b1 b2 nt (cIdx W.m O nm p2 t4 f tf W.B.a W.c0 W.c1 ne np W.K W.down W.rs W.e j tp W.C re rp (@Bool.rec (fun _=>Value) (.int f tf) (.int p2 O.t2) b))
noncomputable def FIdx(W:Wo)(O:Op)(nm:Str)(p2:Int)(t4:Tok)(f:Int)(v:Value)(j:Nat)(b:Bool):Fam:=fun c T sc=>
 match lkK (dicObj (entOf (objAt T (rd sc 14))).toArray (edAt T (rd sc 14))) (2:Nat)with
 |some (some i)=>cIdx W.m O nm p2 t4 f (cTok c 2) W.B.a W.c0 W.c1 (arAt T (rd sc 4)) (edAt T (rd sc 4)) W.K W.down W.rs W.e j (vlAt T (rd sc 6) 2) W.C (ovE (entOf (objAt T (rd sc 14))) v i).toArray (edAt T (rd sc 14)) (@Bool.rec (fun _=>Value) (.int f (cTok c 2)) (.int p2 O.t2) b)
 |_=>conNo
noncomputable def HNext(w:World)(P:Params)(b1 b2:Bool)(nt:Nat)(W:Wo)(O:Op)(nm:Str)(p2 f:Int)(j:Nat)(pl:Int)(b:Bool):Prop:=
 ∀tf ne np tp r,lkK (dicObj ne np) 1=some r→CO w P b1 b2 nt (cMvK w W.m O nm p2 0 .none f tf W.B.a W.c0 W.c1 ne np r W.K W.down W.rs W.e (j:Nat) tp [] pl (@Bool.rec (fun _=>Value) (.int f tf) (.int p2 O.t2) b))
noncomputable def FNext(w:World)(W:Wo)(O:Op)(nm:Str)(p2 f:Int)(j:Nat)(pl:Int)(b:Bool):Fam:=fun c T sc=>
 match lkK (dicObj (arAt T (rd sc 4)) (edAt T (rd sc 4))) 1 with
 |some r=>cMvK w W.m O nm p2 0 .none f (cTok c 2) W.B.a W.c0 W.c1 (arAt T (rd sc 4)) (edAt T (rd sc 4)) r W.K W.down W.rs W.e (j:Nat) (vlAt T (rd sc 6) 2) [] pl (@Bool.rec (fun _=>Value) (.int f (cTok c 2)) (.int p2 O.t2) b)
 |none=>conNo
noncomputable def Fvf3(W:Wo):Fam:=fun c T sc=>
 match lkK (dicObj (arAt T (rd sc 2)) (edAt T (rd sc 2))) (3:Nat),lkK (dicObj (arAt T (rd sc 2)) (edAt T (rd sc 2))) (4:Nat),lkK (dicObj (arAt T (rd sc 2)) (edAt T (rd sc 2))) (5:Nat)with
 |some r3,some r4,some r5=>cVf W.C (dicObj (arAt T (rd sc 2)) (edAt T (rd sc 2))) 3 [orN (vlK (dicObj (arAt T (rd sc 2)) (edAt T (rd sc 2))) r3),orN (vlK (dicObj (arAt T (rd sc 2)) (edAt T (rd sc 2))) r4),orN (vlK (dicObj (arAt T (rd sc 2)) (edAt T (rd sc 2))) r5)] (cTok c 1) (cTok c 2)
 |_,_,_=>conNo
section
variable{w:World}{P:Params}{b1 b2:Bool}(hP:w.params=parT P b1 b2)(nt:Nat)
include hP
theorem FSfi_ok{W:Wo}(hW:W.Ok){R:Rr}(hR:RrOk w P b1 b2 nt W R)(O:Op)(f:Int):FamOk pw w (Kq P b1 b2) nt (FSfi w W O f R):=by
 intro c T sc
 unfold FSfi
 split
 ·rename_i r1 e1
  split
  ·rename_i r2 e2
   have z:=op_Sfi hP nt W.m O f (cTok c 2) W.c0 W.c1 _ _ r1 r2 W.K W.down W.rs W.e R.j (vlAt T (rd sc 6) 2) W.B W.L W.D hW.2.1 W.eT (@Int.rec (fun _=>Int) (fun n=>Int.ofNat n) (fun n=>Int.negSucc n) (match(enAt T (rd sc 13) 1).val with|.int i _=>i|_=>0)) (vlAt T (rd sc 13) 1) R.r hR.hr R.o R.tb R.py.val e1 e2 hR.hv hR.hj hR.hd
   rw[cSf_eq,hW.1]at z
   exact z
  ·exact conNo_ok
 ·exact conNo_ok
section
variable{W:Wo}{R:Rr}(hR:RrOk w P b1 b2 nt W R)(O:Op)(f:Int)
include W R hR O f
theorem FRid_ok:FamOk pw w (Kq P b1 b2) nt (FRid w W O f R):=by
 intro c T sc
 unfold FRid
 split
 ·rename_i r0 r3 e0 e3
  generalize q:isF (orN (vlK (dicObj (arAt T (rd sc 4)) (edAt T (rd sc 4))) r0))=b
  cases b with
  |false=>exact conNo_ok
  |true=>exact op_Rid hP nt W.M O f (cTok c 2) W.K.a W.c0 W.c1 _ _ W.B W.va W.eT R.r _ W.q0 W.q1 W.q2 W.q3 R.ra _ R.tn R.o1 R.tb1 hR.hq W.C _ _ r0 r3 e0 (isF_eq q) hR.ha (Nat.lt_of_lt_of_le (List.getElem?_eq_some_iff.mp hR.hq).1 (Nat.le_of_ble_eq_true rfl)) e3
 ·exact conNo_ok
theorem FCl0_ok:FamOk pw w (Kq P b1 b2) nt (FCl0 w W O f R):=by
 intro c T sc
 unfold FCl0
 split
 ·rename_i r0 r3 e0 e3
  generalize q:isF (orN (vlK (dicObj (arAt T (rd sc 4)) (edAt T (rd sc 4))) r0))=b
  cases b with
  |false=>exact conNo_ok
  |true=>exact op_Cl0 hP nt W.M O f (cTok c 2) W.K.a W.c0 W.c1 _ _ W.B W.va W.eT R.r _ W.q0 W.q1 W.q2 W.q3 R.ra _ R.tn R.o1 R.tb1 hR.hq W.C _ _ r0 r3 R.px e0 (isF_eq q) hR.ha (Nat.lt_of_lt_of_le (List.getElem?_eq_some_iff.mp hR.hq).1 (Nat.le_of_ble_eq_true rfl)) e3 hR.h0
 ·exact conNo_ok
theorem FCl1_ok:FamOk pw w (Kq P b1 b2) nt (FCl1 w W O f R):=by
 intro c T sc
 unfold FCl1
 split
 ·rename_i r0 r3 e0 e3
  generalize q:isF (orN (vlK (dicObj (arAt T (rd sc 4)) (edAt T (rd sc 4))) r0))=b
  cases b with
  |false=>exact conNo_ok
  |true=>exact op_Cl1 hP nt W.M O f (cTok c 2) W.B.a W.c0 W.c1 _ _ W.K W.down W.rs W.e R.j _ R.o R.tb W.C _ _ r0 r3 R.py e0 (isF_eq q) hR.hv hR.hj e3 hR.h1
 ·exact conNo_ok
end
omit hP in
theorem FIdx_ok{W:Wo}{O:Op}{nm:Str}{p2:Int}{t4:Tok}{f:Int}{v:Value}{j:Nat}{b:Bool}(H:HIdx w P b1 b2 nt W O nm p2 t4 f v j b):FamOk pw w (Kq P b1 b2) nt (FIdx W O nm p2 t4 f v j b):=by
 intro c T sc
 unfold FIdx
 split
 ·rename_i i e
  exact H _ _ _ _ _ _ _ (lk_over v e).1 (lk_over v e).2
 ·exact conNo_ok
omit hP in
theorem FNext_ok{W:Wo}{O:Op}{nm:Str}{p2 f:Int}{j:Nat}{pl:Int}{b:Bool}(H:HNext w P b1 b2 nt W O nm p2 f j pl b):FamOk pw w (Kq P b1 b2) nt (FNext w W O nm p2 f j pl b):=by
 intro c T sc
 unfold FNext
 split
 ·rename_i r e
  exact H _ _ _ _ _ e
 ·exact conNo_ok
theorem Fvf3_ok(W:Wo):FamOk pw w (Kq P b1 b2) nt (Fvf3 W):=by
 intro c T sc
 unfold Fvf3
 split
 ·rename_i r3 r4 r5 e3 e4 e5
  exact vf3 hP nt W.C _ _ r3 r4 r5 _ _ _ e3 rfl e4 rfl e5 rfl _ _
 ·exact conNo_ok
end
structure Rn where
 g:Addr
 fr:Addr
 ru:Addr
 rd:Addr
 op:Addr
 ro:Addr
 gt1:Tok
 gt2:Tok
 hs:Int
 ts:Tok
 h1:Int
 h2:Int
 h3:Int
 t1:Tok
 t2:Tok
 t3:Tok
 oe:Nat
 es:Array DictEntry
 ep:Nat
noncomputable def Rn.rto(R:Rn):Obj:={cls:=.type "dict",data:=.dict R.es R.ep}
noncomputable def opsS:Str:=⟨#[111,112,115]⟩
noncomputable def routesS:Str:=⟨#[114,111,117,116,101,115]⟩
noncomputable def runRowsS:Str:=⟨#[82,117,110,110,101,114,46,114,111,119,115]⟩
noncomputable def opS:Str:=⟨#[111,112]⟩
noncomputable def partS:Str:=⟨#[112,97,114,116]⟩
noncomputable def genCode(kt:KT)(fr:Addr):Code:=match(fdK kt 110).body with
 |.stmts b=>.func b (envK kt 110 fr [])
 |.expr e=>.expr e (envK kt 110 fr [])
noncomputable def Rn.gen(R:Rn):Obj:={cls:=.type "generator",data:=.fields #[.int 0 0,.str rowsS R.gt1,.str runRowsS R.gt2]}
noncomputable def Rn.frm(R:Rn)(l:List DictEntry):Obj:=frmObj (⟨R.hs,.str selfS R.ts,.ref R.ru⟩::l).toArray (l.length+1)
noncomputable def Rn.rest(R:Rn)(ca:Addr)(ops:List (Addr×Obj)):List (Addr×Obj):=
 (R.ru,insObj 113 R.rd)::(R.rd,dicObj #[⟨R.h1,.str opsS R.t1,.ref R.op⟩,⟨R.h2,.str coreS R.t2,.ref ca⟩,⟨R.h3,.str routesS R.t3,.ref R.ro⟩] 3)::(R.op,lstObj (ops.map fun p=>Value.ref p.1).toArray R.oe)::(R.ro,R.rto)::ops
noncomputable def Wo.sta(W:Wo)(re:Array DictEntry)(rp:Nat)(ne:Array DictEntry)(np:Nat)(plB:Int)(tB:Tok)(plK:Int)(tK:Tok):List (Addr×Obj):=
 W.m.objs W.B.a W.K.a W.c0 W.c1 ne np++(W.C.objs (dicObj re rp)++(txV W.B W.va W.eT plB tB++([W.q0,W.q1,W.q2,W.q3]++W.K.objs W.down W.rs.toArray W.e plK tK)))
noncomputable def frEs(P:Params)(X:Nat→Nat)(i:Nat)(at_:Int)(oh pa:Addr):List DictEntry:=[⟨hS P atS,.str atS (X (i+1)),.int at_ (X i)⟩,⟨hS P opS,.str opS (X (i+2)),.ref oh⟩,⟨hS P partS,.str partS (X (i+3)),.ref pa⟩]
noncomputable def rowT(X:Nat→Nat)(c:Nat):List Rr→Nat→List Obj
 |[],_=>[]
 |R::l,i=>tupObj #[.int (R.r+1:Nat) R.tn,R.px.val (X (c+1+2*i)),R.py.val (X (c+2+2*i))]::rowT X c l (i+1)
noncomputable def cLg(kt:KT)(P:Params)(W:Wo)(R:Rn)(ops:List (Addr×Obj))(oh:Addr)(h:Nat)(tB tK:Tok)(l:List Rr)(re:(Nat→Nat)→List DictEntry)(ne:List DictEntry)(plB plK:Int):Con:=
 ⟨.call (.type "list") ⟨[.ref R.g],[]⟩,(R.g,R.gen)::(R.fr,R.frm [])::(R.rest W.C.a ops++W.sta #[] 0 #[] 0 (-1) tB (-1) tK),fun X=>.ref (X 0),
  fun X=>R.gen::R.frm (frEs P X (3*l.length+1) h oh W.M.a)::(R.rest W.C.a ops++W.sta (re X).toArray (re X).length ne.toArray ne.length plB (X (3*l.length+6)) plK (X (3*l.length+5))).map (·.2),
  fun X=>lstObj ((List.range l.length).map fun i=>Value.ref (X (i+1))).toArray (l.length+2)::rowT X l.length l 0,11,some ([.fresh (genCode kt R.fr)],[.finished]),false,false⟩
noncomputable def whileK(kt:KT)(f i:Nat)(env:Env):Code:=match stK kt f i with
 |.While t b o _=>.whileLoop t b o env
 |_=>.builtin "" ⟨[],[]⟩
structure Jx where
 ta:Tok
 ha:Int
 ho:Int
 hp:Int
 ka:Tok
 ko:Tok
 kp:Tok
 oa:Addr
noncomputable def adV(v:Value):Nat:=match v with
 |.ref a=>a
 |_=>0
noncomputable def jxRd(T:LT)(sc:Nat):Jx:=⟨vlAt T (rd sc 0) 1,hsAt T (rd sc 0) 1,hsAt T (rd sc 0) 2,hsAt T (rd sc 0) 3,kyAt T (rd sc 0) 1,kyAt T (rd sc 0) 2,kyAt T (rd sc 0) 3,adV (enAt T (rd sc 0) 2).val⟩
noncomputable def cJr(kt:KT)(W:Wo)(R:Rn)(ops:List (Addr×Obj))(at0 rr:Nat)(J:Jx)(oc pa:Addr)(re:List DictEntry)(re':(Nat→Nat)→List DictEntry)(ne ne':List DictEntry)(plB:Int)(tB:Tok)(plK:Int)(tK:Tok)(plB' plK':Int)(tK':(Nat→Nat)→Tok):Con:=
 ⟨whileK kt 110 1 (envK kt 110 R.fr []),(R.fr,R.frm [⟨J.ha,.str atS J.ka,.int at0 J.ta⟩,⟨J.ho,.str opS J.ko,.ref J.oa⟩,⟨J.hp,.str partS J.kp,.ref pa⟩])::(R.rest W.C.a ops++W.sta re.toArray re.length ne.toArray ne.length plB tB plK tK),fun _=>.none,
  fun X=>R.frm [⟨J.ha,.str atS J.ka,.int rr (X 0)⟩,⟨J.ho,.str opS J.ko,.ref oc⟩,⟨J.hp,.str partS J.kp,.ref W.M.a⟩]::(R.rest W.C.a ops++W.sta (re' X).toArray (re' X).length ne'.toArray ne'.length plB' (X 3) plK' (tK' X)).map (·.2),fun _=>[],9,none,true,true⟩
noncomputable def rgJ(X:Nat→Nat)(R:Rr)(t3 t4 t5:Tok):List DictEntry:=[⟨3,.int 3 t3,.int (R.r+1:Nat) R.tn⟩,⟨4,.int 4 t4,R.px.val (X 1)⟩,⟨5,.int 5 t5,R.py.val (X 2)⟩]
noncomputable def rgV(v3 v4 v5:Value)(t3 t4 t5:Tok):List DictEntry:=[⟨3,.int 3 t3,v3⟩,⟨4,.int 4 t4,v4⟩,⟨5,.int 5 t5,v5⟩]
noncomputable def rgRow(X:Nat→Nat)(c i:Nat)(R:Rr)(t3 t4 t5:Tok):List DictEntry:=[⟨3,.int 3 t3,.int (R.r+1:Nat) R.tn⟩,⟨4,.int 4 t4,R.px.val (X (c+1+2*i))⟩,⟨5,.int 5 t5,R.py.val (X (c+2+2*i))⟩]
structure Os where
 f:Op
 r:Op
 c0:Op
 c1:Op
 rr:Op
 n:Op
noncomputable def Os.l(O:Os)(nmN:Str)(top:Int):List (Addr×Obj):=[O.f.obj nmSeekFromIdx 1 0 0 .none,O.r.obj nmRowid 0 3 0 .none,O.c0.obj nmColumn 0 0 4 .none,O.c1.obj nmColumn 1 0 5 .none,O.rr.obj nmResultRow 3 3 0 .none,O.n.obj nmN 1 top 0 .none]
structure Rp where
 bg:Option (Pv×Tok)
 ed:Option (Pv×Tok)
 nm0:Str
 nmI:Str
 nmN:Str
structure Rz where
 v:Pv×Tok
 u:Pv×Tok
 nm0:Str
 nmI:Str
 nmN:Str
structure Oq where
 O0:Op
 OV:Op
 OW:Op
 OI:Op
 t4:Tok
 u4:Tok
 O:Os
noncomputable def o01{α:Type}(a:Option α):Nat:=@Option.rec α (fun _=>Nat) 0 (fun _=>1) a
noncomputable def b01(b:Bool):Nat:=@Bool.rec (fun _=>Nat) 0 1 b
noncomputable def Rp.n(S:Rp):Nat:=7+(o01 S.bg+2*o01 S.ed)
noncomputable def Rp.top(S:Rp):Nat:=1+(o01 S.bg+o01 S.ed)
noncomputable def nOf(x y:Bool):Nat:=7+(b01 x+2*b01 y)
noncomputable def topOf(x y:Bool):Nat:=1+(b01 x+b01 y)
noncomputable def ixOf(x y:Bool):Nat:=b01 x+2*b01 y
noncomputable def Rp.ops(S:Rp)(Q:Oq)(d top:Int):List (Addr×Obj):=match S.bg,S.ed with
 |none,none=>Q.O0.obj S.nm0 1 d 0 .none::Q.O.l S.nmN top
 |some v,none=>Q.OV.obj nmValue 0 1 0 (v.1.val v.2)::Q.O0.obj S.nm0 1 d 1 (.int 1 Q.t4)::Q.O.l S.nmN top
 |none,some u=>Q.O0.obj S.nm0 1 d 0 .none::Q.OW.obj nmValue 0 2 0 (u.1.val u.2)::Q.OI.obj S.nmI 1 d 2 (.int 1 Q.u4)::Q.O.l S.nmN top
 |some v,some u=>Q.OV.obj nmValue 0 1 0 (v.1.val v.2)::Q.O0.obj S.nm0 1 d 1 (.int 1 Q.t4)::Q.OW.obj nmValue 0 2 0 (u.1.val u.2)::Q.OI.obj S.nmI 1 d 2 (.int 1 Q.u4)::Q.O.l S.nmN top
noncomputable def Rp.opH(S:Rp)(Q:Oq)(h:Op):List (Addr×Obj):=S.ops Q S.n S.top++[h.obj nmHalt 0 0 0 .none]
noncomputable def opE(x y:Bool)(S:Rz)(Q:Oq)(h:Op):List (Addr×Obj):=@Bool.rec (fun _=>List (Addr×Obj)) (Q.O.l S.nmN (topOf x y)++[h.obj nmHalt 0 0 0 .none]) (Q.OW.obj nmValue 0 2 0 (S.u.1.val S.u.2)::Q.OI.obj S.nmI 1 (nOf x y) 2 (.int 1 Q.u4)::(Q.O.l S.nmN (topOf x y)++[h.obj nmHalt 0 0 0 .none])) y
noncomputable def opZ(x y:Bool)(S:Rz)(Q:Oq)(h:Op):List (Addr×Obj):=
 @Bool.rec (fun _=>List (Addr×Obj)) (Q.O0.obj S.nm0 1 (nOf x y) 0 .none::opE x y S Q h) (Q.OV.obj nmValue 0 1 0 (S.v.1.val S.v.2)::Q.O0.obj S.nm0 1 (nOf x y) 1 (.int 1 Q.t4)::opE x y S Q h) x
noncomputable def bgZ(x:Bool)(S:Rz)(Q:Oq):List DictEntry:=@Bool.rec (fun _=>List DictEntry) [] [⟨1,.int 1 Q.OV.t2,S.v.1.val S.v.2⟩] x
noncomputable def baZ(x y:Bool)(S:Rz)(Q:Oq):List DictEntry:=@Bool.rec (fun _=>List DictEntry) (bgZ x S Q) (bgZ x S Q++[⟨2,.int 2 Q.OW.t2,S.u.1.val S.u.2⟩]) y
noncomputable def Oq.nl(Q:Oq):List DictEntry:=[⟨1,.int 1 Q.O0.t1,.bool false⟩]
noncomputable def Oq.nr(Q:Oq):List DictEntry:=[⟨1,.int 1 Q.O0.t1,.bool false⟩,⟨0,.int 0 Q.O.f.t2,.bool false⟩]
noncomputable def notE(nm:Str):Prop:=(nm.cps.toList==nmHalt.cps.toList)=false∧(nm.cps.toList==nmResultRow.cps.toList)=false
noncomputable def FseqC(x y:Str)(v:Bool):Fam:=fun c _ _=>conV (.call (.builtin "str.__eq__") ⟨[.str x (cTok c 0),.str y (cTok c 1)],[]⟩) [] (.bool v) 2
noncomputable def FrgetC(R:Rn)(nm:Str)(part:Addr):Fam:=fun c _ _=>conV (.call (.builtin "dict.get") ⟨[.ref R.ro,.str nm (cTok c 1)],[]⟩) [(R.ro,R.rto)] (.ref part) 2
noncomputable def cTup(l:Addr)(x y z:Value)(e:Nat):Con:=⟨.call (.type "tuple") ⟨[.ref l],[]⟩,[(l,lstObj #[x,y,z] e)],fun X=>.ref (X 0),fun _=>[lstObj #[x,y,z] e],fun _=>[tupObj #[x,y,z]],2,none,false,false⟩
noncomputable def Ftup:Fam:=fun _ T sc=>cTup (adrAt T (rd sc 0)) (itAt T (rd sc 0) 0) (itAt T (rd sc 0) 1) (itAt T (rd sc 0) 2) (epOf (objAt T (rd sc 0)))
noncomputable def turn(R:Rn)(nm:Str)(pa:Addr):List Fam:=[FseqC nm nmHalt false,FseqC nm nmResultRow false,FrgetC R nm pa]
noncomputable def rowF(w:World)(W:Wo)(R:Rn)(O:Os)(b:Nat)(Q:Rr):List Fam:=
 turn R nmSeekFromIdx W.M.a++(FSfi w W O.f (b+1:Nat) Q::(turn R nmRowid W.M.a++(FRid w W O.r (b+2:Nat) Q::(turn R nmColumn W.M.a++(FCl0 w W O.c0 (b+3:Nat) Q::(turn R nmColumn W.M.a++(FCl1 w W O.c1 (b+4:Nat) Q::[])))))))
noncomputable def rrF(W:Wo):List Fam:=[FseqC nmResultRow nmHalt false,FseqC nmResultRow nmResultRow true,Fvf3 W,Ftup]
noncomputable def FVal(w:World)(W:Wo)(O:Op)(k:Nat)(v:Value)(f:Int)(re:Array DictEntry)(rp:Nat)(r:Option Nat):Fam:=fun c _ _=>cVl w W.C O k v f (cTok c 2) re rp r
noncomputable def HSt(w:World)(P:Params)(b1 b2:Bool)(nt:Nat)(W:Wo)(O:Op)(nm:Str)(p2 p3:Int)(p4:Value)(f:Int)(tp:Tok)(ex:List (Addr×Obj))(pl:Int)(ok:Bool):Prop:=
 ∀tf,CO w P b1 b2 nt (cMvK w W.m O nm p2 p3 p4 f tf W.B.a W.c0 W.c1 #[] 0 none W.K W.down W.rs W.e (-1) tp ex pl (@Bool.rec (fun _=>Value) (.int p2 O.t2) (.int f tf) ok))
noncomputable def FSt(w:World)(W:Wo)(O:Op)(nm:Str)(p2 p3:Int)(p4:Value)(f:Int)(tp:Tok)(ex:List (Addr×Obj))(pl:Int)(ok:Bool):Fam:=fun c _ _=>cMvK w W.m O nm p2 p3 p4 f (cTok c 2) W.B.a W.c0 W.c1 #[] 0 none W.K W.down W.rs W.e (-1) tp ex pl (@Bool.rec (fun _=>Value) (.int p2 O.t2) (.int f (cTok c 2)) ok)
noncomputable def jF(kt:KT)(W:Wo)(R:Rn)(x y:Bool)(S:Rz)(Q:Oq)(h:Op)(J:Jx)(tB tK:Tok)(q:Rr):Con:=cJr kt W R (opZ x y S Q h) (topOf x y) (nOf x y-2) J Q.O.c1.ad (@Bool.rec (fun _=>Addr) W.M.a W.C.a y) (baZ x y S Q) (fun X=>baZ x y S Q++rgJ X q Q.O.r.t2 Q.O.c0.t3 Q.O.c1.t3) Q.nl Q.nr (-1) tB q.j tK q.r q.j (fun _=>tK)
noncomputable def jL(kt:KT)(W:Wo)(R:Rn)(x y:Bool)(S:Rz)(Q:Oq)(h:Op)(J:Jx)(v3 v4 v5:Value)(tB tK:Tok)(jp rp:Nat)(q:Rr):Con:=cJr kt W R (opZ x y S Q h) (nOf x y-1) (nOf x y-2) J Q.O.c1.ad W.M.a (baZ x y S Q++rgV v3 v4 v5 Q.O.r.t2 Q.O.c0.t3 Q.O.c1.t3) (fun X=>baZ x y S Q++rgJ X q Q.O.r.t2 Q.O.c0.t3 Q.O.c1.t3) Q.nr Q.nr rp tB jp tK q.r q.j (fun X=>X 4)
noncomputable def FjF(kt:KT)(W:Wo)(R:Rn)(x y:Bool)(S:Rz)(Q:Oq)(h:Op)(q:Rr):Fam:=fun _ T sc=>jF kt W R x y S Q h (jxRd T sc) (vlAt T (rd sc (nOf x y+14)) 1) (vlAt T (rd sc (nOf x y+21)) 2) q
noncomputable def FjL(kt:KT)(W:Wo)(R:Rn)(x y:Bool)(S:Rz)(Q:Oq)(h:Op)(jp rp:Nat)(q:Rr):Fam:=fun _ T sc=>jL kt W R x y S Q h (jxRd T sc) (enAt T (rd sc (nOf x y+12)) (topOf x y-1)).val (enAt T (rd sc (nOf x y+12)) (topOf x y)).val (enAt T (rd sc (nOf x y+12)) (topOf x y+1)).val (vlAt T (rd sc (nOf x y+14)) 1) (vlAt T (rd sc (nOf x y+21)) 2) jp rp q
noncomputable def Rp.hs(w:World)(P:Params)(b1 b2:Bool)(nt:Nat)(S:Rp)(W:Wo)(Q:Oq)(tK:Tok)(pl:Int)(ok:Bool):Prop:=match S.bg with
 |none=>HSt w P b1 b2 nt W Q.O0 S.nm0 S.n 0 .none 1 tK [] pl ok
 |some v=>HSt w P b1 b2 nt W Q.O0 S.nm0 S.n 1 (.int 1 Q.t4) 2 tK (W.C.objs (dicObj #[⟨1,.int 1 Q.OV.t2,v.1.val v.2⟩] 1)) pl ok
noncomputable def Rp.hi(w:World)(P:Params)(b1 b2:Bool)(nt:Nat)(S:Rp)(W:Wo)(Q:Oq)(j:Nat)(b:Bool):Prop:=match S.ed with
 |none=>b=false
 |some u=>HIdx w P b1 b2 nt W Q.OI S.nmI S.n Q.u4 (3+o01 S.bg:Nat) (u.1.val u.2) j b
noncomputable def Rp.hn(w:World)(P:Params)(b1 b2:Bool)(nt:Nat)(S:Rp)(W:Wo)(Q:Oq)(j:Nat)(pl:Int)(b:Bool):Prop:=HNext w P b1 b2 nt W Q.O.n S.nmN S.top S.n j pl b
noncomputable def hsZ(w:World)(P:Params)(b1 b2:Bool)(nt:Nat)(x y:Bool)(S:Rz)(W:Wo)(Q:Oq)(tK:Tok)(pl:Int)(ok:Bool):Prop:=@Bool.rec (fun _=>Prop) (HSt w P b1 b2 nt W Q.O0 S.nm0 (nOf x y) 0 .none 1 tK [] pl ok) (HSt w P b1 b2 nt W Q.O0 S.nm0 (nOf x y) 1 (.int 1 Q.t4) 2 tK (W.C.objs (dicObj #[⟨1,.int 1 Q.OV.t2,S.v.1.val S.v.2⟩] 1)) pl ok) x
noncomputable def hiZ(w:World)(P:Params)(b1 b2:Bool)(nt:Nat)(x y:Bool)(S:Rz)(W:Wo)(Q:Oq)(j:Nat)(b:Bool):Prop:=@Bool.rec (fun _=>Prop) (b=false) (HIdx w P b1 b2 nt W Q.OI S.nmI (nOf x y) Q.u4 (3+b01 x:Nat) (S.u.1.val S.u.2) j b) y
noncomputable def hnZ(w:World)(P:Params)(b1 b2:Bool)(nt:Nat)(x y:Bool)(S:Rz)(W:Wo)(Q:Oq)(j:Nat)(pl:Int)(b:Bool):Prop:=HNext w P b1 b2 nt W Q.O.n S.nmN (topOf x y) (nOf x y) j pl b
noncomputable def stF(w:World)(W:Wo)(R:Rn)(x y:Bool)(S:Rz)(Q:Oq)(tK:Tok)(pl:Int)(ok:Bool):List Fam:=@Bool.rec (fun _=>List Fam) (turn R S.nm0 W.M.a++[FSt w W Q.O0 S.nm0 (nOf x y) 0 .none 1 tK [] pl ok]) (turn R nmValue W.C.a++(FVal w W Q.OV 1 (S.v.1.val S.v.2) 1 #[] 0 none::(turn R S.nm0 W.M.a++[FSt w W Q.O0 S.nm0 (nOf x y) 1 (.int 1 Q.t4) 2 tK (W.C.objs (dicObj #[⟨1,.int 1 Q.OV.t2,S.v.1.val S.v.2⟩] 1)) pl ok]))) x
noncomputable def edF(w:World)(W:Wo)(R:Rn)(x y:Bool)(S:Rz)(Q:Oq):List Fam:=@Bool.rec (fun _=>List Fam) [] (turn R nmValue W.C.a++[FVal w W Q.OW 2 (S.u.1.val S.u.2) (topOf x y) (bgZ x S Q).toArray (bgZ x S Q).length none]) y
noncomputable def ixF(W:Wo)(R:Rn)(x y:Bool)(S:Rz)(Q:Oq)(j:Nat)(b:Bool):List Fam:=@Bool.rec (fun _=>List Fam) [] (turn R S.nmI W.M.a++[FIdx W Q.OI S.nmI (nOf x y) Q.u4 (3+b01 x:Nat) (S.u.1.val S.u.2) j b]) y
noncomputable def nxF(w:World)(W:Wo)(R:Rn)(x y:Bool)(S:Rz)(Q:Oq)(j:Nat)(pl:Int)(b:Bool):List Fam:=turn R S.nmN W.M.a++[FNext w W Q.O.n S.nmN (topOf x y) (nOf x y) j pl b]
noncomputable def enF(W:Wo)(R:Rn)(x y:Bool)(S:Rz)(Q:Oq)(j:Nat)(b:Bool):List Fam:=@Bool.rec (fun _=>List Fam) [] (ixF W R x y S Q j true) b++[FseqC nmHalt nmHalt true]
noncomputable def goF(kt:KT)(w:World)(W:Wo)(R:Rn)(x y:Bool)(S:Rz)(Q:Oq)(h:Op)(pl:Int)(b:Bool)(jl:Nat):List Rr→Rr→List Fam
 |[],p=>nxF w W R x y S Q p.j pl b++enF W R x y S Q jl b
 |q::l,p=>FjL kt W R x y S Q h p.j p.r q::(rrF W++goF kt w W R x y S Q h pl b jl l q)
noncomputable def lgW(x y:Bool)(U:Nat→Sup):Nat→Nat→List Wt
 |_,0=>[.ent 1 1,.key 1 1,.key 1 2,.key 1 3,.ent (nOf x y+22) 2,.ent (nOf x y+15) 1]
 |a,k+1=>nms (U a) 1 2++lgW x y U (a+23) k
noncomputable def lgNi(x y:Bool):Nat→Nat→List Nat
 |_,0=>[]
 |i,k+1=>(nOf x y+28+i)::lgNi x y (i+2) k
noncomputable def scF:List Nat:=[(kq 1 1 (k_R (k_ey 0))),(k_ez (k_eA 0)),(k_ez (k_eB 0)),(kq 1 1 (k_R (k_z (kq 2 0x101 (k_z (k_S (k_z (k_eC 0))))))))]
noncomputable def scL:List Nat:=[(kq 1 1 (k_R (k_w (kq 2 0x101 (k_w (k_S (k_w (k_b7 (kq 1 0xb (k_cR (k_Y (k_ey 0)))))))))))),(kq 1 1 (k_R (k_n (kq 2 0x101 (k_n (k_S (k_n (k_b8 (kq 1 0xc (k_bC (k_dj (k_eA 0)))))))))))),(kq 1 1 (k_R (k_q (kq 2 0x101 (k_q (k_S (k_q (k_bL (kq 1 0xd (k_bv (k_dj (k_eB 0)))))))))))),(kq 1 1 (k_R (k_o (kq 2 0x101 (k_o (k_S (k_o (k_bM (kq 1 0xe (k_5 (k_cq (k_eC 0))))))))))))]
noncomputable def scS:List Nat:=[(k_cS (k_m (k_q 0x2601))),(k_cT (k_m (k_o 0x2701))),(k_b9 (k_0 0x2801)),(k_ca 0x290111001100111111)]
noncomputable def scN:List (List Nat):=[[(k_cS (kq 2 0x202 (k_I (k_bW (kq 4 0x24242424 (k_dk 0x28)))))),(k_dQ (k_dk 0x2a)),(k_dQ (k_cJ (kq 4 0x24242428 (k_dk 0x2c)))),(k_dQ (k_cJ (kq 4 0x24242428 (k_cJ (kq 4 0x2424242a (k_dk 0x2e))))))],[(k_cT (kq 2 0x202 (k_I (k_bX (kq 4 0x25252525 (k_dl 0x29)))))),(k_dR (k_dl 0x2b)),(k_dR (k_cK (kq 4 0x25252529 (k_dl 0x2d)))),(k_dR (k_cK (kq 4 0x25252529 (k_cK (kq 4 0x2525252b (k_dl 0x2f))))))],[(k_cr (k_cs (k_0 0x2a01))),(k_cU (k_cs (k_0 0x2c01))),(k_dS (k_cs (k_0 0x2e01))),(k_dS (k_bm (k_bw (kq 4 0x2626262c (k_cs (k_0 0x3001))))))],[(k_ct (k_dm 0x2b)),(k_cV (k_dm 0x2d)),(k_dT (k_dm 0x2f)),(k_dT (k_bm (k_bx (kq 4 0x2727272d (k_dm 0x31)))))]]
noncomputable def scI:List (List Nat):=[[],[],[(k_cr (k_cs (k_dn 0x2a))),(k_cU (k_cs (k_dn 0x2c))),(k_dS (k_cs (k_dn 0x2e)))],[(k_ct (k_cu (k_do 0x2b))),(k_cV (k_cu (k_do 0x2d))),(k_dT (k_cu (k_do 0x2f)))]]
noncomputable def scI0:List Nat:=[(k_ci (k_m (k_dn 0x28))),(k_cj (kq 3 0x171615 (k_m (k_do 0x29))))]
@[elab_as_elim] theorem lkE{α:Type}{p:Nat→List α→Prop}(k:Nat)(l:List α)(e:l.length=k)(h:k≤3)(h0:p 0 [])(h1:∀a,p 1 [a])(h2:∀a b,p 2 [a,b])(h3:∀a b c,p 3 [a,b,c]):p k l:=by
 subst e
 exact l3E (p:=fun l=>p l.length l) l h h0 h1 h2 h3
@[elab_as_elim] theorem lk2E{α:Type}{p:Nat→List α→Prop}(k:Nat)(l:List α)(e:l.length=k)(h:k≤2)(h0:p 0 [])(h1:∀a,p 1 [a])(h2:∀a b,p 2 [a,b]):p k l:=by
 subst e
 exact l2E (p:=fun l=>p l.length l) l h h0 h1 h2
@[elab_as_elim] theorem lgE{α:Type}{p:Bool→Bool→Bool→Nat→List α→Prop}(x y b:Bool)(k:Nat)(l:List α)(e:l.length=k)(h:k+b01 b≤3)(hb:b=true→y=true)(g0:∀k l,l.length=k→k≤3→∀x y,p x y false k l)(g1:∀k l,l.length=k→k≤2→∀x,p x true true k l):p x y b k l:=by
 cases b
 ·exact g0 k l e h x y
 ·cases hb rfl
  exact g1 k l e (Nat.le_of_succ_le_succ h) x
section
variable{w:World}{P:Params}{b1 b2:Bool}(hP:w.params=parT P b1 b2)(nt:Nat)
include hP
theorem ceq_ok{x y:Str}{v:Bool}(h:(x.cps.toList==y.cps.toList)=v):FamOk pw w (Kq P b1 b2) nt (FseqC x y v):=by
 intro c T sc
 exact ko hP 2 [] [] 21 0x1 (fc (seq_ok h) fn0)
theorem cget_ok{R:Rn}{nm:Str}{pa:Addr}(h:RouteIs R.rto nm pa):FamOk pw w (Kq P b1 b2) nt (FrgetC R nm pa):=by
 intro c T sc
 exact ko hP 2 [] [] 22 0x101 (fc (rget_ok (a:=R.ro) h) fn0)
theorem tup_ok:FamOk pw w (Kq P b1 b2) nt Ftup:=by
 intro c T sc
 exact ko hP 2 [2] [] 38 0x30003000303020001010001000000 (fc lia_ok fn0)
theorem turn_ok(R:Rn){nm:Str}{pa:Addr}(h:notE nm)(hr:RouteIs R.rto nm pa):AllOk pw w (Kq P b1 b2) nt (turn R nm pa):=
 .cons (ceq_ok hP nt h.1) (.cons (ceq_ok hP nt h.2) (.cons (cget_ok hP nt hr) .nil))
end
theorem ne_f:notE nmSeekFromIdx:=⟨by decide,by decide⟩
theorem ne_r:notE nmRowid:=⟨by decide,by decide⟩
theorem ne_c:notE nmColumn:=⟨by decide,by decide⟩
theorem ne_v:notE nmValue:=⟨by decide,by decide⟩
structure RtOk(W:Wo)(R:Rn)(nm0 nmN:Str):Prop where
 f:RouteIs R.rto nmSeekFromIdx W.M.a
 r:RouteIs R.rto nmRowid W.M.a
 c:RouteIs R.rto nmColumn W.M.a
 v:RouteIs R.rto nmValue W.C.a
 s:RouteIs R.rto nm0 W.M.a
 n:RouteIs R.rto nmN W.M.a
 ns:notE nm0
 nn:notE nmN
section
variable{w:World}{P:Params}{b1 b2:Bool}(hP:w.params=parT P b1 b2)(nt:Nat)
include hP
theorem rowF_ok{W:Wo}(hW:W.Ok)(R:Rn){nm0 nmN:Str}(hr:RtOk W R nm0 nmN)(O:Os)(b:Nat){Q:Rr}(hQ:RrOk w P b1 b2 nt W Q):AllOk pw w (Kq P b1 b2) nt (rowF w W R O b Q):=
 (turn_ok hP nt R ne_f hr.f).app (.cons (FSfi_ok hP nt hW hQ _ _) ((turn_ok hP nt R ne_r hr.r).app (.cons (FRid_ok hP nt hQ _ _) ((turn_ok hP nt R ne_c hr.c).app (.cons (FCl0_ok hP nt hQ _ _) ((turn_ok hP nt R ne_c hr.c).app (.cons (FCl1_ok hP nt hQ _ _) .nil)))))))
theorem rrF_ok(W:Wo):AllOk pw w (Kq P b1 b2) nt (rrF W):=.cons (ceq_ok hP nt rfl) (.cons (ceq_ok hP nt rfl) (.cons (Fvf3_ok hP nt W) (.cons (tup_ok hP nt) .nil)))
omit hP in
theorem FSt_ok{W:Wo}{O:Op}{nm:Str}{p2 p3:Int}{p4:Value}{f:Int}{tp:Tok}{ex:List (Addr×Obj)}{pl:Int}{ok:Bool}(H:HSt w P b1 b2 nt W O nm p2 p3 p4 f tp ex pl ok):FamOk pw w (Kq P b1 b2) nt (FSt w W O nm p2 p3 p4 f tp ex pl ok):=fun _ _ _=>H _
theorem FVal_ok(W:Wo)(O:Op)(k:Nat)(p:Pv)(tv:Tok)(f:Int)(re:Array DictEntry)(rp:Nat)(r:Option Nat)(h:lkK (dicObj re rp) (k:Nat)=some r):FamOk pw w (Kq P b1 b2) nt (FVal w W O k (p.val tv) f re rp r):=fun _ _ _=>op_Val hP nt W.C O k p tv f _ re rp r h
section
variable{W:Wo}{R:Rn}(x y:Bool){S:Rz}{Q:Oq}
theorem stF_ok{tK:Tok}{pl:Int}{ok:Bool}(hr:RtOk W R S.nm0 S.nmN)(H:hsZ w P b1 b2 nt x y S W Q tK pl ok):AllOk pw w (Kq P b1 b2) nt (stF w W R x y S Q tK pl ok):=by
 cases x
 ·exact(turn_ok hP nt R hr.ns hr.s).app (.cons (FSt_ok nt H) .nil)
 ·exact(turn_ok hP nt R ne_v hr.v).app (.cons (FVal_ok hP nt W Q.OV 1 S.v.1 S.v.2 1 #[] 0 none rfl) ((turn_ok hP nt R hr.ns hr.s).app (.cons (FSt_ok nt H) .nil)))
theorem edF_ok(hr:RtOk W R S.nm0 S.nmN):AllOk pw w (Kq P b1 b2) nt (edF w W R x y S Q):=by
 cases y
 ·exact .nil
 ·exact(turn_ok hP nt R ne_v hr.v).app (.cons (FVal_ok hP nt W Q.OW 2 S.u.1 S.u.2 _ _ _ none (by cases x<;>rfl)) .nil)
theorem ixF_ok{j:Nat}{b:Bool}(nI:notE S.nmI)(rI:RouteIs R.rto S.nmI W.M.a)(H:hiZ w P b1 b2 nt x y S W Q j b):AllOk pw w (Kq P b1 b2) nt (ixF W R x y S Q j b):=by
 cases y
 ·exact .nil
 ·exact(turn_ok hP nt R nI rI).app (.cons (FIdx_ok nt H) .nil)
theorem nxF_ok{j:Nat}{pl:Int}{b:Bool}(hr:RtOk W R S.nm0 S.nmN)(H:hnZ w P b1 b2 nt x y S W Q j pl b):AllOk pw w (Kq P b1 b2) nt (nxF w W R x y S Q j pl b):=(turn_ok hP nt R hr.nn hr.n).app (.cons (FNext_ok nt H) .nil)
theorem enF_ok{j:Nat}{b:Bool}(nI:notE S.nmI)(rI:RouteIs R.rto S.nmI W.M.a)(H:b=true→hiZ w P b1 b2 nt x y S W Q j true):AllOk pw w (Kq P b1 b2) nt (enF W R x y S Q j b):=by
 cases b
 ·exact .cons (ceq_ok hP nt rfl) .nil
 ·exact(ixF_ok hP nt x y nI rI (H rfl)).app (.cons (ceq_ok hP nt rfl) .nil)
end
structure RiOk(S:Rp)(W:Wo)(R:Rn):Prop where
 r:RtOk W R S.nm0 S.nmN
 i:RouteIs R.rto S.nmI W.M.a
noncomputable def reX(base:List DictEntry)(l:List Rr)(O:Os)(X:Nat→Nat):List DictEntry:=match l.getLast? with
 |none=>base
 |some q=>base++rgRow X l.length (l.length-1) q O.r.t2 O.c0.t3 O.c1.t3
noncomputable def LgOk(w:World)(P:Params)(b1 b2:Bool)(nt:Nat)(S:Rp)(W:Wo)(Q:Oq)(tB tK:Tok)(l:List Rr):Prop:=
 ∃base ne plB plK,∀(R:Rn)(h:Op),RiOk S W R→CO w P b1 b2 nt (cLg (Kq P b1 b2) P W R (S.opH Q h) h.ad S.n tB tK l (reX base l Q.O) ne plB plK)
section
variable{W:Wo}(hW:W.Ok)(x y:Bool){S:Rz}(nI:notE S.nmI)(Q:Oq){R:Rn}(hr:RtOk W R S.nm0 S.nmN)(ri:RouteIs R.rto S.nmI W.M.a)(h:Op)
include hW nI hr ri
theorem jF_ok(J:Jx)(tB tK:Tok)(q:Rr)(hQ:RrOk w P b1 b2 nt W q)(hI:hiZ w P b1 b2 nt x y S W Q q.j false):CO w P b1 b2 nt (jF (Kq P b1 b2) W R x y S Q h J tB tK q):=
 koU hP 9 [] (fun U=>[.ent 0 1,.num ((U (59+20*b01 y)).n 0),.num ((U (79+20*b01 y)).n 0),.ent (nOf x y+14) 1]) 1100 (nthD 0 scF (ixOf x y)) (cs:=ixF W R x y S Q q.j false++rowF w W R Q.O (nOf x y-6) q) (AllOk.app (ixF_ok hP nt x y nI ri hI) (rowF_ok hP nt hW R hr Q.O _ hQ)) (h:=by
  refine bE x ?_ ?_<;>refine bE y ?_ ?_<;>intros<;>kernel_rfl)
theorem jL_ok(J:Jx)(v3 v4 v5:Value)(tB tK:Tok)(jp rp:Nat)(q:Rr)(hQ:RrOk w P b1 b2 nt W q)(hN:hnZ w P b1 b2 nt x y S W Q jp q.j true)(hI:hiZ w P b1 b2 nt x y S W Q q.j false):CO w P b1 b2 nt (jL (Kq P b1 b2) W R x y S Q h J v3 v4 v5 tB tK jp rp q):=
 koU hP 9 [] (fun U=>[.ent 0 1,.num ((U (79+20*b01 y)).n 0),.num ((U (99+20*b01 y)).n 0),.ent (nOf x y+14) 1,.ent (nOf x y+21) 2]) 1300 (nthD 0 scL (ixOf x y)) (cs:=nxF w W R x y S Q jp q.j true++(ixF W R x y S Q q.j false++rowF w W R Q.O (nOf x y-6) q)) (AllOk.app (nxF_ok hP nt x y hr hN) (AllOk.app (ixF_ok hP nt x y nI ri hI) (rowF_ok hP nt hW R hr Q.O _ hQ))) (h:=by
  refine bE x ?_ ?_<;>refine bE y ?_ ?_<;>intros<;>kernel_rfl)
theorem goF_ok(pl:Int)(b:Bool)(jl:Nat)(hE:b=true→hiZ w P b1 b2 nt x y S W Q jl true):∀(l:List Rr)(p:Rr)(hR:∀q∈l,RrOk w P b1 b2 nt W q)(hI:∀q∈l,hiZ w P b1 b2 nt x y S W Q q.j false)(hN:∀i a b,(p::l)[i]?=some a→(p::l)[i+1]?=some b→hnZ w P b1 b2 nt x y S W Q a.j b.j true)(hL:∀q,(p::l).getLast?=some q→hnZ w P b1 b2 nt x y S W Q q.j pl b),AllOk pw w (Kq P b1 b2) nt (goF (Kq P b1 b2) w W R x y S Q h pl b jl l p)
 |[],p,_,_,_,hL=>(nxF_ok hP nt x y hr (hL _ rfl)).app (enF_ok hP nt x y nI ri hE)
 |q::l,p,hR,hI,hN,hL=>.cons (fun _ _ _=>jL_ok hP nt hW x y nI Q hr ri h _ _ _ _ _ _ _ _ q (hR _ List.mem_cons_self) (hN 0 _ _ rfl rfl) (hI _ List.mem_cons_self)) ((rrF_ok hP nt W).app (goF_ok pl b jl hE l q (fun x m=>hR x (List.mem_cons_of_mem _ m)) (fun x m=>hI x (List.mem_cons_of_mem _ m)) (fun i x y e f=>hN (i+1) x y e f) fun x e=>hL x (by rw[List.getLast?_cons_cons];exact e)))
omit hW in
theorem lgS0(tB tK:Tok)(pl:Int)(hS:hsZ w P b1 b2 nt x y S W Q tK pl false):CO w P b1 b2 nt (cLg (Kq P b1 b2) P W R (opZ x y S Q h) h.ad (nOf x y) tB tK [] (reX (bgZ x S Q) [] Q.O) Q.nl (-1) pl):=
 koU hP 11 [nOf x y+28] (fun U=>lgW x y U 0 0) 700 (nthD 0 scS (ixOf x y)) (cs:=stF w W R x y S Q tK pl false++enF W R x y S Q 0 false) (AllOk.app (stF_ok hP nt x y hr hS) (enF_ok hP nt x y nI ri (fun e=>nomatch e))) (h:=by
  refine bE x ?_ ?_<;>refine bE y ?_ ?_<;>intros<;>kernel_rfl)
theorem lgN0(tB tK:Tok)(k:Nat)(q0:Rr)(l:List Rr)(ek:l.length=k)(b:Bool)(h4:k+b01 b≤3)(hb:b=true→y=true)(hR:∀q∈q0::l,RrOk w P b1 b2 nt W q)(hI:∀q∈q0::l,hiZ w P b1 b2 nt x y S W Q q.j false)(hN:∀i a b,(q0::l)[i]?=some a→(q0::l)[i+1]?=some b→hnZ w P b1 b2 nt x y S W Q a.j b.j true)(hS:hsZ w P b1 b2 nt x y S W Q tK q0.j true)(pl:Int)(jl:Nat)(hE:b=true→hiZ w P b1 b2 nt x y S W Q jl true)(hL:∀q,(q0::l).getLast?=some q→hnZ w P b1 b2 nt x y S W Q q.j (@Bool.rec (fun _=>Int) pl jl b) b):CO w P b1 b2 nt (cLg (Kq P b1 b2) P W R (opZ x y S Q h) h.ad (nOf x y) tB tK (q0::l) (reX (baZ x y S Q) (q0::l) Q.O) Q.nr ((q0::l).getLast (List.cons_ne_nil _ _)).r (@Bool.rec (fun _=>Int) pl jl b)):=
 koU hP 11 (lgNi x y 0 (k+2)) (fun U=>lgW x y U (2+20*topOf x y) (k+1)) 2100 (nthD 0 (nthD [] (@Bool.rec (fun _=>List (List Nat)) scN scI b) (ixOf x y)) k) (cs:=stF w W R x y S Q tK q0.j true++(edF w W R x y S Q++(FjF (Kq P b1 b2) W R x y S Q h q0::(rrF W++goF (Kq P b1 b2) w W R x y S Q h (@Bool.rec (fun _=>Int) pl jl b) b jl l q0))))
  (AllOk.app (stF_ok hP nt x y hr hS) (AllOk.app (edF_ok hP nt x y hr) (.cons (fun _ _ _=>jF_ok hP nt hW x y nI Q hr ri h _ _ _ q0 (hR _ List.mem_cons_self) (hI _ List.mem_cons_self)) ((rrF_ok hP nt W).app (goF_ok hP nt hW x y nI Q hr ri h _ b jl hE l q0 (fun x m=>hR x (List.mem_cons_of_mem _ m)) (fun x m=>hI x (List.mem_cons_of_mem _ m)) hN hL))))) (h:=by
  refine lgE x y b k l ek h4 hb (fun k l e h x y=> ?_) (fun k l e h x=> ?_)
  ·refine lkE k l e h ?_ ?_ ?_ ?_<;>intros<;>refine bE x ?_ ?_<;>refine bE y ?_ ?_<;>intros<;>kernel_rfl
  ·refine lk2E k l e h ?_ ?_ ?_<;>intros<;>refine bE x ?_ ?_<;>intros<;>kernel_rfl)
theorem lgI0(tB tK:Tok)(jl:Nat)(hy:y=true)(hS:hsZ w P b1 b2 nt x y S W Q tK jl true)(hE:hiZ w P b1 b2 nt x y S W Q jl true):CO w P b1 b2 nt (cLg (Kq P b1 b2) P W R (opZ x y S Q h) h.ad (nOf x y) tB tK [] (reX (baZ x y S Q) [] Q.O) Q.nl (-1) jl):=by
 subst hy
 exact koU hP 11 [nOf x true+28] (fun U=>lgW x true U 0 0) 1100 (nthD 0 scI0 (b01 x)) (cs:=stF w W R x true S Q tK jl true++(edF w W R x true S Q++enF W R x true S Q jl true)) (AllOk.app (stF_ok hP nt x true hr hS) (AllOk.app (edF_ok hP nt x true hr) (enF_ok hP nt x true nI ri fun _=>hE))) (h:=by
  refine bE x ?_ ?_<;>intros<;>kernel_rfl)
end
section
variable{W:Wo}(hW:W.Ok)(S:Rp)(nI:notE S.nmI)(Q:Oq)(tB tK:Tok)
include nI
theorem lgS(pl:Int)(hS:S.hs w P b1 b2 nt W Q tK pl false):LgOk w P b1 b2 nt S W Q tB tK []:=by
 rcases S with⟨_|v,_|u,a,b,c⟩
 ·exact⟨_,_,_,_,fun R h hr=>lgS0 hP nt false false (S:=⟨(.n,0),(.n,0),a,b,c⟩) nI Q hr.r hr.i h tB tK pl hS⟩
 ·exact⟨_,_,_,_,fun R h hr=>lgS0 hP nt false true (S:=⟨(.n,0),u,a,b,c⟩) nI Q hr.r hr.i h tB tK pl hS⟩
 ·exact⟨_,_,_,_,fun R h hr=>lgS0 hP nt true false (S:=⟨v,(.n,0),a,b,c⟩) nI Q hr.r hr.i h tB tK pl hS⟩
 ·exact⟨_,_,_,_,fun R h hr=>lgS0 hP nt true true (S:=⟨v,u,a,b,c⟩) nI Q hr.r hr.i h tB tK pl hS⟩
include hW
theorem lgN(l:List Rr)(h4:l.length≤4)(hR:∀q∈l,RrOk w P b1 b2 nt W q)(hI:∀q∈l,S.hi w P b1 b2 nt W Q q.j false)(hN:∀i a b,l[i]?=some a→l[i+1]?=some b→S.hn w P b1 b2 nt W Q a.j b.j true)(q0:Rr)(h0:l[0]?=some q0)(hS:S.hs w P b1 b2 nt W Q tK q0.j true)(pl:Int)(hL:∀q,l.getLast?=some q→S.hn w P b1 b2 nt W Q q.j pl false):LgOk w P b1 b2 nt S W Q tB tK l:=by
 rcases l with _|⟨q,l⟩
 ·cases h0
 obtain rfl:q0=q:=(Option.some.inj h0).symm
 have h4:=Nat.le_of_succ_le_succ h4
 rcases S with⟨_|v,_|u,a,b,c⟩
 ·exact⟨_,_,_,_,fun R h hr=>lgN0 hP nt hW false false (S:=⟨(.n,0),(.n,0),a,b,c⟩) nI Q hr.r hr.i h tB tK _ q0 l rfl false h4 (fun e=>nomatch e) hR hI hN hS pl 0 (fun e=>nomatch e) hL⟩
 ·exact⟨_,_,_,_,fun R h hr=>lgN0 hP nt hW false true (S:=⟨(.n,0),u,a,b,c⟩) nI Q hr.r hr.i h tB tK _ q0 l rfl false h4 (fun e=>nomatch e) hR hI hN hS pl 0 (fun e=>nomatch e) hL⟩
 ·exact⟨_,_,_,_,fun R h hr=>lgN0 hP nt hW true false (S:=⟨v,(.n,0),a,b,c⟩) nI Q hr.r hr.i h tB tK _ q0 l rfl false h4 (fun e=>nomatch e) hR hI hN hS pl 0 (fun e=>nomatch e) hL⟩
 ·exact⟨_,_,_,_,fun R h hr=>lgN0 hP nt hW true true (S:=⟨v,u,a,b,c⟩) nI Q hr.r hr.i h tB tK _ q0 l rfl false h4 (fun e=>nomatch e) hR hI hN hS pl 0 (fun e=>nomatch e) hL⟩
theorem lgI(l:List Rr)(h4:l.length≤3)(he:S.ed.isSome=true)(hR:∀q∈l,RrOk w P b1 b2 nt W q)(hI:∀q∈l,S.hi w P b1 b2 nt W Q q.j false)(hN:∀i a b,l[i]?=some a→l[i+1]?=some b→S.hn w P b1 b2 nt W Q a.j b.j true)(j0:Nat)(h0:∀q,l[0]?=some q→q.j=j0)(hS:S.hs w P b1 b2 nt W Q tK j0 true)(jl:Nat)(hj:l=[]→jl=j0)(hE:S.hi w P b1 b2 nt W Q jl true)(hL:∀q,l.getLast?=some q→S.hn w P b1 b2 nt W Q q.j jl true):LgOk w P b1 b2 nt S W Q tB tK l:=by
 rcases S with⟨bg,_|u,a,b,c⟩
 ·cases he
 rcases l with _|⟨q0,l⟩
 ·have ej:=hj rfl
  subst ej
  rcases bg with _|v
  ·exact⟨_,_,_,_,fun R h hr=>lgI0 hP nt hW false true (S:=⟨(.n,0),u,a,b,c⟩) nI Q hr.r hr.i h tB tK jl rfl hS hE⟩
  ·exact⟨_,_,_,_,fun R h hr=>lgI0 hP nt hW true true (S:=⟨v,u,a,b,c⟩) nI Q hr.r hr.i h tB tK jl rfl hS hE⟩
 ·cases h0 _ rfl
  rcases bg with _|v
  ·exact⟨_,_,_,_,fun R h hr=>lgN0 hP nt hW false true (S:=⟨(.n,0),u,a,b,c⟩) nI Q hr.r hr.i h tB tK _ q0 l rfl true h4 (fun _=>rfl) hR hI hN hS 0 jl (fun _=>hE) hL⟩
  ·exact⟨_,_,_,_,fun R h hr=>lgN0 hP nt hW true true (S:=⟨v,u,a,b,c⟩) nI Q hr.r hr.i h tB tK _ q0 l rfl true h4 (fun _=>rfl) hR hI hN hS 0 jl (fun _=>hE) hL⟩
end
end
set_option genInjectivity true in
structure Pr where
 a:Addr
 d:Addr
 op:Addr
 col:Addr
 lab:Addr
 h1:Int
 h2:Int
 h3:Int
 h4:Int
 h5:Int
 h6:Int
 h7:Int
 h8:Int
 t1:Tok
 t2:Tok
 t3:Tok
 t4:Tok
 t5:Tok
 t6:Tok
 t7:Tok
 t8:Tok
 tc:Tok
 ts:Tok
noncomputable def colsS:Str:=⟨#[99,111,108,117,109,110,115]⟩
noncomputable def slotsS:Str:=⟨#[115,108,111,116,115]⟩
noncomputable def writesS:Str:=⟨#[119,114,105,116,101,115]⟩
noncomputable def labelsS:Str:=⟨#[108,97,98,101,108,115]⟩
noncomputable def nextLS:Str:=⟨#[110,101,120,116,95,108,97,98,101,108]⟩
noncomputable def Pr.hd(Z:Pr)(rg:Int)(tr:Tok)(nl:Int)(tn:Tok)(vs:Array Value)(e:Nat):List (Addr×Obj):=
 [(Z.a,insObj 875 Z.d),(Z.d,dicObj #[⟨Z.h1,.str opsS Z.t1,.ref Z.op⟩,⟨Z.h2,.str colsS Z.t2,.ref Z.col⟩,⟨Z.h3,.str regsS Z.t3,.int rg tr⟩,⟨Z.h4,.str cursS Z.t4,.int 0 Z.tc⟩,⟨Z.h5,.str slotsS Z.t5,.int 0 Z.ts⟩,⟨Z.h6,.str writesS Z.t6,.bool false⟩,⟨Z.h7,.str labelsS Z.t7,.ref Z.lab⟩,⟨Z.h8,.str nextLS Z.t8,.int nl tn⟩] 8),(Z.op,lstObj vs e)]
noncomputable def cAdd(Z:Pr)(rg:Int)(tr:Tok)(nl:Int)(tn:Tok)(vs:Array Value)(e:Nat)(args its:List Value):Con:=
 ⟨.call (.ref 807) ⟨.ref Z.a::args,[]⟩,Z.hd rg tr nl tn vs e,fun X=>.int (vs.size:Nat) (X 1),fun X=>(Z.hd rg tr nl tn (vs.push (.ref (X 0))) (e+1)).map (·.2),fun _=>[lstObj its.toArray 0],3,none,false,false⟩
noncomputable def inV(v:Value):Int:=match v with
 |.int i _=>i
 |_=>0
noncomputable def argsOf(c:Code):List Value:=match c with
 |.call _ a=>a.pos.tail
 |_=>[]
noncomputable def isIB(v:Value):Bool:=match v with
 |.int _ _=>true
 |_=>false
noncomputable def isSB(v:Value):Bool:=match v with
 |.str _ _=>true
 |_=>false
noncomputable def okRd(l:List Value):Bool:=@List.rec Value (fun _=>Bool) true (fun a l _=>and (isIB a) (@List.rec Value (fun _=>Bool) false (fun b l _=>and (isIB b) (@List.rec Value (fun _=>Bool) true (fun c l _=>and (isIB c) (@List.rec Value (fun _=>Bool) true (fun _ l _=>@List.rec Value (fun _=>Bool) true (fun _ _ _=>false) l) l)) l)) l)) l
noncomputable def okAd(l:List Value):Bool:=@List.rec Value (fun _=>Bool) false (fun a l _=>and (isSB a) (okRd l)) l
noncomputable def itsA(l:List Value):List Value:=l++[.int 0 1423,.int 0 1424,.int 0 1425,.none].drop (l.length-1)
noncomputable def FAdd(Z:Pr):Fam:=fun c T sc=>@Bool.rec (fun _=>Con) conNo (cAdd Z (inV (enAt T (rd sc 1) 2).val) (vlAt T (rd sc 1) 2) (inV (enAt T (rd sc 1) 7).val) (vlAt T (rd sc 1) 7) (seqOf (objAt T (rd sc 2))).toArray (epOf (objAt T (rd sc 2))) (argsOf c) (itsA (argsOf c))) (and (okAd (argsOf c)) (Nat.blt (lenB (seqOf (objAt T (rd sc 2)))) 900))
theorem isI_ex{v:Value}(h:isIB v=true):∃i t,v=.int i t:=by
 unfold isIB at h
 split at h
 ·exact⟨_,_,rfl⟩
 ·cases h
theorem isS_ex{v:Value}(h:isSB v=true):∃i t,v=.str i t:=by
 unfold isSB at h
 split at h
 ·exact⟨_,_,rfl⟩
 ·cases h
@[elab_as_elim] theorem addE{p:List Value→Prop}(l:List Value)(h:okAd l=true)(h0:∀n t,p [.str n t])(h2:∀n t a u b v,p [.str n t,.int a u,.int b v])(h3:∀n t a u b v c w,p [.str n t,.int a u,.int b v,.int c w])(h4:∀n t a u b v c w x,p [.str n t,.int a u,.int b v,.int c w,x]):p l:=by
 rcases l with _|⟨n,l⟩
 ·cases h
 obtain⟨hn,h⟩:=Bool.and_eq_true_iff.mp h
 obtain⟨n,t,rfl⟩:=isS_ex hn
 rcases l with _|⟨a,l⟩
 ·exact h0 n t
 obtain⟨ha,h⟩:=Bool.and_eq_true_iff.mp h
 obtain⟨a,u,rfl⟩:=isI_ex ha
 rcases l with _|⟨b,l⟩
 ·cases h
 obtain⟨hb,h⟩:=Bool.and_eq_true_iff.mp h
 obtain⟨b,v,rfl⟩:=isI_ex hb
 rcases l with _|⟨c,l⟩
 ·exact h2 n t a u b v
 obtain⟨hc,h⟩:=Bool.and_eq_true_iff.mp h
 obtain⟨c,w,rfl⟩:=isI_ex hc
 rcases l with _|⟨x,_|⟨y,l⟩⟩
 ·exact h3 n t a u b v c w
 ·exact h4 n t a u b v c w x
 ·cases h
section
variable{w:World}{P:Params}{b1 b2:Bool}(hP:w.params=parT P b1 b2)(nt:Nat)
include hP
theorem add_ok(Z:Pr)(rg:Int)(tr:Tok)(nl:Int)(tn:Tok)(vs:Array Value)(e:Nat)(hs:vs.size<900)(l:List Value)(hl:okAd l=true):CO w P b1 b2 nt (cAdd Z rg tr nl tn vs e l (itsA l)):=
 ko hP 3 [4] [.ret] 126 (kq 18 0x40000040404040404040404040404000000 (k_cn (kq 12 0x40000020103000404040404 (k_d 0x100020100)))) (cs:=[lapp Z.op vs e,(fun c T sc=>llenG Z.op (vs.push (.ref (adrAt T 4))) (e+1) c T sc),(fun c T sc=>iop "int.__sub__" ((vs.push (.ref (adrAt T 4))).size:Nat) 1 (vs.size:Nat) c T sc)]) (fc (lapp_ok (Nat.lt_trans hs (by decide))) (fc (fun c T sc=>llenG_ok (by rw[Array.size_push];omega) c T sc) (fc (fun c T sc=>isub_ok (by rw[Array.size_push];omega) c T sc) fn0))) (h:=by
  refine addE l hl ?_ ?_ ?_ ?_
  ·intros;kernel_rfl
  ·intros;kernel_rfl
  ·intros;kernel_rfl
  ·intro n t a u b v c w x;cases x<;>intros<;>kernel_rfl)
theorem FAdd_ok(Z:Pr):FamOk pw w (Kq P b1 b2) nt (FAdd Z):=by
 intro c T sc
 unfold FAdd
 generalize q:and (okAd (argsOf c)) (Nat.blt (lenB (seqOf (objAt T (rd sc 2)))) 900)=b
 cases b with
 |false=>exact conNo_ok
 |true=>
  obtain⟨q1,q2⟩:=Bool.and_eq_true_iff.mp q
  have hs:(seqOf (objAt T (rd sc 2))).toArray.size<900:=by
   rw[lenB_eq]at q2
   have:=Nat.le_of_ble_eq_true q2
   rw[List.size_toArray]
   exact this
  exact add_ok hP nt Z _ _ _ _ _ _ hs _ q1
end
noncomputable def halt(X:Nat→Nat):Addr×Obj:=(X 0,lstObj #[.str nmHalt (X 1),.int 0 1423,.int 0 1424,.int 0 1425,.none] 0)
noncomputable def cFinish(Z:Pr)(tr tn tt tv dt dv:Tok)(n top:Nat)(ops ops':List (Addr×Obj)):Con:=
 ⟨.call (.ref 872) ⟨[.ref Z.a],[]⟩,Z.hd 6 tr (-3) tn (ops.map fun p=>Value.ref p.1).toArray n++(Z.lab,dicObj #[⟨-2,.int (-2) tt,.int top tv⟩,⟨-2,.int (-1) dt,.int n dv⟩] 2)::ops,fun _=>.ref Z.a,
  fun X=>(Z.hd 6 tr (-3) tn (ops.map (fun p:Addr×Obj=>Value.ref p.1)++[Value.ref (X 0)]).toArray (n+1)++(Z.lab,dicObj #[⟨-2,.int (-2) tt,.int top tv⟩,⟨-2,.int (-1) dt,.int n dv⟩] 2)::ops').map (·.2),fun X=>[(halt X).2],5,none,false,false⟩
noncomputable def Pr.at(Z:Pr)(l:Nat):Pr:={Z with lab:=l+2}
noncomputable def Op.to(O:Op)(t:Tok):Op:={O with t2:=t}
noncomputable def rtNames:List (Str×Tok×Bool):=[(⟨#[71,111,116,111]⟩,1022,true),(⟨#[71,111,115,117,98]⟩,1023,true),(⟨#[82,101,116,117,114,110]⟩,1024,true),(⟨#[79,110,99,101]⟩,1025,true),(⟨#[73,115,78,117,108,108]⟩,1026,true),(⟨#[78,111,116,78,117,108,108]⟩,1027,true),(⟨#[73,102,80,111,115]⟩,1028,true),(⟨#[68,101,99,114]⟩,1029,true),(⟨#[77,117,115,116,66,101,73,110,116]⟩,1030,true),(⟨#[86,97,108,117,101]⟩,1032,true),(⟨#[78,117,108,108]⟩,1033,true),(⟨#[67,111,112,121]⟩,1034,true),(⟨#[86,97,114,105,97,98,108,101]⟩,1035,true),(⟨#[65,100,100,73,110,116]⟩,1036,true),(⟨#[82,101,119,105,110,100]⟩,1155,false),(⟨#[76,97,115,116]⟩,1156,false),(⟨#[78,101,120,116]⟩,1157,false),(⟨#[80,114,101,118]⟩,1158,false),(⟨#[83,101,101,107,82,111,119,105,100]⟩,1159,false),(⟨#[83,101,101,107,71,69]⟩,1160,false),(⟨#[83,101,101,107,71,84]⟩,1161,false),(⟨#[83,101,101,107,76,69]⟩,1162,false),(⟨#[83,101,101,107,76,84]⟩,1163,false),(⟨#[73,100,120,71,84]⟩,1164,false),(⟨#[73,100,120,71,69]⟩,1165,false),(⟨#[73,100,120,76,84]⟩,1166,false),(⟨#[73,100,120,76,69]⟩,1167,false),(⟨#[70,111,117,110,100]⟩,1168,false),(⟨#[78,111,116,70,111,117,110,100]⟩,1169,false),(⟨#[78,111,67,111,110,102,108,105,99,116]⟩,1170,false),(⟨#[78,111,116,69,120,105,115,116,115]⟩,1171,false),(⟨#[83,111,114,116,101,114,83,111,114,116]⟩,1172,false),(⟨#[83,111,114,116,101,114,78,101,120,116]⟩,1173,false),(⟨#[83,101,101,107,70,114,111,109,73,100,120]⟩,1174,false),(⟨#[78,117,108,108,82,111,119]⟩,1176,false),(⟨#[67,111,108,117,109,110]⟩,1177,false),(⟨#[82,111,119,105,100]⟩,1178,false),(⟨#[73,100,120,82,111,119,105,100]⟩,1179,false)]
noncomputable def rtEs(w:World)(ca ma:Addr):List (Str×Tok×Bool)→List DictEntry
 |[]=>[]
 |x::l=>⟨hashStr w x.1,.str x.1 x.2.1,.ref (@Bool.rec (fun _=>Addr) ma ca x.2.2)⟩::rtEs w ca ma l
noncomputable def rtObj(w:World)(ca ma:Addr):Obj:=dicObj (rtEs w ca ma rtNames).toArray 38
noncomputable def cRi(w:World)(P:Params)(ru rd op ca pa:Addr)(M:Mv)(C:Co)(pe:Nat):Con:=
 ⟨.call (.ref 103) ⟨[.ref ru,.ref op,.ref C.a,.ref pa],[]⟩,[(ru,insObj 113 rd),(rd,dicObj #[] 0),(pa,lstObj #[.ref M.a] pe)]++M.hd++(C.objs (dicObj #[] 0)).take 2,fun _=>.none,
  fun X=>[insObj 113 rd,dicObj #[⟨hS P opsS,.str opsS (X 1),.ref op⟩,⟨hS P coreS,.str coreS (X 2),.ref C.a⟩,⟨hS P routesS,.str routesS (X 3),.ref (X 0)⟩] 3,lstObj #[.ref M.a] pe]++M.hd.map (·.2)++((C.objs (dicObj #[] 0)).take 2).map (·.2),fun _=>[rtObj w C.a M.a],5,none,false,false⟩
section
variable{w:World}{P:Params}{b1 b2:Bool}(hP:w.params=parT P b1 b2)(nt:Nat)
include hP
theorem rin_ok(ru rd op ca pa:Addr)(M:Mv)(C:Co)(pe:Nat):CO w P b1 b2 nt (cRi w P ru rd op ca pa M C pe):=by
 exact ko hP 5 [8] [.key 1 0,.key 1 1,.key 1 2] 2305 (kq 14 0x808000008080808080808080000 (k_L (kq 2 0x808 (k_L (kq 1 8 (k_L (kq 4 0x8000008 (k_a (kq 35 0x808080d0d0c0d0d000d000d000d000c000c0c0b0a0b000a000a0b0a020a010b000b0b (k_U (kq 2 0xe0e (k_h (k_a (kq 14 0x1010001000100010000f000f0f00 (k_dU (k_dU (k_dU (k_bD (k_bD (kq 27 0x400000004000000040808080d0d0c0d0d000d000d00001210100f (k_a (kq 2 0x504 (k_a (kq 2 0x1313 (k_h (k_a (kq 17 0x1515141515001500150015001400141400 (k_dV (k_dV (k_dV 0x190d0d0c0d0d000d000d000017)))))))))))))))))))))))))))))) (cs:=linit::List.replicate 38 (dSet w)) (fc linit_ok (rep_ok dSet_ok 38))
end
section
variable{prog:Program}{w:World}{kt:KT}{nt:Nat}
theorem con_lab{C:Con}(hj:C.jump=false){p:Addr×Obj}(hp:p∈C.pre)(h:2≤p.1→ConOk prog w kt nt C):ConOk prog w kt nt C:=by
 unfold ConOk at h ⊢
 rw[hj]at h ⊢
 intro A s R hr P post
 have h1:=(P.pre p hp).2
 have h2:=P.top.2.2
 exact h (Nat.le_of_lt (Nat.lt_of_lt_of_le h2 h1)) A s R hr P post
theorem Pr.at_eq{Z:Pr}(h:2≤Z.lab):Z=Z.at (Z.lab-2):=by
 cases Z
 unfold Pr.at
 simp only[Pr.mk.injEq,true_and,and_true]
 exact(Nat.sub_add_cancel h).symm
end
noncomputable def opX(X:Nat→Nat)(n i:Nat):Op:=⟨X i,X (n+4*i),X (n+4*i+1),X (n+4*i+2),X (n+4*i+3)⟩
noncomputable def cRg(Z:Pr)(tr tn:Tok)(sp:Addr)(bk:Bool)(spans:List (Addr×Obj))(n top:Nat)(ops:(Nat→Nat)→List (Addr×Obj)):Con:=
 ⟨.call (.ref 928) ⟨[.ref Z.a,.ref sp,.bool bk],[]⟩,Z.hd 1 tr (-1) tn #[] 0++(Z.lab,dicObj #[] 0)::spans,fun _=>.none,
  fun X=>(Z.hd 6 (X (5*n+2)) (-3) (X (5*n+3)) ((List.range n).map fun i=>Value.ref (X i)).toArray n++(Z.lab,dicObj #[⟨-2,.int (-2) (X (5*n+4)),.int top (X (5*n+5))⟩,⟨-2,.int (-1) tn,.int n (X (5*n+6))⟩] 2)::spans).map (·.2),fun X=>(ops X).map (·.2),5,none,false,false⟩
noncomputable def osQ(X:Nat→Nat)(n b:Nat):Os:=⟨opX X n b,opX X n (b+1),opX X n (b+2),opX X n (b+3),opX X n (b+4),opX X n (b+5)⟩
noncomputable def Rp.q(S:Rp)(X:Nat→Nat):Oq:=⟨opX X S.n (o01 S.bg),opX X S.n 0,opX X S.n (1+o01 S.bg),opX X S.n (2+o01 S.bg),X (5*S.n),X (5*S.n+1),osQ X S.n (S.n-6)⟩
noncomputable def Oq.fin(Q:Oq)(tv dv:Tok):Oq:={Q with O0:=Q.O0.to dv,OI:=Q.OI.to dv,O:={Q.O with n:=Q.O.n.to tv}}
noncomputable def nmB(bk hb:Bool){α:Type}(b:Option α):Str:=match b,bk,hb with
 |none,false,_=>nmRewind
 |none,true,_=>nmLast
 |some _,false,false=>nmSeekGT
 |some _,false,true=>nmSeekGE
 |some _,true,false=>nmSeekLT
 |some _,true,true=>nmSeekLE
noncomputable def nmE(bk he:Bool):Str:=match bk,he with
 |false,false=>nmIdxGE
 |false,true=>nmIdxGT
 |true,false=>nmIdxLE
 |true,true=>nmIdxLT
noncomputable def Bd.pt(b:Bd):Pv×Tok:=(b.p,b.t)
noncomputable def shOf(lo hi:Option Bd)(hl hh bk:Bool):Rp:=match bk with
 |false=>⟨lo.map Bd.pt,hi.map Bd.pt,nmB false hl lo,nmE false hh,nmNext⟩
 |true=>⟨hi.map Bd.pt,lo.map Bd.pt,nmB true hh hi,nmE true hl,nmPrev⟩
@[elab_as_elim] theorem bdE{p:Option Bd→Bool→Bool→Prop}(o:Option Bd)(b x:Bool)(hx:o.isSome=x)(h0:∀b,p none b false)(h1:∀a,p (some a) false true)(h2:∀a,p (some a) true true):p o b x:=by
 subst hx
 rcases o with _|a
 ·exact h0 b
 ·cases b
  ·exact h1 a
  ·exact h2 a
@[elab_as_elim] theorem bpE{p:Option Bd→Bool→Bool→Prop}(o:Option Bd)(b x:Bool)(hx:o.isSome=x)(h0:∀b,p none b false)(h1:∀a t r,p (some ⟨a,.n,t,r⟩) false true)(h2:∀a i t r,p (some ⟨a,.i i,t,r⟩) false true)(h3:∀a s t r,p (some ⟨a,.s s,t,r⟩) false true)(h4:∀a t r,p (some ⟨a,.n,t,r⟩) true true)(h5:∀a i t r,p (some ⟨a,.i i,t,r⟩) true true)(h6:∀a s t r,p (some ⟨a,.s s,t,r⟩) true true):p o b x:=
 bdE o b x hx h0 (fun⟨a,p,t,r⟩=>by cases p;exact h1 a t r;exact h2 a _ t r;exact h3 a _ t r) fun⟨a,p,t,r⟩=>by cases p;exact h4 a t r;exact h5 a _ t r;exact h6 a _ t r
noncomputable def itms:List Nat→List Wt→List Wt
 |[],r=>r
 |i::l,r=>.itm i 0::.itm i 1::.itm i 2::.itm i 3::itms l r
noncomputable def rgNi(x y:Bool):List Nat:=List.range' (33+topOf x y) (topOf x y)++List.range' (34+2*topOf x y) (6+b01 y)
noncomputable def rgWs(x y:Bool):List Wt:=itms (rgNi x y) [@Bool.rec (fun _=>Wt) (.num 0) (.itm (34+topOf x y) 4) x,@Bool.rec (fun _=>Wt) (.num 0) (.itm (34+2*topOf x y) 4) y,.ent 1 2,.ent 1 7,.key 3 0,.ent 3 0,.ent 3 1]
noncomputable def rgC(w:World)(Z:Pr)(x y:Bool):List Fam:=List.replicate (topOf x y) (FAdd Z)++([dOwn,dSet w]++(List.replicate (6+b01 y) (FAdd Z)++[dOwn,dSet w]))
noncomputable def fiC(kt:KT)(Z:Pr)(x y:Bool):List Fam:=[tinOwn,FAdd Z]++([dOwn,dOwn]++(List.replicate (1+b01 x) (dTop kt)++(@Bool.rec (fun _=>List Fam) [] [dOwn,dOwn,dTop kt,dTop kt] y++([dOwn,dOwn]++(List.replicate 6 (dTop kt)++[dOwn,dOwn,dTop kt])))))
noncomputable def bkB(bk x y:Bool):Bool:=@Bool.rec (fun _=>Bool) x y bk
noncomputable def scR:List Nat:=[(kq 10 0x606060606060000 (k_k (kq 34 0x6060606060a08080708080008000808080708080008000808080708080008000808 (k_f (kq 5 0xb000b0b (k_eD (k_eD (kq 15 0x606060606060606060d0b0b050b0b (k_br (kq 8 0xe00000e0e0e0e00 (k_d (kq 7 0xe00000e0e0e0e (k_L (kq 2 0x60e (k_br (kq 1 0 (k_dW (kq 1 6 (k_br (kq 1 0 (k_cW (kq 45 0x141212111212001200121212111212001200121212111212001200121212111212001200121200110011111110 (k_cc (k_br (kq 5 0x1500001515 (k_d (kq 6 0x150000151515 (k_L (kq 2 0x615 (k_br (kq 5 0x1600001616 (k_d (kq 6 0x160000161616 (k_L (kq 6 0x170017171716 (k_eh (k_cc (k_eb (k_cc (k_ef (kq 6 0x60606060606 (k_l (kq 3 0x60606 (k_O (kq 2 0x606 (k_l (kq 1 6 (k_a (kq 11 0x2424000024000024242424 (k_x (kq 2 0x2424 (k_bY (kq 1 0x24 (k_J (kq 1 0x24 (k_d (kq 1 0x24 (k_bZ (kq 2 0x606 (k_l (kq 2 0x606 (k_O (kq 1 6 (k_l (kq 2 0x606 (k_O (kq 1 6 (k_l (kq 10 0x6020100010000000606 (k_l (kq 10 0x6020100010000000606 (k_l (kq 1 6 (k_O (kq 1 6 (k_l (kq 3 0x60606 (k_O (kq 1 6 (k_l (kq 1 6 (k_a (kq 11 0x2b2b00002b00002b2b2b2b (k_x (kq 2 0x2b2b (k_bY (kq 1 0x2b (k_J (kq 1 0x2b (k_d (kq 1 0x2b (k_bZ 0)))))))))))))))))))))))))))))))))))))))))))))))))))))))))))))))))))))))))))))))))))))))))))),(k_eE (kq 2 0x707 (k_P (kq 1 6 (k_O (k_e (kq 1 7 (k_l (k_e (k_O (kq 2 0x707 (k_l (k_c (k_eF (kq 2 0x707 (k_l (kq 2 0x707 (k_eG (k_eH (kq 11 0x2d2d00002d00002d2d2d2d (k_x (kq 2 0x2d2d (k_bY (kq 1 0x2d (k_J (kq 1 0x2d (k_d (kq 1 0x2d (k_bZ 0))))))))))))))))))))))))))))),(k_eE (kq 3 0x70707 (k_O (kq 2 0x707 (k_l (kq 2 0x707 (k_P (kq 1 6 (k_O (kq 1 7 (k_l (k_c (k_eF (k_e (kq 2 0x707 (k_l (k_e (k_eG (k_O (kq 1 7 (k_l (kq 2 0x707 (k_eH (kq 11 0x2e2e00002e00002e2e2e2e (k_x (kq 2 0x2e2e (k_bY (kq 1 0x2e (k_J (kq 1 0x2e (k_d (kq 1 0x2e (k_bZ 0)))))))))))))))))))))))))))))))))]
noncomputable def scR0(bk x y:Bool):Nat:=nthD (@Bool.rec (fun _=>Nat) (k_eI (k_P (kq 1 6 (k_eJ (k_k (kq 1 7 (k_eK 0))))))) (k_eI (k_k (kq 1 7 (k_eJ (k_P (kq 1 6 (k_eK 0))))))) bk) scR (ixOf x y)
noncomputable def scE:List Nat:=[(kq 7 0xc00000c0c0000 (k_bB (kq 1 0xc (k_x (k_7 (k_1 (kq 8 0xc0c010d000d0d00 (k_l (k_O (kq 1 0xc (k_dr (kq 6 0xf000f000f (k_eL (k_eL (kq 10 0xc00110f0f0f04040f0f (k_2 (kq 2 0x1200 (k_cv (k_p (k_y (kq 1 0xc (k_p (kq 3 0xc0000 (k_p (kq 1 0xc (k_b0 (kq 1 0xc (k_d (kq 1 0xc (k_p (k_M (kq 23 0xc0c0c1212031212001200120005050500050005050c00 (k_D (kq 2 0x100 (k_cv (k_k (k_c (kq 2 0x100 (k_cv (k_r (k_y (k_cv (k_z (k_y (k_cv (k_N (k_y (k_cv (k_1 (k_y (kq 1 0xc (k_1 (kq 3 0xc0000 (k_1 (kq 1 0xc (k_b0 (kq 1 0xc (k_d (kq 1 0xc (k_1 (k_M (kq 10 0xb0b0b000b000b0b0c00 (k_cv (k_q (k_y 0xc001412120312120012001200))))))))))))))))))))))))))))))))))))))))))))))))))))))))))))))))),(kq 7 0xd00000d0d0000 (k_bB (kq 1 0xd (k_x (kq 23 0xd0d010e000e0e000c000c000c0c0c0003000300030303 (k_l (k_O (kq 1 0xd (k_dr (kq 8 0x1010001000100010 (k_eM (k_eM (kq 8 0xd00121010100404 (k_2 (kq 15 0xd0d0d131303131300130013001300 (k_p (k_y (k_cw (k_D (kq 3 0xd0100 (k_P (kq 4 0xd000006 (k_P (kq 2 0xd06 (k_b0 (kq 1 0xd (k_d (kq 1 0xd (k_P (kq 1 6 (k_M (kq 23 0xd0d0d1313031313001300130006060600060006060d00 (k_k (k_c (kq 2 0x100 (k_cw (k_r (k_y (k_cw (k_z (k_y (k_cw (k_N (k_y (k_cw (k_1 (k_y (k_cw (k_w (k_y (kq 1 0xd (k_w (kq 3 0xd0000 (k_w (kq 1 0xd (k_b0 (kq 1 0xd (k_d (kq 1 0xd (k_w (k_M (kq 10 0xc0c0c000c000c0c0d00 (k_cw (k_o (k_y 0xd001513130313130013001300))))))))))))))))))))))))))))))))))))))))))))))))))))))))))))))))),(kq 7 0xe00000e0e0000 (k_bB (kq 1 0xe (k_x (kq 23 0xe0e010f000f0f000d000d000d0d0d0003000300030303 (k_l (k_O (kq 1 0xe (k_dr (kq 4 0x110011 (k_eN (k_eN (kq 12 0xe0013111111040411110011 (k_2 (kq 3 0x1400 (k_b1 (k_p (k_y (kq 1 0xe (k_p (kq 3 0xe0000 (k_p (kq 1 0xe (k_b0 (kq 1 0xe (k_d (kq 1 0xe (k_p (k_M (kq 11 0x5050500050005050e00 (k_b1 (k_D (kq 3 0x100 (k_b1 (k_k (k_c (kq 3 0xe0100 (k_k (kq 4 0xe000007 (k_k (kq 2 0xe07 (k_b0 (kq 1 0xe (k_d (kq 1 0xe (k_k (kq 1 7 (k_M (kq 11 0x7070700070007070e00 (k_b1 (k_r (k_cX (k_z (k_cX (k_N (k_cX (k_1 (k_cX (k_w (k_cX (k_n (k_y (kq 1 0xe (k_n (kq 3 0xe0000 (k_n (kq 1 0xe (k_b0 (kq 1 0xe (k_d (kq 1 0xe (k_n (k_M (kq 11 0xd0d0d000d000d0d0e00 (k_b1 (k_0 (k_y 0xe001614140314140014001400))))))))))))))))))))))))))))))))))))))))))))))))))))))))))))))))))))))))))))),(kq 7 0xf00000f0f0000 (k_bB (kq 1 0xf (k_x (kq 23 0xf0f0110001010000e000e000e0e0e0003000300030303 (k_l (k_O (kq 1 0xf (k_dr (kq 8 0x1212001200120012 (k_eO (k_eO (kq 8 0xf00141212120404 (k_2 (kq 15 0xf0f0f151503151500150015001500 (k_p (k_cL (k_D (kq 3 0xf0100 (k_P (kq 4 0xf000006 (k_P (kq 2 0xf06 (k_b0 (kq 1 0xf (k_d (kq 1 0xf (k_P (kq 1 6 (k_M (kq 11 0x6060600060006060f00 (k_dX (k_k (k_c (kq 3 0x100 (k_dX (k_r (k_y (kq 1 0xf (k_r (kq 3 0xf0000 (k_r (kq 1 0xf (k_b0 (kq 1 0xf (k_d (kq 1 0xf (k_r (k_M (kq 11 0x8080800080008080f00 (k_dX (k_z (k_cL (k_N (k_cL (k_1 (k_cL (k_w (k_cL (k_n (k_cL (k_q (k_y (kq 1 0xf (k_q (kq 3 0xf0000 (k_q (kq 1 0xf (k_b0 (kq 1 0xf (k_d (kq 1 0xf (k_q (k_M (kq 30 0x110011001111110f0f0f151503151500150015000e0e0e000e000e0e0f00 (k_y 0xf001715150315150015001500))))))))))))))))))))))))))))))))))))))))))))))))))))))))))))))))))))))))))))]
section
variable{w:World}{P:Params}{b1 b2:Bool}(hP:w.params=parT P b1 b2)(nt:Nat)
include hP
set_option maxHeartbeats 8000000 in
theorem rg0(Z:Pr)(tr tn:Tok)(sp:Addr)(lo hi:Option Bd)(hl hh bk x y:Bool)(hx:lo.isSome=x)(hy:hi.isSome=y):CO w P b1 b2 nt (cRg Z tr tn sp bk ((sp,spO hl hh lo hi)::(optO (lo.map Bd.v)++optO (hi.map Bd.v))) (shOf lo hi hl hh bk).n (shOf lo hi hl hh bk).top (fun X=>(shOf lo hi hl hh bk).ops ((shOf lo hi hl hh bk).q X) (-1) (-2))):=
 ko hP 5 (rgNi (bkB bk x y) (bkB bk y x)) (rgWs (bkB bk x y) (bkB bk y x)) 1800 (scR0 bk (bkB bk x y) (bkB bk y x)) (cs:=rgC w Z (bkB bk x y) (bkB bk y x)) (AllOk.app (rep_ok (FAdd_ok hP nt Z) _) (AllOk.app (fc dOwn_ok (fc dSet_ok fn0)) (AllOk.app (rep_ok (FAdd_ok hP nt Z) _) (fc dOwn_ok (fc dSet_ok fn0))))) (h:=by
  refine bE bk ?_ ?_<;>refine bpE lo hl x hx ?_ ?_ ?_ ?_ ?_ ?_ ?_<;>intros<;>refine bpE hi hh y hy ?_ ?_ ?_ ?_ ?_ ?_ ?_<;>intros<;>kernel_rfl)
theorem rg_ok(Z:Pr)(tr tn:Tok)(sp:Addr)(lo hi:Option Bd)(hl hh bk:Bool):CO w P b1 b2 nt (cRg Z tr tn sp bk ((sp,spO hl hh lo hi)::(optO (lo.map Bd.v)++optO (hi.map Bd.v))) (shOf lo hi hl hh bk).n (shOf lo hi hl hh bk).top (fun X=>(shOf lo hi hl hh bk).ops ((shOf lo hi hl hh bk).q X) (-1) (-2))):=rg0 hP nt Z tr tn sp lo hi hl hh bk _ _ rfl rfl
theorem fin_at(Z:Pr)(l:Nat)(tr tn tt tv dt dv:Tok)(lo hi:Option Bd)(hl hh bk:Bool)(Q:Oq)(x y:Bool)(hx:lo.isSome=x)(hy:hi.isSome=y):CO w P b1 b2 nt (cFinish (Z.at l) tr tn tt tv dt dv (shOf lo hi hl hh bk).n (shOf lo hi hl hh bk).top ((shOf lo hi hl hh bk).ops Q (-1) (-2)) ((shOf lo hi hl hh bk).ops (Q.fin tv dv) (shOf lo hi hl hh bk).n (shOf lo hi hl hh bk).top)):=
 ko hP 5 [nOf (bkB bk x y) (bkB bk y x)+6] [.itm (nOf (bkB bk x y) (bkB bk y x)+6) 0] 1300 (nthD 0 scE (ixOf (bkB bk x y) (bkB bk y x))) (cs:=fiC (Kq P b1 b2) (Z.at l) (bkB bk x y) (bkB bk y x)) (AllOk.app (fc tinOwn_ok (fc (FAdd_ok hP nt _) fn0)) (AllOk.app (fc dOwn_ok (fc dOwn_ok fn0)) (AllOk.app (rep_ok dTop_ok _) (AllOk.app (by
   generalize bkB bk y x=e
   cases e
   ·exact fn0
   ·exact fc dOwn_ok (fc dOwn_ok (fc dTop_ok (fc dTop_ok fn0)))) (AllOk.app (fc dOwn_ok (fc dOwn_ok fn0)) (AllOk.app (rep_ok dTop_ok _) (fc dOwn_ok (fc dOwn_ok (fc dTop_ok fn0))))))))) (h:=by
  refine bE bk ?_ ?_<;>refine bdE lo hl x hx ?_ ?_ ?_<;>intros<;>refine bdE hi hh y hy ?_ ?_ ?_<;>intros<;>kernel_rfl)
theorem fin_ok(Z:Pr)(tr tn tt tv dt dv:Tok)(lo hi:Option Bd)(hl hh bk:Bool)(Q:Oq):CO w P b1 b2 nt (cFinish Z tr tn tt tv dt dv (shOf lo hi hl hh bk).n (shOf lo hi hl hh bk).top ((shOf lo hi hl hh bk).ops Q (-1) (-2)) ((shOf lo hi hl hh bk).ops (Q.fin tv dv) (shOf lo hi hl hh bk).n (shOf lo hi hl hh bk).top)):=by
 refine con_lab rfl (p:=(Z.lab,dicObj #[⟨-2,.int (-2) tt,.int (shOf lo hi hl hh bk).top tv⟩,⟨-2,.int (-1) dt,.int (shOf lo hi hl hh bk).n dv⟩] 2)) ?_ fun h=> ?_
 ·exact List.mem_append_right _ List.mem_cons_self
 ·rw[Pr.at_eq h]
  exact fin_at hP nt Z (Z.lab-2) tr tn tt tv dt dv lo hi hl hh bk Q _ _ rfl rfl
end
noncomputable def cTk(a:Addr)(s0 s1:Int)(t0 t1:Tok)(e:Nat)(k n:Int)(t:Tok):Con:=
 ⟨.call (.ref 893) ⟨[.ref a,.int k t],[]⟩,[(a,lstObj #[.int s0 t0,.int s1 t1] e)],fun X=>.int n (X 0),fun X=>[lstObj #[.int (dn0 s0 k) (X 1),.int (dn1 s0 s1) (X 2)] e],fun _=>[],3,none,false,false⟩
noncomputable def itJ:Nat→It
 |0=>.n|1=>.i0|2=>.i1|3=>.i2|4=>.i5|5=>.sa|6=>.sb|_=>.sB
noncomputable def cLv(a:Addr)(s0 s1:Int)(t0 t1:Tok)(e:Nat)(v:Tok→Value):Con:=
 ⟨.call (.ref 907) ⟨[.ref a],[]⟩,[(a,lstObj #[.int s0 t0,.int s1 t1] e)],fun X=>v (X 0),fun X=>[lstObj #[.int (dn0 s0 8) (X 1),.int (dn1 s0 s1) (X 2)] e],fun _=>[],5,none,false,false⟩
noncomputable def cPo(scr:Addr)(vs:Array Value)(e:Nat)(p0 p1:Int)(t:Tok):Con:=
 ⟨.call (.ref 886) ⟨[.ref scr,.int 0 t],[]⟩,[(scr,lstObj vs e)],fun X=>.ref (X 0),fun _=>[lstObj vs e],fun X=>[lstObj #[.int p0 (X 1),.int p1 (X 2)] 0],3,none,false,false⟩
noncomputable def pl1(big:Int):Int:=((((big.fmod 2147483629+0)+0)+17)*48271).fmod 2147483647
theorem pl1_ok(big:Int):SrcOk (pl1 big):=⟨Int.fmod_nonneg_of_pos _ (by decide),Int.fmod_lt_of_pos _ (by decide)⟩
noncomputable def topK(k:Int):Prop:=k=2∨k=3∨k=5∨k=8
theorem topK.pos{k:Int}(h:topK k):k≠0:=by rcases h with rfl|rfl|rfl|rfl<;>decide
theorem topK.log{k:Int}(h:topK k):k.natAbs.log2/30+1≤300:=by rcases h with rfl|rfl|rfl|rfl<;>decide
theorem mul_r(a:Int){b:Int}(h1: -(2^64)<b)(h2:b<2^64):IntMulOk a b:=.of_right (intBits_le_64 h1 h2)
noncomputable def u18q0:Nat:=(k_eP (k_a (kq 8 0x202020100020000 (k_i 0x2010101000100010102010002))))
noncomputable def u18q1:Nat:=(k_eP (kq 4 0x1000100 (k_bE (kq 10 0x1010100010001010201 (k_a (kq 1 2 (k_i (kq 1 2 (k_i (kq 2 0x100 (k_a (kq 6 0x10001000000 (k_a 0x100020000)))))))))))))
section
variable{w:World}{P:Params}{b1 b2:Bool}(hP:w.params=parT P b1 b2)(nt:Nat)
include hP
section
variable(a:Addr)(s0 s1:Int)(t0 t1:Tok)(e:Nat)(k n:Int)(t:Tok)(hk:topK k)
include a s0 s1 t0 t1 e k n t hk
theorem take_1(h0:s0>0)(hn:drw s0 s1 k=n)(q:dn1 s0 s1=s1):CO w P b1 b2 nt (cTk a s0 s1 t0 t1 e k n t):=by
 unfold cTk
 rw[q]
 exact ko hP 3 [] [.ret,.itm 0 0,.itm 0 1] 127 u18q0 (cs:=[icmp "int.__gt__" s0 0 true,iop "int.__mod__" s0 k n,iop "int.__floordiv__" s0 k (dn0 s0 k)]) (fc (igt_ok (decide_eq_true h0)) (fc (imod_ok hk.pos (by rw[←hn];unfold drw;rw[if_pos h0])) (fc (ifd_ok hk.pos hk.log (by unfold dn0;rw[if_pos h0])) fn0)))
theorem take_0(h0:¬s0>0)(hn:drw s0 s1 k=n)(q:dn0 s0 k=s0):CO w P b1 b2 nt (cTk a s0 s1 t0 t1 e k n t):=by
 have hb1: -(2^64)<dn1 s0 s1:=by unfold dn1;rw[if_neg h0];have:=dst_lo s1;omega
 have hb2:dn1 s0 s1<2^64:=by unfold dn1;rw[if_neg h0];have:=dst_lo s1;omega
 unfold cTk
 rw[q]
 exact ko hP 3 [] [.ret,.itm 0 0,.itm 0 1] 177 u18q1 (cs:=[icmp "int.__gt__" s0 0 false,iop "int.__mul__" s1 39373 (s1*39373),iop "int.__add__" (s1*39373) 7 (s1*39373+7),iop "int.__mod__" (s1*39373+7) 2147483647 (dn1 s0 s1),iop "int.__mul__" (dn1 s0 s1) (dn1 s0 s1) (dn1 s0 s1*dn1 s0 s1),iop "int.__mod__" (dn1 s0 s1*dn1 s0 s1) 2147483629 ((dn1 s0 s1*dn1 s0 s1).fmod 2147483629),iop "int.__floordiv__" ((dn1 s0 s1*dn1 s0 s1).fmod 2147483629) 32 (((dn1 s0 s1*dn1 s0 s1).fmod 2147483629).fdiv 32),iop "int.__mod__" (((dn1 s0 s1*dn1 s0 s1).fmod 2147483629).fdiv 32) k n]) (fc (igt_ok (decide_eq_false h0)) (fc (imul_ok (mul_r _ (by decide) (by decide)) rfl) (fc (iadd_ok rfl) (fc (imod_ok (by decide) (by unfold dn1;rw[if_neg h0];rfl)) (fc (imul_ok (mul_r _ hb1 hb2) rfl) (fc (imod_ok (by decide) rfl) (fc (ifd_ok (by decide) (by decide) rfl) (fc (imod_ok hk.pos (by rw[←hn];unfold drw dn1;rw[if_neg h0,if_neg h0])) fn0))))))))
theorem take_ok(hn:drw s0 s1 k=n):CO w P b1 b2 nt (cTk a s0 s1 t0 t1 e k n t):=by
 by_cases h0:s0>0
 ·exact take_1 hP nt a s0 s1 t0 t1 e k n t hk h0 hn (by unfold dn1;rw[if_pos h0])
 ·exact take_0 hP nt a s0 s1 t0 t1 e k n t hk h0 hn (by unfold dn0;rw[if_neg h0])
end
theorem lv_ok(a:Addr)(s0 s1:Int)(t0 t1:Tok)(e j:Nat)(hj:j<8)(hd:drw s0 s1 8=j):CO w P b1 b2 nt (cLv a s0 s1 t0 t1 e (itJ j).val):=
 ko hP 5 [] [.ret,.itm 0 0,.itm 0 1] 103 (kq 8 0x200000002020000 (k_a 0x300030003030300010003000300030000040000040004000004040404)) (cs:=[(fun c _ _=>cTk a s0 s1 t0 t1 e 8 j (cTok c 1))]) (fc (fun _ _ _=>take_ok hP nt a s0 s1 t0 t1 e 8 _ _ (.inr (.inr (.inr rfl))) hd) fn0) (h:=by
  refine j8E j hj ?_ ?_ ?_ ?_ ?_ ?_ ?_ ?_<;>intros<;>kernel_rfl)
omit hP in
noncomputable def bigC(m:Bool)(c:Int):Int:=@Bool.rec (fun _=>Int) c (-1-c) m
omit hP in
noncomputable def giB(g:Bool):Int:=@Bool.rec (fun _=>Int) 0 1 g
omit hP in
noncomputable def poF(c big:Int)(m g:Bool):List Fam:=[iop "int.__sub__" (-1) c (-1-c),icmp "int.__gt__" (-1-c) c m,iop "int.__mod__" big 2147483629 (big.fmod 2147483629),iop "int.__mul__" 7919 0 0,iop "int.__mul__" 0 0 0,iop "int.__add__" (big.fmod 2147483629) 0 (big.fmod 2147483629+0),iop "int.__mul__" 31 0 0,iop "int.__add__" (big.fmod 2147483629+0) 0 (big.fmod 2147483629+0+0),iop "int.__add__" (big.fmod 2147483629+0+0) 17 (big.fmod 2147483629+0+0+17),iop "int.__mul__" (big.fmod 2147483629+0+0+17) 48271 ((big.fmod 2147483629+0+0+17)*48271),iop "int.__mod__" ((big.fmod 2147483629+0+0+17)*48271) 2147483647 (pl1 big),icmp "int.__ge__" big 1000000000000000000 g,iop "int.__mul__" big (giB g) (big*giB g)]
omit hP in
theorem poF_ok{c big:Int}{m g:Bool}(hg:decide (-1-c>c)=m)(he:decide (big≥1000000000000000000)=g):AllOk pw w (Kq P b1 b2) nt (poF c big m g):=fc (isub_ok rfl) (fc (igt_ok hg) (fc (imod_ok (by decide) rfl) (fc (imul_ok (mul_r _ (by decide) (by decide)) rfl) (fc (imul_ok (mul_r _ (by decide) (by decide)) rfl) (fc (iadd_ok rfl) (fc (imul_ok (mul_r _ (by decide) (by decide)) rfl) (fc (iadd_ok rfl) (fc (iadd_ok rfl) (fc (imul_ok (mul_r _ (by decide) (by decide)) rfl) (fc (imod_ok (by decide) rfl) (fc (ige_ok he) (fc (imul_ok (mul_r _ (by cases g<;>decide) (by cases g<;>decide)) rfl) fn0))))))))))))
theorem pool_c(scr:Addr)(vs:Array Value)(e:Nat)(hs:vs.size<1000)(c:Int)(tc:Tok)(hv:vs[0]?=some (.int c tc))(m g:Bool)(hg:decide (-1-c>c)=m)(he:decide (bigC m c≥1000000000000000000)=g)(t:Tok):CO w P b1 b2 nt (cPo scr vs e (bigC m c*giB g) (pl1 (bigC m c)) t):=
 ko hP 3 [7] [.itm 7 0,.itm 7 1] 327 (@Bool.rec (fun _=>Nat) (k_eQ (kq 13 0x4040304040004000405000100 (k_dZ 0))) (k_eQ (kq 16 0x4040304040004000405000505050100 (k_dZ 0))) m) (cs:=llenG scr vs e::icmp "int.__lt__" 0 (vs.size:Nat) true::lget scr vs e (0:Nat) (.int c tc)::poF c (bigC m c) m g) (fc (llenG_ok hs) (fc (ilt_ok (decide_eq_true (by have:=(Array.getElem?_eq_some_iff.mp hv).1;omega))) (fc (lget_ok hv (by decide)) (poF_ok nt hg he)))) (h:=by
  refine bE m ?_ ?_<;>refine bE g ?_ ?_<;>intros<;>kernel_rfl)
theorem pool_e(scr:Addr)(e:Nat)(t:Tok):CO w P b1 b2 nt (cPo scr #[] e 0 (pl1 0) t):=
 ko hP 3 [7] [.itm 7 0,.itm 7 1] 305 (kq 19 0x1000001000200000202020000020202020000 (k_a (kq 1 2 (k_a (k_dY (kq 13 0x4040304040004000405000100 (k_dZ 0))))))) (cs:=llenG scr #[] e::icmp "int.__lt__" 0 0 false::poF 0 0 false false) (fc (llenG_ok (by decide)) (fc (ilt_ok rfl) (poF_ok nt rfl rfl)))
theorem pool_ok(scr:Addr)(vs:Array Value)(e:Nat)(hs:vs.size<1000)(h:vs= #[]∨∃c tc,vs[0]?=some (.int c tc)):∃p0 p1,SrcOk p1∧∀t,CO w P b1 b2 nt (cPo scr vs e p0 p1 t):=by
 rcases h with rfl|⟨c,tc,hv⟩
 ·exact⟨_,_,pl1_ok _,pool_e hP nt scr e⟩
 ·exact⟨_,_,pl1_ok _,pool_c hP nt scr vs e hs c tc hv _ _ rfl rfl⟩
end
noncomputable def sourceS:Str:=⟨#[115,111,117,114,99,101]⟩
noncomputable def turnS:Str:=⟨#[116,117,114,110]⟩
noncomputable def cRw(kt:KT)(loc it acc frm k1 src:Addr)(s0 s1:Int)(u0 u1:Tok)(e:Nat)(n m:Nat)(as:List Addr)(x y:Tok→Value)(al:List DictEntry)(ha:Int)(ka:(Nat→Nat)→Tok):Con:=
 ⟨.compLoop (exprA kt 938 1) 0 (.ref it) (.ref acc) (compEnv (envK kt 938 frm [(sourceS,k1)]) (exprA kt 938 1) loc [(sourceS,k1)]),
  [(loc,dicObj al.toArray al.length),(it,ritObj m (n-m)),(acc,lstObj (as.map Value.ref).toArray m),(k1,cellObj (.ref src)),(src,lstObj #[.int s0 u0,.int s1 u1] e)],fun _=>.none,
  fun X=>[dicObj #[⟨ha,.str turnS (ka X),.int m (X 5)⟩] 1,ritObj (m+1) (n-m-1),lstObj (as.map Value.ref++[Value.ref (X 0)]).toArray (m+1),cellObj (.ref src),lstObj #[.int (dn0 (dn0 s0 8) 8) (X 3),.int (dn1 (dn0 s0 8) (dn1 s0 s1)) (X 4)] e],fun X=>[tupObj #[x (X 1),y (X 2)]],6,none,true,false⟩
noncomputable def FlvT(src:Addr)(s0 s1:Int)(e:Nat)(v:Tok→Value):Fam:=fun _ T sc=>cLv src s0 s1 (tkAt T (rd sc 0) 0) (tkAt T (rd sc 0) 1) e v
noncomputable def cRt(kt:KT)(P:Params)(loc it acc frm k1 src:Addr)(s0 s1:Int)(u0 u1:Tok)(e n:Nat)(as:List Addr)(o:Int×Tok×Tok)(x y:Tok→Value):Con:=match as with
 |[]=>cRw kt loc it acc frm k1 src s0 s1 u0 u1 e n 0 [] x y [] (hS P turnS) (fun X=>X 6)
 |a::l=>cRw kt loc it acc frm k1 src s0 s1 u0 u1 e n (l.length+1) (a::l) x y [⟨o.1,.str turnS o.2.1,.int l.length o.2.2⟩] o.1 (fun _=>o.2.1)
section
variable{w:World}{P:Params}{b1 b2:Bool}(hP:w.params=parT P b1 b2)(nt:Nat)
include hP
theorem rw_ok(n:Nat)(hn:n≤4)(as:List Addr)(hm:as.length<n)(o:Int×Tok×Tok)(loc it acc frm k1 src:Addr)(s0 s1:Int)(u0 u1:Tok)(e:Nat)(p q:Pv)(H1:∀t0 t1,CO w P b1 b2 nt (cLv src s0 s1 t0 t1 e p.val))(H2:∀t0 t1,CO w P b1 b2 nt (cLv src (dn0 s0 8) (dn1 s0 s1) t0 t1 e q.val)):CO w P b1 b2 nt (cRt (Kq P b1 b2) P loc it acc frm k1 src s0 s1 u0 u1 e n as o p.val q.val):=
 ko hP 6 [5] ([.itm 5 0,.itm 5 1,.itm 4 0,.itm 4 1,.ent 0 0]++@List.rec Addr (fun _=>List Wt) [.key 0 0] (fun _ _ _=>[]) as) 67 (k_dI 0x303030300030004010004000401000400) (cs:=[FlvT src s0 s1 e p.val,FlvT src (dn0 s0 8) (dn1 s0 s1) e q.val]) (fc (fun _ _ _=>H1 _ _) (fc (fun _ _ _=>H2 _ _) fn0)) (hn:=by refine nlE n as hn hm ?_ ?_ ?_ ?_ ?_ ?_ ?_ ?_ ?_ ?_<;>intros<;>rfl) (hsd:=by refine nlE n as hn hm ?_ ?_ ?_ ?_ ?_ ?_ ?_ ?_ ?_ ?_<;>intros<;>rfl) (h:=by
  refine nlE n as hn hm ?_ ?_ ?_ ?_ ?_ ?_ ?_ ?_ ?_ ?_<;>intros<;>refine pvE p ?_ ?_ ?_<;>intros<;>refine pvE q ?_ ?_ ?_<;>intros<;>kernel_rfl)
end
noncomputable def scriptS:Str:=⟨#[115,99,114,105,112,116]⟩
noncomputable def programS:Str:=⟨#[112,114,111,103,114,97,109]⟩
noncomputable def toldS:Str:=⟨#[116,111,108,100]⟩
noncomputable def lawC(kt:KT)(loc k1:Addr):Code:=funcK kt 938 (envK kt 938 loc [(sourceS,k1)])
structure Lw where
 loc:Addr
 k1:Addr
 t:Nat→Tok
 scr:Addr
 ro:Addr
 bk:Bool
 down:Bool
 lo:Option (Addr×Value)
 hi:Option (Addr×Value)
 sp:Addr
 co:Addr
 pr:Addr
 mv:Addr
 to:Addr
noncomputable def Lw.e1(F:Lw)(P:Params):List DictEntry:=[⟨hS P scriptS,.str scriptS (F.t 0),.ref F.scr⟩]
noncomputable def Lw.e2(F:Lw)(P:Params):List DictEntry:=F.e1 P++[⟨hS P rowsS,.str rowsS (F.t 1),.ref F.ro⟩]
noncomputable def Lw.e3(F:Lw)(P:Params):List DictEntry:=F.e2 P++[⟨hS P d_isbS,.str d_isbS (F.t 2),.bool F.bk⟩,⟨hS P downS,.str downS (F.t 3),.bool F.down⟩]
noncomputable def Lw.e4(F:Lw)(P:Params):List DictEntry:=F.e3 P++[⟨hS P d_lowS,.str d_lowS (F.t 4),optV F.lo⟩]
noncomputable def Lw.e5(F:Lw)(P:Params):List DictEntry:=F.e4 P++[⟨hS P d_highS,.str d_highS (F.t 5),optV F.hi⟩]
noncomputable def Lw.e6(F:Lw)(P:Params):List DictEntry:=F.e5 P++[⟨hS P d_spanS,.str d_spanS (F.t 6),.ref F.sp⟩]
noncomputable def Lw.e7(F:Lw)(P:Params):List DictEntry:=F.e6 P++[⟨hS P coreS,.str coreS (F.t 7),.ref F.co⟩,⟨hS P programS,.str programS (F.t 8),.ref F.pr⟩,⟨hS P movesS,.str movesS (F.t 9),.ref F.mv⟩]
noncomputable def Lw.e8(F:Lw)(P:Params):List DictEntry:=F.e7 P++[⟨hS P toldS,.str toldS (F.t 10),.ref F.to⟩]
noncomputable def cSt(kt:KT)(F:Lw)(g:Option (List GenState×List GenState))(es:List DictEntry)(es':(Nat→Nat)→List DictEntry)(val:(Nat→Nat)→Value)(pre:List (Addr×Obj))(post:(Nat→Nat)→List Obj)(new:(Nat→Nat)→List Obj):Con:=
 ⟨lawC kt F.loc F.k1,(F.loc,frmObj es.toArray es.length)::pre,val,fun X=>frmObj (es' X).toArray (es' X).length::post X,new,12,g,false,false⟩
noncomputable def cLe(P:Params)(scr:Addr):Con:=
 ⟨.call (.ref 938) ⟨[.ref scr],[]⟩,[],fun _=>.none,fun _=>[],fun X=>[frmObj #[⟨hS P scriptS,.str scriptS (X 2),.ref scr⟩] 1,cellE],12,none,false,false⟩
noncomputable def nx(k:Int)(s:Int×Int):Int×Int:=(dn0 s.1 k,dn1 s.1 s.2)
noncomputable def sR(s:Int×Int):Nat→Int×Int
 |0=>nx 5 s
 |m+1=>nx 8 (nx 8 (sR s m))
noncomputable def srcO(s:Int×Int)(u0 u1:Tok):Obj:=lstObj #[.int s.1 u0,.int s.2 u1] 0
noncomputable def rwO(X:Nat→Nat)(c:Nat):List (Pv×Pv)→Nat→List Obj
 |[],_=>[]
 |x::l,i=>tupObj #[x.1.val (X (c+2*i)),x.2.val (X (c+2*i+1))]::rwO X c l (i+1)
noncomputable def refsX(X:Nat→Nat)(c n:Nat):Array Value:=((List.range n).map fun i=>Value.ref (X (c+i))).toArray
noncomputable def l1q10:Nat:=(kq 14 0x100020100020001000201000200 (k_eq 0))
noncomputable def l1q11:Nat:=0x101020100020001000201000200
noncomputable def l1q12:Nat:=0x10101000201000200010100020100020001
noncomputable def l1q13:Nat:=(k_dC (kq 3 0x30003 (k_a (kq 8 0x400000404000000 (k_cm (kq 1 4 (k_cm (kq 1 4 (k_cm (kq 1 4 (k_cm (kq 1 4 (k_cm (kq 1 4 (k_cm (kq 1 4 (k_cm (kq 3 0x40000 (k_cm (k_bj (kq 6 0xa000a000000 (k_h (kq 8 0xb0b00000b0b0b0b (k_cG (kq 1 0xb (k_cG (kq 1 0xb (k_cG (kq 41 0x10001010101110f0f0e0f0f000f000f0f0f0e0f0f000f000f0f0f0e0f0f000f000f0f000e000e0e0e (k_eg (k_co (kq 1 0x14 (k_co (kq 1 0x14 (k_co 0x101)))))))))))))))))))))))))))))))))))
section
variable{w:World}{P:Params}{b1 b2:Bool}(hP:w.params=parT P b1 b2)(nt:Nat)
include hP
theorem le_ok(scr:Addr):AOk pw w (Kq P b1 b2) nt (cLe P scr) (fun X=>lawC (Kq P b1 b2) (X 0) (X 1)):=by
 exact ka hP 12 [0,1] (fun U=>[.key 0 0]) 30 0x30001010000 (cs:=[]) fn0
omit hP in
noncomputable def hRw(w:World)(P:Params)(b1 b2:Bool)(nt:Nat)(s:Int×Int)(i:Nat)(p q:Pv):Prop:=∀a,(∀t0 t1,CO w P b1 b2 nt (cLv a (sR s i).1 (sR s i).2 t0 t1 0 p.val))∧∀t0 t1,CO w P b1 b2 nt (cLv a (nx 8 (sR s i)).1 (nx 8 (sR s i)).2 t0 t1 0 q.val)
omit hP in
noncomputable def cL0(kt:KT)(P:Params)(F:Lw)(vs:Array Value)(e:Nat)(s:Int×Int)(l:List (Pv×Pv)):Con:=
 cSt kt F none (F.e1 P) (fun X=>F.e1 P++[⟨hS P rowsS,.str rowsS (X (l.length+2)),.ref (X 1)⟩]) (fun _=>.none) [(F.k1,cellE),(F.scr,lstObj vs e)] (fun X=>[cellObj (.ref (X 0)),lstObj vs e]) (fun X=>srcO (sR s l.length) (X (l.length+3)) (X (l.length+4))::lstObj (refsX X 2 l.length) l.length::rwO X (l.length+5) l 0)
omit hP in
noncomputable def rwF(kt:KT)(P:Params)(F:Lw)(s:Int×Int)(n:Nat):List (Pv×Pv)→Nat→List Fam
 |[],_=>[]
 |p::l,i=>(fun _ T sc=>cRt kt P (adrAt T (rd sc 0)) (adrAt T (rd sc 1)) (adrAt T (rd sc 2)) F.loc F.k1 (adrAt T (rd sc 4)) (sR s i).1 (sR s i).2 (tkAt T (rd sc 4) 0) (tkAt T (rd sc 4) 1) 0 n ((List.range i).map fun j=>adW (itAt T (rd sc 2) j)) (hsAt T (rd sc 0) 0,kyAt T (rd sc 0) 0,vlAt T (rd sc 0) 0) p.1.val p.2.val)::rwF kt P F s n l (i+1)
theorem rwF_ok(F:Lw)(s:Int×Int)(n:Nat)(hn:n≤4):∀(l:List (Pv×Pv))(i:Nat),i+l.length=n→(∀(j:Nat)(p:Pv×Pv),l[j]?=some p→hRw w P b1 b2 nt s (i+j) p.1 p.2)→AllOk pw w (Kq P b1 b2) nt (rwF (Kq P b1 b2) P F s n l i)
 |[],_,_,_=>.nil
 |p::l,i,e,H=>.cons (fun c T sc=>rw_ok hP nt n hn _ (by rw[List.length_map,List.length_range,←e,List.length_cons];omega) _ _ _ _ _ _ _ _ _ _ _ _ p.1 p.2 (H 0 p rfl _).1 (H 0 p rfl _).2) (rwF_ok F s n hn l (i+1) (by rw[←e,List.length_cons];omega) fun j q h=>by rw[Nat.add_right_comm];exact H (j+1) q h)
omit hP in
noncomputable def sc0(b:Bool):List Nat:=@Bool.rec (fun _=>List Nat) [(k_cb 0x801010a0606060006000600060006000606),(k_ds (k_eR 0)),(k_ds (kq 2 0x205 (k_cM 0x8080801010c))),(k_ds (kq 7 0x3010605070305 (k_cM 0x8080801010d))),(k_ds (k_eS 0))] [(kq 14 0x301000200000002020201000100 (k_a (k_ex 0x801010a))),(k_cb (k_eR 0)),(k_cb (kq 2 0x205 (k_cM 0x8080801010c))),(k_cb (kq 7 0x3010605070305 (k_cM 0x8080801010d))),(k_cb (k_eS 0))] b
omit hP in
noncomputable def ws0(U:Nat→Sup)(a:Nat):Nat→List Wt
 |0=>[]
 |n+1=>nms (U a) 1 2++ws0 U (a+1) n
theorem l0_all(F:Lw)(vs:Array Value)(e:Nat)(s:Int×Int)(Hp:∀t,CO w P b1 b2 nt (cPo F.scr vs e s.1 s.2 t))(l:List (Pv×Pv))(k:Nat)(ek:l.length=k)(h4:k≤4)(hn:drw s.1 s.2 5=(k:Nat))(H:∀(i:Nat)(p:Pv×Pv),l[i]?=some p→hRw w P b1 b2 nt s i p.1 p.2):
  TO w P b1 b2 nt (slT (lawC (Kq P b1 b2) F.loc F.k1) 0 2) (cL0 (Kq P b1 b2) P F vs e s l):=
 kb hP 12 (3::6::List.range' 8 k) (fun U=>[.key 0 1,.itm 3 0,.itm 3 1]++ws0 U 2 k) 130 (nthD 0 (sc0 b2) k) (cs:=(fun c _ _=>cPo F.scr vs e s.1 s.2 (cTok c 1))::(fun c T sc=>cTk (adrAt T (rd sc 0)) s.1 s.2 (tkAt T (rd sc 0) 0) (tkAt T (rd sc 0) 1) 0 5 (k:Nat) (cTok c 1))::rwF (Kq P b1 b2) P F s k l 0) (fc (fun _ _ _=>Hp _) (fc (fun c T sc=>take_ok hP nt _ s.1 s.2 _ _ 0 5 (k:Nat) _ (.inr (.inr (.inl rfl))) hn) (rwF_ok hP nt F s k h4 l 0 (by rw[ek,Nat.zero_add]) fun j p h=>by rw[Nat.zero_add];exact H j p h))) (h:=by
  refine l4K k l ek h4 ?_ ?_ ?_ ?_ ?_<;>intros<;>refine bE b2 ?_ ?_<;>intros<;>kernel_rfl)
section
variable(F:Lw)(src:Addr)(s:Int×Int)(u0 u1:Tok)
include F src s u0 u1
theorem l2_ok(d1 d2:Int)(h1:drw s.1 s.2 2=d1)(h2:drw (nx 2 s).1 (nx 2 s).2 2=d2)(hd:(d1==1)=F.down)(hb:(d2==1)=F.bk):TO w P b1 b2 nt (slT (lawC (Kq P b1 b2) F.loc F.k1) 2 1) (cSt (Kq P b1 b2) F none (F.e2 P) (fun X=>F.e2 P++[⟨hS P d_isbS,.str d_isbS (X 0),.bool F.bk⟩,⟨hS P downS,.str downS (X 1),.bool F.down⟩]) (fun _=>.none) [(F.k1,cellObj (.ref src)),(src,srcO s u0 u1)] (fun X=>[cellObj (.ref src),srcO (nx 2 (nx 2 s)) (X 2) (X 3)]) (fun _=>[])):=by
 exact kb hP 12 [] (fun U=>[.key 0 2,.key 0 3,.itm 2 0,.itm 2 1]) 110 l1q10 (cs:=[(fun c T sc=>cTk src (s).1 (s).2 (tkAt T (rd sc 0) 0) (tkAt T (rd sc 0) 1) 0 2 d1 (cTok c 1)),icmp "int.__eq__" d1 1 F.down,(fun c T sc=>cTk src (nx 2 s).1 (nx 2 s).2 (tkAt T (rd sc 0) 0) (tkAt T (rd sc 0) 1) 0 2 d2 (cTok c 1)),icmp "int.__eq__" d2 1 F.bk]) (fc (fun c T sc=>take_ok hP nt src (s).1 (s).2 _ _ 0 2 d1 _ (.inl rfl) h1) (fc (ieq_ok hd) (fc (fun c T sc=>take_ok hP nt src (nx 2 s).1 (nx 2 s).2 _ _ 0 2 d2 _ (.inl rfl) h2) (fc (ieq_ok hb) fn0))))
omit hP in
noncomputable def Lw.eL(F:Lw)(P:Params)(hi:Bool):List DictEntry:=@Bool.rec (fun _=>List DictEntry) (F.e3 P) (F.e4 P) hi
omit hP in
noncomputable def nmL(hi:Bool):Str:=@Bool.rec (fun _=>Str) d_lowS d_highS hi
theorem l3_n(hi:Bool)(h1:drw s.1 s.2 3=0):TO w P b1 b2 nt (slT (lawC (Kq P b1 b2) F.loc F.k1) (3+hi.toNat) 1) (cSt (Kq P b1 b2) F none (F.eL P hi) (fun X=>F.eL P hi++[⟨hS P (nmL hi),.str (nmL hi) (X 0),.none⟩]) (fun _=>.none) [(F.k1,cellObj (.ref src)),(src,srcO s u0 u1)] (fun X=>[cellObj (.ref src),srcO (nx 3 s) (X 1) (X 2)]) (fun _=>[])):=
 kb hP 12 [] (fun U=>[.key 0 (4+hi.toNat),.itm 2 0,.itm 2 1]) 43 0x10101000201000200 (cs:=[(fun c T sc=>cTk src s.1 s.2 (tkAt T (rd sc 0) 0) (tkAt T (rd sc 0) 1) 0 3 (0:Int) (cTok c 1)),icmp "int.__eq__" 0 0 true]) (fc (fun c T sc=>take_ok hP nt src s.1 s.2 _ _ 0 3 (0:Int) _ (.inr (.inl rfl)) h1) (fc (ieq_ok rfl) fn0)) (h:=by
  refine bE hi ?_ ?_<;>intros<;>kernel_rfl)
theorem l3_s(hi:Bool)(d:Int)(h1:drw s.1 s.2 3=d)(hd:(d==0)=false)(p:Pv)(Hv:∀t0 t1,CO w P b1 b2 nt (cLv src (nx 3 s).1 (nx 3 s).2 t0 t1 0 p.val)):TO w P b1 b2 nt (slT (lawC (Kq P b1 b2) F.loc F.k1) (3+hi.toNat) 1) (cSt (Kq P b1 b2) F none (F.eL P hi) (fun X=>F.eL P hi++[⟨hS P (nmL hi),.str (nmL hi) (X 1),.ref (X 0)⟩]) (fun _=>.none) [(F.k1,cellObj (.ref src)),(src,srcO s u0 u1)] (fun X=>[cellObj (.ref src),srcO (nx 8 (nx 3 s)) (X 2) (X 3)]) (fun X=>[tupObj #[p.val (X 4)]])):=
 kb hP 12 [3] (fun U=>[.key 0 (4+hi.toNat),.itm 2 0,.itm 2 1]++nms (U 2) 0 1) 53 l1q11 (cs:=[(fun c T sc=>cTk src s.1 s.2 (tkAt T (rd sc 0) 0) (tkAt T (rd sc 0) 1) 0 3 d (cTok c 1)),icmp "int.__eq__" d 0 false,(fun c T sc=>cLv src (nx 3 s).1 (nx 3 s).2 (tkAt T (rd sc 0) 0) (tkAt T (rd sc 0) 1) 0 p.val)]) (fc (fun c T sc=>take_ok hP nt src s.1 s.2 _ _ 0 3 d _ (.inr (.inl rfl)) h1) (fc (ieq_ok hd) (fc (fun _ _ _=>Hv _ _) fn0))) (h:=by
  refine bE hi ?_ ?_<;>refine pvE p ?_ ?_ ?_<;>intros<;>kernel_rfl)
end
omit hP in
noncomputable def cL5(kt:KT)(P:Params)(F:Lw)(src:Addr)(s:Int×Int)(u0 u1:Tok)(lo hi:Option (Addr×Value))(hl hh:Bool):Con:=
 cSt kt F none (({F with lo:=lo,hi:=hi}:Lw).e5 P) (fun X=>({F with lo:=lo,hi:=hi}:Lw).e5 P++[⟨hS P d_spanS,.str d_spanS (X 1),.ref (X 0)⟩]) (fun _=>.none) [(F.k1,cellObj (.ref src)),(src,srcO s u0 u1)] (fun X=>[cellObj (.ref src),srcO (nx 2 (nx 2 s)) (X 2) (X 3)]) (fun X=>[tupObj #[optV lo,.bool hl,optV hi,.bool hh]])
theorem l5_ok(F:Lw)(src:Addr)(s:Int×Int)(u0 u1:Tok)(lo hi:Option (Addr×Value))(d1 d2:Int)(h1:drw s.1 s.2 2=d1)(h2:drw (nx 2 s).1 (nx 2 s).2 2=d2)(hl hh:Bool)(hd:(d1==1)=hl)(hb:(d2==1)=hh):TO w P b1 b2 nt (slT (lawC (Kq P b1 b2) F.loc F.k1) 5 1) (cL5 (Kq P b1 b2) P F src s u0 u1 lo hi hl hh):=by
 cases lo<;>cases hi<;>exact kb hP 12 [3] (fun U=>[.key 0 6,.itm 2 0,.itm 2 1]) 63 l1q12 (cs:=[(fun c T sc=>cTk src (s).1 (s).2 (tkAt T (rd sc 0) 0) (tkAt T (rd sc 0) 1) 0 2 d1 (cTok c 1)),icmp "int.__eq__" d1 1 hl,(fun c T sc=>cTk src (nx 2 s).1 (nx 2 s).2 (tkAt T (rd sc 0) 0) (tkAt T (rd sc 0) 1) 0 2 d2 (cTok c 1)),icmp "int.__eq__" d2 1 hh]) (fc (fun c T sc=>take_ok hP nt src (s).1 (s).2 _ _ 0 2 d1 _ (.inl rfl) h1) (fc (ieq_ok hd) (fc (fun c T sc=>take_ok hP nt src (nx 2 s).1 (nx 2 s).2 _ _ 0 2 d2 _ (.inl rfl) h2) (fc (ieq_ok hb) fn0))))
omit hP in
noncomputable def zMk(P:Params)(X:Nat→Nat):Pr:=⟨X 0,X 1,X 2,X 3,X 4,hS P opsS,hS P colsS,hS P regsS,hS P cursS,hS P slotsS,hS P writesS,hS P labelsS,hS P nextLS,X 14,X 15,X 16,X 17,X 18,X 19,X 20,X 21,X 22,X 23⟩
omit hP in
noncomputable def cMk(P:Params)(X:Nat→Nat):Co:=⟨X 5,X 6,X 8,X 7,X 9,hS P boundS,hS P regsS,hS P onceS,X 26,X 27,X 28⟩
omit hP in
noncomputable def mMk(P:Params)(X:Nat→Nat):Mv:=⟨X 10,X 11,X 12,X 13,X 5,hS P coreS,hS P cursS,hS P nullsS,X 29,X 30,X 31⟩
omit hP in
noncomputable def mkO(P:Params)(X:Nat→Nat):List (Addr×Obj):=
 let Z:=zMk P X;let C:=cMk P X;let M:=mMk P X
 (Z.hd 1 (X 24) (-1) (X 25) #[] 0).take 2++[(Z.op,lstObj #[] 0),(Z.col,lstObj #[] 0),(Z.lab,dicObj #[] 0)]++(C.objs (dicObj #[] 0)).take 2++[(C.bo,tupObj #[]),(C.r,dicObj #[] 0),(C.on,dicObj #[] 0)]++M.hd++[(M.cu,dicObj #[] 0),(M.nu,dicObj #[] 0)]
theorem l6_ok(F:Lw):TO w P b1 b2 nt (slT (lawC (Kq P b1 b2) F.loc F.k1) 6 2) (cSt (Kq P b1 b2) F none (F.e6 P) (fun X=>F.e6 P++[⟨hS P coreS,.str coreS (X 32),.ref (X 5)⟩,⟨hS P programS,.str programS (X 33),.ref (X 0)⟩,⟨hS P movesS,.str movesS (X 34),.ref (X 10)⟩]) (fun _=>.none) [] (fun _=>[]) (fun X=>(mkO P X).map (·.2))):=by
 exact kb hP 12 [2,1,4,5,6,9,8,7,11,12,18,17,20,21] (fun U=>[.key 1 0,.key 1 1,.key 1 2,.key 1 3,.key 1 4,.key 1 5,.key 1 6,.key 1 7,.ent 1 3,.ent 1 4,.ent 1 2,.ent 1 7,.key 8 0,.key 8 1,.key 8 2,.key 17 0,.key 17 1,.key 17 2,.key 0 7,.key 0 8,.key 0 9]) 695 l1q13 (cs:=[]) fn0
end
noncomputable def cOf(kt:KT)(P:Params)(F:Lw)(C:Con):Con:=cSt kt F none (F.e7 P) (fun _=>F.e7 P) (fun _=>.none) C.pre C.post C.new
noncomputable def rnRd(w:World)(T:LT)(sc:Nat)(op ca ma:Addr):Rn:=⟨adrAt T (rd sc 0),adrAt T (rd sc 1),adrAt T (rd sc 2),adrAt T (rd sc 3),op,adrAt T (rd sc 5),tkAt T (rd sc 0) 1,tkAt T (rd sc 0) 2,hsAt T (rd sc 1) 0,kyAt T (rd sc 1) 0,hsAt T (rd sc 3) 0,hsAt T (rd sc 3) 1,hsAt T (rd sc 3) 2,kyAt T (rd sc 3) 0,kyAt T (rd sc 3) 1,kyAt T (rd sc 3) 2,epOf (objAt T (rd sc 4)),(rtEs w ca ma rtNames).toArray,38⟩
noncomputable def hlRd(T:LT)(sc n:Nat):Op:=⟨adrAt T (rd sc (6+n)),tkAt T (rd sc (6+n)) 0,1423,1424,1425⟩
noncomputable def labO(tt tv dt dv:Tok)(n top:Nat):Obj:=dicObj #[⟨-2,.int (-2) tt,.int top tv⟩,⟨-2,.int (-1) dt,.int n dv⟩] 2
noncomputable def cTd(kt:KT)(P:Params)(F:Lw)(S:Rp)(Z:Pr)(tr tn tt tv dt dv:Tok)(Q:Oq)(W:Wo)(tB tK:Tok)(l:List Rr)(base ne:List DictEntry)(plB plK:Int):Con:=
 cSt kt F (some ([],[.finished])) (F.e7 P) (fun X=>F.e7 P++[⟨hS P toldS,.str toldS (X (3*l.length+8)),.ref (X 0)⟩]) (fun _=>.none)
  (Z.hd 6 tr (-3) tn ((S.ops Q (-1) (-2)).map fun p=>Value.ref p.1).toArray S.n++(Z.lab,labO tt tv dt dv S.n S.top)::(S.ops Q (-1) (-2)++W.sta #[] 0 #[] 0 (-1) tB (-1) tK))
  (fun X=>(Z.hd 6 tr (-3) tn ((S.ops Q (-1) (-2)).map (fun p=>Value.ref p.1)++[Value.ref (X (3*l.length+7))]).toArray (S.n+1)++(Z.lab,labO tt tv dt dv S.n S.top)::(S.ops (Q.fin tv dv) S.n S.top++W.sta (reX base l (Q.fin tv dv).O X).toArray (reX base l (Q.fin tv dv).O X).length ne.toArray ne.length plB (X (3*l.length+6)) plK (X (3*l.length+5)))).map (·.2))
  (fun X=>lstObj ((List.range l.length).map fun i=>Value.ref (X (i+1))).toArray (l.length+2)::rowT X l.length l 0)
noncomputable def encV(a b:Value):Sem PySem.Fin:=match a,b with
 |.ref x,.ref y=>.pure (.done (.ret (.int (Int.ofNat x) y)))
 |_,_=>.pure (.done .next)
noncomputable def cmpR(l r:PySem.Expr)(p pos:Pos)(env:Env):Sem PySem.Fin:=
 W.R.bindR (standAt pos) fun _=>W.R.bindR (PySem.W.Fast.tw14044960220447912780 l env) fun lv=>W.R.bindR (PySem.W.Fast.tw17359229931016689406 [lv] (PySem.W.Fast.tw14044960220447912780 r env)) fun rv=>W.R.bindR (standAt p) fun _=>encV lv rv
noncomputable def rtL(s:Stmt):PySem.Expr:=match s with
 |.Return (some (.Compare l _ _ _)) _=>l
 |_=>.Name ⟨#[]⟩ default
noncomputable def rtR(s:Stmt):PySem.Expr:=match s with
 |.Return (some (.Compare _ _ (r::_) _)) _=>r
 |_=>.Name ⟨#[]⟩ default
noncomputable def rtP(s:Stmt):Pos:=match s with
 |.Return (some (.Compare _ _ _ p)) _=>p
 |_=>default
noncomputable def rtQ(s:Stmt):Pos:=match s with
 |.Return _ p=>p
 |_=>default
noncomputable def cmpT(c:Code)(i:Nat):Sem PySem.Fin:=cmpR (rtL (stC c i)) (rtR (stC c i)) (rtP (stC c i)) (rtQ (stC c i)) (cEnv c)
noncomputable def cDup(ro sp:Addr)(down ib:Bool)(vs:Array Value)(en:Nat)(so:Obj)(qs:List (Addr×Obj))(fk:List (Nat×Value×Value)):Con:=
 ⟨.call (.ref 933) ⟨[.ref ro,.bool down,.ref sp,.bool ib],[]⟩,(ro,lstObj vs en)::(sp,so)::qs,fun X=>.ref (X 0),fun _=>lstObj vs en::so::qs.map (·.2),fun X=>foLst X ib fk.length::foObjs X fk.length fk 0,5,none,false,false⟩
noncomputable def cCm(kt:KT)(P:Params)(F:Lw)(vs:Array Value)(en:Nat)(so:Obj)(qs:List (Addr×Obj))(fk:List (Nat×Value×Value)):Con:=
 cSt kt F none (F.e8 P) (fun _=>F.e8 P) (fun X=>.int (Int.ofNat F.to) (X 0)) (cDup F.ro F.sp F.down F.bk vs en so qs fk).pre (cDup F.ro F.sp F.down F.bk vs en so qs fk).post (cDup F.ro F.sp F.down F.bk vs en so qs fk).new
@[elab_as_elim] theorem bdE'{p:Option Bd→Bool→Prop}(o:Option Bd)(x:Bool)(hx:o.isSome=x)(h0:p none false)(h1:∀a,p (some a) true):p o x:=by
 subst hx
 rcases o with _|a
 ·exact h0
 ·exact h1 a
@[elab_as_elim] theorem rpE{p:Rp→Bool→Bool→Prop}(S:Rp)(x y:Bool)(hx:S.bg.isSome=x)(hy:S.ed.isSome=y)(h0:∀a b c,p ⟨none,none,a,b,c⟩ false false)(h1:∀v a b c,p ⟨some v,none,a,b,c⟩ true false)(h2:∀u a b c,p ⟨none,some u,a,b,c⟩ false true)(h3:∀v u a b c,p ⟨some v,some u,a,b,c⟩ true true):p S x y:=by
 subst hx
 subst hy
 rcases S with⟨_|v,_|u,a,b,c⟩
 ·exact h0 a b c
 ·exact h2 u a b c
 ·exact h1 v a b c
 ·exact h3 v u a b c
theorem six_ex{α:Type}:∀{l:List α},l.length=6→∃a b c d e f,l=[a,b,c,d,e,f]
 |[a,b,c,d,e,f],_=>⟨a,b,c,d,e,f,rfl⟩
noncomputable def sc8:List Nat:=[0x4030201010001010100,0x504030201010001010100,0x60504030201010001010100,0x7060504030201010001010100,0x807060504030201010001010100]
noncomputable def sc10:List Nat:=[(k_d0 (k_du (kq 3 0x250025 (k_a (kq 17 0x25000000250000002511100d0c22232401 (k_a (kq 2 0x2425 (k_a (kq 10 0x25032324262701002727 (k_bK (kq 4 0xe0d0c21 (k_E 0x101201f1e)))))))))))),(k_d0 (kq 1 0xc (k_du (kq 3 0x260026 (k_a (kq 17 0x26000000260000002612110e0d23242501 (k_a (kq 2 0x2526 (k_a (kq 10 0x26032425272801002828 (k_bK (kq 4 0xe0d220c (k_E 0x10121201f1e))))))))))))),(k_d0 (kq 2 0xd0c (k_du (kq 3 0x270027 (k_a (kq 17 0x27000000270000002713120f0e24252601 (k_a (kq 2 0x2627 (k_a (kq 10 0x27032526282901002929 (k_bK (kq 4 0xe230d0c (k_E 0x1012221201f1e))))))))))))),(k_dt (kq 13 0xe0d0c0b0a0908070605040302 (k_du (kq 3 0x280028 (k_a (kq 17 0x2800000028000000281413100f25262701 (k_a (kq 2 0x2728 (k_a (kq 10 0x28032627292a01002a2a (k_bK (kq 4 0x240e0d0c (k_E 0x101232221201f1e)))))))))))))]
section
variable{w:World}{P:Params}{b1 b2:Bool}(hP:w.params=parT P b1 b2)(nt:Nat)
include hP
theorem l8_all(F:Lw)(M:Mv)(en:Nat)(rs:List Rv)(os:List (Array UInt8))(k:Nat)(ek:rs.length=k)(h4:k≤4)(ho:os.length=rs.length)(H:CO w P b1 b2 nt (cFi P M F.down F.ro en rs os)):
  TO w P b1 b2 nt (slT (lawC (Kq P b1 b2) F.loc F.k1) 8 1) (cOf (Kq P b1 b2) P {F with mv:=M.a} (cFi P M F.down F.ro en rs os)):=
 kb hP 12 (List.range' (5+k) (10+k)) (fun U=>nms (U 0) (10+k) (15+3*k)) 34 (nthD 0 sc8 k) (cs:=[fun _ _ _=>cFi P M F.down F.ro en rs os]) (fc (fun _ _ _=>H) fn0) (h:=by
  subst ek
  refine l44E rs os h4 ho ?_ ?_ ?_ ?_ ?_<;>intros<;>kernel_rfl)
theorem l9_all(F:Lw)(Z:Pr)(tr tn:Tok)(lo hi:Option Bd)(hl hh bk x y:Bool)(hx:lo.isSome=x)(hy:hi.isSome=y)(H:CO w P b1 b2 nt (cRg Z tr tn F.sp bk ((F.sp,spO hl hh lo hi)::(optO (lo.map Bd.v)++optO (hi.map Bd.v))) (shOf lo hi hl hh bk).n (shOf lo hi hl hh bk).top (fun X=>(shOf lo hi hl hh bk).ops ((shOf lo hi hl hh bk).q X) (-1) (-2)))):
  TO w P b1 b2 nt (slT (lawC (Kq P b1 b2) F.loc F.k1) 9 1) (cOf (Kq P b1 b2) P {F with pr:=Z.a,bk:=bk} (cRg Z tr tn F.sp bk ((F.sp,spO hl hh lo hi)::(optO (lo.map Bd.v)++optO (hi.map Bd.v))) (shOf lo hi hl hh bk).n (shOf lo hi hl hh bk).top (fun X=>(shOf lo hi hl hh bk).ops ((shOf lo hi hl hh bk).q X) (-1) (-2)))):=
 kb hP 12 (List.range' (5+topOf x y) (nOf (bkB bk x y) (bkB bk y x))) (fun U=>nms (U 0) (nOf (bkB bk x y) (bkB bk y x)) (4*nOf (bkB bk x y) (bkB bk y x)+7)) 34 (nthD 0 sc8 (topOf x y)) (cs:=[fun _ _ _=>cRg Z tr tn F.sp bk ((F.sp,spO hl hh lo hi)::(optO (lo.map Bd.v)++optO (hi.map Bd.v))) (shOf lo hi hl hh bk).n (shOf lo hi hl hh bk).top (fun X=>(shOf lo hi hl hh bk).ops ((shOf lo hi hl hh bk).q X) (-1) (-2))]) (fc (fun _ _ _=>H) fn0) (h:=by
  refine bE bk ?_ ?_<;>refine bdE' lo x hx ?_ ?_<;>intros<;>refine bdE' hi y hy ?_ ?_<;>intros<;>kernel_rfl)
theorem l10_all(F:Lw)(S:Rp)(Z:Pr)(tr tn tt tv dt dv:Tok)(Q:Oq)(W:Wo)(tB tK:Tok)(l:List Rr)(k:Nat)(ek:l.length=k)(h4:k≤4)(x y:Bool)(hx:S.bg.isSome=x)(hy:S.ed.isSome=y)(base ne:List DictEntry)(plB plK:Int)(Hf:CO w P b1 b2 nt (cFinish Z tr tn tt tv dt dv S.n S.top (S.ops Q (-1) (-2)) (S.ops (Q.fin tv dv) S.n S.top)))
  (H:∀(R:Rn)(h:Op),R.op=Z.op→R.es=(rtEs w W.C.a W.M.a rtNames).toArray→R.ep=38→CO w P b1 b2 nt (cLg (Kq P b1 b2) P W R (S.opH (Q.fin tv dv) h) h.ad S.n tB tK l (reX base l (Q.fin tv dv).O) ne plB plK)):
  TO w P b1 b2 nt (slT (lawC (Kq P b1 b2) F.loc F.k1) 10 1) (cTd (Kq P b1 b2) P {F with pr:=Z.a,co:=W.C.a,mv:=W.M.a} S Z tr tn tt tv dt dv Q W tB tK l base ne plB plK):=
 kb hP 12 (List.range' (33+nOf x y) (k+1)) (fun U=>nms (U 2) (k+1) (6+2*k)++[.adr (26+nOf x y),.key 0 10]) 167 (nthD 0 sc10 (ixOf x y)) (cs:=[(fun _ _ _=>cFinish Z tr tn tt tv dt dv S.n S.top (S.ops Q (-1) (-2)) (S.ops (Q.fin tv dv) S.n S.top)),(fun _ T sc=>cRi w P (adrAt T (rd sc 0)) (adrAt T (rd sc 1)) Z.op 0 (adrAt T (rd sc 2)) W.m W.C (epOf (objAt T (rd sc 2)))),(fun _ T sc=>cLg (Kq P b1 b2) P W (rnRd w T sc Z.op W.C.a W.M.a) (S.opH (Q.fin tv dv) (hlRd T sc (nOf x y))) (hlRd T sc (nOf x y)).ad S.n tB tK l (reX base l (Q.fin tv dv).O) ne plB plK)]) (fc (fun _ _ _=>Hf) (fc (fun _ _ _=>rin_ok hP nt _ _ _ _ _ _ _ _) (fc (fun _ T sc=>H _ _ rfl rfl rfl) fn0))) (h:=by
  refine rpE S x y hx hy ?_ ?_ ?_ ?_<;>intros<;>refine l4K k l ek h4 ?_ ?_ ?_ ?_ ?_<;>intros<;>kernel_rfl)
theorem l11_all(F:Lw)(vs:Array Value)(en:Nat)(so:Obj)(qs:List (Addr×Obj))(h6:qs.length=6)(fk:List (Nat×Value×Value))(k:Nat)(ek:fk.length=k)(h4:k≤4)(H:CO w P b1 b2 nt (cDup F.ro F.sp F.down F.bk vs en so qs fk)):TO w P b1 b2 nt (cmpT (lawC (Kq P b1 b2) F.loc F.k1) 11) (cCm (Kq P b1 b2) P F vs en so qs fk):=by
 obtain⟨a,b,c,d,e,f,rfl⟩:=six_ex h6
 exact kb hP 12 (List.range' 9 (k+1)) (fun U=>nms (U 0) (k+1) k) 39 0x8070605040302010100010101010001 (cs:=[fun _ _ _=>cDup F.ro F.sp F.down F.bk vs en so [a,b,c,d,e,f] fk]) (fc (fun _ _ _=>H) fn0) (h:=by
  refine l4K k fk ek h4 ?_ ?_ ?_ ?_ ?_<;>intros<;>kernel_rfl)
end
noncomputable def allB:Nat→List (List Bool)
 |0=>[[]]
 |n+1=>(allB n).flatMap fun l=>[false::l,true::l]
theorem allB_mem:∀l:List Bool,l∈allB l.length
 |[]=>List.mem_cons_self
 |b::l=>by
  show b::l∈(allB l.length).flatMap _
  refine List.mem_flatMap.mpr ⟨l,allB_mem l,?_⟩
  cases b<;>simp
noncomputable def ltL(l:List Bool)(i j:Nat):Bool:=if i<j then !(l.getD (j*(j-1)/2+i) false)else if j<i then l.getD (i*(i-1)/2+j) false else false
noncomputable def trB(n:Nat)(lt:Nat→Nat→Bool):Bool:=(List.range n).all fun i=>(List.range n).all fun j=>(List.range n).all fun k=> !(lt i j&&lt j k)||lt i k
noncomputable def piB(n:Nat)(lt:Nat→Nat→Bool):List Nat:=(List.range n).map fun i=>((List.range n).filter fun j=>lt j i).length
theorem ord_all:((allB 6).all fun l=>(List.range 5).all fun n=> !(trB n (ltL l))||((perms n).contains (piB n (ltL l))&&(List.range n).all fun i=>(List.range n).all fun j=>ltL l i j==rkLt (piB n (ltL l)) i j))=true:=by decide+kernel
theorem plt_trans{a b c:Int×Int}(h:plt a b=true)(h':plt b c=true):plt a c=true:=by
 unfold plt at*
 by_cases e1:a.1=b.1<;>by_cases e2:b.1=c.1<;>by_cases e3:a.1=c.1<;>simp only[e1,e2,e3,if_true,if_false,decide_eq_true_eq,if_pos,if_neg,not_false_eq_true]at* <;>first|omega|(simp_all;omega)|simp_all
structure Ord(n:Nat)(r:Nat→Int)(π:List Nat):Prop where
 mem:π∈perms n
 lt:∀i j,i<n→j<n→plt (r i,((i+1:Nat):Int)) (r j,((j+1:Nat):Int))=rkLt π i j
theorem ord_ex{n:Nat}(hn:n≤4)(r:Nat→Int):∃π,Ord n r π:=by
 let l:List Bool:=[decide (r 1<r 0),decide (r 2<r 0),decide (r 2<r 1),decide (r 3<r 0),decide (r 3<r 1),decide (r 3<r 2)]
 have hl:∀i j,i<4→j<4→plt (r i,((i+1:Nat):Int)) (r j,((j+1:Nat):Int))=ltL l i j:=by
  intro i j hi hj
  have hi:i=0∨i=1∨i=2∨i=3:=by omega
  have hj:j=0∨j=1∨j=2∨j=3:=by omega
  rcases hi with rfl|rfl|rfl|rfl<;>rcases hj with rfl|rfl|rfl|rfl<;>simp only[plt,ltL,l,List.getD_cons_zero,List.getD_cons_succ,Nat.reduceLT,Nat.reduceMul,Nat.reduceSub,Nat.reduceDiv,Nat.reduceAdd,if_true,if_false]<;>
   first
   |(simp;done)
   |(split<;>rename_i e<;>first|(rw[e];simp;done)|(rw[←decide_not];apply decide_eq_decide.mpr;omega)|(apply decide_eq_decide.mpr;omega)|(simp;omega))
 have h:=List.all_eq_true.mp (List.all_eq_true.mp ord_all l (allB_mem l)) n (List.mem_range.mpr (by omega))
 have ht:trB n (ltL l)=true:=by
  refine List.all_eq_true.mpr fun i hi=>List.all_eq_true.mpr fun j hj=>List.all_eq_true.mpr fun k hk=> ?_
  have hi:=List.mem_range.mp hi
  have hj:=List.mem_range.mp hj
  have hk:=List.mem_range.mp hk
  rw[←hl i j (by omega) (by omega),←hl j k (by omega) (by omega),←hl i k (by omega) (by omega)]
  cases e1:plt (r i,((i+1:Nat):Int)) (r j,((j+1:Nat):Int))with
  |false=>rfl
  |true=>
   cases e2:plt (r j,((j+1:Nat):Int)) (r k,((k+1:Nat):Int))with
   |false=>rfl
   |true=>rw[plt_trans e1 e2];rfl
 rw[ht]at h
 simp only[Bool.not_true,Bool.false_or,Bool.and_eq_true]at h
 refine⟨piB n (ltL l),List.contains_iff_mem.mp h.1,fun i j hi hj=> ?_⟩
 rw[hl i j (by omega) (by omega)]
 exact beq_iff_eq.mp (List.all_eq_true.mp (List.all_eq_true.mp h.2 i (List.mem_range.mpr hi)) j (List.mem_range.mpr hj))
noncomputable def kk(π:List Nat)(m:Nat):Nat:=((List.range m).filter fun j=>rkLt π j m).length
noncomputable def ixs(π:List Nat):Nat→List Nat
 |0=>[]
 |m+1=>insAt (ixs π m) (kk π m) m
theorem ix_all:((List.range 5).all fun n=>(perms n).all fun π=>((ixs π n).map fun i=>π.getD i 0)==List.range n&&(ixs π n).all (fun i=>decide (i<n))&&(List.range n).all fun m=>decide (kk π m≤m)&&(ixs π m).length==m&&(ixs π m).all (fun i=>decide (i<m))&&(List.range m).all fun p=>rkLt π ((ixs π m).getD p 0) m==decide (p<kk π m))=true:=by decide+kernel
section
variable{n:Nat}(hn:n≤4){r:Nat→Int}{π:List Nat}(O:Ord n r π)
include hn O
theorem Ord.all:((ixs π n).map fun i=>π.getD i 0)=List.range n∧(∀i∈ixs π n,i<n)∧∀m,m<n→kk π m≤m∧(ixs π m).length=m∧(∀i∈ixs π m,i<m)∧∀p,p<m→rkLt π ((ixs π m).getD p 0) m=decide (p<kk π m):=by
 have h:=List.all_eq_true.mp (List.all_eq_true.mp ix_all n (List.mem_range.mpr (by omega))) π O.mem
 simp only[Bool.and_eq_true,beq_iff_eq,List.all_eq_true,decide_eq_true_eq,List.mem_range]at h
 exact⟨h.1.1,h.1.2,fun m hm=>⟨(h.2 m hm).1.1.1,(h.2 m hm).1.1.2,(h.2 m hm).1.2,(h.2 m hm).2⟩⟩
theorem Ord.len:(ixs π n).length=n:=by
 have:=congrArg List.length (O.all hn).1
 rwa [List.length_map,List.length_range]at this
theorem Ord.mono{p p':Nat}(h:p<p')(h':p'<n):r ((ixs π n).getD p 0)≤r ((ixs π n).getD p' 0):=by
 have hl:=O.len hn
 obtain⟨e,hb,_⟩:=O.all hn
 have g:∀x,x<n→(ixs π n).getD x 0<n∧π.getD ((ixs π n).getD x 0) 0=x:=by
  intro x hx
  have hx':x<(ixs π n).length:=by omega
  rw[List.getD_eq_getElem?_getD,List.getElem?_eq_getElem hx',Option.getD_some]
  refine⟨hb _ (List.getElem_mem hx'),?_⟩
  have:=congrArg (·[x]?) e
  simp only[List.getElem?_map,List.getElem?_eq_getElem hx',Option.map_some,List.getElem?_range hx,Option.some.injEq]at this
  exact this
 obtain⟨b1,e1⟩:=g p (by omega)
 obtain⟨b2,e2⟩:=g p' h'
 have z:=O.lt _ _ b1 b2
 unfold rkLt at z
 rw[e1,e2,decide_eq_true h]at z
 unfold plt at z
 by_cases q:r ((ixs π n).getD p 0)=r ((ixs π n).getD p' 0)
 ·omega
 ·rw[if_neg q]at z
  have:=of_decide_eq_true z
  omega
end
theorem thr:∀{n:Nat}(f:Nat→Bool),(∀p p',p<p'→p'<n→f p'=true→f p=true)→∃s,s≤n∧∀p,p<n→f p=decide (p<s)
 |0,_,_=>⟨0,Nat.le_refl _,fun p h=>absurd h (Nat.not_lt_zero _)⟩
 |n+1,f,h=>by
  obtain⟨s,h1,h2⟩:=thr (n:=n) f fun p p' a b=>h p p' a (by omega)
  cases e:f n with
  |false=>exact⟨s,by omega,fun p hp=>by
    by_cases q:p=n
    ·subst q;rw[e];symm;rw[decide_eq_false_iff_not];omega
    ·exact h2 p (by omega)⟩
  |true=>exact⟨n+1,Nat.le_refl _,fun p hp=>by
    rw[decide_eq_true (by omega)]
    by_cases q:p=n
    ·subst q;exact e
    ·exact h p n (by omega) (by omega) e⟩
noncomputable def rwI:Nat→It
 |0=>.i1|1=>.i2|2=>.i3|_=>.i4
theorem rwI_val{i:Nat}(h:i<4):(rwI i).val=Value.int ((i+1:Nat):Int):=by
 have:i=0∨i=1∨i=2∨i=3:=(by decide:∀j:Nat,j<4→j=0∨j=1∨j=2∨j=3) i h
 rcases this with rfl|rfl|rfl|rfl<;>rfl
theorem rwI_rw(i:Nat):(rwI i).rw=true:=by unfold rwI;split<;>rfl
noncomputable def itL:List It:=[.n,.i0,.i1,.i2,.i5,.sa,.sb,.sB]
theorem it_mem{x:It}(h:x.st=true):x∈itL:=by cases x<;>first|(cases h;done)|simp[itL]
theorem ck_all:([false,true].all fun d=>itL.all fun x=>itL.all fun y=>(List.range 4).all fun a=>(List.range 4).all fun b=>
  (decide (ckAns d (cmpv x y) (cmpv (rwI a) (rwI b))<0)==plt (sgB d*(x.rk:Nat),((a+1:Nat):Int)) (sgB d*(y.rk:Nat),((b+1:Nat):Int)))&&(a==b|| !(ckAns d (cmpv x y) (cmpv (rwI a) (rwI b))==0)))=true:=by decide+kernel
theorem ck1_all:([false,true].all fun d=>itL.all fun x=>itL.all fun y=>(decide (ckAns d (cmpv x y) 0<0)==decide (sgB d*(x.rk:Nat)<sgB d*(y.rk:Nat)))&&(decide (ckAns d (cmpv x y) 0<1)==decide (sgB d*(x.rk:Nat)≤sgB d*(y.rk:Nat)))&&
  (decide (ckAns d (cmpv x y) 0>0)==decide (sgB d*(x.rk:Nat)>sgB d*(y.rk:Nat)))&&(decide (ckAns d (cmpv x y) 0≥0)==decide (sgB d*(x.rk:Nat)≥sgB d*(y.rk:Nat)))&&(decide (ckAns d (cmpv x y) 0≤0)==decide (sgB d*(x.rk:Nat)≤sgB d*(y.rk:Nat))))=true:=by decide+kernel
theorem b_mem(d:Bool):d∈[false,true]:=by cases d<;>simp
theorem ck_lt(d:Bool){x y:It}(hx:x.st=true)(hy:y.st=true){a b:Nat}(ha:a<4)(hb:b<4):decide (ckAns d (cmpv x y) (cmpv (rwI a) (rwI b))<0)=plt (sgB d*(x.rk:Nat),((a+1:Nat):Int)) (sgB d*(y.rk:Nat),((b+1:Nat):Int))∧(a≠b→(ckAns d (cmpv x y) (cmpv (rwI a) (rwI b))==0)=false):=by
 have h:=List.all_eq_true.mp (List.all_eq_true.mp (List.all_eq_true.mp (List.all_eq_true.mp (List.all_eq_true.mp ck_all d (b_mem d)) x (it_mem hx)) y (it_mem hy)) a (List.mem_range.mpr ha)) b (List.mem_range.mpr hb)
 obtain⟨h1,h2⟩:=Bool.and_eq_true_iff.mp h
 refine⟨beq_iff_eq.mp h1,fun hne=> ?_⟩
 rcases Bool.or_eq_true _ _ |>.mp h2 with h2|h2
 ·exact absurd (beq_iff_eq.mp h2) hne
 ·simpa using h2
theorem ck_one(d:Bool){x y:It}(hx:x.st=true)(hy:y.st=true):decide (ckAns d (cmpv x y) 0<0)=decide (sgB d*(x.rk:Nat)<sgB d*(y.rk:Nat))∧decide (ckAns d (cmpv x y) 0<1)=decide (sgB d*(x.rk:Nat)≤sgB d*(y.rk:Nat))∧
  decide (ckAns d (cmpv x y) 0>0)=decide (sgB d*(x.rk:Nat)>sgB d*(y.rk:Nat))∧decide (ckAns d (cmpv x y) 0≥0)=decide (sgB d*(x.rk:Nat)≥sgB d*(y.rk:Nat))∧decide (ckAns d (cmpv x y) 0≤0)=decide (sgB d*(x.rk:Nat)≤sgB d*(y.rk:Nat)):=by
 have h:=List.all_eq_true.mp (List.all_eq_true.mp (List.all_eq_true.mp ck1_all d (b_mem d)) x (it_mem hx)) y (it_mem hy)
 simp only[Bool.and_eq_true,beq_iff_eq]at h
 exact⟨h.1.1.1.1,h.1.1.1.2,h.1.1.2,h.1.2,h.2⟩
structure Rd where
 a:Addr
 x:It
 tx:Tok
 y:It
 ty:Tok
 hx:x.st=true
 hy:y.st=true
noncomputable def Rd.rv(R:Rd)(i:Nat):Rv:=⟨R.a,R.x.pv.val R.tx,R.y.pv,R.ty,oct R.x R.y,oct R.y (rwI i)⟩
noncomputable def Rd.rw(R:Rd):Rw:=⟨R.a,R.x.pv,R.tx,R.y.pv,R.ty,(R.y.rk:Nat)⟩
noncomputable def rvsL:List Rd→Nat→List Rv
 |[],_=>[]
 |R::l,i=>R.rv i::rvsL l (i+1)
noncomputable def xOf(rows:List Rd)(j:Nat):It:=match rows[j]? with
 |some R=>R.x
 |none=>.n
noncomputable def yOf(rows:List Rd)(j:Nat):It:=match rows[j]? with
 |some R=>R.y
 |none=>.n
theorem xOf_st(rows:List Rd)(j:Nat):(xOf rows j).st=true:=by unfold xOf;split<;>first|exact Rd.hx _|rfl
theorem yOf_st(rows:List Rd)(j:Nat):(yOf rows j).st=true:=by unfold yOf;split<;>first|exact Rd.hy _|rfl
noncomputable def keyOf(down:Bool)(rows:List Rd)(j:Nat):Int:=sgB down*((yOf rows j).rk:Nat)
noncomputable def octs(rows:List Rd)(ix:List Nat):List (Array UInt8):=ix.map fun j=>oct (yOf rows j) (rwI j)
theorem octs_insAt(rows:List Rd)(ix:List Nat)(k j:Nat):octs rows (insAt ix k j)=insAt (octs rows ix) k (oct (yOf rows j) (rwI j)):=by
 unfold octs insAt
 simp[List.map_append,List.map_take,List.map_drop]
theorem bytesL_get(tk:Nat→Tok):∀(os:List (Array UInt8))(i j:Nat),(bytesL tk os i)[j]?=os[j]?.map fun o=>Value.bytes o (tk (i+j))
 |[],_,_=>by simp[bytesL]
 |o::os,i,0=>by simp[bytesL]
 |o::os,i,j+1=>by
  show(bytesL tk os (i+1))[j]?=_
  rw[bytesL_get tk os (i+1) j,List.getElem?_cons_succ,Nat.add_right_comm i 1 j,Nat.add_assoc]
theorem bytesL_len(tk:Nat→Tok):∀(os:List (Array UInt8))(i:Nat),(bytesL tk os i).length=os.length
 |[],_=>rfl
 |o::os,i=>congrArg Nat.succ (bytesL_len tk os (i+1))
noncomputable def rvK(π:List Nat):List Rd→Nat→List (Rv×Nat)
 |[],_=>[]
 |R::l,i=>(R.rv i,kk π i)::rvK π l (i+1)
theorem rvK_map(π:List Nat):∀(l:List Rd)(i:Nat),(rvK π l i).map (·.1)=rvsL l i
 |[],_=>rfl
 |R::l,i=>congrArg (R.rv i:: ·) (rvK_map π l (i+1))
theorem rvK_get(π:List Nat):∀(l:List Rd)(i j:Nat),(rvK π l i)[j]?=l[j]?.map fun R=>(R.rv (i+j),kk π (i+j))
 |[],_,_=>by simp[rvK]
 |R::l,i,0=>rfl
 |R::l,i,j+1=>by
  show(rvK π l (i+1))[j]?=_
  rw[rvK_get π l (i+1) j,List.getElem?_cons_succ,Nat.add_right_comm i 1 j,Nat.add_assoc]
theorem osL_snoc(x:Rv×Nat):∀(l:List (Rv×Nat))(a:List (Array UInt8)),osL (l++[x]) a=insAt (osL l a) x.2 x.1.o2
 |[],_=>rfl
 |y::l,a=>osL_snoc x l _
theorem rvsL_len:∀(rows:List Rd)(i:Nat),(rvsL rows i).length=rows.length
 |[],_=>rfl
 |_::l,i=>congrArg Nat.succ (rvsL_len l (i+1))
section
variable{w:World}{P:Params}{b1 b2:Bool}(hP:w.params=parT P b1 b2)(nt:Nat)
include hP
theorem rvEn_ok(R:Rd){i:Nat}(hi:i<4):rvEn w P b1 b2 nt (R.rv i) (i+1):=by
 refine⟨fun a e=> ?_,fun t a e=> ?_⟩
 ·have z:=enc_it hP nt R.x R.y a R.tx R.ty e
  show ConOk pw w _ nt (cEn (R.x.pv.val R.tx) (R.y.pv.val R.ty) (oct R.x R.y) a e)
  rw[pv_val,pv_val]
  exact z
 ·have z:=enc_it hP nt R.y (rwI i) a R.ty t e
  show ConOk pw w _ nt (cEn (R.y.pv.val R.ty) (.int ((i+1:Nat):Int) t) (oct R.y (rwI i)) a e)
  rw[rwI_val hi]at z
  rw[pv_val]
  exact z
theorem dec_ix(rows:List Rd){j:Nat}(hj:j<4)(t:Tok):CO w P b1 b2 nt (cDec (oct (yOf rows j) (rwI j)) (yOf rows j).pv.val (.int ((j+1:Nat):Int)) t):=by
 have z:=dec_it hP nt (yOf rows j) (rwI j) (yOf_st rows j) (rwI_rw j) t
 rw[rwI_val hj]at z
 rw[pv_val]
 exact z
theorem rvIn_ok(rows:List Rd)(down:Bool)(ix:List Nat)(hl:ix.length≤3)(hb:∀j∈ix,j<4){i:Nat}(hi:i<4)(hne:∀j∈ix,j≠i){k:Nat}(hk:k≤ix.length)
  (hlt:∀p,p<ix.length→plt (keyOf down rows (ix.getD p 0),((ix.getD p 0+1:Nat):Int)) (keyOf down rows i,((i+1:Nat):Int))=decide (p<k)) {R:Rd} (hR:rows[i]?=some R):rvIn w P b1 b2 nt down (octs rows ix) (R.rv i) k:=by
 intro K e tp tk tb
 have hy:yOf rows i=R.y:=by unfold yOf;rw[hR]
 have hlen:(bytesL tk (octs rows ix) 0).length=ix.length:=by rw[bytesL_len];unfold octs;rw[List.length_map]
 have g:∀p,p<ix.length→ix.getD p 0∈ix:=fun p hp=>by
  rw[List.getD_eq_getElem?_getD,List.getElem?_eq_getElem hp,Option.getD_some];exact List.getElem_mem hp
 have hv:∀p,p<ix.length→(bytesL tk (octs rows ix) 0).toArray[p]?=some (.bytes (oct (yOf rows (ix.getD p 0)) (rwI (ix.getD p 0))) (tk p)):=fun p hp=>by
  rw[List.getElem?_toArray,bytesL_get,Nat.zero_add]
  unfold octs
  rw[List.getElem?_map,List.getElem?_eq_getElem hp,List.getD_eq_getElem?_getD,List.getElem?_eq_getElem hp];rfl
 let ans:Nat→Int:=fun p=>ckAns down (cmpv (yOf rows (ix.getD p 0)) R.y) (cmpv (rwI (ix.getD p 0)) (rwI i))
 have Hc:∀p,p<ix.length→∀qa tx tu qe t,CO w P b1 b2 nt (cCa K down (bytesL tk (octs rows ix) 0).toArray e (-1) tp (qa,lstObj #[R.y.pv.val tx,.int ((i+1:Nat):Int) tu] qe) p (ans p) t):=by
  intro p hp qa tx tu qe t
  have hj:=hb _ (g p hp)
  refine ca2 hP nt (yOf rows (ix.getD p 0)).pv ((ix.getD p 0+1:Nat):Int) _ (ans p) K down _ e (-1) tp qa qe _ _ p (tk p) (hv p hp) (by omega) (fun t=>dec_ix hP nt rows hj t) (fun a1 tx' tu' t'=> ?_) t
  have z:=ck2_it hP nt down (yOf rows (ix.getD p 0)) (rwI (ix.getD p 0)) R.y (rwI i) (rwI_rw _) (rwI_rw _) a1 qa 2 qe tx' tu' tx tu K.I t'
  rw[rwI_val hj,rwI_val hi]at z
  rw[pv_val,pv_val]
  exact z
 have Hp:∀qa tx tu qe t,CO w P b1 b2 nt (cPl K down (bytesL tk (octs rows ix) 0).toArray e (-1) tp (qa,lstObj #[R.y.pv.val tx,.int ((i+1:Nat):Int) tu] qe) 0 k t):=by
  intro qa tx tu qe t
  refine pl_ok hP nt _ (by rw[hlen];omega) K down e (-1) tp _ 0 ans k (by rw[hlen];exact hk) (fun p hp t=>Hc p (by rw[hlen]at hp;exact hp) _ _ _ _ _) (fun p hp=> ?_) t
  rw[hlen]at hp
  rw[←hlt p hp]
  have:=(ck_lt down (yOf_st rows (ix.getD p 0)) R.hy (hb _ (g p hp)) hi).1
  unfold keyOf
  rw[hy]
  exact this
 have hd:=fun t=>dec_ix hP nt rows hi t
 rw[hy]at hd
 by_cases hkl:k<ix.length
 ·exact ins_in hP nt R.y.pv ((i+1:Nat):Int) (oct R.y (rwI i)) (ans k) K down _ (by rw[hlen];exact hl) e tp tb k (by rw[List.size_toArray,hlen];exact hk) (by rw[List.size_toArray,hlen];omega) (by rw[hlen];exact hkl)
   ((ck_lt down (yOf_st rows (ix.getD k 0)) R.hy (hb _ (g k hkl)) hi).2 (hne _ (g k hkl))) hd Hp (Hc k hkl)
 ·exact ins_end hP nt R.y.pv ((i+1:Nat):Int) (oct R.y (rwI i)) K down _ (by rw[hlen];exact hl) e tp tb k (by rw[List.size_toArray,hlen];exact hk) (by rw[List.size_toArray,hlen];omega) (by rw[hlen];omega) hd Hp
theorem fill_ok(rows:List Rd)(hn:rows.length≤4)(down:Bool){π:List Nat}(O:Ord rows.length (keyOf down rows) π)(M:Mv)(ro:Addr)(en:Nat):CO w P b1 b2 nt (cFi P M down ro en (rvsL rows 0) (octs rows (ixs π rows.length))):=by
 obtain⟨_,_,hs⟩:=O.all hn
 have I:∀m (R:Rd),rows[m]?=some R→rvIn w P b1 b2 nt down (octs rows (ixs π m)) (R.rv m) (kk π m):=by
  intro m R hR
  have hm:=(List.getElem?_eq_some_iff.mp hR).1
  obtain⟨h1,h2,h3,h4⟩:=hs m hm
  refine rvIn_ok hP nt rows down (ixs π m) (by omega) (fun j hj=>by have:=h3 j hj;omega) (by omega) (fun j hj=>by have:=h3 j hj;omega) (by omega) (fun p hp=> ?_) hR
  rw[h2]at hp
  have hg:(ixs π m).getD p 0<m:=by
   have:p<(ixs π m).length:=by omega
   rw[List.getD_eq_getElem?_getD,List.getElem?_eq_getElem this,Option.getD_some]
   exact h3 _ (List.getElem_mem this)
  rw[O.lt _ m (by omega) hm]
  exact h4 p hp
 have K:∀m,m<rows.length→kk π m≤m:=fun m hm=>(hs m hm).1
 have E:∀m,octs rows (ixs π (m+1))=insAt (octs rows (ixs π m)) (kk π m) (oct (yOf rows m) (rwI m)):=fun m=>octs_insAt rows _ _ _
 have Z:octs rows (ixs π 0)=[]:=rfl
 have k0:kk π 0=0:=rfl
 have G:∀j x,(rvK π rows 0)[j]?=some x→∃R,rows[j]?=some R∧x=(R.rv j,kk π j):=fun j x h=>by
  rw[rvK_get,Nat.zero_add]at h
  cases e:rows[j]? with
  |none=>rw[e]at h;cases h
  |some R=>rw[e]at h;cases h;exact⟨R,rfl,rfl⟩
 have L:(rvK π rows 0).length=rows.length:=by rw[←List.length_map,rvK_map,rvsL_len]
 have T:∀m,m≤rows.length→osL ((rvK π rows 0).take m) []=octs rows (ixs π m):=by
  intro m
  induction m with
  |zero=>intro _;rw[List.take_zero,Z];rfl
  |succ m ih=>
   intro h
   have g:(rvK π rows 0)[m]?=some (rows[m].rv m,kk π m):=by rw[rvK_get,Nat.zero_add,List.getElem?_eq_getElem h];rfl
   rw[List.take_add_one,g,Option.toList_some,osL_snoc,ih (by omega),E]
   have y:yOf rows m=rows[m].y:=by unfold yOf;rw[List.getElem?_eq_getElem h]
   rw[y]
   rfl
 have F:=fill_l hP nt rows.length (rvK π rows 0) L hn (fun i x h=>by
  obtain⟨R,h1,rfl⟩:=G i x h
  exact K i (List.getElem?_eq_some_iff.mp h1).1) M down ro en (fun j x h=>by
  obtain⟨R,h1,rfl⟩:=G j x h
  exact rvEn_ok hP nt R (by have:=(List.getElem?_eq_some_iff.mp h1).1;omega)) fun j x h=>by
  obtain⟨R,h1,rfl⟩:=G j x h
  rw[T j (Nat.le_of_lt (List.getElem?_eq_some_iff.mp h1).1)]
  exact I j R h1
 have e:=T rows.length (Nat.le_refl _)
 rw[←L,List.take_length,L]at e
 rw[rvK_map,e]at F
 exact F
end
theorem oQc0{x0:Nat}(h0:(¬(0<x0))):(x0=0):=by omega
theorem oQc1{x0:Nat}{x1:Nat}{x2:Nat}(h0:(x0=x1))(h1:((x2+1)≤x1)):(x2<x0):=by omega
theorem oQc2{x0:Nat}{x1:Nat}(h0:(x0≤4))(h1:(x1=x0)):(x1≤4):=by omega
theorem oQc3{x0:Nat}:(((((x0+1):Nat):Int)-(1:Int))=((x0:Nat):Int)):=by omega
theorem oQc4{x0:Nat}(h0:(0<x0)):(x0=((x0-1)+1)):=(Nat.sub_add_cancel h0).symm
theorem oQc5{x0:Nat}{x1:Nat}(h0:(x0=x1))(h1:((((x1:Nat):Int)-(1:Int))=(-(1:Int)))):(0=x0):=by omega
theorem oQc6{x0:Nat}{x1:Nat}(h0:(x0=x1))(h1:((((x1:Nat):Int)-(1:Int))=(-(1:Int)))):(x0≤4):=by omega
theorem oQc7{x0:Nat}(h0:(¬(0<x0))):((((x0:Nat):Int)-(1:Int))=(-(1:Int))):=by omega
theorem oQc8{x0:Nat}{x1:Nat}(h0:(x0=x1))(h1:((((x1:Nat):Int)-(1:Int))=(((x1-1):Nat):Int))):(((x1-1)+1)=x0):=by omega
theorem oQc9{x0:Nat}(h0:(0<x0)):((((x0:Nat):Int)-(1:Int))=(((x0-1):Nat):Int)):=by omega
theorem oQc10{x0:Nat}{x1:Nat}{x2:Nat}(h0:(x0<x1))(h1:(x2=x1)):(x0<x2):=by omega
theorem oQc11{x0:Nat}{x1:Nat}{x2:Nat}(h0:(x0=x1))(h1:(x2<x0)):(x2<x1):=by omega
theorem oQc12{x0:Nat}{x1:Nat}{x2:Nat}(h0:(x0≤x1))(h1:(x2=x1)):(x0≤x2):=by omega
theorem oQc13{x0:Nat}{x1:Nat}(h0:(x0≤4))(h1:(x1<x0)):(x1<4):=by omega
theorem oQc14{x0:Nat}{x1:Nat}(h0:(x0≤4))(h1:(x1<x0)):(x1<100):=by omega
theorem oQc15{x0:Nat}{x1:Nat}{x2:Nat}(h0:(x0=x1))(h1:(x2<x1)):(x2<x0):=by omega
theorem oQc16{x0:Nat}{x1:Nat}:(((x0+1)+x1)=(x0+(x1+1))):=Nat.add_right_comm x0 1 x1
structure Bi where
 a:Addr
 x:It
 t:Tok
 hx:x.st=true
noncomputable def Bi.bd(b:Bi):Bd:=⟨b.a,b.x.pv,b.t,(b.x.rk:Nat)⟩
structure WIs(W:Wo)(rows:List Rd)(down:Bool)(q:List Nat)(tk:Nat→Tok):Prop where
 ok:W.Ok
 dn:W.down=down
 rs:W.rs=bytesL tk (octs rows q) 0
 ll:W.L.length=rows.length
 lo:∀(r:Nat)(R:Rd),rows[r]?=some R→∃ro,W.L[r]?=some ro∧ro.o=oct R.x R.y
noncomputable def roD:Ro:=⟨0,0,#[],0⟩
noncomputable def rrOf(W:Wo)(rows:List Rd)(q:List Nat)(tk:Nat→Tok)(p:Nat):Rr:=
 ⟨p,q.getD p 0,oct (yOf rows (q.getD p 0)) (rwI (q.getD p 0)),tk p,(W.L.getD (q.getD p 0) roD).ad,(W.L.getD (q.getD p 0) roD).tn,oct (xOf rows (q.getD p 0)) (yOf rows (q.getD p 0)),(W.L.getD (q.getD p 0) roD).tb,(xOf rows (q.getD p 0)).pv,(yOf rows (q.getD p 0)).pv⟩
theorem roTs_get:∀(L:List Ro)(i r:Nat),(roTs L i)[r]?=L[r]?.map fun x=>(x.ad,tupObj #[.int ((i+r:Nat):Int) x.tn,.bytes x.o x.tb])
 |[],_,_=>by simp[roTs]
 |x::L,i,0=>by simp[roTs]
 |x::L,i,r+1=>by
  show(roTs L (i+1))[r]?=_
  rw[roTs_get L (i+1) r,List.getElem?_cons_succ,show i+1+r=i+(r+1) by exact oQc16]
section
variable{w:World}{P:Params}{b1 b2:Bool}(hP:w.params=parT P b1 b2)(nt:Nat){W:Wo}{rows:List Rd}{down:Bool}{q:List Nat}{tk:Nat→Tok}(H:WIs W rows down q tk)(hn:rows.length≤4)(hq:q.length=rows.length)(hb:∀i∈q,i<rows.length)
include H hn hq hb
omit H hn in
theorem qd{p:Nat}(hp:p<rows.length):q.getD p 0<rows.length:=by
 rw[List.getD_eq_getElem?_getD,List.getElem?_eq_getElem (by exact oQc15 hq hp),Option.getD_some]
 exact hb _ (List.getElem_mem _)
theorem rs_at{p:Nat}(hp:p<rows.length):W.rs.toArray[p]?=some (.bytes (oct (yOf rows (q.getD p 0)) (rwI (q.getD p 0))) (tk p)):=by
 rw[H.rs,List.getElem?_toArray,bytesL_get,Nat.zero_add]
 unfold octs
 rw[List.getElem?_map,List.getElem?_eq_getElem (by exact oQc15 hq hp),List.getD_eq_getElem?_getD,List.getElem?_eq_getElem (by exact oQc15 hq hp)];rfl
omit hb hn in
theorem rs_len:W.rs.length=rows.length:=by rw[H.rs,bytesL_len];unfold octs;rw[List.length_map,hq]
include hP
theorem rr_ok{p:Nat}(hp:p<rows.length):RrOk w P b1 b2 nt W (rrOf W rows q tk p):=by
 have hr:=qd hq hb hp
 obtain⟨ro,h1,h2⟩:=H.lo _ _ (List.getElem?_eq_getElem hr)
 have hL:W.L.getD (q.getD p 0) roD=ro:=by rw[List.getD_eq_getElem?_getD,h1];rfl
 have hx:xOf rows (q.getD p 0)=rows[q.getD p 0].x:=by unfold xOf;rw[List.getElem?_eq_getElem hr]
 have hy:yOf rows (q.getD p 0)=rows[q.getD p 0].y:=by unfold yOf;rw[List.getElem?_eq_getElem hr]
 have hlt:q.getD p 0<(roTs W.L 1).length:=by
  have:=roTs_get W.L 1 (q.getD p 0)
  rw[h1]at this
  exact(List.getElem?_eq_some_iff.mp this).1
 refine⟨rs_at H hn hq hb hp,by show p<100;exact oQc14 hn hp,by show q.getD p 0<W.L.length;rw[H.ll];exact hr,?_,?_,fun t=> ?_,fun t u=> ?_,fun t u=> ?_⟩
 ·rw[←H.ok.1]
  show(roTs W.L 1++W.D)[q.getD p 0]?=_
  rw[List.getElem?_append_left hlt,roTs_get,h1]
  show some _=some ((W.L.getD (q.getD p 0) roD).ad,tupObj #[.int ((q.getD p 0+1:Nat):Int) (W.L.getD (q.getD p 0) roD).tn,.bytes (oct (xOf rows (q.getD p 0)) (yOf rows (q.getD p 0))) (W.L.getD (q.getD p 0) roD).tb])
  rw[hL,hx,hy,←h2,Nat.add_comm]
 ·show(W.L.map fun r=>Value.ref r.ad).toArray[q.getD p 0]?=some (.ref (W.L.getD (q.getD p 0) roD).ad)
  rw[List.getElem?_toArray,List.getElem?_map,h1,hL];rfl
 ·exact dec_ix hP nt rows (by exact oQc13 hn hr) t
 ·have z:=col_it hP nt (xOf rows (q.getD p 0)) (yOf rows (q.getD p 0)) (xOf_st rows _) t u
  show ConOk pw w _ nt (cCol _ (xOf rows (q.getD p 0)).pv.val t u)
  rw[pv_val];exact z
 ·have z:=col_it hP nt (yOf rows (q.getD p 0)) (rwI (q.getD p 0)) (yOf_st rows _) t u
  show ConOk pw w _ nt (cCol _ (yOf rows (q.getD p 0)).pv.val t u)
  rw[pv_val];exact z
theorem ca_bd(x:It)(hx:x.st=true)(tx:Tok){j:Nat}(hj:j<rows.length)(pl:Int)(tp:Tok)(qa:Addr)(t:Tok):CO w P b1 b2 nt (cCa W.K W.down W.rs.toArray W.e pl tp (qa,lstObj #[x.pv.val tx] 1) j (ckAns down (cmpv (yOf rows (q.getD j 0)) x) 0) t):=by
 have hr:=qd hq hb hj
 refine ca1 hP nt (yOf rows (q.getD j 0)).pv ((q.getD j 0+1:Nat):Int) _ _ W.K W.down _ W.e pl tp qa 1 _ j (tk j) (rs_at H hn hq hb hj) (by exact oQc14 hn hj) (fun t=>dec_ix hP nt rows (by exact oQc13 hn hr) t) (fun a1 tx' tu' t'=> ?_) t
 have z:=ck1_it hP nt down (yOf rows (q.getD j 0)) (rwI (q.getD j 0)) x (rwI_rw _) a1 qa 2 1 tx' tu' tx W.K.I t'
 rw[rwI_val (by exact oQc13 hn hr)]at z
 rw[pv_val,pv_val,H.dn]
 exact z
theorem pl_bd(x:It)(hx:x.st=true)(tx:Tok)(least:Int){k:Nat}(hk:k≤rows.length)(hl:∀j,j<rows.length→decide (ckAns down (cmpv (yOf rows (q.getD j 0)) x) 0<least)=decide (j<k))(pl:Int)(tp:Tok)(qa:Addr)(t:Tok):
  CO w P b1 b2 nt (cPl W.K W.down W.rs.toArray W.e pl tp (qa,lstObj #[x.pv.val tx] 1) least k t):=by
 have hlen:=rs_len H hq
 exact pl_ok hP nt W.rs (by exact oQc2 hn hlen) W.K W.down W.e pl tp _ least _ k (by exact oQc12 hk hlen) (fun j hj t=>ca_bd hP nt H hn hq hb x hx tx (by exact oQc11 hlen hj) pl tp qa t) (fun j hj=>hl j (by exact oQc11 hlen hj)) t
omit hn hq hb hP in
theorem wm:W.m=W.M.on W.C.a:=rfl
theorem next_ok(O:Op)(p2 f:Int){j:Nat}(hj:j<rows.length):HNext w P b1 b2 nt W O nmNext p2 f j (j+1:Nat) (decide (j+1<rows.length)):=by
 have hlen:=rs_len H hq
 intro tf ne np tp r hr
 rw[←hlen]
 exact op_Next hP nt W.m O p2 f tf W.B.a W.c0 W.c1 ne np r hr W.K W.down W.rs (by exact oQc2 hn hlen) W.e j tp (by exact oQc10 hj hlen)
theorem prev_y(O:Op)(p2 f:Int){j:Nat}(hj:j<rows.length):HNext w P b1 b2 nt W O nmPrev p2 f (j+1) j true:=by
 have hlen:=rs_len H hq
 intro tf ne np tp r hr
 exact op_Prev_y hP nt W.m O p2 f tf W.B.a W.c0 W.c1 ne np r hr W.K W.down W.rs (by exact oQc2 hn hlen) W.e j tp (by exact oQc10 hj hlen)
theorem prev_n(O:Op)(p2 f:Int):HNext w P b1 b2 nt W O nmPrev p2 f 0 (-1) false:=by
 have hlen:=rs_len H hq
 intro tf ne np tp r hr
 exact op_Prev_n hP nt W.m O p2 f tf W.B.a W.c0 W.c1 ne np r hr W.K W.down W.rs W.e tp
theorem rew_ok(O:Op)(p2:Int)(tp:Tok):HSt w P b1 b2 nt W O nmRewind p2 0 .none 1 tp [] 0 (decide (0<rows.length)):=by
 have hlen:=rs_len H hq
 intro tf
 rw[←hlen]
 exact op_Rewind hP nt W.m O p2 1 tf W.B.a W.c0 W.c1 #[] 0 none rfl W.K W.down W.rs (by exact oQc2 hn hlen) W.e (-1) tp
theorem last_ok(O:Op)(p2:Int)(tp:Tok):HSt w P b1 b2 nt W O nmLast p2 0 .none 1 tp [] ((rows.length:Int)-1) (decide (0<rows.length)):=by
 have hlen:=rs_len H hq
 intro tf
 by_cases h:0<rows.length
 ·rw[decide_eq_true h]
  have e:((rows.length:Int)-1)=((rows.length-1:Nat):Int):=by exact oQc9 h
  rw[e]
  exact op_Last_y hP nt W.m O p2 1 tf W.B.a W.c0 W.c1 #[] 0 none rfl W.K W.down W.rs (by exact oQc2 hn hlen) W.e (-1) tp (rows.length-1) (by exact oQc8 hlen e)
 ·rw[decide_eq_false h]
  have e:((rows.length:Int)-1)= -1:=by exact oQc7 h
  rw[e]
  exact op_Last_n hP nt W.m O p2 1 tf W.B.a W.c0 W.c1 #[] 0 none rfl W.K W.down W.rs (by exact oQc6 hlen e) W.e (-1) tp (by exact oQc5 hlen e)
omit hn hq hb hP H in
noncomputable def exR(W:Wo)(OV:Op)(x:It)(tx:Tok):List (Addr×Obj):=W.C.objs (dicObj #[⟨1,.int 1 OV.t2,x.pv.val tx⟩] 1)
theorem up_ok(has:Bool)(O OV:Op)(p2:Int)(t4 tp:Tok)(x:It)(hx:x.st=true)(tx:Tok){k:Nat}(hk:k≤rows.length)(hl:∀j,j<rows.length→decide (ckAns down (cmpv (yOf rows (q.getD j 0)) x) 0<(@Bool.rec (fun _=>Int) 1 0 has))=decide (j<k)):
  HSt w P b1 b2 nt W O (@Bool.rec (fun _=>Str) nmSeekGT nmSeekGE has) p2 1 (.int 1 t4) 2 tp (exR W OV x tx) k (decide (k<rows.length)):=by
 have hlen:=rs_len H hq
 intro tf
 have Hp:=fun pl tp qa t=>pl_bd hP nt H hn hq hb x hx tx _ hk hl pl tp qa t
 rw[←hlen]
 exact op_SeekG hP nt W.M O p2 2 tf W.B.a W.c0 W.c1 #[] 0 none rfl W.K W.down W.rs (by exact oQc2 hn hlen) W.e (-1) tp W.C _ 1 (some 0) _ rfl rfl t4 has k (Hp _ _)
theorem dn_ok(has:Bool)(O OV:Op)(p2:Int)(t4 tp:Tok)(x:It)(hx:x.st=true)(tx:Tok){k:Nat}(hk:k≤rows.length)(hl:∀j,j<rows.length→decide (ckAns down (cmpv (yOf rows (q.getD j 0)) x) 0<(@Bool.rec (fun _=>Int) 0 1 has))=decide (j<k)):
  HSt w P b1 b2 nt W O (@Bool.rec (fun _=>Str) nmSeekLT nmSeekLE has) p2 1 (.int 1 t4) 2 tp (exR W OV x tx) ((k:Int)-1) (decide (0<k)):=by
 have hlen:=rs_len H hq
 intro tf
 have Hp:=fun pl tp qa t=>pl_bd hP nt H hn hq hb x hx tx _ hk hl pl tp qa t
 by_cases h:0<k
 ·rw[decide_eq_true h]
  obtain⟨j,rfl⟩:∃j,k=j+1:=⟨k-1,by exact oQc4 h⟩
  have e:(((j+1:Nat):Int)-1)=((j:Nat):Int):=by exact oQc3
  rw[e]
  exact op_SeekL_y hP nt W.M O p2 2 tf W.B.a W.c0 W.c1 #[] 0 none rfl W.K W.down W.rs (by exact oQc2 hn hlen) W.e (-1) tp W.C _ 1 (some 0) _ rfl rfl t4 has j (Hp _ _) (by exact oQc1 hlen hk)
 ·rw[decide_eq_false h]
  obtain rfl:k=0:=by exact oQc0 h
  exact op_SeekL_n hP nt W.M O p2 2 tf W.B.a W.c0 W.c1 #[] 0 none rfl W.K W.down W.rs W.e (-1) tp W.C _ 1 (some 0) _ rfl rfl t4 has (Hp _ _)
section
variable(has:Bool)(O:Op)(p2 f:Int)(t4:Tok)(x:It)(hx:x.st=true)(tx:Tok){j:Nat}(hj:j<rows.length)(b:Bool)
include has O p2 f t4 x hx tx j hj b
theorem idx_up
  (hb':(@Bool.rec (fun _=>Bool) (decide (ckAns down (cmpv (yOf rows (q.getD j 0)) x) 0≥0)) (decide (ckAns down (cmpv (yOf rows (q.getD j 0)) x) 0>0)) has)=b):HIdx w P b1 b2 nt W O (@Bool.rec (fun _=>Str) nmIdxGE nmIdxGT has) p2 t4 f (x.pv.val tx) j b:=by
 intro tf ne np tp re rp r1 h1 h2
 have Hc:=fun qa t=>ca_bd hP nt H hn hq hb x hx tx hj (j:Nat) tp qa t
 cases has
 ·exact op_Idx hP nt W.M O p2 f tf W.B.a W.c0 W.c1 ne np W.K W.down W.rs W.e j tp W.C re rp r1 _ h1 h2 t4 _ .ge b hb' Hc
 ·exact op_Idx hP nt W.M O p2 f tf W.B.a W.c0 W.c1 ne np W.K W.down W.rs W.e j tp W.C re rp r1 _ h1 h2 t4 _ .g b hb' Hc
theorem idx_dn
  (hb':(@Bool.rec (fun _=>Bool) (decide (ckAns down (cmpv (yOf rows (q.getD j 0)) x) 0≤0)) (decide (ckAns down (cmpv (yOf rows (q.getD j 0)) x) 0<0)) has)=b):HIdx w P b1 b2 nt W O (@Bool.rec (fun _=>Str) nmIdxLE nmIdxLT has) p2 t4 f (x.pv.val tx) j b:=by
 intro tf ne np tp re rp r1 h1 h2
 have Hc:=fun qa t=>ca_bd hP nt H hn hq hb x hx tx hj (j:Nat) tp qa t
 cases has
 ·exact op_Idx hP nt W.M O p2 f tf W.B.a W.c0 W.c1 ne np W.K W.down W.rs W.e j tp W.C re rp r1 _ h1 h2 t4 _ .le b hb' Hc
 ·exact op_Idx hP nt W.M O p2 f tf W.B.a W.c0 W.c1 ne np W.K W.down W.rs W.e j tp W.C re rp r1 _ h1 h2 t4 _ .l b hb' Hc
end
end
theorem oQd0{x0:Int}{x1:Nat}{x2:Nat}{x3:Nat}{x4:Nat}(h0:((((x0*((x1:Nat):Int))>(x0*((x2:Nat):Int)))∨((x0*((x1:Nat):Int))=(x0*((x2:Nat):Int))))↔(x3≤x4))):(((x0*((x1:Nat):Int))<(x0*((x2:Nat):Int)))↔(x4<x3)):=(Int.not_le.symm.trans (not_congr (Int.le_iff_lt_or_eq.trans ((or_congr_right eq_comm).trans h0)))).trans Nat.not_le
theorem oQd1{x0:Int}{x1:Nat}{x2:Nat}{x3:Nat}{x4:Nat}(h0:(((x0*((x1:Nat):Int))>(x0*((x2:Nat):Int)))↔(x3≤x4))):(((x0*((x1:Nat):Int))≤(x0*((x2:Nat):Int)))↔(x4<x3)):=(Int.not_lt.symm.trans (not_congr h0)).trans Nat.not_le
theorem oQd2{x0:Nat}{x1:Nat}(h0:(x0≤x1)):(¬(x1<x0)):=by omega
theorem oQd3{x0:Int}{x1:Nat}{x2:Nat}{x3:Nat}{x4:Nat}(h0:((((x0*((x1:Nat):Int))<(x0*((x2:Nat):Int)))∨((x0*((x1:Nat):Int))=(x0*((x2:Nat):Int))))↔(x3<x4))):(((x0*((x1:Nat):Int))>(x0*((x2:Nat):Int)))↔(x4≤x3)):=by omega
theorem oQd4{x0:Int}{x1:Nat}{x2:Nat}{x3:Nat}{x4:Nat}(h0:(((x0*((x1:Nat):Int))<(x0*((x2:Nat):Int)))↔(x3<x4))):(((x0*((x1:Nat):Int))≥(x0*((x2:Nat):Int)))↔(x4≤x3)):=(Int.not_lt.symm.trans (not_congr h0)).trans Nat.not_lt
theorem oQd5{x0:Nat}{x1:Nat}(h0:(x0<x1)):(¬(x1≤x0)):=by omega
theorem oQd6{x0:Int}{x1:Nat}{x2:Nat}{x3:Nat}{x4:Nat}(h0:((((x0*((x1:Nat):Int))<(x0*((x2:Nat):Int)))∨((x0*((x1:Nat):Int))=(x0*((x2:Nat):Int))))↔(x3<x4))):(((x0*((x1:Nat):Int))≤(x0*((x2:Nat):Int)))↔(x3<x4)):=Int.le_iff_lt_or_eq.trans h0
theorem oQd7{x0:Nat}(h0:(x0<x0)):False:=by omega
theorem oQd8{x0:Nat}{x1:Nat}(h0:(¬(x0=x1)))(h1:(x0≤x1)):(x0<x1):=by omega
theorem oQd9{x0:Nat}(h0:(¬(x0=0)))(h1:(x0≤0)):False:=by omega
theorem oQd10{x0:Nat}{x1:Nat}(h0:(¬(x0=0)))(h1:(x0≤x1)):(0<x1):=by omega
theorem oQd11{x0:Nat}{x1:Nat}:((¬(x0<x1))↔(x1≤x0)):=Nat.not_lt
theorem oQd12{x0:Int}{x1:Int}{x2:Int}{x3:Int}(h0:(x0≤x1))(h1:(x1=(x2*x3)))(h2:(¬(x0=(x2*x3)))):(x0<(x2*x3)):=by omega
theorem oQd13{x0:Int}{x1:Int}{x2:Int}{x3:Int}(h0:(x0≤x1))(h1:(x1<(x2*x3))):(x0<(x2*x3)):=by omega
theorem oQd14{x0:Nat}{x1:Nat}(h0:(x0≤4))(h1:(x1≤x0)):(x1<5):=by omega
theorem oQd15{x0:Nat}(h0:(x0≤4)):(x0<5):=by omega
noncomputable def keyP(down:Bool)(rows:List Rd)(q:List Nat)(p:Nat):Int:=keyOf down rows (q.getD p 0)
theorem range_all:((List.range 5).all fun n=>(List.range 5).all fun s=>(List.range 5).all fun t=> !(decide (t≤n))||((List.range n).filter fun p=>decide (s≤p)&&decide (p<t))==List.range' s (t-s))=true:=by decide+kernel
theorem range_at{n s t:Nat}(hn:n≤4)(hs:s≤n)(ht:t≤n):((List.range n).filter fun p=>decide (s≤p)&&decide (p<t))=List.range' s (t-s):=by
 have h:=List.all_eq_true.mp (List.all_eq_true.mp (List.all_eq_true.mp range_all n (List.mem_range.mpr (by exact oQd15 hn))) s (List.mem_range.mpr (by exact oQd14 hn hs))) t (List.mem_range.mpr (by exact oQd14 hn ht))
 rw[decide_eq_true ht]at h
 simpa using h
noncomputable def rowX(rows:List Rd)(r:Nat):Value:=match rows[r]? with
 |some R=>R.x.pv.val R.tx
 |none=>.none
noncomputable def rowY(rows:List Rd)(r:Nat):Value:=match rows[r]? with
 |some R=>R.y.pv.val R.ty
 |none=>.none
structure Lim(rows:List Rd)(down:Bool)(q:List Nat)(lo hi:Option Bi)(hl hh:Bool)(s t:Nat):Prop where
 s4:s≤rows.length
 t4:t≤rows.length
 a:∀p,p<rows.length→abvB (lo.map Bi.bd) hl (sgB down) (keyP down rows q p)=decide (s≤p)
 b:∀p,p<rows.length→blwB (hi.map Bi.bd) hh (sgB down) (keyP down rows q p)=decide (p<t)
theorem lim_ex{rows:List Rd}(hn:rows.length≤4){down:Bool}{π:List Nat}(O:Ord rows.length (keyOf down rows) π)(lo hi:Option Bi)(hl hh:Bool):∃s t,Lim rows down (ixs π rows.length) lo hi hl hh s t:=by
 have mono:∀p p',p<p'→p'<rows.length→keyP down rows (ixs π rows.length) p≤keyP down rows (ixs π rows.length) p':=fun p p' h h'=>O.mono hn h h'
 obtain⟨s,s1,s2⟩:=thr (n:=rows.length) (fun p=> !abvB (lo.map Bi.bd) hl (sgB down) (keyP down rows (ixs π rows.length) p)) fun p p' h h' e=>by
  have:=mono p p' h h'
  simp only[Bool.not_eq_true']at e ⊢
  unfold abvB at e ⊢
  split at e
  ·cases e
  ·rename_i b eb
   simp only[Bool.or_eq_false_iff,decide_eq_false_iff_not,Bool.and_eq_false_iff,beq_eq_false_iff_ne]at e ⊢
   refine⟨by omega,?_⟩
   rcases e.2 with e2|e2
   ·exact .inl e2
   ·exact .inr (by omega)
 obtain⟨t,t1,t2⟩:=thr (n:=rows.length) (fun p=>blwB (hi.map Bi.bd) hh (sgB down) (keyP down rows (ixs π rows.length) p)) fun p p' h h' e=>by
  have:=mono p p' h h'
  unfold blwB at e ⊢
  split at e
  ·rfl
  ·rename_i b eb
   simp only[Bool.or_eq_true,decide_eq_true_eq,Bool.and_eq_true,beq_iff_eq]at e ⊢
   rcases e with e|⟨e1,e2⟩
   ·exact .inl (by exact oQd13 this e)
   ·by_cases z:keyP down rows (ixs π rows.length) p=sgB down*b.r
    ·exact .inr ⟨e1,z⟩
    ·exact .inl (by exact oQd12 this e2 z)
 refine⟨s,t,s1,t1,fun p hp=> ?_,t2⟩
 have:=s2 p hp
 rw[←Bool.not_not (abvB _ _ _ _),this,←decide_not]
 exact decide_eq_decide.mpr (by exact oQd11)
theorem nmI_ok(bk he:Bool):notE (nmE bk he):=by cases bk<;>cases he<;>exact⟨by decide,by decide⟩
section
variable{w:World}{P:Params}{b1 b2:Bool}(hP:w.params=parT P b1 b2)(nt:Nat){W:Wo}{rows:List Rd}{down:Bool}{q:List Nat}{tk:Nat→Tok}(H:WIs W rows down q tk)(hn:rows.length≤4)(hq:q.length=rows.length)(hb:∀i∈q,i<rows.length)
include H hn hq hb hP
section
variable(lo hi:Option Bi)(hl hh bk:Bool){s t:Nat}(L:Lim rows down q lo hi hl hh s t)(Q:Oq)
include lo hi hl hh bk s t L Q
theorem hs_ok(tK:Tok):
  (shOf (lo.map Bi.bd) (hi.map Bi.bd) hl hh bk).hs w P b1 b2 nt W Q tK (@Bool.rec (fun _=>Int) (s:Nat) ((t:Int)-1) bk) (@Bool.rec (fun _=>Bool) (decide (s<rows.length)) (decide (0<t)) bk):=by
 cases bk with
 |false=>
  cases lo with
  |none=>
   have:s=0:=by
    apply Decidable.byContradiction
    intro h
    have z:=L.a 0 (by have:=L.s4;exact oQd10 h this)
    have z:true=decide (s≤0):=z
    have:=of_decide_eq_true z.symm
    exact oQd9 h this
   subst this
   exact rew_ok hP nt H hn hq hb Q.O0 _ tK
  |some b=>
   have k1:∀j,j<rows.length→_:=fun j hj=>ck_one down (yOf_st rows (q.getD j 0)) b.hx
   cases hl with
   |false=>
    refine up_ok hP nt H hn hq hb false Q.O0 Q.OV _ Q.t4 tK b.x b.hx b.t L.s4 fun j hj=> ?_
    have z:=L.a j hj
    rw[show(@Bool.rec (fun _=>Int) 1 0 false)=1 from rfl,(k1 j hj).2.1]
    have z:(decide (keyP down rows q j>sgB down*(b.x.rk:Nat))||(false&&(keyP down rows q j==sgB down*(b.x.rk:Nat))))=decide (s≤j):=z
    rw[Bool.false_and,Bool.or_false]at z
    have z:=decide_eq_decide.mp z
    unfold keyP keyOf at z
    exact decide_eq_decide.mpr (by exact oQd1 z)
   |true=>
    refine up_ok hP nt H hn hq hb true Q.O0 Q.OV _ Q.t4 tK b.x b.hx b.t L.s4 fun j hj=> ?_
    have z:=L.a j hj
    rw[show(@Bool.rec (fun _=>Int) 1 0 true)=0 from rfl,(k1 j hj).1]
    have z:(decide (keyP down rows q j>sgB down*(b.x.rk:Nat))||(true&&(keyP down rows q j==sgB down*(b.x.rk:Nat))))=decide (s≤j):=z
    have z:(keyP down rows q j>sgB down*(b.x.rk:Nat)∨keyP down rows q j=sgB down*(b.x.rk:Nat))↔s≤j:=by
     rw[←decide_eq_true_iff (p:=s≤j),←z];simp
    unfold keyP keyOf at z
    exact decide_eq_decide.mpr (by exact oQd0 z)
 |true=>
  cases hi with
  |none=>
   have:t=rows.length:=by
    apply Decidable.byContradiction
    intro h
    have z:=L.b t (by have:=L.t4;exact oQd8 h this)
    have z:true=decide (t<t):=z
    have:=of_decide_eq_true z.symm
    exact oQd7 this
   subst this
   exact last_ok hP nt H hn hq hb Q.O0 _ tK
  |some b=>
   have k1:∀j,j<rows.length→_:=fun j hj=>ck_one down (yOf_st rows (q.getD j 0)) b.hx
   cases hh with
   |false=>
    refine dn_ok hP nt H hn hq hb false Q.O0 Q.OV _ Q.t4 tK b.x b.hx b.t L.t4 fun j hj=> ?_
    have z:=L.b j hj
    rw[show(@Bool.rec (fun _=>Int) 0 1 false)=0 from rfl,(k1 j hj).1]
    have z:(decide (keyP down rows q j<sgB down*(b.x.rk:Nat))||(false&&(keyP down rows q j==sgB down*(b.x.rk:Nat))))=decide (j<t):=z
    rw[Bool.false_and,Bool.or_false]at z
    have z:=decide_eq_decide.mp z
    unfold keyP keyOf at z
    exact decide_eq_decide.mpr (by omega)
   |true=>
    refine dn_ok hP nt H hn hq hb true Q.O0 Q.OV _ Q.t4 tK b.x b.hx b.t L.t4 fun j hj=> ?_
    have z:=L.b j hj
    rw[show(@Bool.rec (fun _=>Int) 0 1 true)=1 from rfl,(k1 j hj).2.1]
    have z:(decide (keyP down rows q j<sgB down*(b.x.rk:Nat))||(true&&(keyP down rows q j==sgB down*(b.x.rk:Nat))))=decide (j<t):=z
    have z:(keyP down rows q j<sgB down*(b.x.rk:Nat)∨keyP down rows q j=sgB down*(b.x.rk:Nat))↔j<t:=by
     rw[←decide_eq_true_iff (p:=j<t),←z];simp
    unfold keyP keyOf at z
    exact decide_eq_decide.mpr (by exact oQd6 z)
theorem hi_ok{j:Nat}(hj:j<rows.length)(b:Bool)(hb':(@Bool.rec (fun _=>Bool) (decide (t≤j)) (decide (j<s)) bk)=b):
  (shOf (lo.map Bi.bd) (hi.map Bi.bd) hl hh bk).hi w P b1 b2 nt W Q j b:=by
 subst hb'
 cases bk with
 |false=>
  have z:=L.b j hj
  cases hi with
  |none=>
   have z:true=decide (j<t):=z
   have:=of_decide_eq_true z.symm
   show decide (t≤j)=false
   rw[decide_eq_false_iff_not];exact oQd5 this
  |some b=>
   have k1:=ck_one down (yOf_st rows (q.getD j 0)) b.hx
   have z:(decide (keyP down rows q j<sgB down*(b.x.rk:Nat))||(hh&&(keyP down rows q j==sgB down*(b.x.rk:Nat))))=decide (j<t):=z
   cases hh with
   |false=>
    refine idx_up hP nt H hn hq hb false Q.OI _ _ Q.u4 b.x b.hx b.t hj _ ?_
    show decide _=_
    rw[k1.2.2.2.1]
    rw[Bool.false_and,Bool.or_false]at z
    have z:=decide_eq_decide.mp z
    unfold keyP keyOf at z
    exact decide_eq_decide.mpr (by exact oQd4 z)
   |true=>
    refine idx_up hP nt H hn hq hb true Q.OI _ _ Q.u4 b.x b.hx b.t hj _ ?_
    show decide _=_
    rw[k1.2.2.1]
    have z:(keyP down rows q j<sgB down*(b.x.rk:Nat)∨keyP down rows q j=sgB down*(b.x.rk:Nat))↔j<t:=by
     rw[←decide_eq_true_iff (p:=j<t),←z];simp
    unfold keyP keyOf at z
    exact decide_eq_decide.mpr (by exact oQd3 z)
 |true=>
  have z:=L.a j hj
  cases lo with
  |none=>
   have z:true=decide (s≤j):=z
   have:=of_decide_eq_true z.symm
   show decide (j<s)=false
   rw[decide_eq_false_iff_not];exact oQd2 this
  |some b=>
   have k1:=ck_one down (yOf_st rows (q.getD j 0)) b.hx
   have z:(decide (keyP down rows q j>sgB down*(b.x.rk:Nat))||(hl&&(keyP down rows q j==sgB down*(b.x.rk:Nat))))=decide (s≤j):=z
   cases hl with
   |false=>
    refine idx_dn hP nt H hn hq hb false Q.OI _ _ Q.u4 b.x b.hx b.t hj _ ?_
    show decide _=_
    rw[k1.2.2.2.2]
    rw[Bool.false_and,Bool.or_false]at z
    have z:=decide_eq_decide.mp z
    unfold keyP keyOf at z
    exact decide_eq_decide.mpr (by exact oQd1 z)
   |true=>
    refine idx_dn hP nt H hn hq hb true Q.OI _ _ Q.u4 b.x b.hx b.t hj _ ?_
    show decide _=_
    rw[k1.1]
    have z:(keyP down rows q j>sgB down*(b.x.rk:Nat)∨keyP down rows q j=sgB down*(b.x.rk:Nat))↔s≤j:=by
     rw[←decide_eq_true_iff (p:=s≤j),←z];simp
    unfold keyP keyOf at z
    exact decide_eq_decide.mpr (by exact oQd0 z)
end
end
theorem oQe0{x0:Nat}{x1:Nat}(h0:(¬(x0<x1))):(x1≤x0):=by omega
theorem oQe1{x0:Nat}{x1:Nat}{x2:Nat}(h0:(x0=x1))(h1:(¬(x2<x1))):(x0≤x2):=by omega
theorem oQe2{x0:Nat}{x1:Nat}{x2:Nat}(h0:(x0=x1))(h1:(x2<x1)):(x2<x0):=by omega
theorem oQe3{x0:Nat}{x1:Nat}(h0:(¬(0<x0))):((x0-x1)=0):=by omega
theorem oQe4{x0:Nat}{x1:Nat}(h0:(x0<x1)):((min (x0-1) (x1-1))=(x0-1)):=Nat.min_eq_left (Nat.sub_le_sub_right (Nat.le_of_lt h0) 1)
theorem oQe5{x0:Nat}{x1:Nat}(h0:(¬((x0<x1)∧(x0=0))))(h1:(x0<x1)):(((x1-1)-((x1-x0)-1))=((x0-1)+1)):=by
 rw[Nat.sub_right_comm x1 x0 1,Nat.sub_sub_self (Nat.le_sub_one_of_lt h1)]
 exact(Nat.sub_add_cancel (Nat.pos_of_ne_zero fun e=>h0 ⟨h1,e⟩)).symm
theorem oQe6{x0:Nat}{x1:Nat}{x2:Nat}(h0:(x0≤x1))(h1:(x2<x0)):((x2-1)<x1):=Nat.lt_of_le_of_lt (Nat.sub_le _ _) (Nat.lt_of_lt_of_le h1 h0)
theorem oQe7{x0:Nat}{x1:Nat}(h0:(0<x0))(h1:(¬((x1<x0)∧(x1=0)))):((min (x1-1) (x0-1))<x1):=by omega
theorem oQe8{x0:Nat}{x1:Nat}(h0:((x0-x1)=0)):((min (x1-1) (x0-1))=(x0-1)):=Nat.min_eq_right (Nat.sub_le_sub_right (Nat.le_of_sub_eq_zero h0) 1)
theorem oQe9{x0:Nat}{x1:Nat}{x2:Nat}(h0:(x0≤x1))(h1:(0<x0)):((min (x2-1) (x0-1))<x1):=Nat.lt_of_le_of_lt (Nat.min_le_right _ _) (Nat.lt_of_lt_of_le (Nat.sub_lt h1 Nat.one_pos) h0)
theorem oQe10{x0:Nat}{x1:Nat}{x2:Nat}(h0:(x0≤4))(h1:(x1≤x0))(h2:(¬((x2<x1)∧(x2=0)))):((x1-x2)≤3):=by
 cases x2 with
 |zero=>exact(Nat.eq_zero_or_pos x1).elim (fun e=>by rw[e];exact Nat.zero_le _) fun e=>(h2 ⟨e,rfl⟩).elim
 |succ k=>exact Nat.le_trans (Nat.sub_le_sub_left (Nat.succ_le_succ (Nat.zero_le k)) x1) (Nat.sub_le_sub_right (Nat.le_trans h1 h0) 1)
theorem oQe11{x0:Nat}{x1:Nat}(h0:(0<x0))(h1:(¬((x1<x0)∧(x1=0))))(h2:(x1≤(min (x1-1) (x0-1)))):False:=by
 have h:=Nat.le_trans h2 (Nat.min_le_left _ _)
 cases x1 with
 |zero=>exact h1 ⟨h0,rfl⟩
 |succ k=>exact Nat.not_succ_le_self k h
theorem oQe12{x0:Nat}{x1:Nat}(h0:((x0<x1)∧(x0=0))):(((x1-1)-((x1-x0)-1))=0):=by
 obtain⟨_,rfl⟩:=h0
 exact Nat.sub_self _
theorem oQe13{x0:Nat}{x1:Nat}(h0:((x0<x1)∧(x0=0))):(0<(x1-x0)):=Nat.sub_pos_of_lt h0.1
theorem oQe14{x0:Nat}{x1:Nat}{x2:Nat}(h0:(x0≤4))(h1:(x1≤x0)):((x1-x2)≤4):=by omega
theorem oQe15{x0:Nat}(h0:(0<x0)):((((x0:Nat):Int)-(1:Int))=(((x0-1):Nat):Int)):=by omega
theorem oQe16{x0:Nat}{x1:Nat}{x2:Nat}(h0:(x0≤x1))(h1:(¬(x2<x1))):((x0-x2)=0):=Nat.sub_eq_zero_of_le (Nat.le_trans h0 (Nat.le_of_not_lt h1))
theorem oQe17{x0:Nat}{x1:Nat}(h0:(x0<x1)):(((x1-1)+1)=(max x0 x1)):=(Nat.sub_add_cancel (Nat.zero_lt_of_lt h0)).trans (Nat.max_eq_right (Nat.le_of_lt h0)).symm
theorem oQe18{x0:Nat}{x1:Nat}(h0:(x0<x1)):((x0+((x1-x0)-1))=(x1-1)):=by
 rw[Nat.sub_right_comm]
 exact Nat.add_sub_cancel' (Nat.le_sub_one_of_lt h0)
theorem oQe19{x0:Nat}{x1:Nat}{x2:Nat}(h0:(x0≤x1))(h1:(¬((x2<x0)∧(x0=x1))))(h2:(x2<x0)):(((x0-1)+1)<x1):=by
 rw[Nat.sub_add_cancel (Nat.zero_lt_of_lt h2)]
 exact Nat.lt_of_le_of_ne h0 fun e=>h1 ⟨h2,e⟩
theorem oQe20{x0:Nat}{x1:Nat}{x2:Nat}(h0:(x0≤x1))(h1:(x2<x0)):((x0-1)<x1):=by omega
theorem oQe21{x0:Nat}{x1:Nat}:(x0≤(max x1 x0)):=Nat.le_max_right _ _
theorem oQe22{x0:Nat}{x1:Nat}(h0:((x0-x1)=0)):((max x1 x0)=x1):=Nat.max_eq_left (Nat.le_of_sub_eq_zero h0)
theorem oQe23{x0:Nat}{x1:Nat}{x2:Nat}(h0:(x0≤x1))(h1:(x2<x1))(h2:(¬((x2<x0)∧(x0=x1)))):((max x2 x0)<x1):=Nat.max_lt.mpr ⟨h1,Nat.lt_of_le_of_ne h0 fun e=>h2 ⟨e▸h1,e⟩⟩
theorem oQe24{x0:Nat}{x1:Nat}{x2:Nat}(h0:(x0≤4))(h1:(x1≤x0))(h2:(¬((x2<x1)∧(x1=x0)))):((x1-x2)≤3):=by omega
theorem oQe25{x0:Nat}{x1:Nat}(h0:((max x0 x1)<x1)):False:=by omega
theorem oQe26{x0:Nat}{x1:Nat}{x2:Nat}(h0:((x0<x1)∧(x1=x2))):(((x1-1)+1)=x2):=by
 obtain⟨h,rfl⟩:=h0
 exact Nat.sub_add_cancel (Nat.zero_lt_of_lt h)
theorem oQe27{x0:Nat}{x1:Nat}{x2:Nat}(h0:((x0<x1)∧(x1=x2))):(¬(((x1-1)+1)<x2)):=by
 obtain⟨h,rfl⟩:=h0
 rw[Nat.sub_add_cancel (Nat.zero_lt_of_lt h)]
 exact Nat.lt_irrefl _
theorem oQe28{x0:Nat}{x1:Nat}{x2:Nat}(h0:((x0<x1)∧(x1=x2))):((x1-1)<x2):=by omega
theorem oQe29{x0:Nat}{x1:Nat}{x2:Nat}(h0:((x0<x1)∧(x1=x2))):(0<(x1-x0)):=Nat.sub_pos_of_lt h0.1
theorem oQe30{x0:Nat}{x1:Nat}(h0:(((x0-x1)-1)<(x0-x1))):(x1<x0):=by omega
theorem oQe31{x0:Nat}{x1:Nat}{x2:Nat}(h0:((x0+1)<(x1-x2))):(((x1-1)-x0)=(((x1-1)-(x0+1))+1)):=by
 rw[Nat.sub_add_eq (x1-1) x0 1]
 exact(Nat.sub_add_cancel (Nat.sub_pos_of_lt (Nat.lt_sub_of_add_lt (Nat.lt_of_lt_of_le h0 (Nat.sub_le _ _))))).symm
theorem oQe32{x0:Nat}{x1:Nat}{x2:Nat}{x3:Nat}(h0:(x0≤x1))(h1:((x2+1)<(x0-x3))):(((x0-1)-(x2+1))<x1):=Nat.lt_of_le_of_lt (Nat.sub_le _ _) (Nat.lt_of_lt_of_le (Nat.sub_lt (Nat.lt_of_lt_of_le (Nat.zero_lt_of_lt h1) (Nat.sub_le _ _)) Nat.one_pos) h0)
theorem oQe33{x0:Nat}{x1:Nat}{x2:Nat}{x3:Nat}(h0:(x0≤x1))(h1:((x2+1)<(x0-x3))):(((x3+x2)+1)<x1):=Nat.lt_of_lt_of_le (Nat.add_comm (x2+1) x3▸Nat.add_lt_of_lt_sub h1:x3+(x2+1)<x0) h0
theorem oQe34{x0:Nat}{x1:Nat}{x2:Nat}{x3:Nat}(h0:(x0≤x1))(h1:((x2+1)<(x0-x3))):((x3+x2)<x1):=by omega
theorem oQe35{x0:Nat}{x1:Nat}{x2:Nat}(h0:((x0+1)<(x1-x2))):(x0<(x1-x2)):=by omega
theorem oQe36{x0:Nat}{x1:Nat}{x2:Nat}(h0:((x0≤x1)∧(x1<x2))):(¬(x1<x0)):=by omega
theorem oQe37{x0:Nat}{x1:Nat}{x2:Nat}(h0:((x0≤x1)∧(x1<x2))):(¬(x2≤x1)):=by omega
theorem oQe38{x0:Nat}{x1:Nat}{x2:Nat}{x3:Nat}(h0:(x0≤x1))(h1:((x2≤x3)∧(x3<x0))):(x3<x1):=Nat.lt_of_lt_of_le h1.2 h0
theorem oQe39{x0:Nat}{x1:Nat}{x2:Nat}(h0:(¬(x0<(x1-x2)))):((x1-x2)≤x0):=by omega
theorem oQe40{x0:Nat}(h0:(x0≤4)):(x0<5):=by omega
theorem oQe41{x0:Nat}{x1:Nat}{x2:Nat}(h0:(x0<(x1-x2))):((x2≤((x1-1)-x0))∧(((x1-1)-x0)<x1)):=⟨Nat.le_sub_of_add_le (Nat.le_sub_one_of_lt (Nat.add_comm x0 x2▸Nat.add_lt_of_lt_sub h0)),Nat.lt_of_le_of_lt (Nat.sub_le _ _) (Nat.sub_lt (Nat.zero_lt_of_lt (Nat.add_lt_of_lt_sub h0)) Nat.one_pos)⟩
theorem oQe42{x0:Nat}{x1:Nat}{x2:Nat}(h0:(x0<(x1-x2))):((x2≤(x2+x0))∧((x2+x0)<x1)):=⟨Nat.le_add_right _ _,Nat.add_comm x0 x2▸Nat.add_lt_of_lt_sub h0⟩
noncomputable def posB(bk:Bool)(s t i:Nat):Nat:=match bk with
 |false=>s+i
 |true=>t-1-i
noncomputable def posL(bk:Bool)(s t:Nat):List Nat:=(List.range (t-s)).map (posB bk s t)
theorem posL_get{bk:Bool}{s t i:Nat}(h:i<t-s):(posL bk s t)[i]?=some (posB bk s t i):=by
 unfold posL;rw[List.getElem?_map,List.getElem?_range h];rfl
theorem posL_mem{bk:Bool}{s t p:Nat}(h:p∈posL bk s t):s≤p∧p<t:=by
 unfold posL at h
 obtain⟨i,hi,rfl⟩:=List.mem_map.mp h
 have hi:=List.mem_range.mp hi
 cases bk
 ·show s≤s+i∧s+i<t;exact oQe42 hi
 ·show s≤t-1-i∧t-1-i<t;exact oQe41 hi
theorem posL_all:((List.range 5).all fun s=>(List.range 5).all fun t=>(posL false s t==List.range' s (t-s))&&((posL true s t).reverse==List.range' s (t-s)))=true:=by decide+kernel
theorem posL_due(bk:Bool){s t:Nat}(hs:s≤4)(ht:t≤4):(@Bool.rec (fun _=>List Nat) (posL bk s t) (posL bk s t).reverse bk)=List.range' s (t-s):=by
 have h:=List.all_eq_true.mp (List.all_eq_true.mp posL_all s (List.mem_range.mpr (by exact oQe40 hs))) t (List.mem_range.mpr (by exact oQe40 ht))
 obtain⟨h1,h2⟩:=Bool.and_eq_true_iff.mp h
 cases bk
 ·exact beq_iff_eq.mp h1
 ·exact beq_iff_eq.mp h2
section
variable{w:World}{P:Params}{b1 b2:Bool}(hP:w.params=parT P b1 b2)(nt:Nat){W:Wo}{rows:List Rd}{down:Bool}{q:List Nat}{tk:Nat→Tok}(H:WIs W rows down q tk)(hn:rows.length≤4)(hq:q.length=rows.length)(hb:∀i∈q,i<rows.length)
include H hn hq hb hP
theorem run_ok(lo hi:Option Bi)(hl hh bk:Bool){s t:Nat}(L:Lim rows down q lo hi hl hh s t)(Q:Oq)(tB tK:Tok):
  LgOk w P b1 b2 nt (shOf (lo.map Bi.bd) (hi.map Bi.bd) hl hh bk) W Q tB tK ((posL bk s t).map (rrOf W rows q tk)):=by
 have S0:=hs_ok hP nt H hn hq hb lo hi hl hh bk L Q tK
 have I0:=fun{j} hj b hb'=>hi_ok hP nt H hn hq hb lo hi hl hh bk L Q (j:=j) hj b hb'
 have nI:notE (shOf (lo.map Bi.bd) (hi.map Bi.bd) hl hh bk).nmI:=by cases bk<;>exact nmI_ok _ _
 have s4:=L.s4
 have t4:=L.t4
 have lg:∀i,((posL bk s t).map (rrOf W rows q tk))[i]?=if i<t-s then some (rrOf W rows q tk (posB bk s t i))else none:=by
  intro i
  rw[List.getElem?_map]
  by_cases h:i<t-s
  ·rw[posL_get h,if_pos h];rfl
  ·rw[if_neg h,List.getElem?_eq_none (by unfold posL;rw[List.length_map,List.length_range];exact oQe39 h)];rfl
 have ll:((posL bk s t).map (rrOf W rows q tk)).length=t-s:=by unfold posL;rw[List.length_map,List.length_map,List.length_range]
 have R0:∀r∈(posL bk s t).map (rrOf W rows q tk),RrOk w P b1 b2 nt W r:=by
  intro r hr
  obtain⟨p,hp,rfl⟩:=List.mem_map.mp hr
  have:=posL_mem hp
  exact rr_ok hP nt H hn hq hb (by exact oQe38 t4 this)
 have I1:∀r∈(posL bk s t).map (rrOf W rows q tk),(shOf (lo.map Bi.bd) (hi.map Bi.bd) hl hh bk).hi w P b1 b2 nt W Q r.j false:=by
  intro r hr
  obtain⟨p,hp,rfl⟩:=List.mem_map.mp hr
  have:=posL_mem hp
  refine I0 (j:=p) (by exact oQe38 t4 this) false ?_
  cases bk
  ·show decide (t≤p)=false;rw[decide_eq_false_iff_not];exact oQe37 this
  ·show decide (p<s)=false;rw[decide_eq_false_iff_not];exact oQe36 this
 have N0:∀i a b,((posL bk s t).map (rrOf W rows q tk))[i]?=some a→((posL bk s t).map (rrOf W rows q tk))[i+1]?=some b→(shOf (lo.map Bi.bd) (hi.map Bi.bd) hl hh bk).hn w P b1 b2 nt W Q a.j b.j true:=by
  intro i a b ea eb
  rw[lg]at ea eb
  by_cases h:i+1<t-s
  ·rw[if_pos (by exact oQe35 h)]at ea
   rw[if_pos h]at eb
   cases ea;cases eb
   cases bk
   ·have z:=next_ok hP nt H hn hq hb Q.O.n (shOf (lo.map Bi.bd) (hi.map Bi.bd) hl hh false).top (shOf (lo.map Bi.bd) (hi.map Bi.bd) hl hh false).n (j:=s+i) (by exact oQe34 t4 h)
    rw[decide_eq_true (by exact oQe33 t4 h)]at z
    exact z
   ·have z:=prev_y hP nt H hn hq hb Q.O.n (shOf (lo.map Bi.bd) (hi.map Bi.bd) hl hh true).top (shOf (lo.map Bi.bd) (hi.map Bi.bd) hl hh true).n (j:=t-1-(i+1)) (by exact oQe32 t4 h)
    have e:t-1-i=t-1-(i+1)+1:=by exact oQe31 h
    show HNext w P b1 b2 nt W Q.O.n nmPrev _ _ (t-1-i) ((t-1-(i+1):Nat):Int) true
    rw[e]
    exact z
  ·rw[if_neg h]at eb;cases eb
 have la:∀r,((posL bk s t).map (rrOf W rows q tk)).getLast?=some r→s<t∧r.j=posB bk s t (t-s-1):=by
  intro r hr
  rw[List.getLast?_eq_getElem?,ll,lg]at hr
  by_cases h:t-s-1<t-s
  ·rw[if_pos h]at hr;cases hr;exact⟨by exact oQe30 h,rfl⟩
  ·rw[if_neg h]at hr;cases hr
 cases bk with
 |false=>
  by_cases h1:s<rows.length
  ·have S0:(shOf (lo.map Bi.bd) (hi.map Bi.bd) hl hh false).hs w P b1 b2 nt W Q tK (s:Nat) true:=by
    have z:(shOf (lo.map Bi.bd) (hi.map Bi.bd) hl hh false).hs w P b1 b2 nt W Q tK (s:Nat) (decide (s<rows.length)):=S0
    rw[decide_eq_true h1]at z;exact z
   by_cases h2:s<t∧t=rows.length
   ·refine lgN hP nt H.ok _ nI Q tB tK _ (by rw[ll];exact oQe14 hn t4) R0 I1 N0 (rrOf W rows q tk s) (by rw[lg,if_pos (by exact oQe29 h2)];rfl) S0 (rows.length:Nat) fun r hr=> ?_
    obtain⟨h3,h4⟩:=la r hr
    have z:=next_ok hP nt H hn hq hb Q.O.n (shOf (lo.map Bi.bd) (hi.map Bi.bd) hl hh false).top (shOf (lo.map Bi.bd) (hi.map Bi.bd) hl hh false).n (j:=t-1) (by exact oQe28 h2)
    rw[decide_eq_false (by exact oQe27 h2)]at z
    have e:posB false s t (t-s-1)=t-1:=by show s+(t-s-1)=t-1;exact oQe18 h3
    rw[h4,e]
    rw[show t-1+1=rows.length by exact oQe26 h2]at z
    exact z
   ·have he:(hi.map Bi.bd).isSome=true:=by
     cases hi with
     |some b=>rfl
     |none=>
      have z:true=decide ((max s t)<t):=L.b (max s t) (by exact oQe23 t4 h1 h2)
      have:=of_decide_eq_true z.symm
      exact(oQe25 this).elim
    have he:(shOf (lo.map Bi.bd) (hi.map Bi.bd) hl hh false).ed.isSome=true:=by
     show((hi.map Bi.bd).map Bd.pt).isSome=true
     rw[Option.isSome_map];exact he
    refine lgI hP nt H.ok _ nI Q tB tK _ (by rw[ll];exact oQe24 hn t4 h2) he R0 I1 N0 s (fun r hr=> ?_) S0 (max s t) (fun e=> ?_) (I0 (by exact oQe23 t4 h1 h2) _ ?_) fun r hr=> ?_
    ·rw[lg]at hr
     by_cases h:0<t-s
     ·rw[if_pos h]at hr;cases hr;rfl
     ·rw[if_neg h]at hr;cases hr
    ·have:=congrArg List.length e
     rw[ll]at this
     simp only[List.length_nil]at this
     exact oQe22 this
    ·show decide (t≤max s t)=true
     exact decide_eq_true (by exact oQe21)
    ·obtain⟨h3,h4⟩:=la r hr
     have z:=next_ok hP nt H hn hq hb Q.O.n (shOf (lo.map Bi.bd) (hi.map Bi.bd) hl hh false).top (shOf (lo.map Bi.bd) (hi.map Bi.bd) hl hh false).n (j:=t-1) (by exact oQe20 t4 h3)
     rw[decide_eq_true (by exact oQe19 t4 h2 h3)]at z
     have e:posB false s t (t-s-1)=t-1:=by show s+(t-s-1)=t-1;exact oQe18 h3
     rw[h4,e]
     rw[show t-1+1=max s t by exact oQe17 h3]at z
     exact z
  ·have S0:(shOf (lo.map Bi.bd) (hi.map Bi.bd) hl hh false).hs w P b1 b2 nt W Q tK (s:Nat) false:=by
    have z:(shOf (lo.map Bi.bd) (hi.map Bi.bd) hl hh false).hs w P b1 b2 nt W Q tK (s:Nat) (decide (s<rows.length)):=S0
    rw[decide_eq_false h1]at z;exact z
   have e:(posL false s t).map (rrOf W rows q tk)=[]:=List.eq_nil_of_length_eq_zero (by rw[ll];exact oQe16 t4 h1)
   rw[e]
   exact lgS hP nt _ nI Q tB tK _ S0
 |true=>
  by_cases h1:0<t
  ·have S0:(shOf (lo.map Bi.bd) (hi.map Bi.bd) hl hh true).hs w P b1 b2 nt W Q tK ((t-1:Nat):Int) true:=by
    have z:(shOf (lo.map Bi.bd) (hi.map Bi.bd) hl hh true).hs w P b1 b2 nt W Q tK ((t:Int)-1) (decide (0<t)):=S0
    rw[decide_eq_true h1]at z
    have e:((t:Int)-1)=((t-1:Nat):Int):=by exact oQe15 h1
    rw[e]at z;exact z
   by_cases h2:s<t∧s=0
   ·refine lgN hP nt H.ok _ nI Q tB tK _ (by rw[ll];exact oQe14 hn t4) R0 I1 N0 (rrOf W rows q tk (t-1)) (by rw[lg,if_pos (by exact oQe13 h2)];rfl) S0 (-1) fun r hr=> ?_
    obtain⟨h3,h4⟩:=la r hr
    have e:posB true s t (t-s-1)=0:=by show t-1-(t-s-1)=0;exact oQe12 h2
    rw[h4,e]
    exact prev_n hP nt H hn hq hb Q.O.n _ _
   ·have he:(lo.map Bi.bd).isSome=true:=by
     cases lo with
     |some b=>rfl
     |none=>
      have z:true=decide (s≤min (s-1) (t-1)):=L.a (min (s-1) (t-1)) (by exact oQe9 t4 h1)
      have:=of_decide_eq_true z.symm
      exact(oQe11 h1 h2 this).elim
    have he:(shOf (lo.map Bi.bd) (hi.map Bi.bd) hl hh true).ed.isSome=true:=by
     show((lo.map Bi.bd).map Bd.pt).isSome=true
     rw[Option.isSome_map];exact he
    refine lgI hP nt H.ok _ nI Q tB tK _ (by rw[ll];exact oQe10 hn t4 h2) he R0 I1 N0 (t-1) (fun r hr=> ?_) S0 (min (s-1) (t-1)) (fun e=> ?_) (I0 (by exact oQe9 t4 h1) _ ?_) fun r hr=> ?_
    ·rw[lg]at hr
     by_cases h:0<t-s
     ·rw[if_pos h]at hr;cases hr;rfl
     ·rw[if_neg h]at hr;cases hr
    ·have:=congrArg List.length e
     rw[ll]at this
     simp only[List.length_nil]at this
     exact oQe8 this
    ·show decide (min (s-1) (t-1)<s)=true
     exact decide_eq_true (by exact oQe7 h1 h2)
    ·obtain⟨h3,h4⟩:=la r hr
     have z:=prev_y hP nt H hn hq hb Q.O.n (shOf (lo.map Bi.bd) (hi.map Bi.bd) hl hh true).top (shOf (lo.map Bi.bd) (hi.map Bi.bd) hl hh true).n (j:=s-1) (by exact oQe6 t4 h3)
     have e:posB true s t (t-s-1)=s-1+1:=by show t-1-(t-s-1)=s-1+1;exact oQe5 h2 h3
     rw[h4,e,show min (s-1) (t-1)=s-1 by exact oQe4 h3]
     exact z
  ·have S0:(shOf (lo.map Bi.bd) (hi.map Bi.bd) hl hh true).hs w P b1 b2 nt W Q tK ((t:Int)-1) false:=by
    have z:(shOf (lo.map Bi.bd) (hi.map Bi.bd) hl hh true).hs w P b1 b2 nt W Q tK ((t:Int)-1) (decide (0<t)):=S0
    rw[decide_eq_false h1]at z;exact z
   have e:(posL true s t).map (rrOf W rows q tk)=[]:=List.eq_nil_of_length_eq_zero (by rw[ll];exact oQe3 h1)
   rw[e]
   exact lgS hP nt _ nI Q tB tK _ S0
omit H hP in
theorem due_eq(lo hi:Option Bi)(hl hh:Bool){s t:Nat}(L:Lim rows down q lo hi hl hh s t):
  dueK (rows.map Rd.rw) (lo.map Bi.bd) (hi.map Bi.bd) hl hh (sgB down) q=(List.range' s (t-s)).map fun p=>(q.getD p 0,rowX rows (q.getD p 0),rowY rows (q.getD p 0)):=by
 have e:q=(List.range rows.length).map fun p=>q.getD p 0:=by
  apply List.ext_getElem?
  intro i
  rw[List.getElem?_map]
  by_cases h:i<rows.length
  ·rw[List.getElem?_range h,List.getElem?_eq_getElem (by exact oQe2 hq h)]
   show _=some (q.getD i 0)
   rw[List.getD_eq_getElem?_getD,List.getElem?_eq_getElem (by exact oQe2 hq h)];rfl
  ·rw[List.getElem?_eq_none (by exact oQe1 hq h),List.getElem?_eq_none (by rw[List.length_range];exact oQe0 h)];rfl
 rw[←range_at hn L.s4 L.t4]
 unfold dueK
 conv=>lhs;rw[e]
 rw[List.filterMap_map]
 have g:∀l:List Nat,(∀p∈l,p<rows.length)→l.filterMap ((fun j=>match(rows.map Rd.rw)[j]? with
   |some R=>@Bool.rec (fun _=>Option (Nat×Value×Value)) none (some (j,R.x,R.y)) (apB (lo.map Bi.bd) (hi.map Bi.bd) hl hh (sgB down) R)
   |none=>none)∘fun p=>q.getD p 0)=(l.filter fun p=>decide (s≤p)&&decide (p<t)).map fun p=>(q.getD p 0,rowX rows (q.getD p 0),rowY rows (q.getD p 0)):=by
  intro l
  induction l with
  |nil=>exact fun _=>rfl
  |cons p l ih=>
   intro hp
   have ih:=ih fun x hx=>hp x (List.mem_cons_of_mem _ hx)
   have hp:=hp p List.mem_cons_self
   have hr:=qd hq hb hp
   have ea:=L.a p hp
   have eb:=L.b p hp
   have ex:rowX rows (q.getD p 0)=rows[q.getD p 0].x.pv.val rows[q.getD p 0].tx:=by unfold rowX;rw[List.getElem?_eq_getElem hr]
   have ey:rowY rows (q.getD p 0)=rows[q.getD p 0].y.pv.val rows[q.getD p 0].ty:=by unfold rowY;rw[List.getElem?_eq_getElem hr]
   have ek:keyP down rows q p=sgB down*(rows[q.getD p 0].y.rk:Nat):=by unfold keyP keyOf yOf;rw[List.getElem?_eq_getElem hr]
   have hap:apB (lo.map Bi.bd) (hi.map Bi.bd) hl hh (sgB down) rows[q.getD p 0].rw=(decide (s≤p)&&decide (p<t)):=by
    show(abvB _ _ _ (sgB down*(rows[q.getD p 0].y.rk:Nat))&&blwB _ _ _ (sgB down*(rows[q.getD p 0].y.rk:Nat)))=_
    rw[←ek,ea,eb]
   rw[List.filterMap_cons,List.filter_cons]
   have hm:(rows.map Rd.rw)[q.getD p 0]?=some rows[q.getD p 0].rw:=by rw[List.getElem?_map,List.getElem?_eq_getElem hr];rfl
   simp only[Function.comp]at ih ⊢
   rw[hm]
   simp only[hap]
   cases hc:(decide (s≤p)&&decide (p<t))with
   |false=>simpa using ih
   |true=>
    simp only[if_true,List.map_cons]
    rw[ih,ex,ey]
    rfl
 exact g _ fun p hp=>List.mem_range.mp hp
end
theorem oLb0{x0:Nat}{x1:Nat}(h0:(x0≤8600))(h1:(x1≤60)):((x0+(min x1 x1))<9900):=Nat.lt_of_le_of_lt (Nat.add_le_add h0 (Nat.le_trans (Nat.min_le_left _ _) h1)) (by decide)
theorem oLb1{x0:Nat}{x1:Nat}(h0:((x0+(48*x1))≤(8500+(4*(0+1))))):(x0≤8600):=Nat.le_trans (Nat.le_add_right _ _) (Nat.le_trans h0 (by decide))
section
variable{prog:Program}{w:World}{kt:KT}{nt:Nat}{A:Ar}{s:Shared}{C:Con}
theorem cmp_own{l r:PySem.Expr}{ps pos:Pos}{env:Env}(hT:TOk prog w kt nt (cmpR l r ps pos env) C){c:Code}(hc:C.code=c){need:Nat}(hr:Rm need 0 A)(hne:C.need≤need)(hp:PreOk kt nt C s)
  (hm:behindInMarks .Eq r=false) (hpl:((c.isGuard=false∧c.isCaller=false)∧c.frames≤1)∧nd c) (a:Addr) (b:(Nat→Nat)→Addr) (hv:∀X,C.val X=.int (Int.ofNat a) (b X)) {Q:Flow→Shared→Prop} {E:Value→Shared→Prop}
  (h:∀X h' t',PostOk C s.heap h' X→(∃d as bs,Reads h' (.ref a) d as∧Reads h' (.ref (b X)) d bs∧d.canLay0=true∧d.depth≤60)∧Q (.ret (.bool true)) ⟨h',gensAfter C s.gens,s.drawn,t',s.os⟩):
  wpOwn (model prog w) A c (execs [.Return (some (.Compare l [.Eq] [r] ps)) pos] env) Q E s:=by
 subst hc
 intro Γ p hcΓ hΓ
 have hu:(A.under C.code).units≤8600:=by have:=(hr.under hpl).un;exact oLb1 this
 let K:Nat→Nat→Shared→Prop:=fun x y s'=>PySem.wpAny (model prog w) (A.under C.code).a (compareOp .Eq (.ref x) (.ref y)) (fun v s''=>v=.bool true∧Q (.ret (.bool true)) s'') (fun _ _=>False) s'
 have z:=hT A s (fun r s'=>match r with|.ok (.ret (.int (.ofNat x) y))=>K x y s'|_=>False) (hr.le hne) hp (fun X h' t' P'=>by
  obtain⟨⟨d,as,bs,h1,h2,h3,h4⟩,h5⟩:=h X h' t' P'
  rw[hv]
  show K a (b X) _
  refine SeqAt.compareEq_reads (s:=⟨h',gensAfter C s.gens,s.drawn,t',s.os⟩) h1 h2 h3 h3 ?_ ?_
  ·show(A.under C.code).units+min d.depth d.depth<9900
   exact oLb0 hu h4
  ·rw[SeqAt.eqv_refl d h3]
   exact⟨rfl,h5⟩) Γ p hcΓ hΓ
 unfold cmpR at z
 have hin:Γ.In (A.under C.code).a:=by rw[←hcΓ];exact hΓ.1.in
 rw[execs,arm_exec_Return]
 rw[Sem.wp_bind']
 rw[Sem.wp_bind']
 rw[bindR_wp]at z
 refine Sem.wp_mono _ _ _ (fun _ p1 s1 z=> ?_) (fun _ _ _ q=>q.elim) p s z
 rw[bindR_wp,←PySem.W.Fast.te14044960220447912780]at z
 show Sem.wp (model prog w) Γ ((eval (.Compare l [.Eq] [r] ps) env) >>= fun x=>(pure (Flow.ret x):Sem Flow)) _ _ p1 s1
 rw[Sem.wp_bind',arm_eval_Compare,Sem.wp_bind']
 refine Sem.wp_mono _ _ _ (fun lv p2 s2 z=> ?_) (fun _ _ _ q=>q.elim) p1 s1 z
 rw[bindR_wp]at z
 have em:markedEach [.Eq] [r] (evalEach [r] env)=[eval r env]:=by
  show[markedBehindIn .Eq r (eval r env)]=_
  unfold markedBehindIn
  rw[hm]
 rw[em]
 show Sem.wp (model prog w) Γ ((holding [lv] (eval r env)) >>= fun rv=>standAt ps >>= fun _=>operate [lv,rv] (compareOp .Eq lv rv)) _ _ p2 s2
 rw[Sem.wp_bind']
 rw[←PySem.W.Fast.te17359229931016689406]at z
 refine Sem.wp_mono _ _ _ (fun rv p3 s3 z=> ?_) (fun _ _ _ q=>q.elim) p2 s2 z
 rw[bindR_wp]at z
 rw[Sem.wp_bind']
 refine Sem.wp_mono _ _ _ (fun _ p4 s4 z=> ?_) (fun _ _ _ q=>q.elim) p3 s3 z
 have key:∃x y,lv=.ref x∧rv=.ref y∧K x y s4:=by
  cases lv with
  |ref x=>cases rv with
   |ref y=>exact⟨_,_,rfl,rfl,z⟩
   |_=>exact False.elim z
  |_=>exact False.elim z
 obtain⟨x,y,rfl,rfl,k⟩:=key
 unfold operate
 rw[Sem.wp_bind',Sem.wp_holding]
 refine Sem.wp_mono _ _ _ (fun v p5 s5 q=> ?_) (fun _ _ _ q=>q.elim) p4 s4 (k Γ p4 hin)
 obtain⟨rfl,q⟩:=q
 show Sem.wp (model prog w) Γ ((holding [.ref y,.bool true] point >>= fun _=>(pure ():Sem Unit)) >>= fun _=>(pure (.bool true):Sem Value)) _ _ p5 s5
 rw[Sem.wp_bind',Sem.wp_bind',Sem.wp_holding]
 exact q
end
theorem con_frame{prog:Program}{w:World}{kt:KT}{nt:Nat}{C:Con}(hj:C.jump=false)(h:ConOk prog w kt nt C)(hl:∀X,C.pre.length=(C.post X).length)(F pre':List (Addr×Obj))(post':(Nat→Nat)→List Obj)(hp:pre'.Perm (C.pre++F))(hl':∀X,pre'.length=(post' X).length)
  (hq:∀X,(zpL C.pre (C.post X)++F).Perm (zpL pre' (post' X))):ConOk prog w kt nt {C with pre:=pre',post:=post'}:=by
 obtain⟨code,pre,val,post,new,need,g,jump,seg⟩:=C
 have hj:jump=false:=hj
 subst hj
 intro A s R hr P hR
 have S:=Hs.start P
 have S':Hs kt nt s.heap (pre'.map (·.1)) (pre++F) s.heap:=S.perm hp
 refine h A s R hr (S'.preP rfl fun g hg=>P.gens g hg) fun X h' t' P'=> ?_
 have S2:=S'.stepP (hl X) P'
 refine hR X h' t' (Hs.postP (C:=⟨code,pre',val,post',new,need,g,false,seg⟩) (F:=[]) S2 ?_ (hl' X))
 show List.Perm _ (zpL pre' (post' X)++(nwL X (new X) 0++[]))
 rw[List.append_nil,←List.append_assoc]
 exact(hq X).append (List.Perm.refl _)
noncomputable def rtAll(l:List (Str×Nat×Bool))(w:World)(ca ma:Addr):Prop:=∀x∈l,∀t,look (.str x.1 t) (rtEs w ca ma rtNames)=some (some x.2.1)∧orN (valAt (rtEs w ca ma rtNames) (some x.2.1))=.ref (@Bool.rec (fun _=>Addr) ma ca x.2.2)
theorem rt_at(w:World)(ca ma:Addr)(e:Rn)(h1:e.es=(rtEs w ca ma rtNames).toArray){nm:Str}{i:Nat}{pa:Addr}(hl:∀t,look (.str nm t) (rtEs w ca ma rtNames)=some (some i))(hv:orN (valAt (rtEs w ca ma rtNames) (some i))=.ref pa):RouteIs e.rto nm pa:=by
 refine⟨(rtEs w ca ma rtNames).toArray,some i,?_,fun t=>hl t,hv⟩
 show dcOf {cls:=.type "dict",data:=.dict e.es e.ep}=_
 rw[h1]
 rfl
theorem ri_ok(w:World)(lo hi:Option Bd)(hl hh bk:Bool){W:Wo}{R:Rn}(h1:R.es=(rtEs w W.C.a W.M.a rtNames).toArray):RiOk (shOf lo hi hl hh bk) W R:=by
 have at_:=fun{nm i pa} hl hv=>rt_at w W.C.a W.M.a R h1 (nm:=nm) (i:=i) (pa:=pa) hl hv
 have f:RouteIs R.rto nmSeekFromIdx W.M.a:=at_ (i:=33) (fun t=>by kernel_rfl) (by kernel_rfl)
 have r:RouteIs R.rto nmRowid W.M.a:=at_ (i:=36) (fun t=>by kernel_rfl) (by kernel_rfl)
 have c:RouteIs R.rto nmColumn W.M.a:=at_ (i:=35) (fun t=>by kernel_rfl) (by kernel_rfl)
 have v:RouteIs R.rto nmValue W.C.a:=at_ (i:=9) (fun t=>by kernel_rfl) (by kernel_rfl)
 have c0:RouteIs R.rto nmIdxGT W.M.a:=at_ (i:=23) (fun t=>by kernel_rfl) (by kernel_rfl)
 have c1:RouteIs R.rto nmIdxGE W.M.a:=at_ (i:=24) (fun t=>by kernel_rfl) (by kernel_rfl)
 have c2:RouteIs R.rto nmIdxLT W.M.a:=at_ (i:=25) (fun t=>by kernel_rfl) (by kernel_rfl)
 have c3:RouteIs R.rto nmIdxLE W.M.a:=at_ (i:=26) (fun t=>by kernel_rfl) (by kernel_rfl)
 have hI:RouteIs R.rto (shOf lo hi hl hh bk).nmI W.M.a:=by
  cases bk<;>cases hl<;>cases hh<;>first|exact c0|exact c1|exact c2|exact c3
 have a0:RouteIs R.rto nmRewind W.M.a∧notE nmRewind:=⟨at_ (i:=14) (fun t=>by kernel_rfl) (by kernel_rfl),by decide,by decide⟩
 have a1:RouteIs R.rto nmLast W.M.a∧notE nmLast:=⟨at_ (i:=15) (fun t=>by kernel_rfl) (by kernel_rfl),by decide,by decide⟩
 have a2:RouteIs R.rto nmSeekGE W.M.a∧notE nmSeekGE:=⟨at_ (i:=19) (fun t=>by kernel_rfl) (by kernel_rfl),by decide,by decide⟩
 have a3:RouteIs R.rto nmSeekGT W.M.a∧notE nmSeekGT:=⟨at_ (i:=20) (fun t=>by kernel_rfl) (by kernel_rfl),by decide,by decide⟩
 have a4:RouteIs R.rto nmSeekLE W.M.a∧notE nmSeekLE:=⟨at_ (i:=21) (fun t=>by kernel_rfl) (by kernel_rfl),by decide,by decide⟩
 have a5:RouteIs R.rto nmSeekLT W.M.a∧notE nmSeekLT:=⟨at_ (i:=22) (fun t=>by kernel_rfl) (by kernel_rfl),by decide,by decide⟩
 have hs:RouteIs R.rto (shOf lo hi hl hh bk).nm0 W.M.a∧notE (shOf lo hi hl hh bk).nm0:=by
  cases bk<;>cases hl<;>cases hh<;>cases lo<;>cases hi<;>first|exact a0|exact a1|exact a2|exact a3|exact a4|exact a5
 have d0:RouteIs R.rto nmNext W.M.a∧notE nmNext:=⟨at_ (i:=16) (fun t=>by kernel_rfl) (by kernel_rfl),by decide,by decide⟩
 have d1:RouteIs R.rto nmPrev W.M.a∧notE nmPrev:=⟨at_ (i:=17) (fun t=>by kernel_rfl) (by kernel_rfl),by decide,by decide⟩
 have hn:RouteIs R.rto (shOf lo hi hl hh bk).nmN W.M.a∧notE (shOf lo hi hl hh bk).nmN:=by
  cases bk<;>first|exact d0|exact d1
 exact⟨⟨f,r,c,v,hs.1,hn.1,hs.2,hn.2⟩,hI⟩
theorem keysR_get(sg:Int):∀(l:List Rw)(i j:Nat),(keysR sg l i)[j]?=l[j]?.map fun R=>(sg*R.r,((i+j+1:Nat):Int))
 |[],_,_=>by simp[keysR]
 |R::l,i,0=>by simp[keysR]
 |R::l,i,j+1=>by
  show(keysR sg l (i+1))[j]?=_
  rw[keysR_get sg l (i+1) j,List.getElem?_cons_succ,show i+1+j+1=i+(j+1)+1 by omega]
theorem so_rows{rows:List Rd}(hn:rows.length≤4){down:Bool}{π:List Nat}(O:Ord rows.length (keyOf down rows) π):SoOk (keysR (sgB down) (rows.map Rd.rw) 0) (ixs π rows.length):=by
 have hl:(keysR (sgB down) (rows.map Rd.rw) 0).length=rows.length:=by rw[keysR_len,List.length_map]
 have hk:∀i (h:i<(keysR (sgB down) (rows.map Rd.rw) 0).length),(keysR (sgB down) (rows.map Rd.rw) 0)[i]=(keyOf down rows i,((i+1:Nat):Int)):=by
  intro i h
  have h':i<rows.length:=by omega
  have e:=keysR_get (sgB down) (rows.map Rd.rw) 0 i
  rw[List.getElem?_eq_getElem h,List.getElem?_map,List.getElem?_eq_getElem h',Nat.zero_add]at e
  have e:=Option.some.inj e
  rw[e]
  unfold keyOf yOf
  rw[List.getElem?_eq_getElem h']
  rfl
 obtain⟨a1,a2,_⟩:=O.all hn
 refine⟨π,?_,fun i j hi hj=> ?_,?_,fun i hi=> ?_⟩
 ·rw[hl];exact O.mem
 ·rw[hk,hk];exact O.lt i j (by omega) (by omega)
 ·rw[hl];exact a1
 ·rw[hl];exact a2 i hi
noncomputable def It.dat:It→PyData
 |.n=>.none|.i0=>.int 0|.i1=>.int 1|.i2=>.int 2|.i3=>.int 3|.i4=>.int 4|.i5=>.int 5|.sa=>.str ⟨#[97]⟩|.sb=>.str ⟨#[98]⟩|.sB=>.str ⟨#[66]⟩
theorem reads_it(h:Heap)(x:It)(t:Tok):Reads h (x.pv.val t) x.dat []:=by cases x<;>constructor
noncomputable def tupD(r:Nat)(x y:It):PyData:=.tuple [.int ((r+1:Nat):Int),x.dat,y.dat]
theorem reads_tup{h:Heap}{a:Addr}{r:Nat}{t:Tok}{x y:It}{tx ty:Tok}(hg:h.get? a=some (tupObj #[.int ((r+1:Nat):Int) t,x.pv.val tx,y.pv.val ty])):Reads h (.ref a) (tupD r x y) []:=
 .tuple hg rfl rfl (.cons (as:=[]) (bs:=[]) (.int _ _) (.cons (as:=[]) (bs:=[]) (reads_it h x tx) (.cons (as:=[]) (bs:=[]) (reads_it h y ty) .nil)))
theorem reads_refs{h:Heap}:∀(as:List Addr)(ds:List PyData),as.length=ds.length→(∀(i:Nat)(a:Addr)(d:PyData),as[i]?=some a→ds[i]?=some d→Reads h (.ref a) d [])→ReadsAll h (as.map Value.ref) ds []
 |[],[],_,_=>.nil
 |a::as,d::ds,hl,H=>.cons (as:=[]) (bs:=[]) (H 0 a d rfl rfl) (reads_refs as ds (Nat.succ.inj hl) fun i a d e1 e2=>H (i+1) a d e1 e2)
 |[],_::_,hl,_=>nomatch hl
 |_::_,[],hl,_=>nomatch hl
theorem dat_can(x:It):x.dat.canLay0=true:=by cases x<;>first|rfl|decide+kernel
theorem tupD_can(r:Nat)(x y:It):(tupD r x y).canLay0=true:=by
 show(true&&(x.dat.canLay0&&(y.dat.canLay0&&true)))=true
 rw[dat_can,dat_can];rfl
theorem tupD_depth(r:Nat)(x y:It):(tupD r x y).depth≤1:=by cases x<;>cases y<;>exact Nat.le_of_ble_eq_true rfl
theorem all_can:∀(ds:List PyData),(∀d∈ds,d.canLay0=true)→PyData.canLayAll0 ds=true
 |[],_=>rfl
 |d::ds,h=>by
  show(d.canLay0&&PyData.canLayAll0 ds)=true
  rw[h d List.mem_cons_self,all_can ds fun x hx=>h x (List.mem_cons_of_mem _ hx)];rfl
theorem all_depth:∀(ds:List PyData),(∀d∈ds,d.depth≤1)→PyData.depthAll ds≤1
 |[],_=>Nat.zero_le _
 |d::ds,h=>by
  show max d.depth (PyData.depthAll ds)≤1
  have:=h d List.mem_cons_self
  have:=all_depth ds fun x hx=>h x (List.mem_cons_of_mem _ hx)
  omega
noncomputable def rowsD(rows:List Rd)(rs:List Nat):List PyData:=rs.map fun r=>tupD r (xOf rows r) (yOf rows r)
theorem rowsD_ok(rows:List Rd)(rs:List Nat):(PyData.list (rowsD rows rs)).canLay0=true∧(PyData.list (rowsD rows rs)).depth≤60:=by
 have h:∀d∈rowsD rows rs,∃r x y,d=tupD r x y:=fun d hd=>by
  unfold rowsD at hd
  obtain⟨r,_,rfl⟩:=List.mem_map.mp hd
  exact⟨_,_,_,rfl⟩
 refine⟨all_can _ fun d hd=> ?_,?_⟩
 ·obtain⟨r,x,y,rfl⟩:=h d hd;exact tupD_can r x y
 ·have:=all_depth (rowsD rows rs) fun d hd=>by obtain⟨r,x,y,rfl⟩:=h d hd;exact tupD_depth r x y
  show PyData.depthAll (rowsD rows rs)+1≤60
  omega
theorem due_pad{w:World}{P:Params}{b1 b2:Bool}(hP:w.params=parT P b1 b2)(nt:Nat)(rows:List Rd)(hn:rows.length≤4)(ro sp:Addr)(down ib hl hh:Bool)(lo hi:Option Bi)(en:Nat){π:List Nat}(O:Ord rows.length (keyOf down rows) π)
  (F:List (Addr×Obj)) (qs:List (Addr×Obj)) (hqs:qs.Perm ((rows.map fun R=>R.rw.o)++(optO (lo.map fun b=>b.bd.v)++optO (hi.map fun b=>b.bd.v))++F)):
  CO w P b1 b2 nt (cDup ro sp down ib ((rows.map fun R=>Value.ref R.a).toArray) en (spO hl hh (lo.map Bi.bd) (hi.map Bi.bd)) qs (dueK (rows.map Rd.rw) (lo.map Bi.bd) (hi.map Bi.bd) hl hh (sgB down) (ixs π rows.length))):=by
 have rk:∀(x:It),x.st=true→∀t,CO w P b1 b2 nt (cRk (x.pv.val t) (x.rk:Nat)):=fun x hx t=>by rw[pv_val];exact rank_ok hP nt x hx t
 have z:=due_ok hP nt ro sp down ib hl hh (lo.map Bi.bd) (hi.map Bi.bd) (fun b e t=>by
   obtain⟨c,_,rfl⟩:=Option.map_eq_some_iff.mp e
   exact rk c.x c.hx t) (fun b e t=>by
   obtain⟨c,_,rfl⟩:=Option.map_eq_some_iff.mp e
   exact rk c.x c.hx t) (rows.map Rd.rw) (by rw[List.length_map];exact hn) en (fun R hR t=>by
   obtain⟨c,_,rfl⟩:=List.mem_map.mp hR
   exact rk c.y c.hy t) (ixs π rows.length) (so_rows hn O)
 have e1:(rows.map Rd.rw).map (fun R=>Value.ref R.a)=rows.map fun R=>Value.ref R.a:=by rw[List.map_map];rfl
 have e2:(rows.map Rd.rw).map Rw.o=rows.map fun R=>R.rw.o:=by rw[List.map_map];rfl
 have e3:(lo.map Bi.bd).map Bd.v=lo.map fun b=>b.bd.v:=by rw[Option.map_map];rfl
 have e4:(hi.map Bi.bd).map Bd.v=hi.map fun b=>b.bd.v:=by rw[Option.map_map];rfl
 have y:=con_frame rfl z (fun X=>by simp only[cDue,List.length_cons,List.length_map]) F
  ((ro,lstObj ((rows.map fun R=>Value.ref R.a).toArray) en)::(sp,spO hl hh (lo.map Bi.bd) (hi.map Bi.bd))::qs) (fun _=>lstObj ((rows.map fun R=>Value.ref R.a).toArray) en::spO hl hh (lo.map Bi.bd) (hi.map Bi.bd)::qs.map (·.2)) ?_ (fun X=>by simp only[List.length_cons,List.length_map]) fun X=> ?_
 ·exact y
 ·unfold cDue
  rw[e1,e2,e3,e4]
  exact(hqs.cons _).cons _
 ·unfold cDue
  rw[e1,e2,e3,e4]
  show List.Perm ((ro,_)::(sp,_)::(zpL ((rows.map fun R=>R.rw.o)++(optO (lo.map fun b=>b.bd.v)++optO (hi.map fun b=>b.bd.v))) (((rows.map fun R=>R.rw.o)++(optO (lo.map fun b=>b.bd.v)++optO (hi.map fun b=>b.bd.v))).map (·.2))++F)) ((ro,_)::(sp,_)::zpL qs (qs.map (·.2)))
  rw[zpL_self,zpL_self]
  exact(hqs.symm.cons _).cons _
theorem oLa0{x0:Int}{x1:Nat}{x2:Nat}(h0:(((0:Int)≤x0)∧(x0<(5:Int))))(h1:(x1=(Int.toNat x0)))(h2:(x2=x1)):(x2≤4):=by omega
theorem oLa1{x0:Nat}{x1:Nat}{x2:Nat}(h0:(x0=x1))(h1:(¬(x2<x1))):(x0≤x2):=by omega
theorem oLa2{x0:Nat}{x1:Nat}(h0:(¬(x0<x1))):(x1≤x0):=Nat.le_of_not_lt h0
theorem oLa3{x0:Nat}{x1:Int}{x2:Nat}(h0:(x0=(Int.toNat x1)))(h1:(x2<x0)):(x2<(Int.toNat x1)):=by omega
theorem oLa4{x0:Int}(h0:(((0:Int)≤x0)∧(x0<(5:Int)))):(x0=(((Int.toNat x0):Nat):Int)):=by omega
theorem oLa5{x0:Int}{x1:Nat}(h0:(((0:Int)≤x0)∧(x0<(5:Int))))(h1:(x1=(Int.toNat x0))):(x1≤4):=by omega
theorem oLa6{x0:Nat}{x1:Nat}:(((x0+1)+x1)=(x0+(x1+1))):=Nat.add_right_comm x0 1 x1
theorem oLa7{x0:Int}(h0:(((0:Int)≤x0)∧(x0<(8:Int)))):(x0=(((Int.toNat x0):Nat):Int)):=by omega
theorem oLa8{x0:Int}(h0:(((0:Int)≤x0)∧(x0<(8:Int)))):((Int.toNat x0)<8):=by omega
noncomputable def frm(es:List DictEntry):Obj:=frmObj es.toArray es.length
theorem itJ_st(j:Nat):(itJ j).st=true:=by unfold itJ;split<;>rfl
noncomputable def rowO(R:Rd):Addr×Obj:=R.rw.o
noncomputable def biO(lo:Option Bi):List (Addr×Obj):=optO (lo.map fun b=>b.bd.v)
noncomputable def biV(lo:Option Bi):Value:=optV (lo.map fun b=>b.bd.v)
theorem tab{α:Type}(f:Nat→α)(n:Nat):∃l:List α,l.length=n∧∀i,i<n→l[i]?=some (f i):=
 ⟨(List.range n).map f,by rw[List.length_map,List.length_range],fun i h=>by rw[List.getElem?_map,List.getElem?_range h];rfl⟩
section
variable{w:World}{P:Params}{b1 b2:Bool}(hP:w.params=parT P b1 b2)(nt:Nat)
include hP
theorem lv_it(a:Addr)(s:Int×Int)(t0 t1:Tok)(e:Nat):CO w P b1 b2 nt (cLv a s.1 s.2 t0 t1 e (itJ (drw s.1 s.2 8).toNat).pv.val):=by
 have h:=drw_lo s.1 s.2 (k:=8) (by decide)
 rw[pv_val]
 exact lv_ok hP nt a s.1 s.2 t0 t1 e (drw s.1 s.2 8).toNat (by exact oLa8 h) (by exact oLa7 h)
omit hP in
theorem rwO_get(X:Nat→Nat)(c:Nat):∀(l:List (Pv×Pv))(i k:Nat),(rwO X c l i)[k]?=l[k]?.map fun x=>tupObj #[x.1.val (X (c+2*(i+k))),x.2.val (X (c+2*(i+k)+1))]
 |[],_,_=>by simp[rwO]
 |x::l,i,0=>by simp[rwO]
 |x::l,i,k+1=>by
  show(rwO X c l (i+1))[k]?=_
  rw[rwO_get X c l (i+1) k,List.getElem?_cons_succ,show i+1+k=i+(k+1) by exact oLa6]
variable{h₀:Heap}{A₀:List Addr}{L:List (Addr×Obj)}{A:Ar}{sh:Shared}{c:Code}{Q:Flow→Shared→Prop}{E:Value→Shared→Prop}
theorem l0_go(F:Lw)(vs:Array Value)(e:Nat)(hsz:vs.size<1000)(hv:vs= #[]∨∃c tc,vs[0]?=some (.int c tc))(hc:lawC (Kq P b1 b2) F.loc F.k1=c)(hr:Rm 12 0 A)(S:Hs (Kq P b1 b2) nt h₀ A₀ L sh.heap)(F':List (Addr×Obj))
  (hp:L.Perm ((F.loc,frm (F.e1 P))::(F.k1,cellE)::(F.scr,lstObj vs e)::F'))
  (h:∀(rows:List Rd)(src ro:Addr)(t1:Tok)(s':Int×Int)(u0 u1:Tok) h' t',rows.length≤4→Hs (Kq P b1 b2) nt h₀ A₀ ((F.loc,frm (({F with ro:=ro}:Lw).e1 P++[⟨hS P rowsS,.str rowsS t1,.ref ro⟩]))::(F.k1,cellObj (.ref src))::(F.scr,lstObj vs e)::(src,srcO s' u0 u1)::(ro,lstObj (rows.map fun R=>Value.ref R.a).toArray rows.length)::(rows.map rowO++F')) h'→Q .next ⟨h',sh.gens,sh.drawn,t',sh.os⟩):
  wpOwn (model pw w) A c (execs (((forBd (lawC (Kq P b1 b2) F.loc F.k1)).drop 0).take 2) (cEnv (lawC (Kq P b1 b2) F.loc F.k1))) Q E sh:=by
 obtain⟨p0,p1,_,Hp⟩:=pool_ok hP nt F.scr vs e hsz hv
 have hd:=drw_lo p0 p1 (k:=5) (by decide)
 let xs:Nat→It:=fun i=>itJ (drw (sR (p0,p1) i).1 (sR (p0,p1) i).2 8).toNat
 let ys:Nat→It:=fun i=>itJ (drw (nx 8 (sR (p0,p1) i)).1 (nx 8 (sR (p0,p1) i)).2 8).toNat
 obtain⟨l,hl,hlg⟩:=tab (fun i=>((xs i).pv,(ys i).pv)) (drw p0 p1 5).toNat
 have T:=l0_all hP nt F vs e (p0,p1) Hp l _ rfl (by exact oLa5 hd hl) (by rw[hl];show drw p0 p1 5=_;exact oLa4 hd) fun i p hp=>by
  have hi:=(List.getElem?_eq_some_iff.mp hp).1
  rw[hlg i (by exact oLa3 hl hi)]at hp
  cases hp
  exact fun a=>⟨fun t0 t1=>lv_it hP nt a _ t0 t1 0,fun t0 t1=>lv_it hP nt a _ t0 t1 0⟩
 refine S.blkP T hc hr (Nat.le_refl _) F' hp (fun _=>rfl) (fun _ e=>nomatch e) fun X h' t' S'=> ?_
 obtain⟨rows,hrl,hrg⟩:=tab (fun i=>(⟨X (2+i),xs i,X (l.length+5+2*i),ys i,X (l.length+5+2*i+1),itJ_st _,itJ_st _⟩:Rd)) l.length
 have e1:nwL X (rwO X (l.length+5) l 0) 2=rows.map rowO:=by
  apply List.ext_getElem?
  intro i
  rw[nwL_get,rwO_get,List.getElem?_map]
  by_cases hi:i<l.length
  ·rw[hlg i (by exact oLa3 hl hi),hrg i hi,Nat.zero_add]
   rfl
  ·rw[List.getElem?_eq_none (by exact oLa2 hi),List.getElem?_eq_none (by exact oLa1 hrl hi)];rfl
 have e2:refsX X 2 l.length=(rows.map fun R=>Value.ref R.a).toArray:=by
  unfold refsX
  congr 1
  apply List.ext_getElem?
  intro i
  rw[List.getElem?_map,List.getElem?_map]
  by_cases hi:i<l.length
  ·rw[List.getElem?_range hi,hrg i hi];rfl
  ·rw[List.getElem?_eq_none (by rw[List.length_range];exact oLa2 hi),List.getElem?_eq_none (by exact oLa1 hrl hi)];rfl
 refine h rows (X 0) (X 1) (X (l.length+2)) (sR (p0,p1) l.length) (X (l.length+3)) (X (l.length+4)) h' t' (by exact oLa0 hd hl hrl) ?_
 have S2:Hs (Kq P b1 b2) nt h₀ A₀ ((F.loc,frm (F.e1 P++[⟨hS P rowsS,.str rowsS (X (l.length+2)),.ref (X 1)⟩]))::(F.k1,cellObj (.ref (X 0)))::(F.scr,lstObj vs e)::(F'++((X 0,srcO (sR (p0,p1) l.length) (X (l.length+3)) (X (l.length+4)))::(X 1,lstObj (refsX X 2 l.length) l.length)::nwL X (rwO X (l.length+5) l 0) 2))) h':=S'
 rw[e1,e2]at S2
 rw[hrl]
 refine S2.perm (((List.Perm.refl _).cons _).cons _ |>.cons _ |>.trans ?_)
 refine pm fun a=> ?_
 simp only[cnt_app,cnt_cons,cnt_nil,List.cons_append,List.nil_append]
 show _=_+one a (F.loc,frm (F.e1 P++_))
 simp+arith only
end
section
variable{w:World}{P:Params}{b1 b2:Bool}(hP:w.params=parT P b1 b2)(nt:Nat)
include hP
variable{h₀:Heap}{A₀:List Addr}{L:List (Addr×Obj)}{A:Ar}{sh:Shared}{c:Code}{Q:Flow→Shared→Prop}{E:Value→Shared→Prop}
theorem l2_go(F:Lw)(src:Addr)(s:Int×Int)(u0 u1:Tok)(hc:lawC (Kq P b1 b2) F.loc F.k1=c)(hr:Rm 12 0 A)(S:Hs (Kq P b1 b2) nt h₀ A₀ L sh.heap)(F':List (Addr×Obj))
  (hp:L.Perm ((F.loc,frm (F.e2 P))::(F.k1,cellObj (.ref src))::(src,srcO s u0 u1)::F'))
  (h:∀(bk down:Bool)(t2 t3:Tok)(s':Int×Int)(u0 u1:Tok) h' t',Hs (Kq P b1 b2) nt h₀ A₀ ((F.loc,frm (F.e2 P++[⟨hS P d_isbS,.str d_isbS t2,.bool bk⟩,⟨hS P downS,.str downS t3,.bool down⟩]))::(F.k1,cellObj (.ref src))::(src,srcO s' u0 u1)::F') h'→Q .next ⟨h',sh.gens,sh.drawn,t',sh.os⟩):
  wpOwn (model pw w) A c (execs (((forBd (lawC (Kq P b1 b2) F.loc F.k1)).drop 2).take 1) (cEnv (lawC (Kq P b1 b2) F.loc F.k1))) Q E sh:=by
 have T:=l2_ok hP nt {F with down:=drw s.1 s.2 2==1,bk:=drw (nx 2 s).1 (nx 2 s).2 2==1} src s u0 u1 _ _ rfl rfl rfl rfl
 refine S.blkP T hc hr (Nat.le_refl _) F' hp (fun _=>rfl) (fun _ e=>nomatch e) fun X h' t' S'=> ?_
 refine h (drw (nx 2 s).1 (nx 2 s).2 2==1) (drw s.1 s.2 2==1) (X 0) (X 1) (nx 2 (nx 2 s)) (X 2) (X 3) h' t' ?_
 have S2:Hs (Kq P b1 b2) nt h₀ A₀ ((F.loc,frm (F.e2 P++[⟨hS P d_isbS,.str d_isbS (X 0),.bool (drw (nx 2 s).1 (nx 2 s).2 2==1)⟩,⟨hS P downS,.str downS (X 1),.bool (drw s.1 s.2 2==1)⟩]))::(F.k1,cellObj (.ref src))::(src,srcO (nx 2 (nx 2 s)) (X 2) (X 3))::(F'++[])) h':=S'
 rw[List.append_nil]at S2
 exact S2
theorem l3_go(bh:Bool)(F:Lw)(src:Addr)(s:Int×Int)(u0 u1:Tok)(hc:lawC (Kq P b1 b2) F.loc F.k1=c)(hr:Rm 12 0 A)(S:Hs (Kq P b1 b2) nt h₀ A₀ L sh.heap)(F':List (Addr×Obj))
  (hp:L.Perm ((F.loc,frm (F.eL P bh))::(F.k1,cellObj (.ref src))::(src,srcO s u0 u1)::F'))
  (h:∀(lo:Option Bi)(t4:Tok)(s':Int×Int)(u0 u1:Tok) h' t',Hs (Kq P b1 b2) nt h₀ A₀ ((F.loc,frm (F.eL P bh++[⟨hS P (nmL bh),.str (nmL bh) t4,biV lo⟩]))::(F.k1,cellObj (.ref src))::(src,srcO s' u0 u1)::(F'++biO lo)) h'→Q .next ⟨h',sh.gens,sh.drawn,t',sh.os⟩):
  wpOwn (model pw w) A c (execs (((forBd (lawC (Kq P b1 b2) F.loc F.k1)).drop (3+bh.toNat)).take 1) (cEnv (lawC (Kq P b1 b2) F.loc F.k1))) Q E sh:=by
 by_cases hd:drw s.1 s.2 3=0
 ·refine S.blkP (l3_n hP nt F src s u0 u1 bh hd) hc hr (Nat.le_refl _) F' hp (fun _=>rfl) (fun _ e=>nomatch e) fun X h' t' S'=> ?_
  exact h none (X 0) (nx 3 s) (X 1) (X 2) h' t' S'
 ·refine S.blkP (l3_s hP nt F src s u0 u1 bh _ rfl (beq_false_of_ne hd) _ (fun t0 t1=>lv_it hP nt src (nx 3 s) t0 t1 0)) hc hr (Nat.le_refl _) F' hp (fun _=>rfl) (fun _ e=>nomatch e) fun X h' t' S'=> ?_
  exact h (some ⟨X 0,itJ (drw (nx 3 s).1 (nx 3 s).2 8).toNat,X 4,itJ_st _⟩) (X 1) (nx 8 (nx 3 s)) (X 2) (X 3) h' t' S'
theorem l5_go(F:Lw)(lo hi:Option Bi)(hlo:F.lo=lo.map fun b=>b.bd.v)(hhi:F.hi=hi.map fun b=>b.bd.v)(src:Addr)(s:Int×Int)(u0 u1:Tok)(hc:lawC (Kq P b1 b2) F.loc F.k1=c)(hr:Rm 12 0 A)(S:Hs (Kq P b1 b2) nt h₀ A₀ L sh.heap)(F':List (Addr×Obj))
  (hp:L.Perm ((F.loc,frm (F.e5 P))::(F.k1,cellObj (.ref src))::(src,srcO s u0 u1)::F'))
  (h:∀(hl hh:Bool)(sp:Addr)(t6:Tok)(s':Int×Int)(u0 u1:Tok) h' t',Hs (Kq P b1 b2) nt h₀ A₀ ((F.loc,frm (F.e5 P++[⟨hS P d_spanS,.str d_spanS t6,.ref sp⟩]))::(F.k1,cellObj (.ref src))::(src,srcO s' u0 u1)::(sp,spO hl hh (lo.map Bi.bd) (hi.map Bi.bd))::F') h'→Q .next ⟨h',sh.gens,sh.drawn,t',sh.os⟩):
  wpOwn (model pw w) A c (execs (((forBd (lawC (Kq P b1 b2) F.loc F.k1)).drop 5).take 1) (cEnv (lawC (Kq P b1 b2) F.loc F.k1))) Q E sh:=by
 have T:=l5_ok hP nt F src s u0 u1 F.lo F.hi _ _ rfl rfl _ _ rfl rfl
 refine S.blkP T hc hr (Nat.le_refl _) F' hp (fun _=>rfl) (fun _ e=>nomatch e) fun X h' t' S'=> ?_
 refine h (drw s.1 s.2 2==1) (drw (nx 2 s).1 (nx 2 s).2 2==1) (X 0) (X 1) (nx 2 (nx 2 s)) (X 2) (X 3) h' t' ?_
 have S2:Hs (Kq P b1 b2) nt h₀ A₀ ((F.loc,frm (F.e5 P++[⟨hS P d_spanS,.str d_spanS (X 1),.ref (X 0)⟩]))::(F.k1,cellObj (.ref src))::(src,srcO (nx 2 (nx 2 s)) (X 2) (X 3))::(F'++[(X 0,tupObj #[optV F.lo,.bool (drw s.1 s.2 2==1),optV F.hi,.bool (drw (nx 2 s).1 (nx 2 s).2 2==1)])])) h':=S'
 have e:∀l:Option Bi,(l.map Bi.bd).map Bd.v=l.map fun b=>b.bd.v:=fun l=>by rw[Option.map_map];rfl
 unfold spO
 rw[e,e,←hlo,←hhi]
 refine S2.perm (pm fun a=> ?_)
 simp+arith only[cnt_app,cnt_cons,cnt_nil]
theorem l6_go(F:Lw)(hc:lawC (Kq P b1 b2) F.loc F.k1=c)(hr:Rm 12 0 A)(S:Hs (Kq P b1 b2) nt h₀ A₀ L sh.heap)(F':List (Addr×Obj))
  (hp:L.Perm ((F.loc,frm (F.e6 P))::F'))
  (h:∀(Z:Pr)(C:Co)(M:Mv)(tr tn t7 t8 t9:Tok) h' t',M.on C.a=M→Hs (Kq P b1 b2) nt h₀ A₀ ((F.loc,frm (F.e6 P++[⟨hS P coreS,.str coreS t7,.ref C.a⟩,⟨hS P programS,.str programS t8,.ref Z.a⟩,⟨hS P movesS,.str movesS t9,.ref M.a⟩]))::(Z.hd 1 tr (-1) tn #[] 0++(Z.lab,dicObj #[] 0)::(C.objs (dicObj #[] 0)++(M.hd++((M.cu,dicObj #[] 0)::(M.nu,dicObj #[] 0)::(Z.col,lstObj #[] 0)::(C.bo,tupObj #[])::(C.on,dicObj #[] 0)::F'))))) h'→Q .next ⟨h',sh.gens,sh.drawn,t',sh.os⟩):
  wpOwn (model pw w) A c (execs (((forBd (lawC (Kq P b1 b2) F.loc F.k1)).drop 6).take 2) (cEnv (lawC (Kq P b1 b2) F.loc F.k1))) Q E sh:=by
 refine S.blkP (l6_ok hP nt F) hc hr (Nat.le_refl _) F' hp (fun _=>rfl) (fun _ e=>nomatch e) fun X h' t' S'=> ?_
 refine h (zMk P X) (cMk P X) (mMk P X) (X 24) (X 25) (X 32) (X 33) (X 34) h' t' rfl ?_
 have S2:Hs (Kq P b1 b2) nt h₀ A₀ ((F.loc,frm (F.e6 P++[⟨hS P coreS,.str coreS (X 32),.ref (X 5)⟩,⟨hS P programS,.str programS (X 33),.ref (X 0)⟩,⟨hS P movesS,.str movesS (X 34),.ref (X 10)⟩]))::(F'++mkO P X)) h':=S'
 refine S2.perm (((List.perm_append_comm).trans ?_).cons _)
 show List.Perm (((zMk P X).a,_)::((zMk P X).d,_)::((zMk P X).op,lstObj #[] 0)::((zMk P X).col,lstObj #[] 0)::((zMk P X).lab,dicObj #[] 0)::((cMk P X).a,_)::((cMk P X).d,_)::((cMk P X).bo,tupObj #[])::((cMk P X).r,dicObj #[] 0)::((cMk P X).on,dicObj #[] 0)::((mMk P X).a,_)::((mMk P X).d,_)::((mMk P X).cu,dicObj #[] 0)::((mMk P X).nu,dicObj #[] 0)::F')
  (((zMk P X).a,_)::((zMk P X).d,_)::((zMk P X).op,lstObj #[] 0)::((zMk P X).lab,dicObj #[] 0)::((cMk P X).a,_)::((cMk P X).d,_)::((cMk P X).r,dicObj #[] 0)::((mMk P X).a,_)::((mMk P X).d,_)::((mMk P X).cu,dicObj #[] 0)::((mMk P X).nu,dicObj #[] 0)::((zMk P X).col,lstObj #[] 0)::((cMk P X).bo,tupObj #[])::((cMk P X).on,dicObj #[] 0)::F')
 refine pm fun a=> ?_
 simp+arith only[cnt_cons]
end
theorem rvsL_ad:∀(rows:List Rd)(i:Nat),((rvsL rows i).map fun r=>Value.ref r.ad)=rows.map fun R=>Value.ref R.a
 |[],_=>rfl
 |R::l,i=>congrArg (Value.ref R.a:: ·) (rvsL_ad l (i+1))
theorem rvsL_obj:∀(rows:List Rd)(i:Nat),(rvsL rows i).map Rv.obj=rows.map rowO
 |[],_=>rfl
 |R::l,i=>congrArg (rowO R:: ·) (rvsL_obj l (i+1))
theorem fL_len(X:Nat→Nat)(n:Nat):∀(rs:List Rv)(i:Nat),(fL X n rs i).length=rs.length
 |[],_=>rfl
 |_::l,i=>congrArg Nat.succ (fL_len X n l (i+1))
theorem fL_get(X:Nat→Nat)(n:Nat):∀(rows:List Rd)(i r:Nat)(R:Rd),rows[r]?=some R→∃ro,(fL X n (rvsL rows i) i)[r]?=some ro∧ro.o=oct R.x R.y
 |[],_,_,_,h=>by simp at h
 |R::l,i,0,_,h=>by cases h;exact⟨_,rfl,rfl⟩
 |_::l,i,r+1,R,h=>fL_get X n l (i+1) r R h
section
variable{w:World}{P:Params}{b1 b2:Bool}(hP:w.params=parT P b1 b2)(nt:Nat)
include hP
omit hP in
theorem fill_new(P:Params)(X:Nat→Nat)(down:Bool)(os:List (Array UInt8))(rows:List Rd)(hn:rows.length≤4):nwL X (((fT P X (rvsL rows 0).length).base (fL X (rvsL rows 0).length (rvsL rows 0) 0) (rvsL rows 0).length (-1) (X ((rvsL rows 0).length+13))++roTs (fL X (rvsL rows 0).length (rvsL rows 0) 0) 1++(fK P X (rvsL rows 0).length).objs down (bytesL (fun i=>X (3*(rvsL rows 0).length+25+i)) os 0).toArray (rvsL rows 0).length (-1) (X ((rvsL rows 0).length+18))).map (·.2)) 0=
  (fT P X (rvsL rows 0).length).base (fL X (rvsL rows 0).length (rvsL rows 0) 0) (rvsL rows 0).length (-1) (X ((rvsL rows 0).length+13))++roTs (fL X (rvsL rows 0).length (rvsL rows 0) 0) 1++(fK P X (rvsL rows 0).length).objs down (bytesL (fun i=>X (3*(rvsL rows 0).length+25+i)) os 0).toArray (rvsL rows 0).length (-1) (X ((rvsL rows 0).length+18)):=by
 refine l4E rows hn ?_ ?_ ?_ ?_ ?_<;>intros<;>kernel_rfl
omit hP in
theorem rg_new(X:Nat→Nat)(S:Rp):nwL X ((S.ops (S.q X) (-1) (-2)).map (·.2)) 0=S.ops (S.q X) (-1) (-2)∧((List.range S.n).map fun i=>Value.ref (X i))=(S.ops (S.q X) (-1) (-2)).map fun p=>Value.ref p.1:=by
 obtain⟨bg,ed,nm0,nmI,nmN⟩:=S
 rcases bg with _|v<;>rcases ed with _|u<;>exact⟨rfl,rfl⟩
variable{h₀:Heap}{A₀:List Addr}{L:List (Addr×Obj)}{A:Ar}{sh:Shared}{c:Code}{Q:Flow→Shared→Prop}{E:Value→Shared→Prop}
theorem l8_go(F:Lw)(M:Mv)(hM:F.mv=M.a)(rows:List Rd)(hn:rows.length≤4){π:List Nat}(O:Ord rows.length (keyOf F.down rows) π)(hc:lawC (Kq P b1 b2) F.loc F.k1=c)(hr:Rm 12 0 A)(S:Hs (Kq P b1 b2) nt h₀ A₀ L sh.heap)(F':List (Addr×Obj))
  (hp:L.Perm ((F.loc,frm (F.e7 P))::(M.hd++(M.cu,dicObj #[] 0)::(F.ro,lstObj (rows.map fun R=>Value.ref R.a).toArray rows.length)::(rows.map rowO++F'))))
  (h:∀(B:Tx)(K:Kx)(Lr:List Ro)(tk:Nat→Tok)(c0 c1 tB tK:Tok) h' t',Lr.length=rows.length→(∀(r:Nat)(R:Rd),rows[r]?=some R→∃ro,Lr[r]?=some ro∧ro.o=oct R.x R.y)→
   Hs (Kq P b1 b2) nt h₀ A₀ ((F.loc,frm (F.e7 P))::(M.hd++(M.cu,cuObj B.a K.a c0 c1)::(F.ro,lstObj (rows.map fun R=>Value.ref R.a).toArray rows.length)::(rows.map rowO++(B.base Lr rows.length (-1) tB++(roTs Lr 1++(K.objs F.down (bytesL tk (octs rows (ixs π rows.length)) 0).toArray rows.length (-1) tK++F')))))) h'→Q .next ⟨h',sh.gens,sh.drawn,t',sh.os⟩):
  wpOwn (model pw w) A c (execs (((forBd (lawC (Kq P b1 b2) F.loc F.k1)).drop 8).take 1) (cEnv (lawC (Kq P b1 b2) F.loc F.k1))) Q E sh:=by
 have T:=l8_all hP nt F M rows.length (rvsL rows 0) (octs rows (ixs π rows.length)) _ rfl (by rw[rvsL_len];exact hn) (by unfold octs;rw[List.length_map,O.len hn,rvsL_len]) (fill_ok hP nt rows hn F.down O M F.ro rows.length)
 have eF:({F with mv:=M.a}:Lw)=F:=by rw[←hM]
 rw[eF]at T
 have hpre:(cFi P M F.down F.ro rows.length (rvsL rows 0) (octs rows (ixs π rows.length))).pre=M.hd++(M.cu,dicObj #[] 0)::(F.ro,lstObj (rows.map fun R=>Value.ref R.a).toArray rows.length)::rows.map rowO:=by
  unfold cFi
  rw[rvsL_ad,rvsL_obj]
 refine S.blkP T hc hr (Nat.le_refl _) F' ?_ (fun X=> ?_) (fun _ e=>nomatch e) fun X h' t' S'=> ?_
 ·show L.Perm ((F.loc,frm (F.e7 P))::((cFi P M F.down F.ro rows.length (rvsL rows 0) (octs rows (ixs π rows.length))).pre++F'))
  rw[hpre,List.append_assoc]
  exact hp
 ·simp only[cOf,cSt,cFi,Mv.hd,List.length_cons,List.length_append,List.length_map,List.length_nil]
 ·refine h (fT P X (rvsL rows 0).length) (fK P X (rvsL rows 0).length) (fL X (rvsL rows 0).length (rvsL rows 0) 0) (fun i=>X (3*(rvsL rows 0).length+25+i)) (X ((rvsL rows 0).length+23)) (X ((rvsL rows 0).length+24)) (X ((rvsL rows 0).length+13)) (X ((rvsL rows 0).length+18)) h' t' (by rw[fL_len,rvsL_len]) (fun r R e=>fL_get X _ rows 0 r R e) ?_
  have S2:Hs (Kq P b1 b2) nt h₀ A₀ ((F.loc,frm (F.e7 P))::(zpL (cFi P M F.down F.ro rows.length (rvsL rows 0) (octs rows (ixs π rows.length))).pre ((cFi P M F.down F.ro rows.length (rvsL rows 0) (octs rows (ixs π rows.length))).post X)++(F'++nwL X ((cFi P M F.down F.ro rows.length (rvsL rows 0) (octs rows (ixs π rows.length))).new X) 0))) h':=S'
  have e1:(cFi P M F.down F.ro rows.length (rvsL rows 0) (octs rows (ixs π rows.length))).post X=M.hd.map (·.2)++cuObj (fT P X (rvsL rows 0).length).a (fK P X (rvsL rows 0).length).a (X ((rvsL rows 0).length+23)) (X ((rvsL rows 0).length+24))::lstObj (rows.map fun R=>Value.ref R.a).toArray rows.length::(rows.map rowO).map (·.2):=by
   unfold cFi
   rw[rvsL_ad]
   rw[←rvsL_obj rows 0,List.map_map]
   rfl
  have e2:nwL X ((cFi P M F.down F.ro rows.length (rvsL rows 0) (octs rows (ixs π rows.length))).new X) 0=_:=fill_new P X F.down _ rows hn
  rw[hpre,e1,e2]at S2
  refine S2.perm ((?_:List.Perm _ _).cons _)
  show List.Perm ((M.a,_)::(M.d,_)::(M.cu,_)::(F.ro,_)::(zpL (rows.map rowO) ((rows.map rowO).map (·.2))++(F'++_))) _
  rw[zpL_self]
  rw[rvsL_len]
  refine pm fun a=> ?_
  simp+arith only[cnt_app,cnt_cons,cnt_nil,Mv.hd,List.cons_append,List.nil_append]
end
theorem map_pt(l:Option Bi):(l.map Bi.bd).map Bd.v=l.map fun b=>b.bd.v:=by rw[Option.map_map];rfl
theorem zpL_len(ps:List (Addr×Obj))(os:List Obj)(h:ps.length=os.length):(zpL ps os).length=ps.length:=by unfold zpL;rw[List.length_zipWith,←h,Nat.min_self]
section
variable{w:World}{P:Params}{b1 b2:Bool}(hP:w.params=parT P b1 b2)(nt:Nat)
include hP
variable{h₀:Heap}{A₀:List Addr}{L:List (Addr×Obj)}{A:Ar}{sh:Shared}{c:Code}{Q:Flow→Shared→Prop}{E:Value→Shared→Prop}
theorem l9_go(F:Lw)(Z:Pr)(hZ:F.pr=Z.a)(tr tn:Tok)(lo hi:Option Bi)(hl hh:Bool)(hc:lawC (Kq P b1 b2) F.loc F.k1=c)(hr:Rm 12 0 A)(S:Hs (Kq P b1 b2) nt h₀ A₀ L sh.heap)(F':List (Addr×Obj))
  (hp:L.Perm ((F.loc,frm (F.e7 P))::(Z.hd 1 tr (-1) tn #[] 0++(Z.lab,dicObj #[] 0)::(F.sp,spO hl hh (lo.map Bi.bd) (hi.map Bi.bd))::(biO lo++(biO hi++F')))))
  (h:∀(Q':Oq)(tr tn tt tv dt dv:Tok) h' t',Hs (Kq P b1 b2) nt h₀ A₀ ((F.loc,frm (F.e7 P))::(Z.hd 6 tr (-3) tn (((shOf (lo.map Bi.bd) (hi.map Bi.bd) hl hh F.bk).ops Q' (-1) (-2)).map fun p=>Value.ref p.1).toArray (shOf (lo.map Bi.bd) (hi.map Bi.bd) hl hh F.bk).n++(Z.lab,labO tt tv dt dv (shOf (lo.map Bi.bd) (hi.map Bi.bd) hl hh F.bk).n (shOf (lo.map Bi.bd) (hi.map Bi.bd) hl hh F.bk).top)::(F.sp,spO hl hh (lo.map Bi.bd) (hi.map Bi.bd))::(biO lo++(biO hi++((shOf (lo.map Bi.bd) (hi.map Bi.bd) hl hh F.bk).ops Q' (-1) (-2)++F'))))) h'→Q .next ⟨h',sh.gens,sh.drawn,t',sh.os⟩):
  wpOwn (model pw w) A c (execs (((forBd (lawC (Kq P b1 b2) F.loc F.k1)).drop 9).take 1) (cEnv (lawC (Kq P b1 b2) F.loc F.k1))) Q E sh:=by
 have T:=l9_all hP nt F Z tr tn (lo.map Bi.bd) (hi.map Bi.bd) hl hh F.bk _ _ rfl rfl (rg_ok hP nt Z tr tn F.sp (lo.map Bi.bd) (hi.map Bi.bd) hl hh F.bk)
 have eF:({F with pr:=Z.a,bk:=F.bk}:Lw)=F:=by rw[←hZ]
 rw[eF]at T
 generalize hSh:shOf (lo.map Bi.bd) (hi.map Bi.bd) hl hh F.bk=Sh at T h
 rw[map_pt,map_pt]at T
 refine S.blkP T hc hr (Nat.le_refl _) F' ?_ (fun X=> ?_) (fun _ e=>nomatch e) fun X h' t' S'=> ?_
 ·refine hp.trans ?_
  show List.Perm ((F.loc,frm (F.e7 P))::(Z.a,_)::(Z.d,_)::(Z.op,lstObj #[] 0)::(Z.lab,dicObj #[] 0)::(F.sp,_)::(biO lo++(biO hi++F'))) ((F.loc,frm (F.e7 P))::(Z.a,_)::(Z.d,_)::(Z.op,lstObj #[] 0)::(Z.lab,dicObj #[] 0)::(F.sp,_)::((biO lo++biO hi)++F'))
  rw[List.append_assoc]
 ·simp only[cOf,cSt,cRg,Pr.hd,List.length_cons,List.length_append,List.length_map,List.length_nil]
 ·obtain⟨e1,e2⟩:=rg_new X Sh
  refine h (Sh.q X) (X (5*Sh.n+2)) (X (5*Sh.n+3)) (X (5*Sh.n+4)) (X (5*Sh.n+5)) tn (X (5*Sh.n+6)) h' t' ?_
  have S2:Hs (Kq P b1 b2) nt h₀ A₀ ((F.loc,frm (F.e7 P))::(Z.a,insObj 875 Z.d)::(Z.d,_)::(Z.op,lstObj ((List.range Sh.n).map fun i=>Value.ref (X i)).toArray Sh.n)::(Z.lab,labO (X (5*Sh.n+4)) (X (5*Sh.n+5)) tn (X (5*Sh.n+6)) Sh.n Sh.top)::(F.sp,spO hl hh (lo.map Bi.bd) (hi.map Bi.bd))::(zpL (biO lo++biO hi) ((biO lo++biO hi).map (·.2))++(F'++nwL X ((Sh.ops (Sh.q X) (-1) (-2)).map (·.2)) 0))) h':=S'
  rw[zpL_self,e1,e2]at S2
  refine S2.perm (((((?_:List.Perm _ _).cons _).cons _).cons _).cons _ |>.cons _ |>.cons _)
  show List.Perm _ (biO lo++(biO hi++(Sh.ops (Sh.q X) (-1) (-2)++F')))
  refine pm fun a=> ?_
  simp+arith only[cnt_app]
theorem l10_go(F:Lw)(Z:Pr)(hZ:F.pr=Z.a)(W:Wo)(hC:F.co=W.C.a)(hM:F.mv=W.M.a)(lo hi:Option Bi)(hl hh:Bool)(Q':Oq)(tr tn tt tv dt dv tB tK:Tok)(l:List Rr)(h4:l.length≤4)(hL:LgOk w P b1 b2 nt (shOf (lo.map Bi.bd) (hi.map Bi.bd) hl hh F.bk) W (Q'.fin tv dv) tB tK l)
  (hc:lawC (Kq P b1 b2) F.loc F.k1=c) (hr:Rm 12 0 A) (S:Hs (Kq P b1 b2) nt h₀ A₀ L sh.heap) (hg:sh.gens=⟨[]⟩) (F':List (Addr×Obj))
  (hp:L.Perm ((F.loc,frm (F.e7 P))::((Z.hd 6 tr (-3) tn (((shOf (lo.map Bi.bd) (hi.map Bi.bd) hl hh F.bk).ops Q' (-1) (-2)).map fun p=>Value.ref p.1).toArray (shOf (lo.map Bi.bd) (hi.map Bi.bd) hl hh F.bk).n++(Z.lab,labO tt tv dt dv (shOf (lo.map Bi.bd) (hi.map Bi.bd) hl hh F.bk).n (shOf (lo.map Bi.bd) (hi.map Bi.bd) hl hh F.bk).top)::((shOf (lo.map Bi.bd) (hi.map Bi.bd) hl hh F.bk).ops Q' (-1) (-2)++W.sta #[] 0 #[] 0 (-1) tB (-1) tK))++F')))
  (h:∀(X:Nat→Nat)(t10:Tok)(P6:List (Addr×Obj)) h' t',P6.length=6→Hs (Kq P b1 b2) nt h₀ A₀ ((F.loc,frm (F.e7 P++[⟨hS P toldS,.str toldS t10,.ref (X 0)⟩]))::(X 0,lstObj ((List.range l.length).map fun i=>Value.ref (X (i+1))).toArray (l.length+2))::(nwL X (rowT X l.length l 0) 1++(P6++F'))) h'→Q .next ⟨h',⟨[.finished]⟩,sh.drawn,t',sh.os⟩):
  wpOwn (model pw w) A c (execs (((forBd (lawC (Kq P b1 b2) F.loc F.k1)).drop 10).take 1) (cEnv (lawC (Kq P b1 b2) F.loc F.k1))) Q E sh:=by
 obtain⟨base,ne,plB,plK,HL⟩:=hL
 have T:=l10_all hP nt F (shOf (lo.map Bi.bd) (hi.map Bi.bd) hl hh F.bk) Z tr tn tt tv dt dv Q' W tB tK l _ rfl h4 _ _ rfl rfl base ne plB plK (fin_ok hP nt Z tr tn tt tv dt dv (lo.map Bi.bd) (hi.map Bi.bd) hl hh F.bk Q') fun R hd e1 e2 e3=>HL R hd (ri_ok w _ _ hl hh F.bk e2)
 have eF:({F with pr:=Z.a,co:=W.C.a,mv:=W.M.a}:Lw)=F:=by rw[←hZ,←hC,←hM]
 rw[eF]at T
 generalize hSh:shOf (lo.map Bi.bd) (hi.map Bi.bd) hl hh F.bk=Sh at T hp
 have hlen:∀X,(cTd (Kq P b1 b2) P F Sh Z tr tn tt tv dt dv Q' W tB tK l base ne plB plK).pre.length=((cTd (Kq P b1 b2) P F Sh Z tr tn tt tv dt dv Q' W tB tK l base ne plB plK).post X).length:=by
  intro X
  have e:(Sh.ops Q' (-1) (-2)).length=(Sh.ops (Q'.fin tv dv) Sh.n Sh.top).length:=by
   obtain⟨bg,ed,nm0,nmI,nmN⟩:=Sh
   rcases bg with _|v<;>rcases ed with _|u<;>rfl
  simp only[cTd,cSt,Pr.hd,Wo.sta,Mv.objs,Mv.hd,Co.objs,txV,Kx.objs,List.length_cons,List.length_append,List.length_map,List.length_nil,e]
 refine S.blkP T hc hr (Nat.le_refl _) F' hp hlen (fun g e=> ?_) fun X h' t' S'=> ?_
 ·cases e;exact hg
 ·generalize hR:zpL (cTd (Kq P b1 b2) P F Sh Z tr tn tt tv dt dv Q' W tB tK l base ne plB plK).pre.tail ((cTd (Kq P b1 b2) P F Sh Z tr tn tt tv dt dv Q' W tB tK l base ne plB plK).post X).tail=rest
  have h6:6≤rest.length:=by
   have:=hlen X
   rw[←hR,zpL_len _ _ (by rw[List.length_tail,List.length_tail,this]),List.length_tail]
   simp only[cTd,cSt,Pr.hd,Wo.sta,Mv.objs,Mv.hd,List.length_cons,List.length_append,List.length_map,List.length_nil]
   omega
  have S2:Hs (Kq P b1 b2) nt h₀ A₀ ((F.loc,frm (F.e7 P++[⟨hS P toldS,.str toldS (X (3*l.length+8)),.ref (X 0)⟩]))::(zpL (cTd (Kq P b1 b2) P F Sh Z tr tn tt tv dt dv Q' W tB tK l base ne plB plK).pre.tail ((cTd (Kq P b1 b2) P F Sh Z tr tn tt tv dt dv Q' W tB tK l base ne plB plK).post X).tail++(F'++((X 0,lstObj ((List.range l.length).map fun i=>Value.ref (X (i+1))).toArray (l.length+2))::nwL X (rowT X l.length l 0) 1)))) h':=S'
  rw[hR]at S2
  have S3:=S2.sub (L':=(F.loc,frm (F.e7 P++[⟨hS P toldS,.str toldS (X (3*l.length+8)),.ref (X 0)⟩]))::(rest.take 6++(F'++((X 0,lstObj ((List.range l.length).map fun i=>Value.ref (X (i+1))).toArray (l.length+2))::nwL X (rowT X l.length l 0) 1)))) (((List.take_sublist 6 rest).append (List.Sublist.refl _)).cons₂ _)
  refine h X (X (3*l.length+8)) (rest.take 6) h' t' (by rw[List.length_take];omega) (S3.perm ?_)
  refine pm fun a=> ?_
  simp+arith only[cnt_app,cnt_cons]
end
theorem rowT_get(X:Nat→Nat)(c:Nat):∀(l:List Rr)(i k:Nat),(rowT X c l i)[k]?=l[k]?.map fun R=>tupObj #[.int ((R.r+1:Nat):Int) R.tn,R.px.val (X (c+1+2*(i+k))),R.py.val (X (c+2+2*(i+k)))]
 |[],_,_=>by simp[rowT]
 |x::l,i,0=>by simp[rowT]
 |x::l,i,k+1=>by
  show(rowT X c l (i+1))[k]?=_
  rw[rowT_get X c l (i+1) k,List.getElem?_cons_succ,show i+1+k=i+(k+1) by omega]
theorem foObjs_get(X:Nat→Nat)(c:Nat):∀(l:List (Nat×Value×Value))(i k:Nat),(foObjs X c l i)[k]?=l[k]?.map fun x=>tupObj #[.int ((x.1+1:Nat):Int) (X (c+1+(i+k))),x.2.1,x.2.2]
 |[],_,_=>by simp[foObjs]
 |x::l,i,0=>by simp[foObjs]
 |x::l,i,k+1=>by
  show(foObjs X c l (i+1))[k]?=_
  rw[foObjs_get X c l (i+1) k,List.getElem?_cons_succ,show i+1+k=i+(k+1) by omega]
theorem rowX_val(rows:List Rd)(r:Nat):∃t,rowX rows r=(xOf rows r).pv.val t:=by
 unfold rowX xOf
 cases rows[r]? with
 |some R=>exact⟨_,rfl⟩
 |none=>exact⟨0,rfl⟩
theorem rowY_val(rows:List Rd)(r:Nat):∃t,rowY rows r=(yOf rows r).pv.val t:=by
 unfold rowY yOf
 cases rows[r]? with
 |some R=>exact⟨_,rfl⟩
 |none=>exact⟨0,rfl⟩
theorem told_reads{h:Heap}(rows:List Rd)(W:Wo)(q:List Nat)(tk:Nat→Tok)(ps:List Nat)(X:Nat→Nat)(a0:Addr)(e:Nat)(hl:h.get? a0=some (lstObj ((List.range (ps.map (rrOf W rows q tk)).length).map fun i=>Value.ref (X (i+1))).toArray e))
  (ht:∀p∈nwL X (rowT X (ps.map (rrOf W rows q tk)).length (ps.map (rrOf W rows q tk)) 0) 1,h.get? p.1=some p.2):∃bs,Reads h (.ref a0) (.list (rowsD rows (ps.map fun p=>q.getD p 0))) bs:=by
 generalize hL:ps.map (rrOf W rows q tk)=l at hl ht
 have hlen:l.length=ps.length:=by rw[←hL,List.length_map]
 refine⟨[a0]++[],.list (as:=[]) hl rfl rfl ?_⟩
 have e0:((List.range l.length).map fun i=>Value.ref (X (i+1))).toArray.toList=((List.range l.length).map fun i=>X (i+1)).map Value.ref:=by
  show(List.range l.length).map _=_
  rw[List.map_map];rfl
 show ReadsAll h ((List.range l.length).map fun i=>Value.ref (X (i+1))).toArray.toList _ _
 rw[e0]
 refine reads_refs _ _ (by unfold rowsD;rw[List.length_map,List.length_range,List.length_map,List.length_map,hlen]) fun i a d ha hd=> ?_
 have hi:i<l.length:=by
  have:=(List.getElem?_eq_some_iff.mp ha).1
  rwa [List.length_map,List.length_range]at this
 rw[List.getElem?_map,List.getElem?_range hi]at ha
 cases ha
 obtain⟨p,hp⟩:∃p,ps[i]?=some p:=⟨_,List.getElem?_eq_getElem (by omega)⟩
 unfold rowsD at hd
 rw[List.getElem?_map,List.getElem?_map,hp]at hd
 cases hd
 have hli:l[i]?=some (rrOf W rows q tk p):=by rw[←hL,List.getElem?_map,hp];rfl
 have hm:(X (1+i),tupObj #[.int ((q.getD p 0+1:Nat):Int) (rrOf W rows q tk p).tn,(xOf rows (q.getD p 0)).pv.val (X (l.length+1+2*(0+i))),(yOf rows (q.getD p 0)).pv.val (X (l.length+2+2*(0+i)))])∈nwL X (rowT X l.length l 0) 1:=by
  apply List.mem_of_getElem? (i:=i)
  rw[nwL_get,rowT_get,hli]
  rfl
 have:=ht _ hm
 rw[Nat.add_comm]at this
 exact reads_tup this
theorem due_reads{h:Heap}(rows:List Rd)(K:List Nat)(bk:Bool)(X:Nat→Nat)(hl:h.get? (X 0)=some (foLst X bk (K.map fun r=>(r,rowX rows r,rowY rows r)).length))
  (ht:∀p∈nwL X (foObjs X (K.map fun r=>(r,rowX rows r,rowY rows r)).length (K.map fun r=>(r,rowX rows r,rowY rows r)) 0) 1,h.get? p.1=some p.2):∃bs,Reads h (.ref (X 0)) (.list (rowsD rows (@Bool.rec (fun _=>List Nat) K K.reverse bk))) bs:=by
 rw[List.length_map]at hl ht
 have one_:∀i (hi:i<K.length),Reads h (.ref (X (i+1))) (tupD K[i] (xOf rows K[i]) (yOf rows K[i])) []:=by
  intro i hi
  obtain⟨tx,ex⟩:=rowX_val rows K[i]
  obtain⟨ty,ey⟩:=rowY_val rows K[i]
  have hm:(X (1+i),tupObj #[.int ((K[i]+1:Nat):Int) (X (K.length+1+(0+i))),(xOf rows K[i]).pv.val tx,(yOf rows K[i]).pv.val ty])∈nwL X (foObjs X K.length (K.map fun r=>(r,rowX rows r,rowY rows r)) 0) 1:=by
   apply List.mem_of_getElem? (i:=i)
   rw[nwL_get,foObjs_get,List.getElem?_map,List.getElem?_eq_getElem hi,←ex,←ey]
   rfl
  have:=ht _ hm
  rw[Nat.add_comm]at this
  exact reads_tup this
 have hA:(adrsX X K.length).length=K.length:=by unfold adrsX;rw[List.length_map,upB_eq,List.length_map,List.length_range]
 have hAg:∀i,i<K.length→(adrsX X K.length)[i]?=some (X (i+1)):=by
  intro i hi
  unfold adrsX
  rw[List.getElem?_map,upB_eq,List.getElem?_map,List.getElem?_range hi]
  show some (X (1+i))=_
  rw[Nat.add_comm]
 cases bk with
 |false=>
  refine⟨[X 0]++[],.list (as:=[]) hl rfl rfl ?_⟩
  show ReadsAll h ((adrsX X K.length).map Value.ref) (rowsD rows K) []
  refine reads_refs _ _ (by unfold rowsD;rw[List.length_map,hA]) fun i a d ha hd=> ?_
  have hi:i<K.length:=by rw[←hA];exact(List.getElem?_eq_some_iff.mp ha).1
  rw[hAg i hi]at ha
  cases ha
  unfold rowsD at hd
  rw[List.getElem?_map,List.getElem?_eq_getElem hi]at hd
  cases hd
  exact one_ i hi
 |true=>
  refine⟨[X 0]++[],.list (as:=[]) hl rfl rfl ?_⟩
  show ReadsAll h ((adrsX X K.length).reverse.map Value.ref) (rowsD rows K.reverse) []
  refine reads_refs _ _ (by unfold rowsD;rw[List.length_map,List.length_reverse,List.length_reverse,hA]) fun i a d ha hd=> ?_
  have hi:i<K.length:=by
   have:=(List.getElem?_eq_some_iff.mp ha).1
   rwa [List.length_reverse,hA]at this
  rw[List.getElem?_reverse (by rw[hA];exact hi),hA,hAg _ (by omega)]at ha
  cases ha
  unfold rowsD at hd
  rw[List.getElem?_map,List.getElem?_reverse hi,List.getElem?_eq_getElem (by omega)]at hd
  cases hd
  exact one_ _ (by omega)
noncomputable def cLaw(scr:Addr)(vs:Array Value)(e:Nat):Con:=⟨.call (.ref 938) ⟨[.ref scr],[]⟩,[(scr,lstObj vs e)],fun _=>.bool true,fun _=>[lstObj vs e],fun _=>[],12,some ([],[.finished]),false,false⟩
theorem four_ex{α:Type}:∀{l:List α},l.length=4→∃a b c d,l=[a,b,c,d]
 |[a,b,c,d],_=>⟨a,b,c,d,rfl⟩
theorem cnt_td{α:Type}(a:α)(l:List α)(k:Nat):cnt a (l.take k)+cnt a (l.drop k)=cnt a l:=by rw[←cnt_app,List.take_append_drop]
theorem roTs_len:∀(L:List Ro)(i:Nat),(roTs L i).length=L.length
 |[],_=>rfl
 |_::l,i=>congrArg Nat.succ (roTs_len l (i+1))
theorem biO_len(lo:Option Bi):(biO lo).length≤1:=by cases lo<;>exact Nat.le_of_ble_eq_true rfl
theorem kx_eq(bk:Bool){s t:Nat}(h1:s≤4)(h2:t≤4)(f:Nat→Nat):(@Bool.rec (fun _=>List Nat) ((List.range' s (t-s)).map f) ((List.range' s (t-s)).map f).reverse bk)=(posL bk s t).map f:=by
 rw[←posL_due bk h1 h2]
 cases bk
 ·rfl
 ·show((posL true s t).reverse.map _).reverse=_
  rw[List.map_reverse,List.reverse_reverse]
section
variable{w:World}{P:Params}{b1 b2:Bool}(hP:w.params=parT P b1 b2)(nt:Nat)
include hP
set_option maxHeartbeats 2000000 in
theorem law_ok(scr:Addr)(vs:Array Value)(e:Nat)(hsz:vs.size<1000)(hv:vs= #[]∨∃c tc,vs[0]?=some (.int c tc)):CO w P b1 b2 nt (cLaw scr vs e):=by
 intro A s R hr hp hR
 have hgens:s.gens=⟨[]⟩:=hp.gens _ rfl
 have S0:=Hs.start hp
 refine le_ok hP nt scr A s R hr (Hs.preP (C:=cLe P scr) (F:=_) S0 rfl (fun _ e=>nomatch e)) fun X0 h0 t0 P0=> ?_
 have S1:=Hs.stepP (C:=cLe P scr) (F:=_) S0 rfl P0
 have hc:lawC (Kq P b1 b2) (X0 0) (X0 1)=.func (forBd (lawC (Kq P b1 b2) (X0 0) (X0 1))) (cEnv (lawC (Kq P b1 b2) (X0 0) (X0 1))):=by kernel_rfl
 generalize hA0:(cLaw scr vs e).pre.map (fun(p:Addr×Obj)=>p.1)=A0 at S1
 let F0:Lw:=⟨X0 0,X0 1,nthD 0 [X0 2],scr,0,false,false,none,none,0,0,0,0,0⟩
 have S1:Hs (Kq P b1 b2) nt s.heap A0 ((scr,lstObj vs e)::[(X0 0,frm (F0.e1 P)),(X0 1,cellE)]) h0:=S1
 show wpOwn (model pw w) A (lawC (Kq P b1 b2) (X0 0) (X0 1)) (denote table (lawC (Kq P b1 b2) (X0 0) (X0 1))) _ _ _
 rw[hc]
 refine func_own ?_
 refine own_cut (forBd (lawC (Kq P b1 b2) (X0 0) (X0 1))) 0 2 ?_
 refine l0_go hP nt F0 vs e hsz hv hc hr S1 [] ?_ fun rows src ro t1 s1 u0 u1 h1 t1' hn S2=> ?_
 ·exact(List.Perm.swap _ _ _).trans ((List.Perm.swap _ _ _).cons _)
 let F1:Lw:=⟨X0 0,X0 1,nthD 0 [X0 2,t1],scr,ro,false,false,none,none,0,0,0,0,0⟩
 have S2:Hs (Kq P b1 b2) nt s.heap A0 ((X0 0,frm (F1.e2 P))::(X0 1,cellObj (.ref src))::(scr,lstObj vs e)::(src,srcO s1 u0 u1)::(ro,lstObj (rows.map fun R=>Value.ref R.a).toArray rows.length)::(rows.map rowO++[])) h1:=S2
 rw[List.append_nil]at S2
 refine own_cut (forBd (lawC (Kq P b1 b2) (X0 0) (X0 1))) 2 1 ?_
 refine l2_go hP nt F1 src s1 u0 u1 hc hr S2 ((scr,lstObj vs e)::(ro,lstObj (rows.map fun R=>Value.ref R.a).toArray rows.length)::rows.map rowO) ?_ fun bk down t2 t3 s2 u2 u3 h2 t2' S3=> ?_
 ·exact((List.Perm.swap _ _ _).cons _).cons _
 let F2:Lw:=⟨X0 0,X0 1,nthD 0 [X0 2,t1,t2,t3],scr,ro,bk,down,none,none,0,0,0,0,0⟩
 have S3:Hs (Kq P b1 b2) nt s.heap A0 ((X0 0,frm (F2.e3 P))::(X0 1,cellObj (.ref src))::(src,srcO s2 u2 u3)::(scr,lstObj vs e)::(ro,lstObj (rows.map fun R=>Value.ref R.a).toArray rows.length)::rows.map rowO) h2:=S3
 refine own_cut (forBd (lawC (Kq P b1 b2) (X0 0) (X0 1))) 3 1 ?_
 refine l3_go hP nt false F2 src s2 u2 u3 hc hr S3 _ (List.Perm.refl _) fun lo t4 s3 u4 u5 h3 t3' S4=> ?_
 let F3:Lw:=⟨X0 0,X0 1,nthD 0 [X0 2,t1,t2,t3,t4],scr,ro,bk,down,lo.map fun b=>b.bd.v,none,0,0,0,0,0⟩
 have S4:Hs (Kq P b1 b2) nt s.heap A0 ((X0 0,frm (F3.e4 P))::(X0 1,cellObj (.ref src))::(src,srcO s3 u4 u5)::(((scr,lstObj vs e)::(ro,lstObj (rows.map fun R=>Value.ref R.a).toArray rows.length)::rows.map rowO)++biO lo)) h3:=S4
 refine own_cut (forBd (lawC (Kq P b1 b2) (X0 0) (X0 1))) 4 1 ?_
 refine l3_go hP nt true F3 src s3 u4 u5 hc hr S4 _ (List.Perm.refl _) fun hi t5 s4 u6 u7 h4 t4' S5=> ?_
 let F4:Lw:=⟨X0 0,X0 1,nthD 0 [X0 2,t1,t2,t3,t4,t5],scr,ro,bk,down,lo.map fun b=>b.bd.v,hi.map fun b=>b.bd.v,0,0,0,0,0⟩
 have S5:Hs (Kq P b1 b2) nt s.heap A0 ((X0 0,frm (F4.e5 P))::(X0 1,cellObj (.ref src))::(src,srcO s4 u6 u7)::((((scr,lstObj vs e)::(ro,lstObj (rows.map fun R=>Value.ref R.a).toArray rows.length)::rows.map rowO)++biO lo)++biO hi)) h4:=S5
 refine own_cut (forBd (lawC (Kq P b1 b2) (X0 0) (X0 1))) 5 1 ?_
 refine l5_go hP nt F4 lo hi rfl rfl src s4 u6 u7 hc hr S5 _ (List.Perm.refl _) fun hl hh sp t6 s5 u8 u9 h5 t5' S6=> ?_
 let F5:Lw:=⟨X0 0,X0 1,nthD 0 [X0 2,t1,t2,t3,t4,t5,t6],scr,ro,bk,down,lo.map fun b=>b.bd.v,hi.map fun b=>b.bd.v,sp,0,0,0,0⟩
 have S6:Hs (Kq P b1 b2) nt s.heap A0 ((X0 0,frm (F5.e6 P))::(X0 1,cellObj (.ref src))::(src,srcO s5 u8 u9)::(sp,spO hl hh (lo.map Bi.bd) (hi.map Bi.bd))::((((scr,lstObj vs e)::(ro,lstObj (rows.map fun R=>Value.ref R.a).toArray rows.length)::rows.map rowO)++biO lo)++biO hi)) h5:=S6
 refine own_cut (forBd (lawC (Kq P b1 b2) (X0 0) (X0 1))) 6 2 ?_
 refine l6_go hP nt F5 hc hr S6 _ (List.Perm.refl _) fun Z C M tr tn t7 t8 t9 h6 t6' hMC S7=> ?_
 let F6:Lw:=⟨X0 0,X0 1,nthD 0 [X0 2,t1,t2,t3,t4,t5,t6,t7,t8,t9],scr,ro,bk,down,lo.map fun b=>b.bd.v,hi.map fun b=>b.bd.v,sp,C.a,Z.a,M.a,0⟩
 have S7:Hs (Kq P b1 b2) nt s.heap A0 ((X0 0,frm (F6.e7 P))::(Z.hd 1 tr (-1) tn #[] 0++(Z.lab,dicObj #[] 0)::(C.objs (dicObj #[] 0)++(M.hd++((M.cu,dicObj #[] 0)::(M.nu,dicObj #[] 0)::(Z.col,lstObj #[] 0)::(C.bo,tupObj #[])::(C.on,dicObj #[] 0)::
  (X0 1,cellObj (.ref src))::(src,srcO s5 u8 u9)::(sp,spO hl hh (lo.map Bi.bd) (hi.map Bi.bd))::((((scr,lstObj vs e)::(ro,lstObj (rows.map fun R=>Value.ref R.a).toArray rows.length)::rows.map rowO)++biO lo)++biO hi)))))) h6:=S7
 obtain⟨π,O⟩:=ord_ex hn (keyOf down rows)
 refine own_cut (forBd (lawC (Kq P b1 b2) (X0 0) (X0 1))) 8 1 ?_
 refine l8_go hP nt F6 M rfl rows hn O hc hr S7 (Z.hd 1 tr (-1) tn #[] 0++(Z.lab,dicObj #[] 0)::(C.objs (dicObj #[] 0)++((M.nu,dicObj #[] 0)::(Z.col,lstObj #[] 0)::(C.bo,tupObj #[])::(C.on,dicObj #[] 0)::(X0 1,cellObj (.ref src))::(src,srcO s5 u8 u9)::(sp,spO hl hh (lo.map Bi.bd) (hi.map Bi.bd))::(scr,lstObj vs e)::(biO lo++biO hi)))) ?_ fun B K Lr tk c0 c1 tB tK h7 t7' hLl hLg S8=> ?_
 ·have e6:F6.ro=ro:=rfl
  refine List.Perm.cons _ (pm fun a=> ?_)
  simp+arith only[cnt_app,cnt_cons,cnt_nil,List.cons_append,List.nil_append,e6]
 have S8:Hs (Kq P b1 b2) nt s.heap A0 ((X0 0,frm (F6.e7 P))::(M.hd++(M.cu,cuObj B.a K.a c0 c1)::(ro,lstObj (rows.map fun R=>Value.ref R.a).toArray rows.length)::(rows.map rowO++(B.base Lr rows.length (-1) tB++(roTs Lr 1++(K.objs down (bytesL tk (octs rows (ixs π rows.length)) 0).toArray rows.length (-1) tK++(Z.hd 1 tr (-1) tn #[] 0++(Z.lab,dicObj #[] 0)::(C.objs (dicObj #[] 0)++((M.nu,dicObj #[] 0)::(Z.col,lstObj #[] 0)::(C.bo,tupObj #[])::(C.on,dicObj #[] 0)::(X0 1,cellObj (.ref src))::(src,srcO s5 u8 u9)::(sp,spO hl hh (lo.map Bi.bd) (hi.map Bi.bd))::(scr,lstObj vs e)::(biO lo++biO hi)))))))))) h7:=S8
 refine own_cut (forBd (lawC (Kq P b1 b2) (X0 0) (X0 1))) 9 1 ?_
 refine l9_go hP nt F6 Z rfl tr tn lo hi hl hh hc hr S8 (M.hd++(M.cu,cuObj B.a K.a c0 c1)::(ro,lstObj (rows.map fun R=>Value.ref R.a).toArray rows.length)::(rows.map rowO++(B.base Lr rows.length (-1) tB++(roTs Lr 1++(K.objs down (bytesL tk (octs rows (ixs π rows.length)) 0).toArray rows.length (-1) tK++(C.objs (dicObj #[] 0)++((M.nu,dicObj #[] 0)::(Z.col,lstObj #[] 0)::(C.bo,tupObj #[])::(C.on,dicObj #[] 0)::(X0 1,cellObj (.ref src))::(src,srcO s5 u8 u9)::[(scr,lstObj vs e)]))))))) ?_ fun Q' tr' tn' tt tv dt dv h8 t8' S9=> ?_
 ·have e6:F6.sp=sp:=rfl
  refine List.Perm.cons _ (pm fun a=> ?_)
  simp+arith only[cnt_app,cnt_cons,cnt_nil,List.cons_append,List.nil_append,e6]
 have S9:Hs (Kq P b1 b2) nt s.heap A0 ((X0 0,frm (F6.e7 P))::(Z.hd 6 tr' (-3) tn' (((shOf (lo.map Bi.bd) (hi.map Bi.bd) hl hh bk).ops Q' (-1) (-2)).map fun p=>Value.ref p.1).toArray (shOf (lo.map Bi.bd) (hi.map Bi.bd) hl hh bk).n++(Z.lab,labO tt tv dt dv (shOf (lo.map Bi.bd) (hi.map Bi.bd) hl hh bk).n (shOf (lo.map Bi.bd) (hi.map Bi.bd) hl hh bk).top)::(sp,spO hl hh (lo.map Bi.bd) (hi.map Bi.bd))::(biO lo++(biO hi++((shOf (lo.map Bi.bd) (hi.map Bi.bd) hl hh bk).ops Q' (-1) (-2)++(M.hd++(M.cu,cuObj B.a K.a c0 c1)::(ro,lstObj (rows.map fun R=>Value.ref R.a).toArray rows.length)::(rows.map rowO++(B.base Lr rows.length (-1) tB++(roTs Lr 1++(K.objs down (bytesL tk (octs rows (ixs π rows.length)) 0).toArray rows.length (-1) tK++(C.objs (dicObj #[] 0)++((M.nu,dicObj #[] 0)::(Z.col,lstObj #[] 0)::(C.bo,tupObj #[])::(C.on,dicObj #[] 0)::(X0 1,cellObj (.ref src))::(src,srcO s5 u8 u9)::[(scr,lstObj vs e)])))))))))))) h8:=S9
 obtain⟨P4,hP4⟩:∃P4:List (Addr×Obj),P4=[(Z.col,lstObj #[] 0),(C.bo,tupObj #[]),(C.on,dicObj #[] 0),(src,srcO s5 u8 u9)]:=⟨_,rfl⟩
 have hP4l:P4.length=4:=by rw[hP4];rfl
 obtain⟨D,hD⟩:∃D,D=P4.take (4-rows.length):=⟨_,rfl⟩
 have hDl:D.length=4-rows.length:=by rw[hD,List.length_take,hP4l];omega
 obtain⟨q0,q1,q2,q3,hq⟩:=four_ex (l:=roTs Lr 1++D) (by rw[List.length_append,roTs_len,hLl,hDl];omega)
 let W:Wo:=⟨M,C,K,B,down,bytesL tk (octs rows (ixs π rows.length)) 0,rows.length,Lr,D,q0,q1,q2,q3,rows.length,c0,c1⟩
 have HW:WIs W rows down (ixs π rows.length) tk:=⟨⟨hq,by show Lr.length+D.length=4;omega,by show(bytesL _ _ _).length≤4;rw[bytesL_len];unfold octs;rw[List.length_map,O.len hn];exact hn⟩,rfl,rfl,hLl,hLg⟩
 obtain⟨ps,pt,Lm⟩:=lim_ex hn O lo hi hl hh
 have hrun:=run_ok hP nt HW hn (O.len hn) (O.all hn).2.1 lo hi hl hh bk Lm (Q'.fin tv dv) tB tK
 have hl4:((posL bk ps pt).map (rrOf W rows (ixs π rows.length) tk)).length≤4:=by
  have:=Lm.t4
  unfold posL
  rw[List.length_map,List.length_map,List.length_range];omega
 have hsta:W.sta #[] 0 #[] 0 (-1) tB (-1) tK=M.hd++(M.cu,cuObj B.a K.a c0 c1)::(M.nu,dicObj #[] 0)::(C.objs (dicObj #[] 0)++(B.base Lr rows.length (-1) tB++((roTs Lr 1++D)++K.objs down (bytesL tk (octs rows (ixs π rows.length)) 0).toArray rows.length (-1) tK))):=by
  show(M.on C.a).objs B.a K.a c0 c1 #[] 0++(C.objs (dicObj #[] 0)++(B.base Lr rows.length (-1) tB++([q0,q1,q2,q3]++K.objs down (bytesL tk (octs rows (ixs π rows.length)) 0).toArray rows.length (-1) tK)))=_
  rw[hMC,←hq]
  rfl
 refine own_cut (forBd (lawC (Kq P b1 b2) (X0 0) (X0 1))) 10 1 ?_
 refine l10_go hP nt F6 Z rfl W rfl rfl lo hi hl hh Q' tr' tn' tt tv dt dv tB tK _ hl4 hrun hc hr S9 hgens ((sp,spO hl hh (lo.map Bi.bd) (hi.map Bi.bd))::(ro,lstObj (rows.map fun R=>Value.ref R.a).toArray rows.length)::(rows.map rowO++(biO lo++(biO hi++((scr,lstObj vs e)::(X0 1,cellObj (.ref src))::P4.drop (4-rows.length)))))) ?_ fun X10 t10 P6 h9 t9' hP6 S10=> ?_
 ·rw[hsta]
  refine List.Perm.cons _ (pm fun a=> ?_)
  have c4:=cnt_td a P4 (4-rows.length)
  rw[←hD]at c4
  have e6:F6.bk=bk:=rfl
  refine eqA c4.symm (eqA (congrArg (cnt a) hP4).symm ?_)
  simp+arith only[cnt_app,cnt_cons,cnt_nil,List.cons_append,List.nil_append,e6]
 let F7:Lw:=⟨X0 0,X0 1,nthD 0 [X0 2,t1,t2,t3,t4,t5,t6,t7,t8,t9,t10],scr,ro,bk,down,lo.map fun b=>b.bd.v,hi.map fun b=>b.bd.v,sp,C.a,Z.a,M.a,X10 0⟩
 have S10:Hs (Kq P b1 b2) nt s.heap A0 ((X0 0,frm (F7.e8 P))::(X10 0,lstObj ((List.range ((posL bk ps pt).map (rrOf W rows (ixs π rows.length) tk)).length).map fun i=>Value.ref (X10 (i+1))).toArray (((posL bk ps pt).map (rrOf W rows (ixs π rows.length) tk)).length+2))::(nwL X10 (rowT X10 ((posL bk ps pt).map (rrOf W rows (ixs π rows.length) tk)).length ((posL bk ps pt).map (rrOf W rows (ixs π rows.length) tk)) 0) 1++(P6++((sp,spO hl hh (lo.map Bi.bd) (hi.map Bi.bd))::(ro,lstObj (rows.map fun R=>Value.ref R.a).toArray rows.length)::(rows.map rowO++(biO lo++(biO hi++((scr,lstObj vs e)::(X0 1,cellObj (.ref src))::P4.drop (4-rows.length))))))))) h9:=S10
 obtain⟨D6,hD6⟩:∃D6,D6=P6.take (6-(rows.length+((biO lo).length+(biO hi).length))):=⟨_,rfl⟩
 have hlo1:=biO_len lo
 have hhi1:=biO_len hi
 obtain⟨qs,hqs⟩:∃qs:List (Addr×Obj),qs=rows.map rowO++(biO lo++biO hi)++D6:=⟨_,rfl⟩
 have hq6:qs.length=6:=by
  rw[hqs,List.length_append,List.length_append,List.length_append,List.length_map,hD6,List.length_take,hP6];omega
 have hdue:=due_pad hP nt rows hn ro sp down bk hl hh lo hi rows.length O D6 qs (by rw[hqs];exact List.Perm.refl _)
 have hfk:=due_eq hn (O.len hn) (O.all hn).2.1 lo hi hl hh Lm
 obtain⟨Kx',hKx⟩:∃K':List Nat,K'=(List.range' ps (pt-ps)).map fun p=>(ixs π rows.length).getD p 0:=⟨_,rfl⟩
 have hfk:(dueK (rows.map Rd.rw) (lo.map Bi.bd) (hi.map Bi.bd) hl hh (sgB down) (ixs π rows.length))=Kx'.map fun r=>(r,rowX rows r,rowY rows r):=by rw[hfk,hKx,List.map_map];rfl
 have hkl:Kx'.length≤4:=by have:=Lm.t4;rw[hKx,List.length_map,List.length_range'];omega
 rw[hfk]at hdue
 have T:=l11_all hP nt F7 (rows.map fun R=>Value.ref R.a).toArray rows.length (spO hl hh (lo.map Bi.bd) (hi.map Bi.bd)) qs hq6 (Kx'.map fun r=>(r,rowX rows r,rowY rows r)) _ rfl (by rw[List.length_map];exact hkl) hdue
 have hst:(forBd (lawC (Kq P b1 b2) (X0 0) (X0 1))).drop 11=[.Return (some (.Compare (rtL (stC (lawC (Kq P b1 b2) (X0 0) (X0 1)) 11)) [.Eq] [rtR (stC (lawC (Kq P b1 b2) (X0 0) (X0 1)) 11)] (rtP (stC (lawC (Kq P b1 b2) (X0 0) (X0 1)) 11)))) (rtQ (stC (lawC (Kq P b1 b2) (X0 0) (X0 1)) 11))]:=by kernel_rfl
 show wpOwn (model pw w) A _ (execs ((forBd (lawC (Kq P b1 b2) (X0 0) (X0 1))).drop 11) (cEnv (lawC (Kq P b1 b2) (X0 0) (X0 1)))) _ _ _
 rw[hst]
 have S11:Hs (Kq P b1 b2) nt s.heap A0 (((X0 0,frm (F7.e8 P))::(ro,lstObj (rows.map fun R=>Value.ref R.a).toArray rows.length)::(sp,spO hl hh (lo.map Bi.bd) (hi.map Bi.bd))::qs)++((X10 0,lstObj ((List.range ((posL bk ps pt).map (rrOf W rows (ixs π rows.length) tk)).length).map fun i=>Value.ref (X10 (i+1))).toArray (((posL bk ps pt).map (rrOf W rows (ixs π rows.length) tk)).length+2))::(nwL X10 (rowT X10 ((posL bk ps pt).map (rrOf W rows (ixs π rows.length) tk)).length ((posL bk ps pt).map (rrOf W rows (ixs π rows.length) tk)) 0) 1++(P6.drop (6-(rows.length+((biO lo).length+(biO hi).length)))++((scr,lstObj vs e)::(X0 1,cellObj (.ref src))::P4.drop (4-rows.length)))))) h9:=S10.perm (by
  refine pm fun a=> ?_
  have c4:=cnt_td a P6 (6-(rows.length+((biO lo).length+(biO hi).length)))
  rw[←hD6]at c4
  refine eqA c4.symm (eqA (congrArg (cnt a) hqs).symm ?_)
  simp+arith only[cnt_app,cnt_cons,cnt_nil,List.cons_append,List.nil_append])
 refine cmp_own T hc hr (Nat.le_refl _) (Hs.preP (C:=cCm (Kq P b1 b2) P F7 (rows.map fun R=>Value.ref R.a).toArray rows.length (spO hl hh (lo.map Bi.bd) (hi.map Bi.bd)) qs (Kx'.map fun r=>(r,rowX rows r,rowY rows r))) S11 rfl (fun _ e=>nomatch e)) (by kernel_rfl) ⟨⟨⟨rfl,rfl⟩,Nat.le_refl _⟩,trivial⟩ (X10 0) (fun X=>X 0) (fun _=>rfl) fun X h' t' P'=> ?_
 have S12:=Hs.stepP (C:=cCm (Kq P b1 b2) P F7 (rows.map fun R=>Value.ref R.a).toArray rows.length (spO hl hh (lo.map Bi.bd) (hi.map Bi.bd)) qs (Kx'.map fun r=>(r,rowX rows r,rowY rows r))) S11 (by simp only[cCm,cSt,cDup,List.length_cons,List.length_map]) P'
 have S12:Hs (Kq P b1 b2) nt s.heap A0 ((X0 0,frm (F7.e8 P))::(ro,lstObj (rows.map fun R=>Value.ref R.a).toArray rows.length)::(sp,spO hl hh (lo.map Bi.bd) (hi.map Bi.bd))::(zpL qs (qs.map (·.2))++(((X10 0,lstObj ((List.range ((posL bk ps pt).map (rrOf W rows (ixs π rows.length) tk)).length).map fun i=>Value.ref (X10 (i+1))).toArray (((posL bk ps pt).map (rrOf W rows (ixs π rows.length) tk)).length+2))::(nwL X10 (rowT X10 ((posL bk ps pt).map (rrOf W rows (ixs π rows.length) tk)).length ((posL bk ps pt).map (rrOf W rows (ixs π rows.length) tk)) 0) 1++(P6.drop (6-(rows.length+((biO lo).length+(biO hi).length)))++((scr,lstObj vs e)::(X0 1,cellObj (.ref src))::P4.drop (4-rows.length)))))++((X 0,foLst X bk (Kx'.map fun r=>(r,rowX rows r,rowY rows r)).length)::nwL X (foObjs X (Kx'.map fun r=>(r,rowX rows r,rowY rows r)).length (Kx'.map fun r=>(r,rowX rows r,rowY rows r)) 0) 1)))) h':=S12
 constructor
 ·have own:=fun p hp=>(S12.own p hp).1
  obtain⟨as,r1⟩:=told_reads rows W (ixs π rows.length) tk (posL bk ps pt) X10 (X10 0) _ (own (X10 0,_) (List.mem_cons_of_mem _ (List.mem_cons_of_mem _ (List.mem_cons_of_mem _ (List.mem_append_right _ (List.mem_append_left _ List.mem_cons_self)))))) (fun p hp=>own p (List.mem_cons_of_mem _ (List.mem_cons_of_mem _ (List.mem_cons_of_mem _ (List.mem_append_right _ (List.mem_append_left _ (List.mem_cons_of_mem _ (List.mem_append_left _ hp))))))))
  obtain⟨bs,r2⟩:=due_reads rows Kx' bk X (own (X 0,_) (List.mem_cons_of_mem _ (List.mem_cons_of_mem _ (List.mem_cons_of_mem _ (List.mem_append_right _ (List.mem_append_right _ List.mem_cons_self)))))) (fun p hp=>own p (List.mem_cons_of_mem _ (List.mem_cons_of_mem _ (List.mem_cons_of_mem _ (List.mem_append_right _ (List.mem_append_right _ (List.mem_cons_of_mem _ hp)))))))
  have e1:(@Bool.rec (fun _=>List Nat) Kx' Kx'.reverse bk)=(posL bk ps pt).map fun p=>(ixs π rows.length).getD p 0:=by
   rw[hKx]
   exact kx_eq bk (by have:=Lm.s4;omega) (by have:=Lm.t4;omega) _
  rw[e1]at r2
  exact⟨_,as,bs,r1,r2,(rowsD_ok rows _).1,(rowsD_ok rows _).2⟩
 ·subst hA0
  refine hR (fun _=>0) h' t' (S12.postP (C:=cLaw scr vs e) (F:=(X0 0,frm (F7.e8 P))::(ro,lstObj (rows.map fun R=>Value.ref R.a).toArray rows.length)::(sp,spO hl hh (lo.map Bi.bd) (hi.map Bi.bd))::(zpL qs (qs.map (·.2))++(((X10 0,lstObj ((List.range ((posL bk ps pt).map (rrOf W rows (ixs π rows.length) tk)).length).map fun i=>Value.ref (X10 (i+1))).toArray (((posL bk ps pt).map (rrOf W rows (ixs π rows.length) tk)).length+2))::(nwL X10 (rowT X10 ((posL bk ps pt).map (rrOf W rows (ixs π rows.length) tk)).length ((posL bk ps pt).map (rrOf W rows (ixs π rows.length) tk)) 0) 1++(P6.drop (6-(rows.length+((biO lo).length+(biO hi).length)))++((X0 1,cellObj (.ref src))::P4.drop (4-rows.length)))))++((X 0,foLst X bk (Kx'.map fun r=>(r,rowX rows r,rowY rows r)).length)::nwL X (foObjs X (Kx'.map fun r=>(r,rowX rows r,rowY rows r)).length (Kx'.map fun r=>(r,rowX rows r,rowY rows r)) 0) 1)))) ?_ rfl)
  show List.Perm _ ((scr,lstObj vs e)::((X0 0,frm (F7.e8 P))::(ro,lstObj (rows.map fun R=>Value.ref R.a).toArray rows.length)::(sp,spO hl hh (lo.map Bi.bd) (hi.map Bi.bd))::(zpL qs (qs.map (·.2))++(((X10 0,lstObj ((List.range ((posL bk ps pt).map (rrOf W rows (ixs π rows.length) tk)).length).map fun i=>Value.ref (X10 (i+1))).toArray (((posL bk ps pt).map (rrOf W rows (ixs π rows.length) tk)).length+2))::(nwL X10 (rowT X10 ((posL bk ps pt).map (rrOf W rows (ixs π rows.length) tk)).length ((posL bk ps pt).map (rrOf W rows (ixs π rows.length) tk)) 0) 1++(P6.drop (6-(rows.length+((biO lo).length+(biO hi).length)))++((X0 1,cellObj (.ref src))::P4.drop (4-rows.length)))))++((X 0,foLst X bk (Kx'.map fun r=>(r,rowX rows r,rowY rows r)).length)::nwL X (foObjs X (Kx'.map fun r=>(r,rowX rows r,rowY rows r)).length (Kx'.map fun r=>(r,rowX rows r,rowY rows r)) 0) 1)))))
  refine pm fun a=> ?_
  simp+arith only[cnt_app,cnt_cons,cnt_nil,List.cons_append,List.nil_append]
end
end Mine
set_option maxHeartbeats 0
namespace Mine
open PySem PySem.W PySem.W.X PySem.Spec PySem.Calls PyProof.Rows
theorem said0:PySem.Challenge.rw_nt0135_01.wellSaid=true:=by rw[PySem.W.Fast.te9446332074065402090];kernel_rfl
theorem ok1:(chainsOk q0&&opensWell rowL.prog&&(frees rowL.toRowW&&rowL.within.isEmpty))=true:=by kernel_rfl
theorem ok0:(rowL.wellSaid&&(chainsOk q0&&opensWell rowL.prog&&(frees rowL.toRowW&&rowL.within.isEmpty)))=true:=by rw[row_said said0,ok1];rfl
theorem def0:defOf q0 rowL.name=some (dLaw,[]):=by kernel_rfl
theorem the0:rowL.prog.theDef rowL.name=some (dLaw.params,dLaw.body,dLaw.scope):=by kernel_rfl
theorem kw0:kwWritten? dLaw.params.kwonlyargs dLaw.params.kw_defaults=some []:=by kernel_rfl
theorem writes0:(!rowL.writes||rowL.records.isEmpty)=true:=by kernel_rfl
theorem bare0:rowL.prog.bare:=⟨rfl,rfl,rfl,rfl,rfl,by kernel_rfl⟩
theorem wit0:PySem.Challenge.rw_nt0135_01.row.toRowW.promised:=by w_witness2
theorem holds0(walk:Mh.Walk0 q0 loose0 (fun _ _=>True) (obsZ KTas) Ya0 rowL.toRowW dLaw []):PySem.Challenge.rw_nt0135_01.Holds:=
 holds_law said0 fun _=>Mh.PySem.W.holds_openX (r:=rowL) (q:=q0) (loose:=loose0) (Xt:=fun _=>true) (XP:=fun _ _=>True) (Yf:=obsZ KTas) (Ya:=Ya0) (d:=dLaw) (kwd:=[]) (N:=7000)
  left1 (fun _ _=>trivial) (fun _ _ _ _ _=>trivial) def0 the0 kw0 (fun _ _=>recFacts_nil rfl) writes0 ⟨trivial⟩ ok0 bare0 wit0 walk
end Mine
set_option maxHeartbeats 4000000 in
theorem PySem.Challenge.cw_nt0135_01_holds : PySem.Challenge.rw_nt0135_01.Holds := by
 refine Mine.holds0 (Mine.walk0 fun w P b1 b2 hP scr vs ep h1 h2=> ?_)
 exact Mine.law_ok hP 939 scr vs ep h1 h2
