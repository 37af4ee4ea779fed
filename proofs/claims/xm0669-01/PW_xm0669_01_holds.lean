import PyProof.Rows.All
import Wide.All
import OpenK.KSplit
import OpenK.KNot
import OpenK.KApp
import KE.KPop
import KE.KListMore
import KE.KEqSeq
import KE.KSlice
import KE.RegTryLedger
import KE.RegLcTurns
import KE.KTemps
import KE.KTup
import KE.KPassesOwn
import KE.RegKIsNot
import KE.KTempsTwo
import KE.KLam
import KE.KTree
import KE.KTreeB
import KE.KNestM
import KE.KDflt
import KE.KEqDeep
import KE.KWhile
import KE.RegKUnpackStar
import KE.KCompFold
import KE.RegKIsAll
import KE.RegKTryDeep
import KE.KBits
import KE.KItem
import KE.KLcFree
import KE.RegKDeep
import KE.RegKTryMore
import KE.KDeep
import KE.KTreeO
import KE.KEndW
import Wide.FinOn
import PySem.Challenge.RW_xm0669_01
open PySem PySem.W PySem.Calls PyProof.Rows
set_option Elab.async false
set_option maxRecDepth 100000
set_option linter.unusedVariables false
set_option linter.unusedSimpArgs false
set_option compiler.extract_closed false
set_option pp.maxSteps 20000
set_option pp.deepTerms.threshold 12
namespace Mine
section
set_option maxHeartbeats 0
noncomputable def s0 : Str := ⟨⟨[95, 119, 97, 108, 108]⟩⟩
noncomputable def s1 : Str := ⟨⟨[107]⟩⟩
noncomputable def s2 : Str := ⟨⟨[95, 95, 110, 97, 109, 101, 95, 95]⟩⟩
noncomputable def s3 : Str := ⟨⟨[109, 97, 114, 107, 117, 112, 109, 105, 108, 108, 46, 101, 114, 114, 111, 114, 115]⟩⟩
noncomputable def s4 : Str := ⟨⟨[77, 97, 114, 107, 117, 112, 69, 114, 114, 111, 114]⟩⟩
noncomputable def s5 : Str := ⟨⟨[69, 120, 99, 101, 112, 116, 105, 111, 110]⟩⟩
noncomputable def s6 : Str := ⟨⟨[95, 95, 105, 110, 105, 116, 95, 95]⟩⟩
noncomputable def s7 : Str := ⟨⟨[115, 101, 108, 102]⟩⟩
noncomputable def s8 : Str := ⟨⟨[109, 101, 115, 115, 97, 103, 101]⟩⟩
noncomputable def s9 : Str := ⟨⟨[84, 114, 101, 101, 70, 97, 117, 108, 116]⟩⟩
noncomputable def s10 : Str := ⟨⟨[80, 97, 116, 104, 70, 97, 117, 108, 116]⟩⟩
noncomputable def s11 : Str := ⟨⟨[109, 97, 114, 107, 117, 112, 109, 105, 108, 108, 46, 110, 117, 109, 98, 101, 114, 115]⟩⟩
noncomputable def s12 : Str := ⟨⟨[77, 79, 83, 84, 95, 70, 73, 71, 85, 82, 69, 83]⟩⟩
noncomputable def s13 : Str := ⟨⟨[77, 79, 83, 84]⟩⟩
noncomputable def s14 : Str := ⟨⟨[99, 111, 109, 109, 111, 110, 95, 100, 105, 118, 105, 115, 111, 114]⟩⟩
noncomputable def s15 : Str := ⟨⟨[111, 110, 101]⟩⟩
noncomputable def s16 : Str := ⟨⟨[111, 116, 104, 101, 114]⟩⟩
noncomputable def s17 : Str := ⟨⟨[102, 105, 114, 115, 116]⟩⟩
noncomputable def s18 : Str := ⟨⟨[115, 101, 99, 111, 110, 100]⟩⟩
noncomputable def s19 : Str := ⟨⟨[97, 98, 115]⟩⟩
noncomputable def s20 : Str := ⟨⟨[115, 105, 103, 110, 95, 111, 102]⟩⟩
noncomputable def s21 : Str := ⟨⟨[110, 117, 109, 98, 101, 114]⟩⟩
noncomputable def s22 : Str := ⟨⟨[110, 117, 109, 98, 101, 114, 95, 111, 102]⟩⟩
noncomputable def s23 : Str := ⟨⟨[116, 111, 112]⟩⟩
noncomputable def s24 : Str := ⟨⟨[98, 111, 116, 116, 111, 109]⟩⟩
noncomputable def s25 : Str := ⟨⟨[99, 111, 109, 109, 111, 110]⟩⟩
noncomputable def s26 : Str := ⟨⟨[109, 97, 114, 107, 117, 112, 109, 105, 108, 108, 46, 102, 117, 110, 99, 116, 105, 111, 110, 115, 95, 115, 101, 116, 115]⟩⟩
noncomputable def s27 : Str := ⟨⟨[110, 111, 100, 101, 115, 95, 111, 102]⟩⟩
noncomputable def s28 : Str := ⟨⟨[118, 97, 108, 117, 101]⟩⟩
noncomputable def s29 : Str := ⟨⟨[105, 115, 105, 110, 115, 116, 97, 110, 99, 101]⟩⟩
noncomputable def s30 : Str := ⟨⟨[108, 105, 115, 116]⟩⟩
noncomputable def s31 : Str := ⟨⟨[97, 32, 110, 111, 100, 101, 32, 115, 101, 116, 32, 105, 115, 32, 119, 97, 110, 116, 101, 100]⟩⟩
noncomputable def s32 : Str := ⟨⟨[99, 111, 117, 110, 116, 101, 100]⟩⟩
noncomputable def s33 : Str := ⟨⟨[108, 101, 110]⟩⟩
noncomputable def s34 : Str := ⟨⟨[116, 111, 108, 100, 95, 110, 111, 100, 101]⟩⟩
noncomputable def s35 : Str := ⟨⟨[97, 114, 103, 117, 109, 101, 110, 116, 115]⟩⟩
noncomputable def s36 : Str := ⟨⟨[99, 111, 110, 116, 101, 120, 116]⟩⟩
noncomputable def s37 : Str := ⟨⟨[110, 111, 100, 101]⟩⟩
noncomputable def s38 : Str := ⟨⟨[110, 111, 100, 101, 115]⟩⟩
noncomputable def s39 : Str := ⟨⟨[110, 97, 109, 101, 95, 112, 97, 114, 116]⟩⟩
noncomputable def s40 : Str := ⟨⟨[112, 97, 114, 116]⟩⟩
noncomputable def s41 : Str := ⟨⟨[116, 114, 101, 101]⟩⟩
noncomputable def s42 : Str := ⟨⟨[]⟩⟩
noncomputable def s43 : Str := ⟨⟨[110, 97, 109, 101]⟩⟩
noncomputable def s44 : Str := ⟨⟨[116, 111, 108, 100]⟩⟩
noncomputable def s45 : Str := ⟨⟨[108, 111, 99, 97, 108, 45, 110, 97, 109, 101]⟩⟩
noncomputable def s46 : Str := ⟨⟨[108, 111, 99, 97, 108]⟩⟩
noncomputable def s47 : Str := ⟨⟨[117, 114, 105]⟩⟩
noncomputable def s48 : Str := ⟨⟨[109, 97, 114, 107, 117, 112, 109, 105, 108, 108, 46, 99, 111, 110, 116, 101, 120, 116]⟩⟩
noncomputable def s49 : Str := ⟨⟨[67, 111, 110, 116, 101, 120, 116]⟩⟩
noncomputable def s50 : Str := ⟨⟨[112, 111, 115, 105, 116, 105, 111, 110]⟩⟩
noncomputable def s51 : Str := ⟨⟨[115, 105, 122, 101]⟩⟩
noncomputable def s52 : Str := ⟨⟨[118, 97, 114, 105, 97, 98, 108, 101, 115]⟩⟩
noncomputable def s53 : Str := ⟨⟨[110, 97, 109, 101, 115]⟩⟩
noncomputable def s54 : Str := ⟨⟨[99, 97, 108, 108, 115]⟩⟩
noncomputable def s55 : Str := ⟨⟨[99, 117, 114, 114, 101, 110, 116]⟩⟩
noncomputable def s56 : Str := ⟨⟨[105, 100, 115]⟩⟩
noncomputable def s57 : Str := ⟨⟨[97, 116]⟩⟩
noncomputable def s58 : Str := ⟨⟨[118, 97, 114, 105, 97, 98, 108, 101]⟩⟩
noncomputable def s59 : Str := ⟨⟨[117, 114, 105, 95, 111, 102]⟩⟩
noncomputable def s60 : Str := ⟨⟨[112, 114, 101, 102, 105, 120]⟩⟩
noncomputable def s61 : Str := ⟨⟨[109, 97, 114, 107, 117, 112, 109, 105, 108, 108, 46, 116, 114, 101, 101]⟩⟩
noncomputable def s62 : Str := ⟨⟨[80, 65, 82, 69, 78, 84, 83]⟩⟩
noncomputable def s63 : Str := ⟨⟨[114, 111, 111, 116]⟩⟩
noncomputable def s64 : Str := ⟨⟨[101, 108, 101, 109, 101, 110, 116]⟩⟩
noncomputable def s65 : Str := ⟨⟨[78, 111, 100, 101, 82, 111, 119]⟩⟩
noncomputable def s66 : Str := ⟨⟨[107, 105, 110, 100]⟩⟩
noncomputable def s67 : Str := ⟨⟨[112, 97, 114, 101, 110, 116]⟩⟩
noncomputable def s68 : Str := ⟨⟨[99, 104, 105, 108, 100, 114, 101, 110]⟩⟩
noncomputable def s69 : Str := ⟨⟨[97, 116, 116, 114, 105, 98, 117, 116, 101, 115]⟩⟩
noncomputable def s70 : Str := ⟨⟨[110, 97, 109, 101, 115, 112, 97, 99, 101, 115]⟩⟩
noncomputable def s71 : Str := ⟨⟨[84, 114, 101, 101]⟩⟩
noncomputable def s72 : Str := ⟨⟨[114, 111, 119, 115]⟩⟩
noncomputable def s73 : Str := ⟨⟨[110, 101, 119, 95, 114, 111, 119]⟩⟩
noncomputable def s74 : Str := ⟨⟨[97, 112, 112, 101, 110, 100]⟩⟩
noncomputable def s75 : Str := ⟨⟨[114, 111, 119]⟩⟩
noncomputable def s76 : Str := ⟨⟨[110, 111, 32, 115, 117, 99, 104, 32, 110, 111, 100, 101]⟩⟩
noncomputable def s77 : Str := ⟨⟨[110, 101, 119, 95, 114, 111, 111, 116]⟩⟩
noncomputable def s78 : Str := ⟨⟨[97, 100, 100, 95, 99, 104, 105, 108, 100]⟩⟩
noncomputable def s79 : Str := ⟨⟨[97, 32, 110, 111, 100, 101, 32, 111, 102, 32, 116, 104, 105, 115, 32, 107, 105, 110, 100, 32, 104, 97, 115, 32, 110, 111, 32, 99, 104, 105, 108, 100, 114, 101, 110]⟩⟩
noncomputable def s80 : Str := ⟨⟨[97, 100, 100, 95, 101, 108, 101, 109, 101, 110, 116]⟩⟩
noncomputable def s81 : Str := ⟨⟨[97, 100, 100, 95, 116, 101, 120, 116]⟩⟩
noncomputable def s82 : Str := ⟨⟨[116, 101, 120, 116]⟩⟩
noncomputable def s83 : Str := ⟨⟨[97, 100, 100, 95, 99, 111, 109, 109, 101, 110, 116]⟩⟩
noncomputable def s84 : Str := ⟨⟨[99, 111, 109, 109, 101, 110, 116]⟩⟩
noncomputable def s85 : Str := ⟨⟨[97, 100, 100, 95, 105, 110, 115, 116, 114, 117, 99, 116, 105, 111, 110]⟩⟩
noncomputable def s86 : Str := ⟨⟨[116, 97, 114, 103, 101, 116]⟩⟩
noncomputable def s87 : Str := ⟨⟨[100, 97, 116, 97]⟩⟩
noncomputable def s88 : Str := ⟨⟨[105, 110, 115, 116, 114, 117, 99, 116, 105, 111, 110]⟩⟩
noncomputable def s89 : Str := ⟨⟨[101, 108, 101, 109, 101, 110, 116, 95, 114, 111, 119]⟩⟩
noncomputable def s90 : Str := ⟨⟨[110, 111, 116, 32, 97, 110, 32, 101, 108, 101, 109, 101, 110, 116]⟩⟩
noncomputable def s91 : Str := ⟨⟨[115, 101, 116, 95, 97, 116, 116, 114, 105, 98, 117, 116, 101]⟩⟩
noncomputable def s92 : Str := ⟨⟨[107, 110, 111, 119, 110]⟩⟩
noncomputable def s93 : Str := ⟨⟨[97, 116, 116, 114, 105, 98, 117, 116, 101]⟩⟩
noncomputable def s94 : Str := ⟨⟨[97, 100, 100, 95, 110, 97, 109, 101, 115, 112, 97, 99, 101]⟩⟩
noncomputable def s95 : Str := ⟨⟨[110, 97, 109, 101, 115, 112, 97, 99, 101]⟩⟩
noncomputable def s96 : Str := ⟨⟨[115, 101, 116, 95, 118, 97, 108, 117, 101]⟩⟩
noncomputable def s97 : Str := ⟨⟨[114, 111, 111, 116, 95, 111, 102]⟩⟩
noncomputable def s98 : Str := ⟨⟨[105, 115, 95, 97, 98, 111, 118, 101]⟩⟩
noncomputable def s99 : Str := ⟨⟨[97, 116, 116, 114, 105, 98, 117, 116, 101, 95, 118, 97, 108, 117, 101]⟩⟩
noncomputable def s100 : Str := ⟨⟨[108, 97, 119, 95, 120, 109, 48, 54, 54, 57, 95, 48, 49]⟩⟩
noncomputable def s101 : Str := ⟨⟨[95, 108, 97, 119, 95, 112, 111, 111, 108]⟩⟩
noncomputable def s102 : Str := ⟨⟨[115, 99, 114, 105, 112, 116]⟩⟩
noncomputable def s103 : Str := ⟨⟨[99, 101, 108, 108]⟩⟩
noncomputable def s104 : Str := ⟨⟨[103, 114, 101, 97, 116]⟩⟩
noncomputable def s105 : Str := ⟨⟨[109, 97, 120]⟩⟩
noncomputable def s106 : Str := ⟨⟨[105, 110, 116]⟩⟩
noncomputable def s107 : Str := ⟨⟨[95, 108, 97, 119, 95, 116, 97, 107, 101]⟩⟩
noncomputable def s108 : Str := ⟨⟨[115, 111, 117, 114, 99, 101]⟩⟩
noncomputable def s109 : Str := ⟨⟨[102, 105, 103, 117, 114, 101]⟩⟩
noncomputable def s110 : Str := ⟨⟨[95, 108, 97, 119, 95, 111, 110, 101]⟩⟩
noncomputable def s111 : Str := ⟨⟨[116, 104, 105, 110, 103, 115]⟩⟩
noncomputable def s112 : Str := ⟨⟨[95, 108, 97, 119, 95, 114, 111, 119, 115]⟩⟩
noncomputable def s113 : Str := ⟨⟨[112, 58, 101]⟩⟩
noncomputable def s114 : Str := ⟨⟨[117, 58, 49]⟩⟩
noncomputable def s115 : Str := ⟨⟨[101]⟩⟩
noncomputable def s116 : Str := ⟨⟨[102, 111, 117, 110, 100]⟩⟩
noncomputable def s117 : Str := ⟨⟨[116, 117, 114, 110]⟩⟩
noncomputable def s118 : Str := ⟨⟨[114, 97, 110, 103, 101]⟩⟩
noncomputable def s119 : Str := ⟨⟨[112, 58, 102]⟩⟩
noncomputable def s120 : Str := ⟨⟨[102]⟩⟩
noncomputable def s121 : Str := ⟨⟨[113, 58, 101]⟩⟩
noncomputable def s122 : Str := ⟨⟨[117, 58, 50]⟩⟩
noncomputable def s123 : Str := ⟨⟨[117, 58, 51]⟩⟩
noncomputable def s124 : Str := ⟨⟨[112, 58, 107]⟩⟩
noncomputable def s125 : Str := ⟨⟨[120, 109, 108, 58, 108, 97, 110, 103]⟩⟩
noncomputable def s126 : Str := ⟨⟨[108, 97, 110, 103]⟩⟩
noncomputable def s127 : Str := ⟨⟨[117, 58, 120]⟩⟩
noncomputable def s128 : Str := ⟨⟨[49]⟩⟩
noncomputable def s129 : Str := ⟨⟨[116]⟩⟩
noncomputable def s130 : Str := ⟨⟨[99]⟩⟩
noncomputable def s131 : Str := ⟨⟨[103, 111]⟩⟩
noncomputable def s132 : Str := ⟨⟨[97, 45, 98]⟩⟩
noncomputable def s133 : Str := ⟨⟨[100]⟩⟩
noncomputable def s134 : Str := ⟨⟨[112]⟩⟩
noncomputable def s135 : Str := ⟨⟨[122]⟩⟩
noncomputable def s136 : Str := ⟨⟨[117, 58, 57]⟩⟩
noncomputable def s137 : Str := ⟨⟨[95, 108, 97, 119, 95, 105, 115, 95, 114, 101, 102, 117, 115, 101, 100]⟩⟩
noncomputable def s138 : Str := ⟨⟨[99, 97, 108, 108]⟩⟩
noncomputable def s139 : Str := ⟨⟨[95, 108, 97, 119, 95, 112, 97, 114, 116, 115]⟩⟩
noncomputable def s140 : Str := ⟨⟨[110, 97, 109, 101, 115, 112, 97, 99, 101, 45, 117, 114, 105]⟩⟩
noncomputable def s141 : Str := ⟨⟨[46, 48]⟩⟩
noncomputable def s142 : Str := ⟨⟨[102, 97, 115, 116]⟩⟩
noncomputable def s143 : Str := ⟨⟨[108, 97, 119]⟩⟩
noncomputable def s144 : Str := ⟨⟨[104, 101, 114, 101]⟩⟩
noncomputable def s145 : Str := ⟨⟨[115, 111, 109, 101]⟩⟩
noncomputable def s146 : Str := ⟨⟨[100, 117, 101]⟩⟩
noncomputable def s147 : Str := ⟨⟨[120]⟩⟩
noncomputable def s148 : Str := ⟨⟨[47, 99, 108, 97, 105, 109, 47, 99, 117, 116, 46, 112, 121]⟩⟩
noncomputable def s149 : Str := ⟨⟨[60, 109, 111, 100, 117, 108, 101, 62]⟩⟩
noncomputable def s150 : Str := ⟨⟨[95, 95, 109, 97, 105, 110, 95, 95]⟩⟩
noncomputable def s151 : Str := ⟨⟨[116, 121, 112, 101, 46, 95, 95, 115, 117, 98, 99, 108, 97, 115, 115, 101, 115, 95, 95, 46, 69, 120, 99, 101, 112, 116, 105, 111, 110, 46, 48]⟩⟩
noncomputable def s152 : Str := ⟨⟨[116, 121, 112, 101, 46, 95, 95, 115, 117, 98, 99, 108, 97, 115, 115, 101, 115, 95, 95, 46, 69, 120, 99, 101, 112, 116, 105, 111, 110, 46, 110]⟩⟩
noncomputable def s153 : Str := ⟨⟨[95, 95, 100, 111, 99, 95, 95]⟩⟩
noncomputable def s154 : Str := ⟨⟨[95, 95, 112, 97, 99, 107, 97, 103, 101, 95, 95]⟩⟩
noncomputable def s155 : Str := ⟨⟨[95, 95, 108, 111, 97, 100, 101, 114, 95, 95]⟩⟩
noncomputable def s156 : Str := ⟨⟨[95, 95, 115, 112, 101, 99, 95, 95]⟩⟩
noncomputable def s157 : Str := ⟨⟨[95, 95, 97, 110, 110, 111, 116, 97, 116, 105, 111, 110, 115, 95, 95]⟩⟩
noncomputable def s158 : Str := ⟨⟨[95, 95, 98, 117, 105, 108, 116, 105, 110, 115, 95, 95]⟩⟩
noncomputable def s159 : Str := ⟨⟨[95, 95, 102, 105, 108, 101, 95, 95]⟩⟩
noncomputable def s160 : Str := ⟨⟨[95, 95, 99, 97, 99, 104, 101, 100, 95, 95]⟩⟩
noncomputable def s161 : Str := ⟨⟨[95, 95, 109, 111, 100, 117, 108, 101, 95, 95]⟩⟩
noncomputable def s162 : Str := ⟨⟨[95, 95, 113, 117, 97, 108, 110, 97, 109, 101, 95, 95]⟩⟩
noncomputable def s163 : Str := ⟨⟨[95, 95, 102, 105, 114, 115, 116, 108, 105, 110, 101, 110, 111, 95, 95]⟩⟩
noncomputable def s164 : Str := ⟨⟨[95, 95, 115, 116, 97, 116, 105, 99, 95, 97, 116, 116, 114, 105, 98, 117, 116, 101, 115, 95, 95]⟩⟩
noncomputable def s165 : Str := ⟨⟨[77, 97, 114, 107, 117, 112, 69, 114, 114, 111, 114, 46, 95, 95, 105, 110, 105, 116, 95, 95]⟩⟩
noncomputable def s166 : Str := ⟨⟨[95, 95, 119, 101, 97, 107, 114, 101, 102, 95, 95]⟩⟩
noncomputable def s167 : Str := ⟨⟨[67, 111, 110, 116, 101, 120, 116, 46, 95, 95, 105, 110, 105, 116, 95, 95]⟩⟩
noncomputable def s168 : Str := ⟨⟨[67, 111, 110, 116, 101, 120, 116, 46, 97, 116]⟩⟩
noncomputable def s169 : Str := ⟨⟨[67, 111, 110, 116, 101, 120, 116, 46, 118, 97, 114, 105, 97, 98, 108, 101]⟩⟩
noncomputable def s170 : Str := ⟨⟨[67, 111, 110, 116, 101, 120, 116, 46, 117, 114, 105, 95, 111, 102]⟩⟩
noncomputable def s171 : Str := ⟨⟨[95, 95, 100, 105, 99, 116, 95, 95]⟩⟩
noncomputable def s172 : Str := ⟨⟨[78, 111, 100, 101, 82, 111, 119, 46, 95, 95, 105, 110, 105, 116, 95, 95]⟩⟩
noncomputable def s173 : Str := ⟨⟨[84, 114, 101, 101, 46, 95, 95, 105, 110, 105, 116, 95, 95]⟩⟩
noncomputable def s174 : Str := ⟨⟨[84, 114, 101, 101, 46, 110, 101, 119, 95, 114, 111, 119]⟩⟩
noncomputable def s175 : Str := ⟨⟨[84, 114, 101, 101, 46, 114, 111, 119]⟩⟩
noncomputable def s176 : Str := ⟨⟨[84, 114, 101, 101, 46, 110, 101, 119, 95, 114, 111, 111, 116]⟩⟩
noncomputable def s177 : Str := ⟨⟨[84, 114, 101, 101, 46, 97, 100, 100, 95, 99, 104, 105, 108, 100]⟩⟩
noncomputable def s178 : Str := ⟨⟨[84, 114, 101, 101, 46, 97, 100, 100, 95, 101, 108, 101, 109, 101, 110, 116]⟩⟩
noncomputable def s179 : Str := ⟨⟨[84, 114, 101, 101, 46, 97, 100, 100, 95, 116, 101, 120, 116]⟩⟩
noncomputable def s180 : Str := ⟨⟨[84, 114, 101, 101, 46, 97, 100, 100, 95, 99, 111, 109, 109, 101, 110, 116]⟩⟩
noncomputable def s181 : Str := ⟨⟨[84, 114, 101, 101, 46, 97, 100, 100, 95, 105, 110, 115, 116, 114, 117, 99, 116, 105, 111, 110]⟩⟩
noncomputable def s182 : Str := ⟨⟨[84, 114, 101, 101, 46, 101, 108, 101, 109, 101, 110, 116, 95, 114, 111, 119]⟩⟩
noncomputable def s183 : Str := ⟨⟨[84, 114, 101, 101, 46, 115, 101, 116, 95, 97, 116, 116, 114, 105, 98, 117, 116, 101]⟩⟩
noncomputable def s184 : Str := ⟨⟨[84, 114, 101, 101, 46, 97, 100, 100, 95, 110, 97, 109, 101, 115, 112, 97, 99, 101]⟩⟩
noncomputable def s185 : Str := ⟨⟨[84, 114, 101, 101, 46, 115, 101, 116, 95, 118, 97, 108, 117, 101]⟩⟩
noncomputable def s186 : Str := ⟨⟨[84, 114, 101, 101, 46, 107, 105, 110, 100]⟩⟩
noncomputable def s187 : Str := ⟨⟨[84, 114, 101, 101, 46, 110, 97, 109, 101]⟩⟩
noncomputable def s188 : Str := ⟨⟨[84, 114, 101, 101, 46, 117, 114, 105]⟩⟩
noncomputable def s189 : Str := ⟨⟨[84, 114, 101, 101, 46, 108, 111, 99, 97, 108]⟩⟩
noncomputable def s190 : Str := ⟨⟨[84, 114, 101, 101, 46, 118, 97, 108, 117, 101]⟩⟩
noncomputable def s191 : Str := ⟨⟨[84, 114, 101, 101, 46, 112, 97, 114, 101, 110, 116]⟩⟩
noncomputable def s192 : Str := ⟨⟨[84, 114, 101, 101, 46, 99, 104, 105, 108, 100, 114, 101, 110]⟩⟩
noncomputable def s193 : Str := ⟨⟨[84, 114, 101, 101, 46, 97, 116, 116, 114, 105, 98, 117, 116, 101, 115]⟩⟩
noncomputable def s194 : Str := ⟨⟨[84, 114, 101, 101, 46, 110, 97, 109, 101, 115, 112, 97, 99, 101, 115]⟩⟩
noncomputable def s195 : Str := ⟨⟨[84, 114, 101, 101, 46, 114, 111, 111, 116, 95, 111, 102]⟩⟩
noncomputable def s196 : Str := ⟨⟨[84, 114, 101, 101, 46, 105, 115, 95, 97, 98, 111, 118, 101]⟩⟩
noncomputable def s197 : Str := ⟨⟨[84, 114, 101, 101, 46, 97, 116, 116, 114, 105, 98, 117, 116, 101, 95, 118, 97, 108, 117, 101]⟩⟩

noncomputable abbrev pw : Program := PySem.Challenge.pw_xm0669_01
noncomputable def nthS : List Stmt → Nat → Stmt
  | [], _ => .Pass ⟨0, 0, 0, 0⟩
  | a :: _, 0 => a
  | _ :: r, n + 1 => nthS r n
noncomputable def T (i : Nat) : Stmt := nthS pw.main.body i
noncomputable def M (i j : Nat) : Stmt := nthS (match T i with | .ClassDef _ _ _ b .. => b | _ => []) j
noncomputable def fP : Stmt → Arguments
  | .FunctionDef _ a .. => a
  | _ => ⟨[], [], none, [], [], none, []⟩
noncomputable def fB : Stmt → List Stmt
  | .FunctionDef _ _ b .. => b
  | _ => []
noncomputable def fS : Stmt → Scope
  | .FunctionDef _ _ _ _ _ _ s .. => s
  | _ => ⟨.function, [], false, false, []⟩
noncomputable def o43 (P : Params) : Obj := ⟨(.type "tuple"), none, (.seq #[] 0), #[]⟩
noncomputable def o44 (P : Params) : Obj := ⟨.none, none, (.fields #[]), #[]⟩
noncomputable def o45 (P : Params) : Obj := ⟨(.type "code"), none, (.fields #[(.str s149 182), (.str s149 183), (.str s148 184), (.int 1 0), (.int 0 0), (.int 0 0), (.int 0 0), (.int 0 0), (.ref 11), (.bool false), (.int 181 0), (.ref 12), .none, .none, .none, .none, (.int 185 0), (.int 1 0), (.str s148 186)]), #[]⟩
noncomputable def o46 (P : Params) : Obj := ⟨(.type "frame"), none, .plain, #[(some (.ref 13)), (some (.ref 3)), (some (.ref 3)), none, (some (.str s150 164)), none, (some (.ref 0))]⟩
noncomputable def o49 (P : Params) : Obj := ⟨.none, none, (.dict #[⟨(PyData.keyHash P s151), (.str s151 221), (.int 38 0)⟩, ⟨(PyData.keyHash P s152), (.str s152 222), (.int 1 0)⟩] 2), #[]⟩
noncomputable def o50 (P : Params) : Obj := ⟨(.type "dict"), none, (.dict #[⟨(PyData.keyHash P s2), (.str s2 165), (.str s3 194)⟩, ⟨(PyData.keyHash P s153), (.str s153 166), .none⟩, ⟨(PyData.keyHash P s154), (.str s154 167), .none⟩, ⟨(PyData.keyHash P s155), (.str s155 168), (.builtin "__main__.__loader__#opaque")⟩, ⟨(PyData.keyHash P s156), (.str s156 169), .none⟩, ⟨(PyData.keyHash P s157), (.str s157 170), (.ref 6)⟩, ⟨(PyData.keyHash P s158), (.str s158 171), (.ref 4)⟩, ⟨(PyData.keyHash P s159), (.str s159 173), (.str s148 172)⟩, ⟨(PyData.keyHash P s160), (.str s160 174), .none⟩, ⟨(PyData.keyHash P s0), (.str s0 193), (.ref 21)⟩, ⟨(PyData.keyHash P s4), (.str s4 224), (.ref 38)⟩] 11), #[]⟩
noncomputable def o51 (P : Params) : Obj := ⟨.none, none, (.fields #[(.int 1 0), (.int 0 0), (.ref 20), (.int 5 0), (.int 0 0), (.ref 27)]), #[]⟩
noncomputable def o52 (P : Params) : Obj := ⟨(.type "tuple"), none, (.seq #[] 0), #[]⟩
noncomputable def o53 (P : Params) : Obj := ⟨.none, none, (.fields #[]), #[]⟩
noncomputable def o54 (P : Params) : Obj := ⟨(.type "tuple"), none, (.seq #[(.str s1 190)] 0), #[]⟩
noncomputable def o55 (P : Params) : Obj := ⟨(.type "tuple"), none, (.seq #[] 0), #[]⟩
noncomputable def o56 (P : Params) : Obj := ⟨.none, none, (.func ⟨s0, s0, (fP (T 0)), (.stmts (fB (T 0))), (fS (T 0)), 0, [], .none, .none, .none, .none, none, .none, .none, 0⟩), #[]⟩
noncomputable def o57 (P : Params) : Obj := ⟨(.type "code"), none, (.fields #[(.str s0 187), (.str s0 188), (.str s148 189), (.int 1 0), (.int 1 0), (.int 0 0), (.int 0 0), (.int 3 0), (.ref 15), (.bool true), (.int 181 0), (.ref 16), .none, (.ref 17), (.ref 18), (.ref 19), (.int 191 0), (.int 1 0), (.str s148 192)]), #[]⟩
noncomputable def o58 (P : Params) : Obj := ⟨(.type "function"), none, (.func ⟨s0, s0, (fP (T 0)), (.stmts (fB (T 0))), (fS (T 0)), 3, [], .none, .none, .none, (.str s150 164), none, (.ref 20), .none, 0⟩), #[]⟩
noncomputable def o59 (P : Params) : Obj := ⟨(.type "tuple"), none, (.seq #[(.type "Exception")] 0), #[]⟩
noncomputable def o60 (P : Params) : Obj := ⟨(.type "builtin_function_or_method"), none, (.fields #[(.builtin "type.__prepare__"), (.type "type")]), #[]⟩
noncomputable def o61 (P : Params) : Obj := ⟨(.type "dict"), none, (.dict #[⟨(PyData.keyHash P s161), (.str s161 203), (.str s3 194)⟩, ⟨(PyData.keyHash P s162), (.str s162 205), (.str s4 204)⟩, ⟨(PyData.keyHash P s163), (.str s163 207), (.int 5 206)⟩, ⟨(PyData.keyHash P s6), (.str s6 215), (.ref 35)⟩, ⟨(PyData.keyHash P s164), (.str s164 217), (.ref 36)⟩] 5), #[]⟩
noncomputable def o62 (P : Params) : Obj := ⟨(.type "tuple"), none, (.seq #[] 0), #[]⟩
noncomputable def o63 (P : Params) : Obj := ⟨.none, none, (.fields #[(.int 7 0), (.int 4 0), (.ref 34)]), #[]⟩
noncomputable def o64 (P : Params) : Obj := ⟨(.type "code"), none, (.fields #[(.str s4 198), (.str s4 199), (.str s148 200), (.int 5 0), (.int 0 0), (.int 0 0), (.int 0 0), (.int 0 0), (.ref 25), (.bool false), (.int 181 0), (.ref 26), .none, .none, .none, .none, (.int 201 0), (.int 5 0), (.str s148 202)]), #[]⟩
noncomputable def o65 (P : Params) : Obj := ⟨(.type "frame"), none, .plain, #[(some (.ref 27)), (some (.ref 3)), (some (.ref 24)), none, (some (.str s3 194)), none, (some (.ref 0))]⟩
noncomputable def o66 (P : Params) : Obj := ⟨(.type "tuple"), none, (.seq #[] 0), #[]⟩
noncomputable def o67 (P : Params) : Obj := ⟨.none, none, (.fields #[]), #[]⟩
noncomputable def o68 (P : Params) : Obj := ⟨(.type "tuple"), none, (.seq #[(.str s7 211), (.str s8 212)] 0), #[]⟩
noncomputable def o69 (P : Params) : Obj := ⟨(.type "tuple"), none, (.seq #[] 0), #[]⟩
noncomputable def o70 (P : Params) : Obj := ⟨.none, none, (.func ⟨s6, s165, (fP (M 2 0)), (.stmts (fB (M 2 0))), (fS (M 2 0)), 0, [], .none, .none, .none, .none, none, .none, .none, 0⟩), #[]⟩
noncomputable def o71 (P : Params) : Obj := ⟨(.type "code"), none, (.fields #[(.str s6 208), (.str s165 209), (.str s148 210), (.int 7 0), (.int 2 0), (.int 0 0), (.int 0 0), (.int 3 0), (.ref 29), (.bool true), (.int 181 0), (.ref 30), .none, (.ref 31), (.ref 32), (.ref 33), (.int 213 0), (.int 7 0), (.str s148 214)]), #[]⟩
noncomputable def o72 (P : Params) : Obj := ⟨(.type "function"), none, (.func ⟨s6, s165, (fP (M 2 0)), (.stmts (fB (M 2 0))), (fS (M 2 0)), 3, [], .none, .none, .none, (.str s3 194), none, (.ref 34), .none, 0⟩), #[]⟩
noncomputable def o73 (P : Params) : Obj := ⟨(.type "tuple"), none, (.seq #[(.str s8 216)] 0), #[]⟩
noncomputable def o74 (P : Params) : Obj := ⟨(.type "dict"), none, (.dict #[⟨(PyData.keyHash P s161), (.str s161 203), (.str s3 194)⟩, ⟨(PyData.keyHash P s163), (.str s163 207), (.int 5 206)⟩, ⟨(PyData.keyHash P s6), (.str s6 215), (.ref 35)⟩, ⟨(PyData.keyHash P s164), (.str s164 217), (.ref 36)⟩, ⟨(PyData.keyHash P s166), (.str s166 219), (.ref 39)⟩, ⟨(PyData.keyHash P s153), (.str s153 220), .none⟩] 3), #[]⟩
noncomputable def o75 (P : Params) : Obj := ⟨(.type "type"), none, (.cls ⟨s4, [(.type "Exception")], [(.ref 38), (.type "Exception"), (.type "BaseException"), (.type "object")], 37, s4, true, [], [], false, none, false⟩), #[(some (.ref 22)), none, (some (.str s4 196)), (some (.str s4 204)), (some (.builtin "Exception.__new__")), (some (.bool true))]⟩
noncomputable def o76 (P : Params) : Obj := ⟨(.type "getset_descriptor"), none, (.fields #[(.str s166 218), (.ref 38), (.builtin "ExceptionGroup.__weakref__"), .none]), #[]⟩
noncomputable def o77 (P : Params) : Obj := ⟨(.type "super"), none, (.fields #[(.ref 38), (.ref 38), (.ref 38)]), #[]⟩
noncomputable def o78 (P : Params) : Obj := ⟨(.type "builtin_function_or_method"), none, (.fields #[(.builtin "object.__init_subclass__"), (.ref 38)]), #[]⟩
noncomputable def o79 (P : Params) : Obj := ⟨(.type "dict"), none, (.dict #[⟨(PyData.keyHash P s2), (.str s2 165), (.str s3 194)⟩, ⟨(PyData.keyHash P s153), (.str s153 166), .none⟩, ⟨(PyData.keyHash P s154), (.str s154 167), .none⟩, ⟨(PyData.keyHash P s155), (.str s155 168), (.builtin "__main__.__loader__#opaque")⟩, ⟨(PyData.keyHash P s156), (.str s156 169), .none⟩, ⟨(PyData.keyHash P s157), (.str s157 170), (.ref 6)⟩, ⟨(PyData.keyHash P s158), (.str s158 171), (.ref 4)⟩, ⟨(PyData.keyHash P s159), (.str s159 173), (.str s148 172)⟩, ⟨(PyData.keyHash P s160), (.str s160 174), .none⟩, ⟨(PyData.keyHash P s0), (.str s0 193), (.ref 21)⟩, ⟨(PyData.keyHash P s4), (.str s4 224), (.ref 38)⟩, ⟨(PyData.keyHash P s9), (.str s9 240), (.ref 51)⟩] 12), #[]⟩
noncomputable def o80 (P : Params) : Obj := ⟨.none, none, (.fields #[(.int 1 0), (.int 0 0), (.ref 20), (.int 5 0), (.int 0 0), (.ref 27), (.int 10 0), (.int 0 0), (.ref 47)]), #[]⟩
noncomputable def o81 (P : Params) : Obj := ⟨(.type "type"), none, (.cls ⟨s4, [(.type "Exception")], [(.ref 38), (.type "Exception"), (.type "BaseException"), (.type "object")], 37, s4, true, [], [(.ref 51)], false, none, false⟩), #[(some (.ref 22)), none, (some (.str s4 196)), (some (.str s4 204)), (some (.builtin "Exception.__new__")), (some (.bool true))]⟩
noncomputable def o82 (P : Params) : Obj := ⟨(.type "tuple"), none, (.seq #[(.ref 38)] 0), #[]⟩
noncomputable def o83 (P : Params) : Obj := ⟨(.type "builtin_function_or_method"), none, (.fields #[(.builtin "type.__prepare__"), (.type "type")]), #[]⟩
noncomputable def o84 (P : Params) : Obj := ⟨(.type "dict"), none, (.dict #[⟨(PyData.keyHash P s161), (.str s161 232), (.str s3 194)⟩, ⟨(PyData.keyHash P s162), (.str s162 234), (.str s9 233)⟩, ⟨(PyData.keyHash P s163), (.str s163 236), (.int 10 235)⟩, ⟨(PyData.keyHash P s164), (.str s164 237), (.ref 49)⟩] 4), #[]⟩
noncomputable def o85 (P : Params) : Obj := ⟨(.type "tuple"), none, (.seq #[] 0), #[]⟩
noncomputable def o86 (P : Params) : Obj := ⟨.none, none, (.fields #[]), #[]⟩
noncomputable def o87 (P : Params) : Obj := ⟨(.type "code"), none, (.fields #[(.str s9 227), (.str s9 228), (.str s148 229), (.int 10 0), (.int 0 0), (.int 0 0), (.int 0 0), (.int 0 0), (.ref 45), (.bool false), (.int 181 0), (.ref 46), .none, .none, .none, .none, (.int 230 0), (.int 10 0), (.str s148 231)]), #[]⟩
noncomputable def o88 (P : Params) : Obj := ⟨(.type "frame"), none, .plain, #[(some (.ref 47)), (some (.ref 3)), (some (.ref 44)), none, (some (.str s3 194)), none, (some (.ref 0))]⟩
noncomputable def o89 (P : Params) : Obj := ⟨(.type "tuple"), none, (.seq #[] 0), #[]⟩
noncomputable def o90 (P : Params) : Obj := ⟨(.type "dict"), none, (.dict #[⟨(PyData.keyHash P s161), (.str s161 232), (.str s3 194)⟩, ⟨(PyData.keyHash P s163), (.str s163 236), (.int 10 235)⟩, ⟨(PyData.keyHash P s164), (.str s164 237), (.ref 49)⟩, ⟨(PyData.keyHash P s153), (.str s153 238), .none⟩] 2), #[]⟩
noncomputable def o91 (P : Params) : Obj := ⟨(.type "type"), none, (.cls ⟨s9, [(.ref 38)], [(.ref 51), (.ref 38), (.type "Exception"), (.type "BaseException"), (.type "object")], 50, s9, true, [], [], false, none, false⟩), #[(some (.ref 42)), none, (some (.str s9 225)), (some (.str s9 233)), (some (.builtin "Exception.__new__")), (some (.bool true))]⟩
noncomputable def o92 (P : Params) : Obj := ⟨(.type "super"), none, (.fields #[(.ref 51), (.ref 51), (.ref 51)]), #[]⟩
noncomputable def o93 (P : Params) : Obj := ⟨(.type "builtin_function_or_method"), none, (.fields #[(.builtin "object.__init_subclass__"), (.ref 51)]), #[]⟩
noncomputable def o94 (P : Params) : Obj := ⟨(.type "dict"), none, (.dict #[⟨(PyData.keyHash P s2), (.str s2 165), (.str s26 291)⟩, ⟨(PyData.keyHash P s153), (.str s153 166), .none⟩, ⟨(PyData.keyHash P s154), (.str s154 167), .none⟩, ⟨(PyData.keyHash P s155), (.str s155 168), (.builtin "__main__.__loader__#opaque")⟩, ⟨(PyData.keyHash P s156), (.str s156 169), .none⟩, ⟨(PyData.keyHash P s157), (.str s157 170), (.ref 6)⟩, ⟨(PyData.keyHash P s158), (.str s158 171), (.ref 4)⟩, ⟨(PyData.keyHash P s159), (.str s159 173), (.str s148 172)⟩, ⟨(PyData.keyHash P s160), (.str s160 174), .none⟩, ⟨(PyData.keyHash P s0), (.str s0 193), (.ref 21)⟩, ⟨(PyData.keyHash P s4), (.str s4 224), (.ref 38)⟩, ⟨(PyData.keyHash P s9), (.str s9 240), (.ref 51)⟩, ⟨(PyData.keyHash P s10), (.str s10 256), (.ref 63)⟩, ⟨(PyData.keyHash P s12), (.str s12 260), (.int 400 259)⟩, ⟨(PyData.keyHash P s13), (.str s13 263), (.int 10000000000000000000000000000000000000000000000000000000000000000000000000000000000000000000000000000000000000000000000000000000000000000000000000000000000000000000000000000000000000000000000000000000000000000000000000000000000000000000000000000000000000000000000000000000000000000000000000000000000000000000000000000000000000000000000000000000000000000000000000000000000000000000000000000000000000000 262)⟩, ⟨(PyData.keyHash P s14), (.str s14 273), (.ref 72)⟩, ⟨(PyData.keyHash P s20), (.str s20 280), (.ref 79)⟩, ⟨(PyData.keyHash P s22), (.str s22 290), (.ref 87)⟩, ⟨(PyData.keyHash P s27), (.str s27 299), (.ref 94)⟩] 19), #[]⟩
noncomputable def o95 (P : Params) : Obj := ⟨.none, none, (.fields #[(.int 1 0), (.int 0 0), (.ref 20), (.int 5 0), (.int 0 0), (.ref 27), (.int 10 0), (.int 0 0), (.ref 47), (.int 12 0), (.int 0 0), (.ref 59), (.int 17 0), (.int 0 0), (.ref 71), (.int 22 0), (.int 0 0), (.ref 78), (.int 28 0), (.int 0 0), (.ref 86), (.int 39 0), (.int 0 0), (.ref 93)]), #[]⟩
noncomputable def o96 (P : Params) : Obj := ⟨(.type "type"), none, (.cls ⟨s4, [(.type "Exception")], [(.ref 38), (.type "Exception"), (.type "BaseException"), (.type "object")], 37, s4, true, [], [(.ref 51), (.ref 63)], false, none, false⟩), #[(some (.ref 22)), none, (some (.str s4 196)), (some (.str s4 204)), (some (.builtin "Exception.__new__")), (some (.bool true))]⟩
noncomputable def o97 (P : Params) : Obj := ⟨(.type "tuple"), none, (.seq #[(.ref 38)] 0), #[]⟩
noncomputable def o98 (P : Params) : Obj := ⟨(.type "builtin_function_or_method"), none, (.fields #[(.builtin "type.__prepare__"), (.type "type")]), #[]⟩
noncomputable def o99 (P : Params) : Obj := ⟨(.type "dict"), none, (.dict #[⟨(PyData.keyHash P s161), (.str s161 248), (.str s3 194)⟩, ⟨(PyData.keyHash P s162), (.str s162 250), (.str s10 249)⟩, ⟨(PyData.keyHash P s163), (.str s163 252), (.int 12 251)⟩, ⟨(PyData.keyHash P s164), (.str s164 253), (.ref 61)⟩] 4), #[]⟩
noncomputable def o100 (P : Params) : Obj := ⟨(.type "tuple"), none, (.seq #[] 0), #[]⟩
noncomputable def o101 (P : Params) : Obj := ⟨.none, none, (.fields #[]), #[]⟩
noncomputable def o102 (P : Params) : Obj := ⟨(.type "code"), none, (.fields #[(.str s10 243), (.str s10 244), (.str s148 245), (.int 12 0), (.int 0 0), (.int 0 0), (.int 0 0), (.int 0 0), (.ref 57), (.bool false), (.int 181 0), (.ref 58), .none, .none, .none, .none, (.int 246 0), (.int 12 0), (.str s148 247)]), #[]⟩
noncomputable def o103 (P : Params) : Obj := ⟨(.type "frame"), none, .plain, #[(some (.ref 59)), (some (.ref 3)), (some (.ref 56)), none, (some (.str s3 194)), none, (some (.ref 0))]⟩
noncomputable def o104 (P : Params) : Obj := ⟨(.type "tuple"), none, (.seq #[] 0), #[]⟩
noncomputable def o105 (P : Params) : Obj := ⟨(.type "dict"), none, (.dict #[⟨(PyData.keyHash P s161), (.str s161 248), (.str s3 194)⟩, ⟨(PyData.keyHash P s163), (.str s163 252), (.int 12 251)⟩, ⟨(PyData.keyHash P s164), (.str s164 253), (.ref 61)⟩, ⟨(PyData.keyHash P s153), (.str s153 254), .none⟩] 2), #[]⟩
noncomputable def o106 (P : Params) : Obj := ⟨(.type "type"), none, (.cls ⟨s10, [(.ref 38)], [(.ref 63), (.ref 38), (.type "Exception"), (.type "BaseException"), (.type "object")], 62, s10, true, [], [], false, none, false⟩), #[(some (.ref 54)), none, (some (.str s10 241)), (some (.str s10 249)), (some (.builtin "Exception.__new__")), (some (.bool true))]⟩
noncomputable def o107 (P : Params) : Obj := ⟨(.type "super"), none, (.fields #[(.ref 63), (.ref 63), (.ref 63)]), #[]⟩
noncomputable def o108 (P : Params) : Obj := ⟨(.type "builtin_function_or_method"), none, (.fields #[(.builtin "object.__init_subclass__"), (.ref 63)]), #[]⟩
noncomputable def o109 (P : Params) : Obj := ⟨(.type "tuple"), none, (.seq #[] 0), #[]⟩
noncomputable def o110 (P : Params) : Obj := ⟨.none, none, (.fields #[]), #[]⟩
noncomputable def o111 (P : Params) : Obj := ⟨(.type "tuple"), none, (.seq #[(.str s15 267), (.str s16 268), (.str s17 269), (.str s18 270)] 0), #[]⟩
noncomputable def o112 (P : Params) : Obj := ⟨(.type "tuple"), none, (.seq #[] 0), #[]⟩
noncomputable def o113 (P : Params) : Obj := ⟨.none, none, (.func ⟨s14, s14, (fP (T 8)), (.stmts (fB (T 8))), (fS (T 8)), 0, [], .none, .none, .none, .none, none, .none, .none, 0⟩), #[]⟩
noncomputable def o114 (P : Params) : Obj := ⟨(.type "code"), none, (.fields #[(.str s14 264), (.str s14 265), (.str s148 266), (.int 17 0), (.int 2 0), (.int 0 0), (.int 0 0), (.int 3 0), (.ref 66), (.bool true), (.int 181 0), (.ref 67), .none, (.ref 68), (.ref 69), (.ref 70), (.int 271 0), (.int 17 0), (.str s148 272)]), #[]⟩
noncomputable def o115 (P : Params) : Obj := ⟨(.type "function"), none, (.func ⟨s14, s14, (fP (T 8)), (.stmts (fB (T 8))), (fS (T 8)), 3, [], .none, .none, .none, (.str s11 257), none, (.ref 71), .none, 0⟩), #[]⟩
noncomputable def o116 (P : Params) : Obj := ⟨(.type "tuple"), none, (.seq #[] 0), #[]⟩
noncomputable def o117 (P : Params) : Obj := ⟨.none, none, (.fields #[]), #[]⟩
noncomputable def o118 (P : Params) : Obj := ⟨(.type "tuple"), none, (.seq #[(.str s21 277)] 0), #[]⟩
noncomputable def o119 (P : Params) : Obj := ⟨(.type "tuple"), none, (.seq #[] 0), #[]⟩
noncomputable def o120 (P : Params) : Obj := ⟨.none, none, (.func ⟨s20, s20, (fP (T 9)), (.stmts (fB (T 9))), (fS (T 9)), 0, [], .none, .none, .none, .none, none, .none, .none, 0⟩), #[]⟩
noncomputable def o121 (P : Params) : Obj := ⟨(.type "code"), none, (.fields #[(.str s20 274), (.str s20 275), (.str s148 276), (.int 22 0), (.int 1 0), (.int 0 0), (.int 0 0), (.int 3 0), (.ref 73), (.bool true), (.int 181 0), (.ref 74), .none, (.ref 75), (.ref 76), (.ref 77), (.int 278 0), (.int 22 0), (.str s148 279)]), #[]⟩
noncomputable def o122 (P : Params) : Obj := ⟨(.type "function"), none, (.func ⟨s20, s20, (fP (T 9)), (.stmts (fB (T 9))), (fS (T 9)), 3, [], .none, .none, .none, (.str s11 257), none, (.ref 78), .none, 0⟩), #[]⟩
noncomputable def o123 (P : Params) : Obj := ⟨(.type "tuple"), none, (.seq #[(.int 1 281)] 0), #[]⟩
noncomputable def o124 (P : Params) : Obj := ⟨(.type "tuple"), none, (.seq #[] 0), #[]⟩
noncomputable def o125 (P : Params) : Obj := ⟨.none, none, (.fields #[]), #[]⟩
noncomputable def o126 (P : Params) : Obj := ⟨(.type "tuple"), none, (.seq #[(.str s23 285), (.str s24 286), (.str s25 287)] 0), #[]⟩
noncomputable def o127 (P : Params) : Obj := ⟨(.type "tuple"), none, (.seq #[] 0), #[]⟩
noncomputable def o128 (P : Params) : Obj := ⟨.none, none, (.func ⟨s22, s22, (fP (T 10)), (.stmts (fB (T 10))), (fS (T 10)), 0, [], .none, .none, .none, .none, none, .none, .none, 0⟩), #[]⟩
noncomputable def o129 (P : Params) : Obj := ⟨(.type "code"), none, (.fields #[(.str s22 282), (.str s22 283), (.str s148 284), (.int 28 0), (.int 2 0), (.int 0 0), (.int 0 0), (.int 3 0), (.ref 81), (.bool true), (.int 181 0), (.ref 82), .none, (.ref 83), (.ref 84), (.ref 85), (.int 288 0), (.int 28 0), (.str s148 289)]), #[]⟩
noncomputable def o130 (P : Params) : Obj := ⟨(.type "function"), none, (.func ⟨s22, s22, (fP (T 10)), (.stmts (fB (T 10))), (fS (T 10)), 3, [], (.ref 80), .none, .none, (.str s11 257), none, (.ref 86), .none, 0⟩), #[]⟩
noncomputable def o131 (P : Params) : Obj := ⟨(.type "tuple"), none, (.seq #[] 0), #[]⟩
noncomputable def o132 (P : Params) : Obj := ⟨.none, none, (.fields #[]), #[]⟩
noncomputable def o133 (P : Params) : Obj := ⟨(.type "tuple"), none, (.seq #[(.str s28 296)] 0), #[]⟩
noncomputable def o134 (P : Params) : Obj := ⟨(.type "tuple"), none, (.seq #[] 0), #[]⟩
noncomputable def o135 (P : Params) : Obj := ⟨.none, none, (.func ⟨s27, s27, (fP (T 12)), (.stmts (fB (T 12))), (fS (T 12)), 0, [], .none, .none, .none, .none, none, .none, .none, 0⟩), #[]⟩
noncomputable def o136 (P : Params) : Obj := ⟨(.type "code"), none, (.fields #[(.str s27 293), (.str s27 294), (.str s148 295), (.int 39 0), (.int 1 0), (.int 0 0), (.int 0 0), (.int 3 0), (.ref 88), (.bool true), (.int 181 0), (.ref 89), .none, (.ref 90), (.ref 91), (.ref 92), (.int 297 0), (.int 39 0), (.str s148 298)]), #[]⟩
noncomputable def o137 (P : Params) : Obj := ⟨(.type "function"), none, (.func ⟨s27, s27, (fP (T 12)), (.stmts (fB (T 12))), (fS (T 12)), 3, [], .none, .none, .none, (.str s26 291), none, (.ref 93), .none, 0⟩), #[]⟩
noncomputable def o138 (P : Params) : Obj := ⟨(.type "dict"), none, (.dict #[⟨(PyData.keyHash P s2), (.str s2 165), (.str s48 326)⟩, ⟨(PyData.keyHash P s153), (.str s153 166), .none⟩, ⟨(PyData.keyHash P s154), (.str s154 167), .none⟩, ⟨(PyData.keyHash P s155), (.str s155 168), (.builtin "__main__.__loader__#opaque")⟩, ⟨(PyData.keyHash P s156), (.str s156 169), .none⟩, ⟨(PyData.keyHash P s157), (.str s157 170), (.ref 6)⟩, ⟨(PyData.keyHash P s158), (.str s158 171), (.ref 4)⟩, ⟨(PyData.keyHash P s159), (.str s159 173), (.str s148 172)⟩, ⟨(PyData.keyHash P s160), (.str s160 174), .none⟩, ⟨(PyData.keyHash P s0), (.str s0 193), (.ref 21)⟩, ⟨(PyData.keyHash P s4), (.str s4 224), (.ref 38)⟩, ⟨(PyData.keyHash P s9), (.str s9 240), (.ref 51)⟩, ⟨(PyData.keyHash P s10), (.str s10 256), (.ref 63)⟩, ⟨(PyData.keyHash P s12), (.str s12 260), (.int 400 259)⟩, ⟨(PyData.keyHash P s13), (.str s13 263), (.int 10000000000000000000000000000000000000000000000000000000000000000000000000000000000000000000000000000000000000000000000000000000000000000000000000000000000000000000000000000000000000000000000000000000000000000000000000000000000000000000000000000000000000000000000000000000000000000000000000000000000000000000000000000000000000000000000000000000000000000000000000000000000000000000000000000000000000000 262)⟩, ⟨(PyData.keyHash P s14), (.str s14 273), (.ref 72)⟩, ⟨(PyData.keyHash P s20), (.str s20 280), (.ref 79)⟩, ⟨(PyData.keyHash P s22), (.str s22 290), (.ref 87)⟩, ⟨(PyData.keyHash P s27), (.str s27 299), (.ref 94)⟩, ⟨(PyData.keyHash P s32), (.str s32 306), (.ref 101)⟩, ⟨(PyData.keyHash P s34), (.str s34 315), (.ref 108)⟩, ⟨(PyData.keyHash P s39), (.str s39 325), (.ref 115)⟩] 22), #[]⟩
noncomputable def o139 (P : Params) : Obj := ⟨.none, none, (.fields #[(.int 1 0), (.int 0 0), (.ref 20), (.int 5 0), (.int 0 0), (.ref 27), (.int 10 0), (.int 0 0), (.ref 47), (.int 12 0), (.int 0 0), (.ref 59), (.int 17 0), (.int 0 0), (.ref 71), (.int 22 0), (.int 0 0), (.ref 78), (.int 28 0), (.int 0 0), (.ref 86), (.int 39 0), (.int 0 0), (.ref 93), (.int 43 0), (.int 0 0), (.ref 100), (.int 45 0), (.int 0 0), (.ref 107), (.int 50 0), (.int 0 0), (.ref 114)]), #[]⟩
noncomputable def o140 (P : Params) : Obj := ⟨(.type "tuple"), none, (.seq #[] 0), #[]⟩
noncomputable def o141 (P : Params) : Obj := ⟨.none, none, (.fields #[]), #[]⟩
noncomputable def o142 (P : Params) : Obj := ⟨(.type "tuple"), none, (.seq #[(.str s28 303)] 0), #[]⟩
noncomputable def o143 (P : Params) : Obj := ⟨(.type "tuple"), none, (.seq #[] 0), #[]⟩
noncomputable def o144 (P : Params) : Obj := ⟨.none, none, (.func ⟨s32, s32, (fP (T 13)), (.stmts (fB (T 13))), (fS (T 13)), 0, [], .none, .none, .none, .none, none, .none, .none, 0⟩), #[]⟩
noncomputable def o145 (P : Params) : Obj := ⟨(.type "code"), none, (.fields #[(.str s32 300), (.str s32 301), (.str s148 302), (.int 43 0), (.int 1 0), (.int 0 0), (.int 0 0), (.int 3 0), (.ref 95), (.bool true), (.int 181 0), (.ref 96), .none, (.ref 97), (.ref 98), (.ref 99), (.int 304 0), (.int 43 0), (.str s148 305)]), #[]⟩
noncomputable def o146 (P : Params) : Obj := ⟨(.type "function"), none, (.func ⟨s32, s32, (fP (T 13)), (.stmts (fB (T 13))), (fS (T 13)), 3, [], .none, .none, .none, (.str s26 291), none, (.ref 100), .none, 0⟩), #[]⟩
noncomputable def o147 (P : Params) : Obj := ⟨(.type "tuple"), none, (.seq #[] 0), #[]⟩
noncomputable def o148 (P : Params) : Obj := ⟨.none, none, (.fields #[]), #[]⟩
noncomputable def o149 (P : Params) : Obj := ⟨(.type "tuple"), none, (.seq #[(.str s35 310), (.str s36 311), (.str s38 312)] 0), #[]⟩
noncomputable def o150 (P : Params) : Obj := ⟨(.type "tuple"), none, (.seq #[] 0), #[]⟩
noncomputable def o151 (P : Params) : Obj := ⟨.none, none, (.func ⟨s34, s34, (fP (T 14)), (.stmts (fB (T 14))), (fS (T 14)), 0, [], .none, .none, .none, .none, none, .none, .none, 0⟩), #[]⟩
noncomputable def o152 (P : Params) : Obj := ⟨(.type "code"), none, (.fields #[(.str s34 307), (.str s34 308), (.str s148 309), (.int 45 0), (.int 2 0), (.int 0 0), (.int 0 0), (.int 3 0), (.ref 102), (.bool true), (.int 181 0), (.ref 103), .none, (.ref 104), (.ref 105), (.ref 106), (.int 313 0), (.int 45 0), (.str s148 314)]), #[]⟩
noncomputable def o153 (P : Params) : Obj := ⟨(.type "function"), none, (.func ⟨s34, s34, (fP (T 14)), (.stmts (fB (T 14))), (fS (T 14)), 3, [], .none, .none, .none, (.str s26 291), none, (.ref 107), .none, 0⟩), #[]⟩
noncomputable def o154 (P : Params) : Obj := ⟨(.type "tuple"), none, (.seq #[] 0), #[]⟩
noncomputable def o155 (P : Params) : Obj := ⟨.none, none, (.fields #[]), #[]⟩
noncomputable def o156 (P : Params) : Obj := ⟨(.type "tuple"), none, (.seq #[(.str s40 319), (.str s37 320), (.str s41 321), (.str s44 322)] 0), #[]⟩
noncomputable def o157 (P : Params) : Obj := ⟨(.type "tuple"), none, (.seq #[] 0), #[]⟩
noncomputable def o158 (P : Params) : Obj := ⟨.none, none, (.func ⟨s39, s39, (fP (T 15)), (.stmts (fB (T 15))), (fS (T 15)), 0, [], .none, .none, .none, .none, none, .none, .none, 0⟩), #[]⟩
noncomputable def o159 (P : Params) : Obj := ⟨(.type "code"), none, (.fields #[(.str s39 316), (.str s39 317), (.str s148 318), (.int 50 0), (.int 3 0), (.int 0 0), (.int 0 0), (.int 3 0), (.ref 109), (.bool true), (.int 181 0), (.ref 110), .none, (.ref 111), (.ref 112), (.ref 113), (.int 323 0), (.int 50 0), (.str s148 324)]), #[]⟩
noncomputable def o160 (P : Params) : Obj := ⟨(.type "function"), none, (.func ⟨s39, s39, (fP (T 15)), (.stmts (fB (T 15))), (fS (T 15)), 3, [], .none, .none, .none, (.str s26 291), none, (.ref 114), .none, 0⟩), #[]⟩
noncomputable def o161 (P : Params) : Obj := ⟨(.type "dict"), none, (.dict #[⟨(PyData.keyHash P s2), (.str s2 165), (.str s61 401)⟩, ⟨(PyData.keyHash P s153), (.str s153 166), .none⟩, ⟨(PyData.keyHash P s154), (.str s154 167), .none⟩, ⟨(PyData.keyHash P s155), (.str s155 168), (.builtin "__main__.__loader__#opaque")⟩, ⟨(PyData.keyHash P s156), (.str s156 169), .none⟩, ⟨(PyData.keyHash P s157), (.str s157 170), (.ref 6)⟩, ⟨(PyData.keyHash P s158), (.str s158 171), (.ref 4)⟩, ⟨(PyData.keyHash P s159), (.str s159 173), (.str s148 172)⟩, ⟨(PyData.keyHash P s160), (.str s160 174), .none⟩, ⟨(PyData.keyHash P s0), (.str s0 193), (.ref 21)⟩, ⟨(PyData.keyHash P s4), (.str s4 224), (.ref 38)⟩, ⟨(PyData.keyHash P s9), (.str s9 240), (.ref 51)⟩, ⟨(PyData.keyHash P s10), (.str s10 256), (.ref 63)⟩, ⟨(PyData.keyHash P s12), (.str s12 260), (.int 400 259)⟩, ⟨(PyData.keyHash P s13), (.str s13 263), (.int 10000000000000000000000000000000000000000000000000000000000000000000000000000000000000000000000000000000000000000000000000000000000000000000000000000000000000000000000000000000000000000000000000000000000000000000000000000000000000000000000000000000000000000000000000000000000000000000000000000000000000000000000000000000000000000000000000000000000000000000000000000000000000000000000000000000000000000 262)⟩, ⟨(PyData.keyHash P s14), (.str s14 273), (.ref 72)⟩, ⟨(PyData.keyHash P s20), (.str s20 280), (.ref 79)⟩, ⟨(PyData.keyHash P s22), (.str s22 290), (.ref 87)⟩, ⟨(PyData.keyHash P s27), (.str s27 299), (.ref 94)⟩, ⟨(PyData.keyHash P s32), (.str s32 306), (.ref 101)⟩, ⟨(PyData.keyHash P s34), (.str s34 315), (.ref 108)⟩, ⟨(PyData.keyHash P s39), (.str s39 325), (.ref 115)⟩, ⟨(PyData.keyHash P s49), (.str s49 400), (.ref 154)⟩, ⟨(PyData.keyHash P s62), (.str s62 405), (.ref 159)⟩] 24), #[]⟩
noncomputable def o162 (P : Params) : Obj := ⟨.none, none, (.fields #[(.int 1 0), (.int 0 0), (.ref 20), (.int 5 0), (.int 0 0), (.ref 27), (.int 10 0), (.int 0 0), (.ref 47), (.int 12 0), (.int 0 0), (.ref 59), (.int 17 0), (.int 0 0), (.ref 71), (.int 22 0), (.int 0 0), (.ref 78), (.int 28 0), (.int 0 0), (.ref 86), (.int 39 0), (.int 0 0), (.ref 93), (.int 43 0), (.int 0 0), (.ref 100), (.int 45 0), (.int 0 0), (.ref 107), (.int 50 0), (.int 0 0), (.ref 114), (.int 59 0), (.int 0 0), (.ref 121)]), #[]⟩
noncomputable def o163 (P : Params) : Obj := ⟨(.type "tuple"), none, (.seq #[] 0), #[]⟩
noncomputable def o164 (P : Params) : Obj := ⟨(.type "builtin_function_or_method"), none, (.fields #[(.builtin "type.__prepare__"), (.type "type")]), #[]⟩
noncomputable def o165 (P : Params) : Obj := ⟨(.type "dict"), none, (.dict #[⟨(PyData.keyHash P s161), (.str s161 335), (.str s48 326)⟩, ⟨(PyData.keyHash P s162), (.str s162 337), (.str s49 336)⟩, ⟨(PyData.keyHash P s163), (.str s163 339), (.int 59 338)⟩, ⟨(PyData.keyHash P s6), (.str s6 357), (.ref 130)⟩, ⟨(PyData.keyHash P s57), (.str s57 367), (.ref 137)⟩, ⟨(PyData.keyHash P s58), (.str s58 375), (.ref 144)⟩, ⟨(PyData.keyHash P s59), (.str s59 383), (.ref 151)⟩, ⟨(PyData.keyHash P s164), (.str s164 393), (.ref 152)⟩] 8), #[]⟩
noncomputable def o166 (P : Params) : Obj := ⟨(.type "tuple"), none, (.seq #[] 0), #[]⟩
noncomputable def o167 (P : Params) : Obj := ⟨.none, none, (.fields #[(.int 61 0), (.int 4 0), (.ref 129), (.int 72 0), (.int 4 0), (.ref 136), (.int 75 0), (.int 4 0), (.ref 143), (.int 78 0), (.int 4 0), (.ref 150)]), #[]⟩
noncomputable def o168 (P : Params) : Obj := ⟨(.type "code"), none, (.fields #[(.str s49 330), (.str s49 331), (.str s148 332), (.int 59 0), (.int 0 0), (.int 0 0), (.int 0 0), (.int 0 0), (.ref 119), (.bool false), (.int 181 0), (.ref 120), .none, .none, .none, .none, (.int 333 0), (.int 59 0), (.str s148 334)]), #[]⟩
noncomputable def o169 (P : Params) : Obj := ⟨(.type "frame"), none, .plain, #[(some (.ref 121)), (some (.ref 3)), (some (.ref 118)), none, (some (.str s48 326)), none, (some (.ref 0))]⟩
noncomputable def o170 (P : Params) : Obj := ⟨(.type "tuple"), none, (.seq #[(.int 1 340), (.int 1 341), .none, .none, .none, .none, .none] 0), #[]⟩
noncomputable def o171 (P : Params) : Obj := ⟨(.type "tuple"), none, (.seq #[] 0), #[]⟩
noncomputable def o172 (P : Params) : Obj := ⟨.none, none, (.fields #[]), #[]⟩
noncomputable def o173 (P : Params) : Obj := ⟨(.type "tuple"), none, (.seq #[(.str s7 345), (.str s41 346), (.str s37 347), (.str s50 348), (.str s51 349), (.str s52 350), (.str s53 351), (.str s54 352), (.str s55 353), (.str s56 354)] 0), #[]⟩
noncomputable def o174 (P : Params) : Obj := ⟨(.type "tuple"), none, (.seq #[] 0), #[]⟩
noncomputable def o175 (P : Params) : Obj := ⟨.none, none, (.func ⟨s6, s167, (fP (M 17 0)), (.stmts (fB (M 17 0))), (fS (M 17 0)), 0, [], .none, .none, .none, .none, none, .none, .none, 0⟩), #[]⟩
noncomputable def o176 (P : Params) : Obj := ⟨(.type "code"), none, (.fields #[(.str s6 342), (.str s167 343), (.str s148 344), (.int 61 0), (.int 10 0), (.int 0 0), (.int 0 0), (.int 3 0), (.ref 124), (.bool true), (.int 181 0), (.ref 125), .none, (.ref 126), (.ref 127), (.ref 128), (.int 355 0), (.int 61 0), (.str s148 356)]), #[]⟩
noncomputable def o177 (P : Params) : Obj := ⟨(.type "function"), none, (.func ⟨s6, s167, (fP (M 17 0)), (.stmts (fB (M 17 0))), (fS (M 17 0)), 3, [], (.ref 123), .none, .none, (.str s48 326), none, (.ref 129), .none, 0⟩), #[]⟩
noncomputable def o178 (P : Params) : Obj := ⟨(.type "tuple"), none, (.seq #[] 0), #[]⟩
noncomputable def o179 (P : Params) : Obj := ⟨.none, none, (.fields #[]), #[]⟩
noncomputable def o180 (P : Params) : Obj := ⟨(.type "tuple"), none, (.seq #[(.str s7 361), (.str s37 362), (.str s50 363), (.str s51 364)] 0), #[]⟩
noncomputable def o181 (P : Params) : Obj := ⟨(.type "tuple"), none, (.seq #[] 0), #[]⟩
noncomputable def o182 (P : Params) : Obj := ⟨.none, none, (.func ⟨s57, s168, (fP (M 17 1)), (.stmts (fB (M 17 1))), (fS (M 17 1)), 0, [], .none, .none, .none, .none, none, .none, .none, 0⟩), #[]⟩
noncomputable def o183 (P : Params) : Obj := ⟨(.type "code"), none, (.fields #[(.str s57 358), (.str s168 359), (.str s148 360), (.int 72 0), (.int 4 0), (.int 0 0), (.int 0 0), (.int 3 0), (.ref 131), (.bool true), (.int 181 0), (.ref 132), .none, (.ref 133), (.ref 134), (.ref 135), (.int 365 0), (.int 72 0), (.str s148 366)]), #[]⟩
noncomputable def o184 (P : Params) : Obj := ⟨(.type "function"), none, (.func ⟨s57, s168, (fP (M 17 1)), (.stmts (fB (M 17 1))), (fS (M 17 1)), 3, [], .none, .none, .none, (.str s48 326), none, (.ref 136), .none, 0⟩), #[]⟩
noncomputable def o185 (P : Params) : Obj := ⟨(.type "tuple"), none, (.seq #[] 0), #[]⟩
noncomputable def o186 (P : Params) : Obj := ⟨.none, none, (.fields #[]), #[]⟩
noncomputable def o187 (P : Params) : Obj := ⟨(.type "tuple"), none, (.seq #[(.str s7 371), (.str s43 372)] 0), #[]⟩
noncomputable def o188 (P : Params) : Obj := ⟨(.type "tuple"), none, (.seq #[] 0), #[]⟩
noncomputable def o189 (P : Params) : Obj := ⟨.none, none, (.func ⟨s58, s169, (fP (M 17 2)), (.stmts (fB (M 17 2))), (fS (M 17 2)), 0, [], .none, .none, .none, .none, none, .none, .none, 0⟩), #[]⟩
noncomputable def o190 (P : Params) : Obj := ⟨(.type "code"), none, (.fields #[(.str s58 368), (.str s169 369), (.str s148 370), (.int 75 0), (.int 2 0), (.int 0 0), (.int 0 0), (.int 3 0), (.ref 138), (.bool true), (.int 181 0), (.ref 139), .none, (.ref 140), (.ref 141), (.ref 142), (.int 373 0), (.int 75 0), (.str s148 374)]), #[]⟩
noncomputable def o191 (P : Params) : Obj := ⟨(.type "function"), none, (.func ⟨s58, s169, (fP (M 17 2)), (.stmts (fB (M 17 2))), (fS (M 17 2)), 3, [], .none, .none, .none, (.str s48 326), none, (.ref 143), .none, 0⟩), #[]⟩
noncomputable def o192 (P : Params) : Obj := ⟨(.type "tuple"), none, (.seq #[] 0), #[]⟩
noncomputable def o193 (P : Params) : Obj := ⟨.none, none, (.fields #[]), #[]⟩
noncomputable def o194 (P : Params) : Obj := ⟨(.type "tuple"), none, (.seq #[(.str s7 379), (.str s60 380)] 0), #[]⟩
noncomputable def o195 (P : Params) : Obj := ⟨(.type "tuple"), none, (.seq #[] 0), #[]⟩
noncomputable def o196 (P : Params) : Obj := ⟨.none, none, (.func ⟨s59, s170, (fP (M 17 3)), (.stmts (fB (M 17 3))), (fS (M 17 3)), 0, [], .none, .none, .none, .none, none, .none, .none, 0⟩), #[]⟩
noncomputable def o197 (P : Params) : Obj := ⟨(.type "code"), none, (.fields #[(.str s59 376), (.str s170 377), (.str s148 378), (.int 78 0), (.int 2 0), (.int 0 0), (.int 0 0), (.int 3 0), (.ref 145), (.bool true), (.int 181 0), (.ref 146), .none, (.ref 147), (.ref 148), (.ref 149), (.int 381 0), (.int 78 0), (.str s148 382)]), #[]⟩
noncomputable def o198 (P : Params) : Obj := ⟨(.type "function"), none, (.func ⟨s59, s170, (fP (M 17 3)), (.stmts (fB (M 17 3))), (fS (M 17 3)), 3, [], .none, .none, .none, (.str s48 326), none, (.ref 150), .none, 0⟩), #[]⟩
noncomputable def o199 (P : Params) : Obj := ⟨(.type "tuple"), none, (.seq #[(.str s54 384), (.str s55 385), (.str s56 386), (.str s53 387), (.str s37 388), (.str s50 389), (.str s51 390), (.str s41 391), (.str s52 392)] 0), #[]⟩
noncomputable def o200 (P : Params) : Obj := ⟨(.type "dict"), none, (.dict #[⟨(PyData.keyHash P s161), (.str s161 335), (.str s48 326)⟩, ⟨(PyData.keyHash P s163), (.str s163 339), (.int 59 338)⟩, ⟨(PyData.keyHash P s6), (.str s6 357), (.ref 130)⟩, ⟨(PyData.keyHash P s57), (.str s57 367), (.ref 137)⟩, ⟨(PyData.keyHash P s58), (.str s58 375), (.ref 144)⟩, ⟨(PyData.keyHash P s59), (.str s59 383), (.ref 151)⟩, ⟨(PyData.keyHash P s164), (.str s164 393), (.ref 152)⟩, ⟨(PyData.keyHash P s171), (.str s171 395), (.ref 155)⟩, ⟨(PyData.keyHash P s166), (.str s166 397), (.ref 156)⟩, ⟨(PyData.keyHash P s153), (.str s153 398), .none⟩] 4), #[]⟩
noncomputable def o201 (P : Params) : Obj := ⟨(.type "type"), none, (.cls ⟨s49, [(.type "object")], [(.ref 154), (.type "object")], 153, s49, true, [], [], false, none, false⟩), #[none, none, (some (.str s49 328)), (some (.str s49 336)), (some (.builtin "object.__new__")), (some (.bool true))]⟩
noncomputable def o202 (P : Params) : Obj := ⟨(.type "getset_descriptor"), none, (.fields #[(.str s171 394), (.ref 154), (.builtin "function.__dict__"), (.builtin "function.__dict__#set")]), #[]⟩
noncomputable def o203 (P : Params) : Obj := ⟨(.type "getset_descriptor"), none, (.fields #[(.str s166 396), (.ref 154), (.builtin "ExceptionGroup.__weakref__"), .none]), #[]⟩
noncomputable def o204 (P : Params) : Obj := ⟨(.type "super"), none, (.fields #[(.ref 154), (.ref 154), (.ref 154)]), #[]⟩
noncomputable def o205 (P : Params) : Obj := ⟨(.type "builtin_function_or_method"), none, (.fields #[(.builtin "object.__init_subclass__"), (.ref 154)]), #[]⟩
noncomputable def o206 (P : Params) : Obj := ⟨(.type "tuple"), none, (.seq #[(.str s63 403), (.str s64 404)] 0), #[]⟩
noncomputable def o207 (P : Params) : Obj := ⟨(.type "dict"), none, (.dict #[⟨(PyData.keyHash P s2), (.str s2 165), (.str s61 401)⟩, ⟨(PyData.keyHash P s153), (.str s153 166), .none⟩, ⟨(PyData.keyHash P s154), (.str s154 167), .none⟩, ⟨(PyData.keyHash P s155), (.str s155 168), (.builtin "__main__.__loader__#opaque")⟩, ⟨(PyData.keyHash P s156), (.str s156 169), .none⟩, ⟨(PyData.keyHash P s157), (.str s157 170), (.ref 6)⟩, ⟨(PyData.keyHash P s158), (.str s158 171), (.ref 4)⟩, ⟨(PyData.keyHash P s159), (.str s159 173), (.str s148 172)⟩, ⟨(PyData.keyHash P s160), (.str s160 174), .none⟩, ⟨(PyData.keyHash P s0), (.str s0 193), (.ref 21)⟩, ⟨(PyData.keyHash P s4), (.str s4 224), (.ref 38)⟩, ⟨(PyData.keyHash P s9), (.str s9 240), (.ref 51)⟩, ⟨(PyData.keyHash P s10), (.str s10 256), (.ref 63)⟩, ⟨(PyData.keyHash P s12), (.str s12 260), (.int 400 259)⟩, ⟨(PyData.keyHash P s13), (.str s13 263), (.int 10000000000000000000000000000000000000000000000000000000000000000000000000000000000000000000000000000000000000000000000000000000000000000000000000000000000000000000000000000000000000000000000000000000000000000000000000000000000000000000000000000000000000000000000000000000000000000000000000000000000000000000000000000000000000000000000000000000000000000000000000000000000000000000000000000000000000000 262)⟩, ⟨(PyData.keyHash P s14), (.str s14 273), (.ref 72)⟩, ⟨(PyData.keyHash P s20), (.str s20 280), (.ref 79)⟩, ⟨(PyData.keyHash P s22), (.str s22 290), (.ref 87)⟩, ⟨(PyData.keyHash P s27), (.str s27 299), (.ref 94)⟩, ⟨(PyData.keyHash P s32), (.str s32 306), (.ref 101)⟩, ⟨(PyData.keyHash P s34), (.str s34 315), (.ref 108)⟩, ⟨(PyData.keyHash P s39), (.str s39 325), (.ref 115)⟩, ⟨(PyData.keyHash P s49), (.str s49 400), (.ref 154)⟩, ⟨(PyData.keyHash P s62), (.str s62 405), (.ref 159)⟩, ⟨(PyData.keyHash P s65), (.str s65 447), (.ref 176)⟩] 25), #[]⟩
noncomputable def o208 (P : Params) : Obj := ⟨.none, none, (.fields #[(.int 1 0), (.int 0 0), (.ref 20), (.int 5 0), (.int 0 0), (.ref 27), (.int 10 0), (.int 0 0), (.ref 47), (.int 12 0), (.int 0 0), (.ref 59), (.int 17 0), (.int 0 0), (.ref 71), (.int 22 0), (.int 0 0), (.ref 78), (.int 28 0), (.int 0 0), (.ref 86), (.int 39 0), (.int 0 0), (.ref 93), (.int 43 0), (.int 0 0), (.ref 100), (.int 45 0), (.int 0 0), (.ref 107), (.int 50 0), (.int 0 0), (.ref 114), (.int 59 0), (.int 0 0), (.ref 121), (.int 82 0), (.int 0 0), (.ref 165)]), #[]⟩
noncomputable def o209 (P : Params) : Obj := ⟨(.type "tuple"), none, (.seq #[] 0), #[]⟩
noncomputable def o210 (P : Params) : Obj := ⟨(.type "builtin_function_or_method"), none, (.fields #[(.builtin "type.__prepare__"), (.type "type")]), #[]⟩
noncomputable def o211 (P : Params) : Obj := ⟨(.type "dict"), none, (.dict #[⟨(PyData.keyHash P s161), (.str s161 413), (.str s61 401)⟩, ⟨(PyData.keyHash P s162), (.str s162 415), (.str s65 414)⟩, ⟨(PyData.keyHash P s163), (.str s163 417), (.int 82 416)⟩, ⟨(PyData.keyHash P s6), (.str s6 430), (.ref 173)⟩, ⟨(PyData.keyHash P s164), (.str s164 440), (.ref 174)⟩] 5), #[]⟩
noncomputable def o212 (P : Params) : Obj := ⟨(.type "tuple"), none, (.seq #[] 0), #[]⟩
noncomputable def o213 (P : Params) : Obj := ⟨.none, none, (.fields #[(.int 84 0), (.int 4 0), (.ref 172)]), #[]⟩
noncomputable def o214 (P : Params) : Obj := ⟨(.type "code"), none, (.fields #[(.str s65 408), (.str s65 409), (.str s148 410), (.int 82 0), (.int 0 0), (.int 0 0), (.int 0 0), (.int 0 0), (.ref 163), (.bool false), (.int 181 0), (.ref 164), .none, .none, .none, .none, (.int 411 0), (.int 82 0), (.str s148 412)]), #[]⟩
noncomputable def o215 (P : Params) : Obj := ⟨(.type "frame"), none, .plain, #[(some (.ref 165)), (some (.ref 3)), (some (.ref 162)), none, (some (.str s61 401)), none, (some (.ref 0))]⟩
noncomputable def o216 (P : Params) : Obj := ⟨(.type "tuple"), none, (.seq #[] 0), #[]⟩
noncomputable def o217 (P : Params) : Obj := ⟨.none, none, (.fields #[]), #[]⟩
noncomputable def o218 (P : Params) : Obj := ⟨(.type "tuple"), none, (.seq #[(.str s7 421), (.str s66 422), (.str s43 423), (.str s47 424), (.str s46 425), (.str s28 426), (.str s67 427)] 0), #[]⟩
noncomputable def o219 (P : Params) : Obj := ⟨(.type "tuple"), none, (.seq #[] 0), #[]⟩
noncomputable def o220 (P : Params) : Obj := ⟨.none, none, (.func ⟨s6, s172, (fP (M 20 0)), (.stmts (fB (M 20 0))), (fS (M 20 0)), 0, [], .none, .none, .none, .none, none, .none, .none, 0⟩), #[]⟩
noncomputable def o221 (P : Params) : Obj := ⟨(.type "code"), none, (.fields #[(.str s6 418), (.str s172 419), (.str s148 420), (.int 84 0), (.int 7 0), (.int 0 0), (.int 0 0), (.int 3 0), (.ref 167), (.bool true), (.int 181 0), (.ref 168), .none, (.ref 169), (.ref 170), (.ref 171), (.int 428 0), (.int 84 0), (.str s148 429)]), #[]⟩
noncomputable def o222 (P : Params) : Obj := ⟨(.type "function"), none, (.func ⟨s6, s172, (fP (M 20 0)), (.stmts (fB (M 20 0))), (fS (M 20 0)), 3, [], .none, .none, .none, (.str s61 401), none, (.ref 172), .none, 0⟩), #[]⟩
noncomputable def o223 (P : Params) : Obj := ⟨(.type "tuple"), none, (.seq #[(.str s69 431), (.str s68 432), (.str s66 433), (.str s46 434), (.str s43 435), (.str s70 436), (.str s67 437), (.str s47 438), (.str s28 439)] 0), #[]⟩
noncomputable def o224 (P : Params) : Obj := ⟨(.type "dict"), none, (.dict #[⟨(PyData.keyHash P s161), (.str s161 413), (.str s61 401)⟩, ⟨(PyData.keyHash P s163), (.str s163 417), (.int 82 416)⟩, ⟨(PyData.keyHash P s6), (.str s6 430), (.ref 173)⟩, ⟨(PyData.keyHash P s164), (.str s164 440), (.ref 174)⟩, ⟨(PyData.keyHash P s171), (.str s171 442), (.ref 177)⟩, ⟨(PyData.keyHash P s166), (.str s166 444), (.ref 178)⟩, ⟨(PyData.keyHash P s153), (.str s153 445), .none⟩] 4), #[]⟩
noncomputable def o225 (P : Params) : Obj := ⟨(.type "type"), none, (.cls ⟨s65, [(.type "object")], [(.ref 176), (.type "object")], 175, s65, true, [], [], false, none, false⟩), #[none, none, (some (.str s65 406)), (some (.str s65 414)), (some (.builtin "object.__new__")), (some (.bool true))]⟩
noncomputable def o226 (P : Params) : Obj := ⟨(.type "getset_descriptor"), none, (.fields #[(.str s171 441), (.ref 176), (.builtin "function.__dict__"), (.builtin "function.__dict__#set")]), #[]⟩
noncomputable def o227 (P : Params) : Obj := ⟨(.type "getset_descriptor"), none, (.fields #[(.str s166 443), (.ref 176), (.builtin "ExceptionGroup.__weakref__"), .none]), #[]⟩
noncomputable def o228 (P : Params) : Obj := ⟨(.type "super"), none, (.fields #[(.ref 176), (.ref 176), (.ref 176)]), #[]⟩
noncomputable def o229 (P : Params) : Obj := ⟨(.type "builtin_function_or_method"), none, (.fields #[(.builtin "object.__init_subclass__"), (.ref 176)]), #[]⟩
noncomputable def o230 (P : Params) : Obj := ⟨(.type "dict"), none, (.dict #[⟨(PyData.keyHash P s2), (.str s2 165), (.str s61 401)⟩, ⟨(PyData.keyHash P s153), (.str s153 166), .none⟩, ⟨(PyData.keyHash P s154), (.str s154 167), .none⟩, ⟨(PyData.keyHash P s155), (.str s155 168), (.builtin "__main__.__loader__#opaque")⟩, ⟨(PyData.keyHash P s156), (.str s156 169), .none⟩, ⟨(PyData.keyHash P s157), (.str s157 170), (.ref 6)⟩, ⟨(PyData.keyHash P s158), (.str s158 171), (.ref 4)⟩, ⟨(PyData.keyHash P s159), (.str s159 173), (.str s148 172)⟩, ⟨(PyData.keyHash P s160), (.str s160 174), .none⟩, ⟨(PyData.keyHash P s0), (.str s0 193), (.ref 21)⟩, ⟨(PyData.keyHash P s4), (.str s4 224), (.ref 38)⟩, ⟨(PyData.keyHash P s9), (.str s9 240), (.ref 51)⟩, ⟨(PyData.keyHash P s10), (.str s10 256), (.ref 63)⟩, ⟨(PyData.keyHash P s12), (.str s12 260), (.int 400 259)⟩, ⟨(PyData.keyHash P s13), (.str s13 263), (.int 10000000000000000000000000000000000000000000000000000000000000000000000000000000000000000000000000000000000000000000000000000000000000000000000000000000000000000000000000000000000000000000000000000000000000000000000000000000000000000000000000000000000000000000000000000000000000000000000000000000000000000000000000000000000000000000000000000000000000000000000000000000000000000000000000000000000000000 262)⟩, ⟨(PyData.keyHash P s14), (.str s14 273), (.ref 72)⟩, ⟨(PyData.keyHash P s20), (.str s20 280), (.ref 79)⟩, ⟨(PyData.keyHash P s22), (.str s22 290), (.ref 87)⟩, ⟨(PyData.keyHash P s27), (.str s27 299), (.ref 94)⟩, ⟨(PyData.keyHash P s32), (.str s32 306), (.ref 101)⟩, ⟨(PyData.keyHash P s34), (.str s34 315), (.ref 108)⟩, ⟨(PyData.keyHash P s39), (.str s39 325), (.ref 115)⟩, ⟨(PyData.keyHash P s49), (.str s49 400), (.ref 154)⟩, ⟨(PyData.keyHash P s62), (.str s62 405), (.ref 159)⟩, ⟨(PyData.keyHash P s65), (.str s65 447), (.ref 176)⟩, ⟨(PyData.keyHash P s71), (.str s71 700), (.ref 365)⟩] 26), #[]⟩
noncomputable def o231 (P : Params) : Obj := ⟨.none, none, (.fields #[(.int 1 0), (.int 0 0), (.ref 20), (.int 5 0), (.int 0 0), (.ref 27), (.int 10 0), (.int 0 0), (.ref 47), (.int 12 0), (.int 0 0), (.ref 59), (.int 17 0), (.int 0 0), (.ref 71), (.int 22 0), (.int 0 0), (.ref 78), (.int 28 0), (.int 0 0), (.ref 86), (.int 39 0), (.int 0 0), (.ref 93), (.int 43 0), (.int 0 0), (.ref 100), (.int 45 0), (.int 0 0), (.ref 107), (.int 50 0), (.int 0 0), (.ref 114), (.int 59 0), (.int 0 0), (.ref 121), (.int 82 0), (.int 0 0), (.ref 165), (.int 94 0), (.int 0 0), (.ref 186)]), #[]⟩
noncomputable def o232 (P : Params) : Obj := ⟨(.type "tuple"), none, (.seq #[] 0), #[]⟩
noncomputable def o233 (P : Params) : Obj := ⟨(.type "builtin_function_or_method"), none, (.fields #[(.builtin "type.__prepare__"), (.type "type")]), #[]⟩
noncomputable def o234 (P : Params) : Obj := ⟨(.type "dict"), none, (.dict #[⟨(PyData.keyHash P s161), (.str s161 455), (.str s61 401)⟩, ⟨(PyData.keyHash P s162), (.str s162 457), (.str s71 456)⟩, ⟨(PyData.keyHash P s163), (.str s163 459), (.int 94 458)⟩, ⟨(PyData.keyHash P s6), (.str s6 466), (.ref 194)⟩, ⟨(PyData.keyHash P s73), (.str s73 479), (.ref 201)⟩, ⟨(PyData.keyHash P s75), (.str s75 487), (.ref 208)⟩, ⟨(PyData.keyHash P s77), (.str s77 494), (.ref 215)⟩, ⟨(PyData.keyHash P s78), (.str s78 508), (.ref 222)⟩, ⟨(PyData.keyHash P s80), (.str s80 519), (.ref 229)⟩, ⟨(PyData.keyHash P s81), (.str s81 528), (.ref 236)⟩, ⟨(PyData.keyHash P s83), (.str s83 537), (.ref 243)⟩, ⟨(PyData.keyHash P s85), (.str s85 547), (.ref 250)⟩, ⟨(PyData.keyHash P s89), (.str s89 556), (.ref 257)⟩, ⟨(PyData.keyHash P s91), (.str s91 571), (.ref 264)⟩, ⟨(PyData.keyHash P s94), (.str s94 583), (.ref 271)⟩, ⟨(PyData.keyHash P s96), (.str s96 592), (.ref 278)⟩, ⟨(PyData.keyHash P s66), (.str s66 600), (.ref 285)⟩, ⟨(PyData.keyHash P s43), (.str s43 608), (.ref 292)⟩, ⟨(PyData.keyHash P s47), (.str s47 616), (.ref 299)⟩, ⟨(PyData.keyHash P s46), (.str s46 624), (.ref 306)⟩, ⟨(PyData.keyHash P s28), (.str s28 632), (.ref 313)⟩, ⟨(PyData.keyHash P s67), (.str s67 640), (.ref 320)⟩, ⟨(PyData.keyHash P s68), (.str s68 648), (.ref 327)⟩, ⟨(PyData.keyHash P s69), (.str s69 656), (.ref 334)⟩, ⟨(PyData.keyHash P s70), (.str s70 664), (.ref 341)⟩, ⟨(PyData.keyHash P s97), (.str s97 672), (.ref 348)⟩, ⟨(PyData.keyHash P s98), (.str s98 681), (.ref 355)⟩, ⟨(PyData.keyHash P s99), (.str s99 691), (.ref 362)⟩, ⟨(PyData.keyHash P s164), (.str s164 693), (.ref 363)⟩] 29), #[]⟩
noncomputable def o235 (P : Params) : Obj := ⟨(.type "tuple"), none, (.seq #[] 0), #[]⟩
noncomputable def o236 (P : Params) : Obj := ⟨.none, none, (.fields #[(.int 96 0), (.int 4 0), (.ref 193), (.int 99 0), (.int 4 0), (.ref 200), (.int 103 0), (.int 4 0), (.ref 207), (.int 108 0), (.int 4 0), (.ref 214), (.int 111 0), (.int 4 0), (.ref 221), (.int 119 0), (.int 4 0), (.ref 228), (.int 122 0), (.int 4 0), (.ref 235), (.int 125 0), (.int 4 0), (.ref 242), (.int 128 0), (.int 4 0), (.ref 249), (.int 131 0), (.int 4 0), (.ref 256), (.int 137 0), (.int 4 0), (.ref 263), (.int 149 0), (.int 4 0), (.ref 270), (.int 159 0), (.int 4 0), (.ref 277), (.int 162 0), (.int 4 0), (.ref 284), (.int 165 0), (.int 4 0), (.ref 291), (.int 168 0), (.int 4 0), (.ref 298), (.int 171 0), (.int 4 0), (.ref 305), (.int 174 0), (.int 4 0), (.ref 312), (.int 177 0), (.int 4 0), (.ref 319), (.int 180 0), (.int 4 0), (.ref 326), (.int 183 0), (.int 4 0), (.ref 333), (.int 186 0), (.int 4 0), (.ref 340), (.int 189 0), (.int 4 0), (.ref 347), (.int 192 0), (.int 4 0), (.ref 354), (.int 195 0), (.int 4 0), (.ref 361)]), #[]⟩
noncomputable def o237 (P : Params) : Obj := ⟨(.type "code"), none, (.fields #[(.str s71 450), (.str s71 451), (.str s148 452), (.int 94 0), (.int 0 0), (.int 0 0), (.int 0 0), (.int 0 0), (.ref 184), (.bool false), (.int 181 0), (.ref 185), .none, .none, .none, .none, (.int 453 0), (.int 94 0), (.str s148 454)]), #[]⟩
noncomputable def o238 (P : Params) : Obj := ⟨(.type "frame"), none, .plain, #[(some (.ref 186)), (some (.ref 3)), (some (.ref 183)), none, (some (.str s61 401)), none, (some (.ref 0))]⟩
noncomputable def o239 (P : Params) : Obj := ⟨(.type "tuple"), none, (.seq #[] 0), #[]⟩
noncomputable def o240 (P : Params) : Obj := ⟨.none, none, (.fields #[]), #[]⟩
noncomputable def o241 (P : Params) : Obj := ⟨(.type "tuple"), none, (.seq #[(.str s7 463)] 0), #[]⟩
noncomputable def o242 (P : Params) : Obj := ⟨(.type "tuple"), none, (.seq #[] 0), #[]⟩
noncomputable def o243 (P : Params) : Obj := ⟨.none, none, (.func ⟨s6, s173, (fP (M 21 0)), (.stmts (fB (M 21 0))), (fS (M 21 3)), 0, [], .none, .none, .none, .none, none, .none, .none, 0⟩), #[]⟩
noncomputable def o244 (P : Params) : Obj := ⟨(.type "code"), none, (.fields #[(.str s6 460), (.str s173 461), (.str s148 462), (.int 96 0), (.int 1 0), (.int 0 0), (.int 0 0), (.int 3 0), (.ref 188), (.bool true), (.int 181 0), (.ref 189), .none, (.ref 190), (.ref 191), (.ref 192), (.int 464 0), (.int 96 0), (.str s148 465)]), #[]⟩
noncomputable def o245 (P : Params) : Obj := ⟨(.type "function"), none, (.func ⟨s6, s173, (fP (M 21 0)), (.stmts (fB (M 21 0))), (fS (M 21 3)), 3, [], .none, .none, .none, (.str s61 401), none, (.ref 193), .none, 0⟩), #[]⟩
noncomputable def o246 (P : Params) : Obj := ⟨(.type "tuple"), none, (.seq #[] 0), #[]⟩
noncomputable def o247 (P : Params) : Obj := ⟨.none, none, (.fields #[]), #[]⟩
noncomputable def o248 (P : Params) : Obj := ⟨(.type "tuple"), none, (.seq #[(.str s7 470), (.str s66 471), (.str s43 472), (.str s47 473), (.str s46 474), (.str s28 475), (.str s67 476)] 0), #[]⟩
noncomputable def o249 (P : Params) : Obj := ⟨(.type "tuple"), none, (.seq #[] 0), #[]⟩
noncomputable def o250 (P : Params) : Obj := ⟨.none, none, (.func ⟨s73, s174, (fP (M 21 1)), (.stmts (fB (M 21 1))), (fS (M 21 1)), 0, [], .none, .none, .none, .none, none, .none, .none, 0⟩), #[]⟩
noncomputable def o251 (P : Params) : Obj := ⟨(.type "code"), none, (.fields #[(.str s73 467), (.str s174 468), (.str s148 469), (.int 99 0), (.int 7 0), (.int 0 0), (.int 0 0), (.int 3 0), (.ref 195), (.bool true), (.int 181 0), (.ref 196), .none, (.ref 197), (.ref 198), (.ref 199), (.int 477 0), (.int 99 0), (.str s148 478)]), #[]⟩
noncomputable def o252 (P : Params) : Obj := ⟨(.type "function"), none, (.func ⟨s73, s174, (fP (M 21 1)), (.stmts (fB (M 21 1))), (fS (M 21 1)), 3, [], .none, .none, .none, (.str s61 401), none, (.ref 200), .none, 0⟩), #[]⟩
noncomputable def o253 (P : Params) : Obj := ⟨(.type "tuple"), none, (.seq #[] 0), #[]⟩
noncomputable def o254 (P : Params) : Obj := ⟨.none, none, (.fields #[]), #[]⟩
noncomputable def o255 (P : Params) : Obj := ⟨(.type "tuple"), none, (.seq #[(.str s7 483), (.str s37 484)] 0), #[]⟩
noncomputable def o256 (P : Params) : Obj := ⟨(.type "tuple"), none, (.seq #[] 0), #[]⟩
noncomputable def o257 (P : Params) : Obj := ⟨.none, none, (.func ⟨s75, s175, (fP (M 21 2)), (.stmts (fB (M 21 2))), (fS (M 21 2)), 0, [], .none, .none, .none, .none, none, .none, .none, 0⟩), #[]⟩
noncomputable def o258 (P : Params) : Obj := ⟨(.type "code"), none, (.fields #[(.str s75 480), (.str s175 481), (.str s148 482), (.int 103 0), (.int 2 0), (.int 0 0), (.int 0 0), (.int 3 0), (.ref 202), (.bool true), (.int 181 0), (.ref 203), .none, (.ref 204), (.ref 205), (.ref 206), (.int 485 0), (.int 103 0), (.str s148 486)]), #[]⟩
noncomputable def o259 (P : Params) : Obj := ⟨(.type "function"), none, (.func ⟨s75, s175, (fP (M 21 2)), (.stmts (fB (M 21 2))), (fS (M 21 2)), 3, [], .none, .none, .none, (.str s61 401), none, (.ref 207), .none, 0⟩), #[]⟩
noncomputable def o260 (P : Params) : Obj := ⟨(.type "tuple"), none, (.seq #[] 0), #[]⟩
noncomputable def o261 (P : Params) : Obj := ⟨.none, none, (.fields #[]), #[]⟩
noncomputable def o262 (P : Params) : Obj := ⟨(.type "tuple"), none, (.seq #[(.str s7 491)] 0), #[]⟩
noncomputable def o263 (P : Params) : Obj := ⟨(.type "tuple"), none, (.seq #[] 0), #[]⟩
noncomputable def o264 (P : Params) : Obj := ⟨.none, none, (.func ⟨s77, s176, (fP (M 21 3)), (.stmts (fB (M 21 3))), (fS (M 21 3)), 0, [], .none, .none, .none, .none, none, .none, .none, 0⟩), #[]⟩
noncomputable def o265 (P : Params) : Obj := ⟨(.type "code"), none, (.fields #[(.str s77 488), (.str s176 489), (.str s148 490), (.int 108 0), (.int 1 0), (.int 0 0), (.int 0 0), (.int 3 0), (.ref 209), (.bool true), (.int 181 0), (.ref 210), .none, (.ref 211), (.ref 212), (.ref 213), (.int 492 0), (.int 108 0), (.str s148 493)]), #[]⟩
noncomputable def o266 (P : Params) : Obj := ⟨(.type "function"), none, (.func ⟨s77, s176, (fP (M 21 3)), (.stmts (fB (M 21 3))), (fS (M 21 3)), 3, [], .none, .none, .none, (.str s61 401), none, (.ref 214), .none, 0⟩), #[]⟩
noncomputable def o267 (P : Params) : Obj := ⟨(.type "tuple"), none, (.seq #[] 0), #[]⟩
noncomputable def o268 (P : Params) : Obj := ⟨.none, none, (.fields #[]), #[]⟩
noncomputable def o269 (P : Params) : Obj := ⟨(.type "tuple"), none, (.seq #[(.str s7 498), (.str s67 499), (.str s66 500), (.str s43 501), (.str s47 502), (.str s46 503), (.str s28 504), (.str s37 505)] 0), #[]⟩
noncomputable def o270 (P : Params) : Obj := ⟨(.type "tuple"), none, (.seq #[] 0), #[]⟩
noncomputable def o271 (P : Params) : Obj := ⟨.none, none, (.func ⟨s78, s177, (fP (M 21 4)), (.stmts (fB (M 21 4))), (fS (M 21 4)), 0, [], .none, .none, .none, .none, none, .none, .none, 0⟩), #[]⟩
noncomputable def o272 (P : Params) : Obj := ⟨(.type "code"), none, (.fields #[(.str s78 495), (.str s177 496), (.str s148 497), (.int 111 0), (.int 7 0), (.int 0 0), (.int 0 0), (.int 3 0), (.ref 216), (.bool true), (.int 181 0), (.ref 217), .none, (.ref 218), (.ref 219), (.ref 220), (.int 506 0), (.int 111 0), (.str s148 507)]), #[]⟩
noncomputable def o273 (P : Params) : Obj := ⟨(.type "function"), none, (.func ⟨s78, s177, (fP (M 21 4)), (.stmts (fB (M 21 4))), (fS (M 21 4)), 3, [], .none, .none, .none, (.str s61 401), none, (.ref 221), .none, 0⟩), #[]⟩
noncomputable def o274 (P : Params) : Obj := ⟨(.type "tuple"), none, (.seq #[] 0), #[]⟩
noncomputable def o275 (P : Params) : Obj := ⟨.none, none, (.fields #[]), #[]⟩
noncomputable def o276 (P : Params) : Obj := ⟨(.type "tuple"), none, (.seq #[(.str s7 512), (.str s67 513), (.str s43 514), (.str s47 515), (.str s46 516)] 0), #[]⟩
noncomputable def o277 (P : Params) : Obj := ⟨(.type "tuple"), none, (.seq #[] 0), #[]⟩
noncomputable def o278 (P : Params) : Obj := ⟨.none, none, (.func ⟨s80, s178, (fP (M 21 5)), (.stmts (fB (M 21 5))), (fS (M 21 5)), 0, [], .none, .none, .none, .none, none, .none, .none, 0⟩), #[]⟩
noncomputable def o279 (P : Params) : Obj := ⟨(.type "code"), none, (.fields #[(.str s80 509), (.str s178 510), (.str s148 511), (.int 119 0), (.int 5 0), (.int 0 0), (.int 0 0), (.int 3 0), (.ref 223), (.bool true), (.int 181 0), (.ref 224), .none, (.ref 225), (.ref 226), (.ref 227), (.int 517 0), (.int 119 0), (.str s148 518)]), #[]⟩
noncomputable def o280 (P : Params) : Obj := ⟨(.type "function"), none, (.func ⟨s80, s178, (fP (M 21 5)), (.stmts (fB (M 21 5))), (fS (M 21 5)), 3, [], .none, .none, .none, (.str s61 401), none, (.ref 228), .none, 0⟩), #[]⟩
noncomputable def o281 (P : Params) : Obj := ⟨(.type "tuple"), none, (.seq #[] 0), #[]⟩
noncomputable def o282 (P : Params) : Obj := ⟨.none, none, (.fields #[]), #[]⟩
noncomputable def o283 (P : Params) : Obj := ⟨(.type "tuple"), none, (.seq #[(.str s7 523), (.str s67 524), (.str s28 525)] 0), #[]⟩
noncomputable def o284 (P : Params) : Obj := ⟨(.type "tuple"), none, (.seq #[] 0), #[]⟩
noncomputable def o285 (P : Params) : Obj := ⟨.none, none, (.func ⟨s81, s179, (fP (M 21 6)), (.stmts (fB (M 21 6))), (fS (M 21 7)), 0, [], .none, .none, .none, .none, none, .none, .none, 0⟩), #[]⟩
noncomputable def o286 (P : Params) : Obj := ⟨(.type "code"), none, (.fields #[(.str s81 520), (.str s179 521), (.str s148 522), (.int 122 0), (.int 3 0), (.int 0 0), (.int 0 0), (.int 3 0), (.ref 230), (.bool true), (.int 181 0), (.ref 231), .none, (.ref 232), (.ref 233), (.ref 234), (.int 526 0), (.int 122 0), (.str s148 527)]), #[]⟩
noncomputable def o287 (P : Params) : Obj := ⟨(.type "function"), none, (.func ⟨s81, s179, (fP (M 21 6)), (.stmts (fB (M 21 6))), (fS (M 21 7)), 3, [], .none, .none, .none, (.str s61 401), none, (.ref 235), .none, 0⟩), #[]⟩
noncomputable def o288 (P : Params) : Obj := ⟨(.type "tuple"), none, (.seq #[] 0), #[]⟩
noncomputable def o289 (P : Params) : Obj := ⟨.none, none, (.fields #[]), #[]⟩
noncomputable def o290 (P : Params) : Obj := ⟨(.type "tuple"), none, (.seq #[(.str s7 532), (.str s67 533), (.str s28 534)] 0), #[]⟩
noncomputable def o291 (P : Params) : Obj := ⟨(.type "tuple"), none, (.seq #[] 0), #[]⟩
noncomputable def o292 (P : Params) : Obj := ⟨.none, none, (.func ⟨s83, s180, (fP (M 21 7)), (.stmts (fB (M 21 7))), (fS (M 21 7)), 0, [], .none, .none, .none, .none, none, .none, .none, 0⟩), #[]⟩
noncomputable def o293 (P : Params) : Obj := ⟨(.type "code"), none, (.fields #[(.str s83 529), (.str s180 530), (.str s148 531), (.int 125 0), (.int 3 0), (.int 0 0), (.int 0 0), (.int 3 0), (.ref 237), (.bool true), (.int 181 0), (.ref 238), .none, (.ref 239), (.ref 240), (.ref 241), (.int 535 0), (.int 125 0), (.str s148 536)]), #[]⟩
noncomputable def o294 (P : Params) : Obj := ⟨(.type "function"), none, (.func ⟨s83, s180, (fP (M 21 7)), (.stmts (fB (M 21 7))), (fS (M 21 7)), 3, [], .none, .none, .none, (.str s61 401), none, (.ref 242), .none, 0⟩), #[]⟩
noncomputable def o295 (P : Params) : Obj := ⟨(.type "tuple"), none, (.seq #[] 0), #[]⟩
noncomputable def o296 (P : Params) : Obj := ⟨.none, none, (.fields #[]), #[]⟩
noncomputable def o297 (P : Params) : Obj := ⟨(.type "tuple"), none, (.seq #[(.str s7 541), (.str s67 542), (.str s86 543), (.str s87 544)] 0), #[]⟩
noncomputable def o298 (P : Params) : Obj := ⟨(.type "tuple"), none, (.seq #[] 0), #[]⟩
noncomputable def o299 (P : Params) : Obj := ⟨.none, none, (.func ⟨s85, s181, (fP (M 21 8)), (.stmts (fB (M 21 8))), (fS (M 21 8)), 0, [], .none, .none, .none, .none, none, .none, .none, 0⟩), #[]⟩
noncomputable def o300 (P : Params) : Obj := ⟨(.type "code"), none, (.fields #[(.str s85 538), (.str s181 539), (.str s148 540), (.int 128 0), (.int 4 0), (.int 0 0), (.int 0 0), (.int 3 0), (.ref 244), (.bool true), (.int 181 0), (.ref 245), .none, (.ref 246), (.ref 247), (.ref 248), (.int 545 0), (.int 128 0), (.str s148 546)]), #[]⟩
noncomputable def o301 (P : Params) : Obj := ⟨(.type "function"), none, (.func ⟨s85, s181, (fP (M 21 8)), (.stmts (fB (M 21 8))), (fS (M 21 8)), 3, [], .none, .none, .none, (.str s61 401), none, (.ref 249), .none, 0⟩), #[]⟩
noncomputable def o302 (P : Params) : Obj := ⟨(.type "tuple"), none, (.seq #[] 0), #[]⟩
noncomputable def o303 (P : Params) : Obj := ⟨.none, none, (.fields #[]), #[]⟩
noncomputable def o304 (P : Params) : Obj := ⟨(.type "tuple"), none, (.seq #[(.str s7 551), (.str s64 552), (.str s75 553)] 0), #[]⟩
noncomputable def o305 (P : Params) : Obj := ⟨(.type "tuple"), none, (.seq #[] 0), #[]⟩
noncomputable def o306 (P : Params) : Obj := ⟨.none, none, (.func ⟨s89, s182, (fP (M 21 9)), (.stmts (fB (M 21 9))), (fS (M 21 9)), 0, [], .none, .none, .none, .none, none, .none, .none, 0⟩), #[]⟩
noncomputable def o307 (P : Params) : Obj := ⟨(.type "code"), none, (.fields #[(.str s89 548), (.str s182 549), (.str s148 550), (.int 131 0), (.int 2 0), (.int 0 0), (.int 0 0), (.int 3 0), (.ref 251), (.bool true), (.int 181 0), (.ref 252), .none, (.ref 253), (.ref 254), (.ref 255), (.int 554 0), (.int 131 0), (.str s148 555)]), #[]⟩
noncomputable def o308 (P : Params) : Obj := ⟨(.type "function"), none, (.func ⟨s89, s182, (fP (M 21 9)), (.stmts (fB (M 21 9))), (fS (M 21 9)), 3, [], .none, .none, .none, (.str s61 401), none, (.ref 256), .none, 0⟩), #[]⟩
noncomputable def o309 (P : Params) : Obj := ⟨(.type "tuple"), none, (.seq #[] 0), #[]⟩
noncomputable def o310 (P : Params) : Obj := ⟨.none, none, (.fields #[]), #[]⟩
noncomputable def o311 (P : Params) : Obj := ⟨(.type "tuple"), none, (.seq #[(.str s7 560), (.str s64 561), (.str s43 562), (.str s47 563), (.str s46 564), (.str s28 565), (.str s75 566), (.str s37 567), (.str s92 568)] 0), #[]⟩
noncomputable def o312 (P : Params) : Obj := ⟨(.type "tuple"), none, (.seq #[] 0), #[]⟩
noncomputable def o313 (P : Params) : Obj := ⟨.none, none, (.func ⟨s91, s183, (fP (M 21 10)), (.stmts (fB (M 21 10))), (fS (M 21 10)), 0, [], .none, .none, .none, .none, none, .none, .none, 0⟩), #[]⟩
noncomputable def o314 (P : Params) : Obj := ⟨(.type "code"), none, (.fields #[(.str s91 557), (.str s183 558), (.str s148 559), (.int 137 0), (.int 6 0), (.int 0 0), (.int 0 0), (.int 3 0), (.ref 258), (.bool true), (.int 181 0), (.ref 259), .none, (.ref 260), (.ref 261), (.ref 262), (.int 569 0), (.int 137 0), (.str s148 570)]), #[]⟩
noncomputable def o315 (P : Params) : Obj := ⟨(.type "function"), none, (.func ⟨s91, s183, (fP (M 21 10)), (.stmts (fB (M 21 10))), (fS (M 21 10)), 3, [], .none, .none, .none, (.str s61 401), none, (.ref 263), .none, 0⟩), #[]⟩
noncomputable def o316 (P : Params) : Obj := ⟨(.type "tuple"), none, (.seq #[] 0), #[]⟩
noncomputable def o317 (P : Params) : Obj := ⟨.none, none, (.fields #[]), #[]⟩
noncomputable def o318 (P : Params) : Obj := ⟨(.type "tuple"), none, (.seq #[(.str s7 575), (.str s64 576), (.str s60 577), (.str s47 578), (.str s75 579), (.str s37 580)] 0), #[]⟩
noncomputable def o319 (P : Params) : Obj := ⟨(.type "tuple"), none, (.seq #[] 0), #[]⟩
noncomputable def o320 (P : Params) : Obj := ⟨.none, none, (.func ⟨s94, s184, (fP (M 21 11)), (.stmts (fB (M 21 11))), (fS (M 21 11)), 0, [], .none, .none, .none, .none, none, .none, .none, 0⟩), #[]⟩
noncomputable def o321 (P : Params) : Obj := ⟨(.type "code"), none, (.fields #[(.str s94 572), (.str s184 573), (.str s148 574), (.int 149 0), (.int 4 0), (.int 0 0), (.int 0 0), (.int 3 0), (.ref 265), (.bool true), (.int 181 0), (.ref 266), .none, (.ref 267), (.ref 268), (.ref 269), (.int 581 0), (.int 149 0), (.str s148 582)]), #[]⟩
noncomputable def o322 (P : Params) : Obj := ⟨(.type "function"), none, (.func ⟨s94, s184, (fP (M 21 11)), (.stmts (fB (M 21 11))), (fS (M 21 11)), 3, [], .none, .none, .none, (.str s61 401), none, (.ref 270), .none, 0⟩), #[]⟩
noncomputable def o323 (P : Params) : Obj := ⟨(.type "tuple"), none, (.seq #[] 0), #[]⟩
noncomputable def o324 (P : Params) : Obj := ⟨.none, none, (.fields #[]), #[]⟩
noncomputable def o325 (P : Params) : Obj := ⟨(.type "tuple"), none, (.seq #[(.str s7 587), (.str s37 588), (.str s28 589)] 0), #[]⟩
noncomputable def o326 (P : Params) : Obj := ⟨(.type "tuple"), none, (.seq #[] 0), #[]⟩
noncomputable def o327 (P : Params) : Obj := ⟨.none, none, (.func ⟨s96, s185, (fP (M 21 12)), (.stmts (fB (M 21 12))), (fS (M 21 12)), 0, [], .none, .none, .none, .none, none, .none, .none, 0⟩), #[]⟩
noncomputable def o328 (P : Params) : Obj := ⟨(.type "code"), none, (.fields #[(.str s96 584), (.str s185 585), (.str s148 586), (.int 159 0), (.int 3 0), (.int 0 0), (.int 0 0), (.int 3 0), (.ref 272), (.bool true), (.int 181 0), (.ref 273), .none, (.ref 274), (.ref 275), (.ref 276), (.int 590 0), (.int 159 0), (.str s148 591)]), #[]⟩
noncomputable def o329 (P : Params) : Obj := ⟨(.type "function"), none, (.func ⟨s96, s185, (fP (M 21 12)), (.stmts (fB (M 21 12))), (fS (M 21 12)), 3, [], .none, .none, .none, (.str s61 401), none, (.ref 277), .none, 0⟩), #[]⟩
noncomputable def o330 (P : Params) : Obj := ⟨(.type "tuple"), none, (.seq #[] 0), #[]⟩
noncomputable def o331 (P : Params) : Obj := ⟨.none, none, (.fields #[]), #[]⟩
noncomputable def o332 (P : Params) : Obj := ⟨(.type "tuple"), none, (.seq #[(.str s7 596), (.str s37 597)] 0), #[]⟩
noncomputable def o333 (P : Params) : Obj := ⟨(.type "tuple"), none, (.seq #[] 0), #[]⟩
noncomputable def o334 (P : Params) : Obj := ⟨.none, none, (.func ⟨s66, s186, (fP (M 21 13)), (.stmts (fB (M 21 13))), (fS (M 21 18)), 0, [], .none, .none, .none, .none, none, .none, .none, 0⟩), #[]⟩
noncomputable def o335 (P : Params) : Obj := ⟨(.type "code"), none, (.fields #[(.str s66 593), (.str s186 594), (.str s148 595), (.int 162 0), (.int 2 0), (.int 0 0), (.int 0 0), (.int 3 0), (.ref 279), (.bool true), (.int 181 0), (.ref 280), .none, (.ref 281), (.ref 282), (.ref 283), (.int 598 0), (.int 162 0), (.str s148 599)]), #[]⟩
noncomputable def o336 (P : Params) : Obj := ⟨(.type "function"), none, (.func ⟨s66, s186, (fP (M 21 13)), (.stmts (fB (M 21 13))), (fS (M 21 18)), 3, [], .none, .none, .none, (.str s61 401), none, (.ref 284), .none, 0⟩), #[]⟩
noncomputable def o337 (P : Params) : Obj := ⟨(.type "tuple"), none, (.seq #[] 0), #[]⟩
noncomputable def o338 (P : Params) : Obj := ⟨.none, none, (.fields #[]), #[]⟩
noncomputable def o339 (P : Params) : Obj := ⟨(.type "tuple"), none, (.seq #[(.str s7 604), (.str s37 605)] 0), #[]⟩
noncomputable def o340 (P : Params) : Obj := ⟨(.type "tuple"), none, (.seq #[] 0), #[]⟩
noncomputable def o341 (P : Params) : Obj := ⟨.none, none, (.func ⟨s43, s187, (fP (M 21 14)), (.stmts (fB (M 21 14))), (fS (M 21 18)), 0, [], .none, .none, .none, .none, none, .none, .none, 0⟩), #[]⟩
noncomputable def o342 (P : Params) : Obj := ⟨(.type "code"), none, (.fields #[(.str s43 601), (.str s187 602), (.str s148 603), (.int 165 0), (.int 2 0), (.int 0 0), (.int 0 0), (.int 3 0), (.ref 286), (.bool true), (.int 181 0), (.ref 287), .none, (.ref 288), (.ref 289), (.ref 290), (.int 606 0), (.int 165 0), (.str s148 607)]), #[]⟩
noncomputable def o343 (P : Params) : Obj := ⟨(.type "function"), none, (.func ⟨s43, s187, (fP (M 21 14)), (.stmts (fB (M 21 14))), (fS (M 21 18)), 3, [], .none, .none, .none, (.str s61 401), none, (.ref 291), .none, 0⟩), #[]⟩
noncomputable def o344 (P : Params) : Obj := ⟨(.type "tuple"), none, (.seq #[] 0), #[]⟩
noncomputable def o345 (P : Params) : Obj := ⟨.none, none, (.fields #[]), #[]⟩
noncomputable def o346 (P : Params) : Obj := ⟨(.type "tuple"), none, (.seq #[(.str s7 612), (.str s37 613)] 0), #[]⟩
noncomputable def o347 (P : Params) : Obj := ⟨(.type "tuple"), none, (.seq #[] 0), #[]⟩
noncomputable def o348 (P : Params) : Obj := ⟨.none, none, (.func ⟨s47, s188, (fP (M 21 15)), (.stmts (fB (M 21 15))), (fS (M 21 18)), 0, [], .none, .none, .none, .none, none, .none, .none, 0⟩), #[]⟩
noncomputable def o349 (P : Params) : Obj := ⟨(.type "code"), none, (.fields #[(.str s47 609), (.str s188 610), (.str s148 611), (.int 168 0), (.int 2 0), (.int 0 0), (.int 0 0), (.int 3 0), (.ref 293), (.bool true), (.int 181 0), (.ref 294), .none, (.ref 295), (.ref 296), (.ref 297), (.int 614 0), (.int 168 0), (.str s148 615)]), #[]⟩
noncomputable def o350 (P : Params) : Obj := ⟨(.type "function"), none, (.func ⟨s47, s188, (fP (M 21 15)), (.stmts (fB (M 21 15))), (fS (M 21 18)), 3, [], .none, .none, .none, (.str s61 401), none, (.ref 298), .none, 0⟩), #[]⟩
noncomputable def o351 (P : Params) : Obj := ⟨(.type "tuple"), none, (.seq #[] 0), #[]⟩
noncomputable def o352 (P : Params) : Obj := ⟨.none, none, (.fields #[]), #[]⟩
noncomputable def o353 (P : Params) : Obj := ⟨(.type "tuple"), none, (.seq #[(.str s7 620), (.str s37 621)] 0), #[]⟩
noncomputable def o354 (P : Params) : Obj := ⟨(.type "tuple"), none, (.seq #[] 0), #[]⟩
noncomputable def o355 (P : Params) : Obj := ⟨.none, none, (.func ⟨s46, s189, (fP (M 21 16)), (.stmts (fB (M 21 16))), (fS (M 21 18)), 0, [], .none, .none, .none, .none, none, .none, .none, 0⟩), #[]⟩
noncomputable def o356 (P : Params) : Obj := ⟨(.type "code"), none, (.fields #[(.str s46 617), (.str s189 618), (.str s148 619), (.int 171 0), (.int 2 0), (.int 0 0), (.int 0 0), (.int 3 0), (.ref 300), (.bool true), (.int 181 0), (.ref 301), .none, (.ref 302), (.ref 303), (.ref 304), (.int 622 0), (.int 171 0), (.str s148 623)]), #[]⟩
noncomputable def o357 (P : Params) : Obj := ⟨(.type "function"), none, (.func ⟨s46, s189, (fP (M 21 16)), (.stmts (fB (M 21 16))), (fS (M 21 18)), 3, [], .none, .none, .none, (.str s61 401), none, (.ref 305), .none, 0⟩), #[]⟩
noncomputable def o358 (P : Params) : Obj := ⟨(.type "tuple"), none, (.seq #[] 0), #[]⟩
noncomputable def o359 (P : Params) : Obj := ⟨.none, none, (.fields #[]), #[]⟩
noncomputable def o360 (P : Params) : Obj := ⟨(.type "tuple"), none, (.seq #[(.str s7 628), (.str s37 629)] 0), #[]⟩
noncomputable def o361 (P : Params) : Obj := ⟨(.type "tuple"), none, (.seq #[] 0), #[]⟩
noncomputable def o362 (P : Params) : Obj := ⟨.none, none, (.func ⟨s28, s190, (fP (M 21 17)), (.stmts (fB (M 21 17))), (fS (M 21 18)), 0, [], .none, .none, .none, .none, none, .none, .none, 0⟩), #[]⟩
noncomputable def o363 (P : Params) : Obj := ⟨(.type "code"), none, (.fields #[(.str s28 625), (.str s190 626), (.str s148 627), (.int 174 0), (.int 2 0), (.int 0 0), (.int 0 0), (.int 3 0), (.ref 307), (.bool true), (.int 181 0), (.ref 308), .none, (.ref 309), (.ref 310), (.ref 311), (.int 630 0), (.int 174 0), (.str s148 631)]), #[]⟩
noncomputable def o364 (P : Params) : Obj := ⟨(.type "function"), none, (.func ⟨s28, s190, (fP (M 21 17)), (.stmts (fB (M 21 17))), (fS (M 21 18)), 3, [], .none, .none, .none, (.str s61 401), none, (.ref 312), .none, 0⟩), #[]⟩
noncomputable def o365 (P : Params) : Obj := ⟨(.type "tuple"), none, (.seq #[] 0), #[]⟩
noncomputable def o366 (P : Params) : Obj := ⟨.none, none, (.fields #[]), #[]⟩
noncomputable def o367 (P : Params) : Obj := ⟨(.type "tuple"), none, (.seq #[(.str s7 636), (.str s37 637)] 0), #[]⟩
noncomputable def o368 (P : Params) : Obj := ⟨(.type "tuple"), none, (.seq #[] 0), #[]⟩
noncomputable def o369 (P : Params) : Obj := ⟨.none, none, (.func ⟨s67, s191, (fP (M 21 18)), (.stmts (fB (M 21 18))), (fS (M 21 18)), 0, [], .none, .none, .none, .none, none, .none, .none, 0⟩), #[]⟩
noncomputable def o370 (P : Params) : Obj := ⟨(.type "code"), none, (.fields #[(.str s67 633), (.str s191 634), (.str s148 635), (.int 177 0), (.int 2 0), (.int 0 0), (.int 0 0), (.int 3 0), (.ref 314), (.bool true), (.int 181 0), (.ref 315), .none, (.ref 316), (.ref 317), (.ref 318), (.int 638 0), (.int 177 0), (.str s148 639)]), #[]⟩
noncomputable def o371 (P : Params) : Obj := ⟨(.type "function"), none, (.func ⟨s67, s191, (fP (M 21 18)), (.stmts (fB (M 21 18))), (fS (M 21 18)), 3, [], .none, .none, .none, (.str s61 401), none, (.ref 319), .none, 0⟩), #[]⟩
noncomputable def o372 (P : Params) : Obj := ⟨(.type "tuple"), none, (.seq #[] 0), #[]⟩
noncomputable def o373 (P : Params) : Obj := ⟨.none, none, (.fields #[]), #[]⟩
noncomputable def o374 (P : Params) : Obj := ⟨(.type "tuple"), none, (.seq #[(.str s7 644), (.str s37 645)] 0), #[]⟩
noncomputable def o375 (P : Params) : Obj := ⟨(.type "tuple"), none, (.seq #[] 0), #[]⟩
noncomputable def o376 (P : Params) : Obj := ⟨.none, none, (.func ⟨s68, s192, (fP (M 21 19)), (.stmts (fB (M 21 19))), (fS (M 21 21)), 0, [], .none, .none, .none, .none, none, .none, .none, 0⟩), #[]⟩
noncomputable def o377 (P : Params) : Obj := ⟨(.type "code"), none, (.fields #[(.str s68 641), (.str s192 642), (.str s148 643), (.int 180 0), (.int 2 0), (.int 0 0), (.int 0 0), (.int 3 0), (.ref 321), (.bool true), (.int 181 0), (.ref 322), .none, (.ref 323), (.ref 324), (.ref 325), (.int 646 0), (.int 180 0), (.str s148 647)]), #[]⟩
noncomputable def o378 (P : Params) : Obj := ⟨(.type "function"), none, (.func ⟨s68, s192, (fP (M 21 19)), (.stmts (fB (M 21 19))), (fS (M 21 21)), 3, [], .none, .none, .none, (.str s61 401), none, (.ref 326), .none, 0⟩), #[]⟩
noncomputable def o379 (P : Params) : Obj := ⟨(.type "tuple"), none, (.seq #[] 0), #[]⟩
noncomputable def o380 (P : Params) : Obj := ⟨.none, none, (.fields #[]), #[]⟩
noncomputable def o381 (P : Params) : Obj := ⟨(.type "tuple"), none, (.seq #[(.str s7 652), (.str s37 653)] 0), #[]⟩
noncomputable def o382 (P : Params) : Obj := ⟨(.type "tuple"), none, (.seq #[] 0), #[]⟩
noncomputable def o383 (P : Params) : Obj := ⟨.none, none, (.func ⟨s69, s193, (fP (M 21 20)), (.stmts (fB (M 21 20))), (fS (M 21 21)), 0, [], .none, .none, .none, .none, none, .none, .none, 0⟩), #[]⟩
noncomputable def o384 (P : Params) : Obj := ⟨(.type "code"), none, (.fields #[(.str s69 649), (.str s193 650), (.str s148 651), (.int 183 0), (.int 2 0), (.int 0 0), (.int 0 0), (.int 3 0), (.ref 328), (.bool true), (.int 181 0), (.ref 329), .none, (.ref 330), (.ref 331), (.ref 332), (.int 654 0), (.int 183 0), (.str s148 655)]), #[]⟩
noncomputable def o385 (P : Params) : Obj := ⟨(.type "function"), none, (.func ⟨s69, s193, (fP (M 21 20)), (.stmts (fB (M 21 20))), (fS (M 21 21)), 3, [], .none, .none, .none, (.str s61 401), none, (.ref 333), .none, 0⟩), #[]⟩
noncomputable def o386 (P : Params) : Obj := ⟨(.type "tuple"), none, (.seq #[] 0), #[]⟩
noncomputable def o387 (P : Params) : Obj := ⟨.none, none, (.fields #[]), #[]⟩
noncomputable def o388 (P : Params) : Obj := ⟨(.type "tuple"), none, (.seq #[(.str s7 660), (.str s37 661)] 0), #[]⟩
noncomputable def o389 (P : Params) : Obj := ⟨(.type "tuple"), none, (.seq #[] 0), #[]⟩
noncomputable def o390 (P : Params) : Obj := ⟨.none, none, (.func ⟨s70, s194, (fP (M 21 21)), (.stmts (fB (M 21 21))), (fS (M 21 21)), 0, [], .none, .none, .none, .none, none, .none, .none, 0⟩), #[]⟩
noncomputable def o391 (P : Params) : Obj := ⟨(.type "code"), none, (.fields #[(.str s70 657), (.str s194 658), (.str s148 659), (.int 186 0), (.int 2 0), (.int 0 0), (.int 0 0), (.int 3 0), (.ref 335), (.bool true), (.int 181 0), (.ref 336), .none, (.ref 337), (.ref 338), (.ref 339), (.int 662 0), (.int 186 0), (.str s148 663)]), #[]⟩
noncomputable def o392 (P : Params) : Obj := ⟨(.type "function"), none, (.func ⟨s70, s194, (fP (M 21 21)), (.stmts (fB (M 21 21))), (fS (M 21 21)), 3, [], .none, .none, .none, (.str s61 401), none, (.ref 340), .none, 0⟩), #[]⟩
noncomputable def o393 (P : Params) : Obj := ⟨(.type "tuple"), none, (.seq #[] 0), #[]⟩
noncomputable def o394 (P : Params) : Obj := ⟨.none, none, (.fields #[]), #[]⟩
noncomputable def o395 (P : Params) : Obj := ⟨(.type "tuple"), none, (.seq #[(.str s7 668), (.str s37 669)] 0), #[]⟩
noncomputable def o396 (P : Params) : Obj := ⟨(.type "tuple"), none, (.seq #[] 0), #[]⟩
noncomputable def o397 (P : Params) : Obj := ⟨.none, none, (.func ⟨s97, s195, (fP (M 21 22)), (.stmts (fB (M 21 22))), (fS (M 21 22)), 0, [], .none, .none, .none, .none, none, .none, .none, 0⟩), #[]⟩
noncomputable def o398 (P : Params) : Obj := ⟨(.type "code"), none, (.fields #[(.str s97 665), (.str s195 666), (.str s148 667), (.int 189 0), (.int 2 0), (.int 0 0), (.int 0 0), (.int 3 0), (.ref 342), (.bool true), (.int 181 0), (.ref 343), .none, (.ref 344), (.ref 345), (.ref 346), (.int 670 0), (.int 189 0), (.str s148 671)]), #[]⟩
noncomputable def o399 (P : Params) : Obj := ⟨(.type "function"), none, (.func ⟨s97, s195, (fP (M 21 22)), (.stmts (fB (M 21 22))), (fS (M 21 22)), 3, [], .none, .none, .none, (.str s61 401), none, (.ref 347), .none, 0⟩), #[]⟩
noncomputable def o400 (P : Params) : Obj := ⟨(.type "tuple"), none, (.seq #[] 0), #[]⟩
noncomputable def o401 (P : Params) : Obj := ⟨.none, none, (.fields #[]), #[]⟩
noncomputable def o402 (P : Params) : Obj := ⟨(.type "tuple"), none, (.seq #[(.str s7 676), (.str s37 677), (.str s16 678)] 0), #[]⟩
noncomputable def o403 (P : Params) : Obj := ⟨(.type "tuple"), none, (.seq #[] 0), #[]⟩
noncomputable def o404 (P : Params) : Obj := ⟨.none, none, (.func ⟨s98, s196, (fP (M 21 23)), (.stmts (fB (M 21 23))), (fS (M 21 23)), 0, [], .none, .none, .none, .none, none, .none, .none, 0⟩), #[]⟩
noncomputable def o405 (P : Params) : Obj := ⟨(.type "code"), none, (.fields #[(.str s98 673), (.str s196 674), (.str s148 675), (.int 192 0), (.int 3 0), (.int 0 0), (.int 0 0), (.int 3 0), (.ref 349), (.bool true), (.int 181 0), (.ref 350), .none, (.ref 351), (.ref 352), (.ref 353), (.int 679 0), (.int 192 0), (.str s148 680)]), #[]⟩
noncomputable def o406 (P : Params) : Obj := ⟨(.type "function"), none, (.func ⟨s98, s196, (fP (M 21 23)), (.stmts (fB (M 21 23))), (fS (M 21 23)), 3, [], .none, .none, .none, (.str s61 401), none, (.ref 354), .none, 0⟩), #[]⟩
noncomputable def o407 (P : Params) : Obj := ⟨(.type "tuple"), none, (.seq #[] 0), #[]⟩
noncomputable def o408 (P : Params) : Obj := ⟨.none, none, (.fields #[]), #[]⟩
noncomputable def o409 (P : Params) : Obj := ⟨(.type "tuple"), none, (.seq #[(.str s7 685), (.str s64 686), (.str s47 687), (.str s46 688)] 0), #[]⟩
noncomputable def o410 (P : Params) : Obj := ⟨(.type "tuple"), none, (.seq #[] 0), #[]⟩
noncomputable def o411 (P : Params) : Obj := ⟨.none, none, (.func ⟨s99, s197, (fP (M 21 24)), (.stmts (fB (M 21 24))), (fS (M 21 24)), 0, [], .none, .none, .none, .none, none, .none, .none, 0⟩), #[]⟩
noncomputable def o412 (P : Params) : Obj := ⟨(.type "code"), none, (.fields #[(.str s99 682), (.str s197 683), (.str s148 684), (.int 195 0), (.int 4 0), (.int 0 0), (.int 0 0), (.int 3 0), (.ref 356), (.bool true), (.int 181 0), (.ref 357), .none, (.ref 358), (.ref 359), (.ref 360), (.int 689 0), (.int 195 0), (.str s148 690)]), #[]⟩
noncomputable def o413 (P : Params) : Obj := ⟨(.type "function"), none, (.func ⟨s99, s197, (fP (M 21 24)), (.stmts (fB (M 21 24))), (fS (M 21 24)), 3, [], .none, .none, .none, (.str s61 401), none, (.ref 361), .none, 0⟩), #[]⟩
noncomputable def o414 (P : Params) : Obj := ⟨(.type "tuple"), none, (.seq #[(.str s72 692)] 0), #[]⟩
noncomputable def o415 (P : Params) : Obj := ⟨(.type "dict"), none, (.dict #[⟨(PyData.keyHash P s161), (.str s161 455), (.str s61 401)⟩, ⟨(PyData.keyHash P s163), (.str s163 459), (.int 94 458)⟩, ⟨(PyData.keyHash P s6), (.str s6 466), (.ref 194)⟩, ⟨(PyData.keyHash P s73), (.str s73 479), (.ref 201)⟩, ⟨(PyData.keyHash P s75), (.str s75 487), (.ref 208)⟩, ⟨(PyData.keyHash P s77), (.str s77 494), (.ref 215)⟩, ⟨(PyData.keyHash P s78), (.str s78 508), (.ref 222)⟩, ⟨(PyData.keyHash P s80), (.str s80 519), (.ref 229)⟩, ⟨(PyData.keyHash P s81), (.str s81 528), (.ref 236)⟩, ⟨(PyData.keyHash P s83), (.str s83 537), (.ref 243)⟩, ⟨(PyData.keyHash P s85), (.str s85 547), (.ref 250)⟩, ⟨(PyData.keyHash P s89), (.str s89 556), (.ref 257)⟩, ⟨(PyData.keyHash P s91), (.str s91 571), (.ref 264)⟩, ⟨(PyData.keyHash P s94), (.str s94 583), (.ref 271)⟩, ⟨(PyData.keyHash P s96), (.str s96 592), (.ref 278)⟩, ⟨(PyData.keyHash P s66), (.str s66 600), (.ref 285)⟩, ⟨(PyData.keyHash P s43), (.str s43 608), (.ref 292)⟩, ⟨(PyData.keyHash P s47), (.str s47 616), (.ref 299)⟩, ⟨(PyData.keyHash P s46), (.str s46 624), (.ref 306)⟩, ⟨(PyData.keyHash P s28), (.str s28 632), (.ref 313)⟩, ⟨(PyData.keyHash P s67), (.str s67 640), (.ref 320)⟩, ⟨(PyData.keyHash P s68), (.str s68 648), (.ref 327)⟩, ⟨(PyData.keyHash P s69), (.str s69 656), (.ref 334)⟩, ⟨(PyData.keyHash P s70), (.str s70 664), (.ref 341)⟩, ⟨(PyData.keyHash P s97), (.str s97 672), (.ref 348)⟩, ⟨(PyData.keyHash P s98), (.str s98 681), (.ref 355)⟩, ⟨(PyData.keyHash P s99), (.str s99 691), (.ref 362)⟩, ⟨(PyData.keyHash P s164), (.str s164 693), (.ref 363)⟩, ⟨(PyData.keyHash P s171), (.str s171 695), (.ref 366)⟩, ⟨(PyData.keyHash P s166), (.str s166 697), (.ref 367)⟩, ⟨(PyData.keyHash P s153), (.str s153 698), .none⟩] 4), #[]⟩
noncomputable def o416 (P : Params) : Obj := ⟨(.type "type"), none, (.cls ⟨s71, [(.type "object")], [(.ref 365), (.type "object")], 364, s71, true, [], [], false, none, false⟩), #[none, none, (some (.str s71 448)), (some (.str s71 456)), (some (.builtin "object.__new__")), (some (.bool true))]⟩
noncomputable def o417 (P : Params) : Obj := ⟨(.type "getset_descriptor"), none, (.fields #[(.str s171 694), (.ref 365), (.builtin "function.__dict__"), (.builtin "function.__dict__#set")]), #[]⟩
noncomputable def o418 (P : Params) : Obj := ⟨(.type "getset_descriptor"), none, (.fields #[(.str s166 696), (.ref 365), (.builtin "ExceptionGroup.__weakref__"), .none]), #[]⟩
noncomputable def o419 (P : Params) : Obj := ⟨(.type "super"), none, (.fields #[(.ref 365), (.ref 365), (.ref 365)]), #[]⟩
noncomputable def o420 (P : Params) : Obj := ⟨(.type "builtin_function_or_method"), none, (.fields #[(.builtin "object.__init_subclass__"), (.ref 365)]), #[]⟩
noncomputable def o595 (P : Params) : Obj := ⟨(.type "dict"), none, (.dict #[⟨(PyData.keyHash P s2), (.str s2 165), (.str s100 701)⟩, ⟨(PyData.keyHash P s153), (.str s153 166), .none⟩, ⟨(PyData.keyHash P s154), (.str s154 167), .none⟩, ⟨(PyData.keyHash P s155), (.str s155 168), (.builtin "__main__.__loader__#opaque")⟩, ⟨(PyData.keyHash P s156), (.str s156 169), .none⟩, ⟨(PyData.keyHash P s157), (.str s157 170), (.ref 6)⟩, ⟨(PyData.keyHash P s158), (.str s158 171), (.ref 4)⟩, ⟨(PyData.keyHash P s159), (.str s159 173), (.str s148 172)⟩, ⟨(PyData.keyHash P s160), (.str s160 174), .none⟩, ⟨(PyData.keyHash P s0), (.str s0 193), (.ref 21)⟩, ⟨(PyData.keyHash P s4), (.str s4 224), (.ref 38)⟩, ⟨(PyData.keyHash P s9), (.str s9 240), (.ref 51)⟩, ⟨(PyData.keyHash P s10), (.str s10 256), (.ref 63)⟩, ⟨(PyData.keyHash P s12), (.str s12 260), (.int 400 259)⟩, ⟨(PyData.keyHash P s13), (.str s13 263), (.int 10000000000000000000000000000000000000000000000000000000000000000000000000000000000000000000000000000000000000000000000000000000000000000000000000000000000000000000000000000000000000000000000000000000000000000000000000000000000000000000000000000000000000000000000000000000000000000000000000000000000000000000000000000000000000000000000000000000000000000000000000000000000000000000000000000000000000000 262)⟩, ⟨(PyData.keyHash P s14), (.str s14 273), (.ref 72)⟩, ⟨(PyData.keyHash P s20), (.str s20 280), (.ref 79)⟩, ⟨(PyData.keyHash P s22), (.str s22 290), (.ref 87)⟩, ⟨(PyData.keyHash P s27), (.str s27 299), (.ref 94)⟩, ⟨(PyData.keyHash P s32), (.str s32 306), (.ref 101)⟩, ⟨(PyData.keyHash P s34), (.str s34 315), (.ref 108)⟩, ⟨(PyData.keyHash P s39), (.str s39 325), (.ref 115)⟩, ⟨(PyData.keyHash P s49), (.str s49 400), (.ref 154)⟩, ⟨(PyData.keyHash P s62), (.str s62 405), (.ref 159)⟩, ⟨(PyData.keyHash P s65), (.str s65 447), (.ref 176)⟩, ⟨(PyData.keyHash P s71), (.str s71 700), (.ref 365)⟩, ⟨(PyData.keyHash P s101), (.str s101 711), (.ref 376)⟩, ⟨(PyData.keyHash P s107), (.str s107 720), (.ref 383)⟩, ⟨(PyData.keyHash P s110), (.str s110 728), (.ref 390)⟩, ⟨(PyData.keyHash P s112), (.str s112 744), (.ref 397)⟩, ⟨(PyData.keyHash P s137), (.str s137 751), (.ref 404)⟩, ⟨(PyData.keyHash P s139), (.str s139 757), (.ref 409)⟩, ⟨(PyData.keyHash P s143), (.str s143 763), (.ref 414)⟩] 33), #[]⟩
noncomputable def o596 (P : Params) : Obj := ⟨.none, none, (.fields #[(.int 1 0), (.int 0 0), (.ref 20), (.int 5 0), (.int 0 0), (.ref 27), (.int 10 0), (.int 0 0), (.ref 47), (.int 12 0), (.int 0 0), (.ref 59), (.int 17 0), (.int 0 0), (.ref 71), (.int 22 0), (.int 0 0), (.ref 78), (.int 28 0), (.int 0 0), (.ref 86), (.int 39 0), (.int 0 0), (.ref 93), (.int 43 0), (.int 0 0), (.ref 100), (.int 45 0), (.int 0 0), (.ref 107), (.int 50 0), (.int 0 0), (.ref 114), (.int 59 0), (.int 0 0), (.ref 121), (.int 82 0), (.int 0 0), (.ref 165), (.int 94 0), (.int 0 0), (.ref 186), (.int 198 0), (.int 0 0), (.ref 375), (.int 202 0), (.int 0 0), (.ref 382), (.int 209 0), (.int 0 0), (.ref 389), (.int 211 0), (.int 0 0), (.ref 396), (.int 228 0), (.int 0 0), (.ref 403), (.int 234 0), (.int 0 0), (.ref 408), (.int 236 0), (.int 0 0), (.ref 413)]), #[]⟩
noncomputable def o597 (P : Params) : Obj := ⟨(.type "tuple"), none, (.seq #[] 0), #[]⟩
noncomputable def o598 (P : Params) : Obj := ⟨.none, none, (.fields #[]), #[]⟩
noncomputable def o599 (P : Params) : Obj := ⟨(.type "tuple"), none, (.seq #[(.str s102 706), (.str s103 707), (.str s104 708)] 0), #[]⟩
noncomputable def o600 (P : Params) : Obj := ⟨(.type "tuple"), none, (.seq #[] 0), #[]⟩
noncomputable def o601 (P : Params) : Obj := ⟨.none, none, (.func ⟨s101, s101, (fP (T 23)), (.stmts (fB (T 23))), (fS (T 23)), 0, [], .none, .none, .none, .none, none, .none, .none, 0⟩), #[]⟩
noncomputable def o602 (P : Params) : Obj := ⟨(.type "code"), none, (.fields #[(.str s101 703), (.str s101 704), (.str s148 705), (.int 198 0), (.int 1 0), (.int 0 0), (.int 0 0), (.int 3 0), (.ref 370), (.bool true), (.int 181 0), (.ref 371), .none, (.ref 372), (.ref 373), (.ref 374), (.int 709 0), (.int 198 0), (.str s148 710)]), #[]⟩
noncomputable def o603 (P : Params) : Obj := ⟨(.type "function"), none, (.func ⟨s101, s101, (fP (T 23)), (.stmts (fB (T 23))), (fS (T 23)), 3, [], .none, .none, .none, (.str s100 701), none, (.ref 375), .none, 0⟩), #[]⟩
noncomputable def o604 (P : Params) : Obj := ⟨(.type "tuple"), none, (.seq #[] 0), #[]⟩
noncomputable def o605 (P : Params) : Obj := ⟨.none, none, (.fields #[]), #[]⟩
noncomputable def o606 (P : Params) : Obj := ⟨(.type "tuple"), none, (.seq #[(.str s108 715), (.str s23 716), (.str s109 717)] 0), #[]⟩
noncomputable def o607 (P : Params) : Obj := ⟨(.type "tuple"), none, (.seq #[] 0), #[]⟩
noncomputable def o608 (P : Params) : Obj := ⟨.none, none, (.func ⟨s107, s107, (fP (T 24)), (.stmts (fB (T 24))), (fS (T 24)), 0, [], .none, .none, .none, .none, none, .none, .none, 0⟩), #[]⟩
noncomputable def o609 (P : Params) : Obj := ⟨(.type "code"), none, (.fields #[(.str s107 712), (.str s107 713), (.str s148 714), (.int 202 0), (.int 2 0), (.int 0 0), (.int 0 0), (.int 3 0), (.ref 377), (.bool true), (.int 181 0), (.ref 378), .none, (.ref 379), (.ref 380), (.ref 381), (.int 718 0), (.int 202 0), (.str s148 719)]), #[]⟩
noncomputable def o610 (P : Params) : Obj := ⟨(.type "function"), none, (.func ⟨s107, s107, (fP (T 24)), (.stmts (fB (T 24))), (fS (T 24)), 3, [], .none, .none, .none, (.str s100 701), none, (.ref 382), .none, 0⟩), #[]⟩
noncomputable def o611 (P : Params) : Obj := ⟨(.type "tuple"), none, (.seq #[] 0), #[]⟩
noncomputable def o612 (P : Params) : Obj := ⟨.none, none, (.fields #[]), #[]⟩
noncomputable def o613 (P : Params) : Obj := ⟨(.type "tuple"), none, (.seq #[(.str s108 724), (.str s111 725)] 0), #[]⟩
noncomputable def o614 (P : Params) : Obj := ⟨(.type "tuple"), none, (.seq #[] 0), #[]⟩
noncomputable def o615 (P : Params) : Obj := ⟨.none, none, (.func ⟨s110, s110, (fP (T 25)), (.stmts (fB (T 25))), (fS (T 25)), 0, [], .none, .none, .none, .none, none, .none, .none, 0⟩), #[]⟩
noncomputable def o616 (P : Params) : Obj := ⟨(.type "code"), none, (.fields #[(.str s110 721), (.str s110 722), (.str s148 723), (.int 209 0), (.int 2 0), (.int 0 0), (.int 0 0), (.int 3 0), (.ref 384), (.bool true), (.int 181 0), (.ref 385), .none, (.ref 386), (.ref 387), (.ref 388), (.int 726 0), (.int 209 0), (.str s148 727)]), #[]⟩
noncomputable def o617 (P : Params) : Obj := ⟨(.type "function"), none, (.func ⟨s110, s110, (fP (T 25)), (.stmts (fB (T 25))), (fS (T 25)), 3, [], .none, .none, .none, (.str s100 701), none, (.ref 389), .none, 0⟩), #[]⟩
noncomputable def o618 (P : Params) : Obj := ⟨(.type "tuple"), none, (.seq #[] 0), #[]⟩
noncomputable def o619 (P : Params) : Obj := ⟨.none, none, (.fields #[]), #[]⟩
noncomputable def o620 (P : Params) : Obj := ⟨(.type "tuple"), none, (.seq #[(.str s108 732), (.str s41 733), (.str s63 734), (.str s23 735), (.str s116 736), (.str s117 737), (.str s44 738), (.str s37 739), (.str s86 740), (.str s60 741)] 0), #[]⟩
noncomputable def o621 (P : Params) : Obj := ⟨(.type "tuple"), none, (.seq #[] 0), #[]⟩
noncomputable def o622 (P : Params) : Obj := ⟨.none, none, (.func ⟨s112, s112, (fP (T 26)), (.stmts (fB (T 26))), (fS (T 26)), 0, [], .none, .none, .none, .none, none, .none, .none, 0⟩), #[]⟩
noncomputable def o623 (P : Params) : Obj := ⟨(.type "code"), none, (.fields #[(.str s112 729), (.str s112 730), (.str s148 731), (.int 211 0), (.int 2 0), (.int 0 0), (.int 0 0), (.int 3 0), (.ref 391), (.bool true), (.int 181 0), (.ref 392), .none, (.ref 393), (.ref 394), (.ref 395), (.int 742 0), (.int 211 0), (.str s148 743)]), #[]⟩
noncomputable def o624 (P : Params) : Obj := ⟨(.type "function"), none, (.func ⟨s112, s112, (fP (T 26)), (.stmts (fB (T 26))), (fS (T 26)), 3, [], .none, .none, .none, (.str s100 701), none, (.ref 396), .none, 0⟩), #[]⟩
noncomputable def o625 (P : Params) : Obj := ⟨(.type "tuple"), none, (.seq #[] 0), #[]⟩
noncomputable def o626 (P : Params) : Obj := ⟨.none, none, (.fields #[]), #[]⟩
noncomputable def o627 (P : Params) : Obj := ⟨(.type "tuple"), none, (.seq #[(.str s138 748)] 0), #[]⟩
noncomputable def o628 (P : Params) : Obj := ⟨(.type "tuple"), none, (.seq #[] 0), #[]⟩
noncomputable def o629 (P : Params) : Obj := ⟨.none, none, (.func ⟨s137, s137, (fP (T 27)), (.stmts (fB (T 27))), (fS (T 27)), 0, [], .none, .none, .none, .none, none, .none, .none, 0⟩), #[]⟩
noncomputable def o630 (P : Params) : Obj := ⟨(.type "code"), none, (.fields #[(.str s137 745), (.str s137 746), (.str s148 747), (.int 228 0), (.int 1 0), (.int 0 0), (.int 0 0), (.int 3 0), (.ref 398), (.bool true), (.int 181 0), (.ref 399), .none, (.ref 400), (.ref 401), (.ref 402), (.int 749 0), (.int 228 0), (.str s148 750)]), #[]⟩
noncomputable def o631 (P : Params) : Obj := ⟨(.type "function"), none, (.func ⟨s137, s137, (fP (T 27)), (.stmts (fB (T 27))), (fS (T 27)), 3, [], .none, .none, .none, (.str s100 701), none, (.ref 403), .none, 0⟩), #[]⟩
noncomputable def o632 (P : Params) : Obj := ⟨(.type "tuple"), none, (.seq #[] 0), #[]⟩
noncomputable def o633 (P : Params) : Obj := ⟨.none, none, (.fields #[]), #[]⟩
noncomputable def o634 (P : Params) : Obj := ⟨.none, none, (.func ⟨s139, s139, (fP (T 28)), (.stmts (fB (T 28))), (fS (T 28)), 0, [], .none, .none, .none, .none, none, .none, .none, 0⟩), #[]⟩
noncomputable def o635 (P : Params) : Obj := ⟨(.type "code"), none, (.fields #[(.str s139 752), (.str s139 753), (.str s148 754), (.int 234 0), (.int 2 0), (.int 0 0), (.int 0 0), (.int 3 0), (.ref 405), (.bool true), (.int 181 0), (.ref 406), .none, .none, .none, (.ref 407), (.int 755 0), (.int 234 0), (.str s148 756)]), #[]⟩
noncomputable def o636 (P : Params) : Obj := ⟨(.type "function"), none, (.func ⟨s139, s139, (fP (T 28)), (.stmts (fB (T 28))), (fS (T 28)), 3, [], .none, .none, .none, (.str s100 701), none, (.ref 408), .none, 0⟩), #[]⟩
noncomputable def o637 (P : Params) : Obj := ⟨(.type "tuple"), none, (.seq #[] 0), #[]⟩
noncomputable def o638 (P : Params) : Obj := ⟨.none, none, (.fields #[]), #[]⟩
noncomputable def o639 (P : Params) : Obj := ⟨.none, none, (.func ⟨s143, s143, (fP (T 29)), (.stmts (fB (T 29))), (fS (T 29)), 0, [], .none, .none, .none, .none, none, .none, .none, 0⟩), #[]⟩
noncomputable def o640 (P : Params) : Obj := ⟨(.type "code"), none, (.fields #[(.str s143 758), (.str s143 759), (.str s148 760), (.int 236 0), (.int 1 0), (.int 0 0), (.int 0 0), (.int 3 0), (.ref 410), (.bool true), (.int 181 0), (.ref 411), .none, .none, .none, (.ref 412), (.int 761 0), (.int 236 0), (.str s148 762)]), #[]⟩
noncomputable def o641 (P : Params) : Obj := ⟨(.type "function"), none, (.func ⟨s143, s143, (fP (T 29)), (.stmts (fB (T 29))), (fS (T 29)), 3, [], .none, .none, .none, (.str s100 701), none, (.ref 413), .none, 0⟩), #[]⟩
noncomputable def t47 (P : Params) : BT := (.node (boot_o_0 P) (.node (boot_o_1 P) (.node (boot_o_3 P) (.node (boot_o_7 P) .nil .nil) (.node (o43 P) .nil .nil)) (.node (boot_o_5 P) (.node (boot_o_9 P) .nil .nil) (.node (o45 P) .nil .nil))) (.node (boot_o_2 P) (.node (boot_o_4 P) (.node (boot_o_8 P) .nil .nil) (.node (o44 P) .nil .nil)) (.node (boot_o_6 P) (.node (boot_o_10 P) .nil .nil) (.node (o46 P) .nil .nil))))
noncomputable def t78 (P : Params) : BT := (.node (boot_o_0 P) (.node (boot_o_1 P) (.node (o50 P) (.node (boot_o_7 P) (.node (o52 P) (.node (o68 P) .nil .nil) .nil) (.node (o60 P) (.node (o76 P) .nil .nil) .nil)) (.node (o43 P) (.node (o56 P) (.node (o72 P) .nil .nil) .nil) (.node (o64 P) .nil .nil))) (.node (boot_o_5 P) (.node (boot_o_9 P) (.node (o54 P) (.node (o70 P) .nil .nil) .nil) (.node (o62 P) (.node (o78 P) .nil .nil) .nil)) (.node (o45 P) (.node (o58 P) (.node (o74 P) .nil .nil) .nil) (.node (o66 P) .nil .nil)))) (.node (o49 P) (.node (boot_o_4 P) (.node (boot_o_8 P) (.node (o53 P) (.node (o69 P) .nil .nil) .nil) (.node (o61 P) (.node (o77 P) .nil .nil) .nil)) (.node (o51 P) (.node (o57 P) (.node (o73 P) .nil .nil) .nil) (.node (o65 P) .nil .nil))) (.node (boot_o_6 P) (.node (boot_o_10 P) (.node (o55 P) (.node (o71 P) .nil .nil) .nil) (.node (o63 P) .nil .nil)) (.node (o46 P) (.node (o59 P) (.node (o75 P) .nil .nil) .nil) (.node (o67 P) .nil .nil)))))
noncomputable def t93 (P : Params) : BT := (.node (boot_o_0 P) (.node (boot_o_1 P) (.node (o79 P) (.node (boot_o_7 P) (.node (o52 P) (.node (o68 P) .nil .nil) (.node (o87 P) .nil .nil)) (.node (o60 P) (.node (o76 P) .nil .nil) .nil)) (.node (o43 P) (.node (o56 P) (.node (o72 P) .nil .nil) (.node (o91 P) .nil .nil)) (.node (o64 P) (.node (o83 P) .nil .nil) .nil))) (.node (boot_o_5 P) (.node (boot_o_9 P) (.node (o54 P) (.node (o70 P) .nil .nil) (.node (o89 P) .nil .nil)) (.node (o62 P) (.node (o78 P) .nil .nil) .nil)) (.node (o45 P) (.node (o58 P) (.node (o74 P) .nil .nil) (.node (o93 P) .nil .nil)) (.node (o66 P) (.node (o85 P) .nil .nil) .nil)))) (.node (o49 P) (.node (boot_o_4 P) (.node (boot_o_8 P) (.node (o53 P) (.node (o69 P) .nil .nil) (.node (o88 P) .nil .nil)) (.node (o61 P) (.node (o77 P) .nil .nil) .nil)) (.node (o80 P) (.node (o57 P) (.node (o73 P) .nil .nil) (.node (o92 P) .nil .nil)) (.node (o65 P) (.node (o84 P) .nil .nil) .nil))) (.node (boot_o_6 P) (.node (boot_o_10 P) (.node (o55 P) (.node (o71 P) .nil .nil) (.node (o90 P) .nil .nil)) (.node (o63 P) (.node (o82 P) .nil .nil) .nil)) (.node (o46 P) (.node (o59 P) (.node (o81 P) .nil .nil) .nil) (.node (o67 P) (.node (o86 P) .nil .nil) .nil)))))
noncomputable def t137 (P : Params) : BT := (.node (boot_o_0 P) (.node (boot_o_1 P) (.node (o94 P) (.node (boot_o_7 P) (.node (o52 P) (.node (o68 P) (.node (o106 P) .nil .nil) .nil) (.node (o87 P) (.node (o122 P) .nil .nil) .nil)) (.node (o60 P) (.node (o76 P) (.node (o114 P) .nil .nil) .nil) (.node (o98 P) (.node (o130 P) .nil .nil) .nil))) (.node (o43 P) (.node (o56 P) (.node (o72 P) (.node (o110 P) .nil .nil) .nil) (.node (o91 P) (.node (o126 P) .nil .nil) .nil)) (.node (o64 P) (.node (o83 P) (.node (o118 P) .nil .nil) .nil) (.node (o102 P) (.node (o134 P) .nil .nil) .nil)))) (.node (boot_o_5 P) (.node (boot_o_9 P) (.node (o54 P) (.node (o70 P) (.node (o108 P) .nil .nil) .nil) (.node (o89 P) (.node (o124 P) .nil .nil) .nil)) (.node (o62 P) (.node (o78 P) (.node (o116 P) .nil .nil) .nil) (.node (o100 P) (.node (o132 P) .nil .nil) .nil))) (.node (o45 P) (.node (o58 P) (.node (o74 P) (.node (o112 P) .nil .nil) .nil) (.node (o93 P) (.node (o128 P) .nil .nil) .nil)) (.node (o66 P) (.node (o85 P) (.node (o120 P) .nil .nil) .nil) (.node (o104 P) (.node (o136 P) .nil .nil) .nil))))) (.node (o49 P) (.node (boot_o_4 P) (.node (boot_o_8 P) (.node (o53 P) (.node (o69 P) (.node (o107 P) .nil .nil) .nil) (.node (o88 P) (.node (o123 P) .nil .nil) .nil)) (.node (o61 P) (.node (o77 P) (.node (o115 P) .nil .nil) .nil) (.node (o99 P) (.node (o131 P) .nil .nil) .nil))) (.node (o95 P) (.node (o57 P) (.node (o73 P) (.node (o111 P) .nil .nil) .nil) (.node (o92 P) (.node (o127 P) .nil .nil) .nil)) (.node (o65 P) (.node (o84 P) (.node (o119 P) .nil .nil) .nil) (.node (o103 P) (.node (o135 P) .nil .nil) .nil)))) (.node (boot_o_6 P) (.node (boot_o_10 P) (.node (o55 P) (.node (o71 P) (.node (o109 P) .nil .nil) .nil) (.node (o90 P) (.node (o125 P) .nil .nil) .nil)) (.node (o63 P) (.node (o82 P) (.node (o117 P) .nil .nil) .nil) (.node (o101 P) (.node (o133 P) .nil .nil) .nil))) (.node (o46 P) (.node (o59 P) (.node (o96 P) (.node (o113 P) .nil .nil) .nil) (.node (o97 P) (.node (o129 P) .nil .nil) .nil)) (.node (o67 P) (.node (o86 P) (.node (o121 P) .nil .nil) .nil) (.node (o105 P) (.node (o137 P) .nil .nil) .nil))))))
noncomputable def t160 (P : Params) : BT := (.node (boot_o_0 P) (.node (boot_o_1 P) (.node (o138 P) (.node (boot_o_7 P) (.node (o52 P) (.node (o68 P) (.node (o106 P) .nil .nil) (.node (o140 P) .nil .nil)) (.node (o87 P) (.node (o122 P) .nil .nil) (.node (o156 P) .nil .nil))) (.node (o60 P) (.node (o76 P) (.node (o114 P) .nil .nil) (.node (o148 P) .nil .nil)) (.node (o98 P) (.node (o130 P) .nil .nil) .nil))) (.node (o43 P) (.node (o56 P) (.node (o72 P) (.node (o110 P) .nil .nil) (.node (o144 P) .nil .nil)) (.node (o91 P) (.node (o126 P) .nil .nil) (.node (o160 P) .nil .nil))) (.node (o64 P) (.node (o83 P) (.node (o118 P) .nil .nil) (.node (o152 P) .nil .nil)) (.node (o102 P) (.node (o134 P) .nil .nil) .nil)))) (.node (boot_o_5 P) (.node (boot_o_9 P) (.node (o54 P) (.node (o70 P) (.node (o108 P) .nil .nil) (.node (o142 P) .nil .nil)) (.node (o89 P) (.node (o124 P) .nil .nil) (.node (o158 P) .nil .nil))) (.node (o62 P) (.node (o78 P) (.node (o116 P) .nil .nil) (.node (o150 P) .nil .nil)) (.node (o100 P) (.node (o132 P) .nil .nil) .nil))) (.node (o45 P) (.node (o58 P) (.node (o74 P) (.node (o112 P) .nil .nil) (.node (o146 P) .nil .nil)) (.node (o93 P) (.node (o128 P) .nil .nil) .nil)) (.node (o66 P) (.node (o85 P) (.node (o120 P) .nil .nil) (.node (o154 P) .nil .nil)) (.node (o104 P) (.node (o136 P) .nil .nil) .nil))))) (.node (o49 P) (.node (boot_o_4 P) (.node (boot_o_8 P) (.node (o53 P) (.node (o69 P) (.node (o107 P) .nil .nil) (.node (o141 P) .nil .nil)) (.node (o88 P) (.node (o123 P) .nil .nil) (.node (o157 P) .nil .nil))) (.node (o61 P) (.node (o77 P) (.node (o115 P) .nil .nil) (.node (o149 P) .nil .nil)) (.node (o99 P) (.node (o131 P) .nil .nil) .nil))) (.node (o139 P) (.node (o57 P) (.node (o73 P) (.node (o111 P) .nil .nil) (.node (o145 P) .nil .nil)) (.node (o92 P) (.node (o127 P) .nil .nil) .nil)) (.node (o65 P) (.node (o84 P) (.node (o119 P) .nil .nil) (.node (o153 P) .nil .nil)) (.node (o103 P) (.node (o135 P) .nil .nil) .nil)))) (.node (boot_o_6 P) (.node (boot_o_10 P) (.node (o55 P) (.node (o71 P) (.node (o109 P) .nil .nil) (.node (o143 P) .nil .nil)) (.node (o90 P) (.node (o125 P) .nil .nil) (.node (o159 P) .nil .nil))) (.node (o63 P) (.node (o82 P) (.node (o117 P) .nil .nil) (.node (o151 P) .nil .nil)) (.node (o101 P) (.node (o133 P) .nil .nil) .nil))) (.node (o46 P) (.node (o59 P) (.node (o96 P) (.node (o113 P) .nil .nil) (.node (o147 P) .nil .nil)) (.node (o97 P) (.node (o129 P) .nil .nil) .nil)) (.node (o67 P) (.node (o86 P) (.node (o121 P) .nil .nil) (.node (o155 P) .nil .nil)) (.node (o105 P) (.node (o137 P) .nil .nil) .nil))))))
noncomputable def t206 (P : Params) : BT := (.node (boot_o_0 P) (.node (boot_o_1 P) (.node (o161 P) (.node (boot_o_7 P) (.node (o52 P) (.node (o68 P) (.node (o106 P) (.node (o174 P) .nil .nil) .nil) (.node (o140 P) (.node (o206 P) .nil .nil) .nil)) (.node (o87 P) (.node (o122 P) (.node (o190 P) .nil .nil) .nil) (.node (o156 P) .nil .nil))) (.node (o60 P) (.node (o76 P) (.node (o114 P) (.node (o182 P) .nil .nil) .nil) (.node (o148 P) .nil .nil)) (.node (o98 P) (.node (o130 P) (.node (o198 P) .nil .nil) .nil) (.node (o166 P) .nil .nil)))) (.node (o43 P) (.node (o56 P) (.node (o72 P) (.node (o110 P) (.node (o178 P) .nil .nil) .nil) (.node (o144 P) .nil .nil)) (.node (o91 P) (.node (o126 P) (.node (o194 P) .nil .nil) .nil) (.node (o160 P) .nil .nil))) (.node (o64 P) (.node (o83 P) (.node (o118 P) (.node (o186 P) .nil .nil) .nil) (.node (o152 P) .nil .nil)) (.node (o102 P) (.node (o134 P) (.node (o202 P) .nil .nil) .nil) (.node (o170 P) .nil .nil))))) (.node (boot_o_5 P) (.node (boot_o_9 P) (.node (o54 P) (.node (o70 P) (.node (o108 P) (.node (o176 P) .nil .nil) .nil) (.node (o142 P) .nil .nil)) (.node (o89 P) (.node (o124 P) (.node (o192 P) .nil .nil) .nil) (.node (o158 P) .nil .nil))) (.node (o62 P) (.node (o78 P) (.node (o116 P) (.node (o184 P) .nil .nil) .nil) (.node (o150 P) .nil .nil)) (.node (o100 P) (.node (o132 P) (.node (o200 P) .nil .nil) .nil) (.node (o168 P) .nil .nil)))) (.node (o45 P) (.node (o58 P) (.node (o74 P) (.node (o112 P) (.node (o180 P) .nil .nil) .nil) (.node (o146 P) .nil .nil)) (.node (o93 P) (.node (o128 P) (.node (o196 P) .nil .nil) .nil) (.node (o164 P) .nil .nil))) (.node (o66 P) (.node (o85 P) (.node (o120 P) (.node (o188 P) .nil .nil) .nil) (.node (o154 P) .nil .nil)) (.node (o104 P) (.node (o136 P) (.node (o204 P) .nil .nil) .nil) (.node (o172 P) .nil .nil)))))) (.node (o49 P) (.node (boot_o_4 P) (.node (boot_o_8 P) (.node (o53 P) (.node (o69 P) (.node (o107 P) (.node (o175 P) .nil .nil) .nil) (.node (o141 P) .nil .nil)) (.node (o88 P) (.node (o123 P) (.node (o191 P) .nil .nil) .nil) (.node (o157 P) .nil .nil))) (.node (o61 P) (.node (o77 P) (.node (o115 P) (.node (o183 P) .nil .nil) .nil) (.node (o149 P) .nil .nil)) (.node (o99 P) (.node (o131 P) (.node (o199 P) .nil .nil) .nil) (.node (o167 P) .nil .nil)))) (.node (o162 P) (.node (o57 P) (.node (o73 P) (.node (o111 P) (.node (o179 P) .nil .nil) .nil) (.node (o145 P) .nil .nil)) (.node (o92 P) (.node (o127 P) (.node (o195 P) .nil .nil) .nil) (.node (o163 P) .nil .nil))) (.node (o65 P) (.node (o84 P) (.node (o119 P) (.node (o187 P) .nil .nil) .nil) (.node (o153 P) .nil .nil)) (.node (o103 P) (.node (o135 P) (.node (o203 P) .nil .nil) .nil) (.node (o171 P) .nil .nil))))) (.node (boot_o_6 P) (.node (boot_o_10 P) (.node (o55 P) (.node (o71 P) (.node (o109 P) (.node (o177 P) .nil .nil) .nil) (.node (o143 P) .nil .nil)) (.node (o90 P) (.node (o125 P) (.node (o193 P) .nil .nil) .nil) (.node (o159 P) .nil .nil))) (.node (o63 P) (.node (o82 P) (.node (o117 P) (.node (o185 P) .nil .nil) .nil) (.node (o151 P) .nil .nil)) (.node (o101 P) (.node (o133 P) (.node (o201 P) .nil .nil) .nil) (.node (o169 P) .nil .nil)))) (.node (o46 P) (.node (o59 P) (.node (o96 P) (.node (o113 P) (.node (o181 P) .nil .nil) .nil) (.node (o147 P) .nil .nil)) (.node (o97 P) (.node (o129 P) (.node (o197 P) .nil .nil) .nil) (.node (o165 P) .nil .nil))) (.node (o67 P) (.node (o86 P) (.node (o121 P) (.node (o189 P) .nil .nil) .nil) (.node (o155 P) .nil .nil)) (.node (o105 P) (.node (o137 P) (.node (o205 P) .nil .nil) .nil) (.node (o173 P) .nil .nil)))))))
noncomputable def t229 (P : Params) : BT := (.node (boot_o_0 P) (.node (boot_o_1 P) (.node (o207 P) (.node (boot_o_7 P) (.node (o52 P) (.node (o68 P) (.node (o106 P) (.node (o174 P) .nil .nil) .nil) (.node (o140 P) (.node (o206 P) .nil .nil) .nil)) (.node (o87 P) (.node (o122 P) (.node (o190 P) .nil .nil) .nil) (.node (o156 P) (.node (o224 P) .nil .nil) .nil))) (.node (o60 P) (.node (o76 P) (.node (o114 P) (.node (o182 P) .nil .nil) .nil) (.node (o148 P) (.node (o216 P) .nil .nil) .nil)) (.node (o98 P) (.node (o130 P) (.node (o198 P) .nil .nil) .nil) (.node (o166 P) .nil .nil)))) (.node (o43 P) (.node (o56 P) (.node (o72 P) (.node (o110 P) (.node (o178 P) .nil .nil) .nil) (.node (o144 P) (.node (o212 P) .nil .nil) .nil)) (.node (o91 P) (.node (o126 P) (.node (o194 P) .nil .nil) .nil) (.node (o160 P) (.node (o228 P) .nil .nil) .nil))) (.node (o64 P) (.node (o83 P) (.node (o118 P) (.node (o186 P) .nil .nil) .nil) (.node (o152 P) (.node (o220 P) .nil .nil) .nil)) (.node (o102 P) (.node (o134 P) (.node (o202 P) .nil .nil) .nil) (.node (o170 P) .nil .nil))))) (.node (boot_o_5 P) (.node (boot_o_9 P) (.node (o54 P) (.node (o70 P) (.node (o108 P) (.node (o176 P) .nil .nil) .nil) (.node (o142 P) (.node (o210 P) .nil .nil) .nil)) (.node (o89 P) (.node (o124 P) (.node (o192 P) .nil .nil) .nil) (.node (o158 P) (.node (o226 P) .nil .nil) .nil))) (.node (o62 P) (.node (o78 P) (.node (o116 P) (.node (o184 P) .nil .nil) .nil) (.node (o150 P) (.node (o218 P) .nil .nil) .nil)) (.node (o100 P) (.node (o132 P) (.node (o200 P) .nil .nil) .nil) (.node (o168 P) .nil .nil)))) (.node (o45 P) (.node (o58 P) (.node (o74 P) (.node (o112 P) (.node (o180 P) .nil .nil) .nil) (.node (o146 P) (.node (o214 P) .nil .nil) .nil)) (.node (o93 P) (.node (o128 P) (.node (o196 P) .nil .nil) .nil) (.node (o164 P) .nil .nil))) (.node (o66 P) (.node (o85 P) (.node (o120 P) (.node (o188 P) .nil .nil) .nil) (.node (o154 P) (.node (o222 P) .nil .nil) .nil)) (.node (o104 P) (.node (o136 P) (.node (o204 P) .nil .nil) .nil) (.node (o172 P) .nil .nil)))))) (.node (o49 P) (.node (boot_o_4 P) (.node (boot_o_8 P) (.node (o53 P) (.node (o69 P) (.node (o107 P) (.node (o175 P) .nil .nil) .nil) (.node (o141 P) (.node (o209 P) .nil .nil) .nil)) (.node (o88 P) (.node (o123 P) (.node (o191 P) .nil .nil) .nil) (.node (o157 P) (.node (o225 P) .nil .nil) .nil))) (.node (o61 P) (.node (o77 P) (.node (o115 P) (.node (o183 P) .nil .nil) .nil) (.node (o149 P) (.node (o217 P) .nil .nil) .nil)) (.node (o99 P) (.node (o131 P) (.node (o199 P) .nil .nil) .nil) (.node (o167 P) .nil .nil)))) (.node (o208 P) (.node (o57 P) (.node (o73 P) (.node (o111 P) (.node (o179 P) .nil .nil) .nil) (.node (o145 P) (.node (o213 P) .nil .nil) .nil)) (.node (o92 P) (.node (o127 P) (.node (o195 P) .nil .nil) .nil) (.node (o163 P) (.node (o229 P) .nil .nil) .nil))) (.node (o65 P) (.node (o84 P) (.node (o119 P) (.node (o187 P) .nil .nil) .nil) (.node (o153 P) (.node (o221 P) .nil .nil) .nil)) (.node (o103 P) (.node (o135 P) (.node (o203 P) .nil .nil) .nil) (.node (o171 P) .nil .nil))))) (.node (boot_o_6 P) (.node (boot_o_10 P) (.node (o55 P) (.node (o71 P) (.node (o109 P) (.node (o177 P) .nil .nil) .nil) (.node (o143 P) (.node (o211 P) .nil .nil) .nil)) (.node (o90 P) (.node (o125 P) (.node (o193 P) .nil .nil) .nil) (.node (o159 P) (.node (o227 P) .nil .nil) .nil))) (.node (o63 P) (.node (o82 P) (.node (o117 P) (.node (o185 P) .nil .nil) .nil) (.node (o151 P) (.node (o219 P) .nil .nil) .nil)) (.node (o101 P) (.node (o133 P) (.node (o201 P) .nil .nil) .nil) (.node (o169 P) .nil .nil)))) (.node (o46 P) (.node (o59 P) (.node (o96 P) (.node (o113 P) (.node (o181 P) .nil .nil) .nil) (.node (o147 P) (.node (o215 P) .nil .nil) .nil)) (.node (o97 P) (.node (o129 P) (.node (o197 P) .nil .nil) .nil) (.node (o165 P) .nil .nil))) (.node (o67 P) (.node (o86 P) (.node (o121 P) (.node (o189 P) .nil .nil) .nil) (.node (o155 P) (.node (o223 P) .nil .nil) .nil)) (.node (o105 P) (.node (o137 P) (.node (o205 P) .nil .nil) .nil) (.node (o173 P) .nil .nil)))))))
noncomputable def t420 (P : Params) : BT := (.node (boot_o_0 P) (.node (boot_o_1 P) (.node (o230 P) (.node (boot_o_7 P) (.node (o52 P) (.node (o68 P) (.node (o106 P) (.node (o174 P) (.node (o306 P) .nil .nil) .nil) (.node (o242 P) (.node (o370 P) .nil .nil) .nil)) (.node (o140 P) (.node (o206 P) (.node (o338 P) .nil .nil) .nil) (.node (o274 P) (.node (o402 P) .nil .nil) .nil))) (.node (o87 P) (.node (o122 P) (.node (o190 P) (.node (o322 P) .nil .nil) .nil) (.node (o258 P) (.node (o386 P) .nil .nil) .nil)) (.node (o156 P) (.node (o224 P) (.node (o354 P) .nil .nil) .nil) (.node (o290 P) (.node (o418 P) .nil .nil) .nil)))) (.node (o60 P) (.node (o76 P) (.node (o114 P) (.node (o182 P) (.node (o314 P) .nil .nil) .nil) (.node (o250 P) (.node (o378 P) .nil .nil) .nil)) (.node (o148 P) (.node (o216 P) (.node (o346 P) .nil .nil) .nil) (.node (o282 P) (.node (o410 P) .nil .nil) .nil))) (.node (o98 P) (.node (o130 P) (.node (o198 P) (.node (o330 P) .nil .nil) .nil) (.node (o266 P) (.node (o394 P) .nil .nil) .nil)) (.node (o166 P) (.node (o234 P) (.node (o362 P) .nil .nil) .nil) (.node (o298 P) .nil .nil))))) (.node (o43 P) (.node (o56 P) (.node (o72 P) (.node (o110 P) (.node (o178 P) (.node (o310 P) .nil .nil) .nil) (.node (o246 P) (.node (o374 P) .nil .nil) .nil)) (.node (o144 P) (.node (o212 P) (.node (o342 P) .nil .nil) .nil) (.node (o278 P) (.node (o406 P) .nil .nil) .nil))) (.node (o91 P) (.node (o126 P) (.node (o194 P) (.node (o326 P) .nil .nil) .nil) (.node (o262 P) (.node (o390 P) .nil .nil) .nil)) (.node (o160 P) (.node (o228 P) (.node (o358 P) .nil .nil) .nil) (.node (o294 P) .nil .nil)))) (.node (o64 P) (.node (o83 P) (.node (o118 P) (.node (o186 P) (.node (o318 P) .nil .nil) .nil) (.node (o254 P) (.node (o382 P) .nil .nil) .nil)) (.node (o152 P) (.node (o220 P) (.node (o350 P) .nil .nil) .nil) (.node (o286 P) (.node (o414 P) .nil .nil) .nil))) (.node (o102 P) (.node (o134 P) (.node (o202 P) (.node (o334 P) .nil .nil) .nil) (.node (o270 P) (.node (o398 P) .nil .nil) .nil)) (.node (o170 P) (.node (o238 P) (.node (o366 P) .nil .nil) .nil) (.node (o302 P) .nil .nil)))))) (.node (boot_o_5 P) (.node (boot_o_9 P) (.node (o54 P) (.node (o70 P) (.node (o108 P) (.node (o176 P) (.node (o308 P) .nil .nil) .nil) (.node (o244 P) (.node (o372 P) .nil .nil) .nil)) (.node (o142 P) (.node (o210 P) (.node (o340 P) .nil .nil) .nil) (.node (o276 P) (.node (o404 P) .nil .nil) .nil))) (.node (o89 P) (.node (o124 P) (.node (o192 P) (.node (o324 P) .nil .nil) .nil) (.node (o260 P) (.node (o388 P) .nil .nil) .nil)) (.node (o158 P) (.node (o226 P) (.node (o356 P) .nil .nil) .nil) (.node (o292 P) (.node (o420 P) .nil .nil) .nil)))) (.node (o62 P) (.node (o78 P) (.node (o116 P) (.node (o184 P) (.node (o316 P) .nil .nil) .nil) (.node (o252 P) (.node (o380 P) .nil .nil) .nil)) (.node (o150 P) (.node (o218 P) (.node (o348 P) .nil .nil) .nil) (.node (o284 P) (.node (o412 P) .nil .nil) .nil))) (.node (o100 P) (.node (o132 P) (.node (o200 P) (.node (o332 P) .nil .nil) .nil) (.node (o268 P) (.node (o396 P) .nil .nil) .nil)) (.node (o168 P) (.node (o236 P) (.node (o364 P) .nil .nil) .nil) (.node (o300 P) .nil .nil))))) (.node (o45 P) (.node (o58 P) (.node (o74 P) (.node (o112 P) (.node (o180 P) (.node (o312 P) .nil .nil) .nil) (.node (o248 P) (.node (o376 P) .nil .nil) .nil)) (.node (o146 P) (.node (o214 P) (.node (o344 P) .nil .nil) .nil) (.node (o280 P) (.node (o408 P) .nil .nil) .nil))) (.node (o93 P) (.node (o128 P) (.node (o196 P) (.node (o328 P) .nil .nil) .nil) (.node (o264 P) (.node (o392 P) .nil .nil) .nil)) (.node (o164 P) (.node (o232 P) (.node (o360 P) .nil .nil) .nil) (.node (o296 P) .nil .nil)))) (.node (o66 P) (.node (o85 P) (.node (o120 P) (.node (o188 P) (.node (o320 P) .nil .nil) .nil) (.node (o256 P) (.node (o384 P) .nil .nil) .nil)) (.node (o154 P) (.node (o222 P) (.node (o352 P) .nil .nil) .nil) (.node (o288 P) (.node (o416 P) .nil .nil) .nil))) (.node (o104 P) (.node (o136 P) (.node (o204 P) (.node (o336 P) .nil .nil) .nil) (.node (o272 P) (.node (o400 P) .nil .nil) .nil)) (.node (o172 P) (.node (o240 P) (.node (o368 P) .nil .nil) .nil) (.node (o304 P) .nil .nil))))))) (.node (o49 P) (.node (boot_o_4 P) (.node (boot_o_8 P) (.node (o53 P) (.node (o69 P) (.node (o107 P) (.node (o175 P) (.node (o307 P) .nil .nil) .nil) (.node (o243 P) (.node (o371 P) .nil .nil) .nil)) (.node (o141 P) (.node (o209 P) (.node (o339 P) .nil .nil) .nil) (.node (o275 P) (.node (o403 P) .nil .nil) .nil))) (.node (o88 P) (.node (o123 P) (.node (o191 P) (.node (o323 P) .nil .nil) .nil) (.node (o259 P) (.node (o387 P) .nil .nil) .nil)) (.node (o157 P) (.node (o225 P) (.node (o355 P) .nil .nil) .nil) (.node (o291 P) (.node (o419 P) .nil .nil) .nil)))) (.node (o61 P) (.node (o77 P) (.node (o115 P) (.node (o183 P) (.node (o315 P) .nil .nil) .nil) (.node (o251 P) (.node (o379 P) .nil .nil) .nil)) (.node (o149 P) (.node (o217 P) (.node (o347 P) .nil .nil) .nil) (.node (o283 P) (.node (o411 P) .nil .nil) .nil))) (.node (o99 P) (.node (o131 P) (.node (o199 P) (.node (o331 P) .nil .nil) .nil) (.node (o267 P) (.node (o395 P) .nil .nil) .nil)) (.node (o167 P) (.node (o235 P) (.node (o363 P) .nil .nil) .nil) (.node (o299 P) .nil .nil))))) (.node (o231 P) (.node (o57 P) (.node (o73 P) (.node (o111 P) (.node (o179 P) (.node (o311 P) .nil .nil) .nil) (.node (o247 P) (.node (o375 P) .nil .nil) .nil)) (.node (o145 P) (.node (o213 P) (.node (o343 P) .nil .nil) .nil) (.node (o279 P) (.node (o407 P) .nil .nil) .nil))) (.node (o92 P) (.node (o127 P) (.node (o195 P) (.node (o327 P) .nil .nil) .nil) (.node (o263 P) (.node (o391 P) .nil .nil) .nil)) (.node (o163 P) (.node (o229 P) (.node (o359 P) .nil .nil) .nil) (.node (o295 P) .nil .nil)))) (.node (o65 P) (.node (o84 P) (.node (o119 P) (.node (o187 P) (.node (o319 P) .nil .nil) .nil) (.node (o255 P) (.node (o383 P) .nil .nil) .nil)) (.node (o153 P) (.node (o221 P) (.node (o351 P) .nil .nil) .nil) (.node (o287 P) (.node (o415 P) .nil .nil) .nil))) (.node (o103 P) (.node (o135 P) (.node (o203 P) (.node (o335 P) .nil .nil) .nil) (.node (o271 P) (.node (o399 P) .nil .nil) .nil)) (.node (o171 P) (.node (o239 P) (.node (o367 P) .nil .nil) .nil) (.node (o303 P) .nil .nil)))))) (.node (boot_o_6 P) (.node (boot_o_10 P) (.node (o55 P) (.node (o71 P) (.node (o109 P) (.node (o177 P) (.node (o309 P) .nil .nil) .nil) (.node (o245 P) (.node (o373 P) .nil .nil) .nil)) (.node (o143 P) (.node (o211 P) (.node (o341 P) .nil .nil) .nil) (.node (o277 P) (.node (o405 P) .nil .nil) .nil))) (.node (o90 P) (.node (o125 P) (.node (o193 P) (.node (o325 P) .nil .nil) .nil) (.node (o261 P) (.node (o389 P) .nil .nil) .nil)) (.node (o159 P) (.node (o227 P) (.node (o357 P) .nil .nil) .nil) (.node (o293 P) .nil .nil)))) (.node (o63 P) (.node (o82 P) (.node (o117 P) (.node (o185 P) (.node (o317 P) .nil .nil) .nil) (.node (o253 P) (.node (o381 P) .nil .nil) .nil)) (.node (o151 P) (.node (o219 P) (.node (o349 P) .nil .nil) .nil) (.node (o285 P) (.node (o413 P) .nil .nil) .nil))) (.node (o101 P) (.node (o133 P) (.node (o201 P) (.node (o333 P) .nil .nil) .nil) (.node (o269 P) (.node (o397 P) .nil .nil) .nil)) (.node (o169 P) (.node (o237 P) (.node (o365 P) .nil .nil) .nil) (.node (o301 P) .nil .nil))))) (.node (o46 P) (.node (o59 P) (.node (o96 P) (.node (o113 P) (.node (o181 P) (.node (o313 P) .nil .nil) .nil) (.node (o249 P) (.node (o377 P) .nil .nil) .nil)) (.node (o147 P) (.node (o215 P) (.node (o345 P) .nil .nil) .nil) (.node (o281 P) (.node (o409 P) .nil .nil) .nil))) (.node (o97 P) (.node (o129 P) (.node (o197 P) (.node (o329 P) .nil .nil) .nil) (.node (o265 P) (.node (o393 P) .nil .nil) .nil)) (.node (o165 P) (.node (o233 P) (.node (o361 P) .nil .nil) .nil) (.node (o297 P) .nil .nil)))) (.node (o67 P) (.node (o86 P) (.node (o121 P) (.node (o189 P) (.node (o321 P) .nil .nil) .nil) (.node (o257 P) (.node (o385 P) .nil .nil) .nil)) (.node (o155 P) (.node (o223 P) (.node (o353 P) .nil .nil) .nil) (.node (o289 P) (.node (o417 P) .nil .nil) .nil))) (.node (o105 P) (.node (o137 P) (.node (o205 P) (.node (o337 P) .nil .nil) .nil) (.node (o273 P) (.node (o401 P) .nil .nil) .nil)) (.node (o173 P) (.node (o241 P) (.node (o369 P) .nil .nil) .nil) (.node (o305 P) .nil .nil))))))))
noncomputable def t641 (P : Params) : BT := (.node (boot_o_0 P) (.node (boot_o_1 P) (.node (o595 P) (.node (boot_o_7 P) (.node (o52 P) (.node (o68 P) (.node (o106 P) (.node (o174 P) (.node (o306 P) .nil .nil) (.node (o610 P) .nil .nil)) (.node (o242 P) (.node (o370 P) .nil .nil) .nil)) (.node (o140 P) (.node (o206 P) (.node (o338 P) .nil .nil) .nil) (.node (o274 P) (.node (o402 P) .nil .nil) .nil))) (.node (o87 P) (.node (o122 P) (.node (o190 P) (.node (o322 P) .nil .nil) (.node (o626 P) .nil .nil)) (.node (o258 P) (.node (o386 P) .nil .nil) .nil)) (.node (o156 P) (.node (o224 P) (.node (o354 P) .nil .nil) .nil) (.node (o290 P) (.node (o418 P) .nil .nil) .nil)))) (.node (o60 P) (.node (o76 P) (.node (o114 P) (.node (o182 P) (.node (o314 P) .nil .nil) (.node (o618 P) .nil .nil)) (.node (o250 P) (.node (o378 P) .nil .nil) .nil)) (.node (o148 P) (.node (o216 P) (.node (o346 P) .nil .nil) .nil) (.node (o282 P) (.node (o410 P) .nil .nil) .nil))) (.node (o98 P) (.node (o130 P) (.node (o198 P) (.node (o330 P) .nil .nil) (.node (o634 P) .nil .nil)) (.node (o266 P) (.node (o394 P) .nil .nil) .nil)) (.node (o166 P) (.node (o234 P) (.node (o362 P) .nil .nil) .nil) (.node (o298 P) (.node (o602 P) .nil .nil) .nil))))) (.node (o43 P) (.node (o56 P) (.node (o72 P) (.node (o110 P) (.node (o178 P) (.node (o310 P) .nil .nil) (.node (o614 P) .nil .nil)) (.node (o246 P) (.node (o374 P) .nil .nil) .nil)) (.node (o144 P) (.node (o212 P) (.node (o342 P) .nil .nil) .nil) (.node (o278 P) (.node (o406 P) .nil .nil) .nil))) (.node (o91 P) (.node (o126 P) (.node (o194 P) (.node (o326 P) .nil .nil) (.node (o630 P) .nil .nil)) (.node (o262 P) (.node (o390 P) .nil .nil) .nil)) (.node (o160 P) (.node (o228 P) (.node (o358 P) .nil .nil) .nil) (.node (o294 P) (.node (o598 P) .nil .nil) .nil)))) (.node (o64 P) (.node (o83 P) (.node (o118 P) (.node (o186 P) (.node (o318 P) .nil .nil) (.node (o622 P) .nil .nil)) (.node (o254 P) (.node (o382 P) .nil .nil) .nil)) (.node (o152 P) (.node (o220 P) (.node (o350 P) .nil .nil) .nil) (.node (o286 P) (.node (o414 P) .nil .nil) .nil))) (.node (o102 P) (.node (o134 P) (.node (o202 P) (.node (o334 P) .nil .nil) (.node (o638 P) .nil .nil)) (.node (o270 P) (.node (o398 P) .nil .nil) .nil)) (.node (o170 P) (.node (o238 P) (.node (o366 P) .nil .nil) .nil) (.node (o302 P) (.node (o606 P) .nil .nil) .nil)))))) (.node (boot_o_5 P) (.node (boot_o_9 P) (.node (o54 P) (.node (o70 P) (.node (o108 P) (.node (o176 P) (.node (o308 P) .nil .nil) (.node (o612 P) .nil .nil)) (.node (o244 P) (.node (o372 P) .nil .nil) .nil)) (.node (o142 P) (.node (o210 P) (.node (o340 P) .nil .nil) .nil) (.node (o276 P) (.node (o404 P) .nil .nil) .nil))) (.node (o89 P) (.node (o124 P) (.node (o192 P) (.node (o324 P) .nil .nil) (.node (o628 P) .nil .nil)) (.node (o260 P) (.node (o388 P) .nil .nil) .nil)) (.node (o158 P) (.node (o226 P) (.node (o356 P) .nil .nil) .nil) (.node (o292 P) (.node (o420 P) .nil .nil) .nil)))) (.node (o62 P) (.node (o78 P) (.node (o116 P) (.node (o184 P) (.node (o316 P) .nil .nil) (.node (o620 P) .nil .nil)) (.node (o252 P) (.node (o380 P) .nil .nil) .nil)) (.node (o150 P) (.node (o218 P) (.node (o348 P) .nil .nil) .nil) (.node (o284 P) (.node (o412 P) .nil .nil) .nil))) (.node (o100 P) (.node (o132 P) (.node (o200 P) (.node (o332 P) .nil .nil) (.node (o636 P) .nil .nil)) (.node (o268 P) (.node (o396 P) .nil .nil) .nil)) (.node (o168 P) (.node (o236 P) (.node (o364 P) .nil .nil) .nil) (.node (o300 P) (.node (o604 P) .nil .nil) .nil))))) (.node (o45 P) (.node (o58 P) (.node (o74 P) (.node (o112 P) (.node (o180 P) (.node (o312 P) .nil .nil) (.node (o616 P) .nil .nil)) (.node (o248 P) (.node (o376 P) .nil .nil) .nil)) (.node (o146 P) (.node (o214 P) (.node (o344 P) .nil .nil) .nil) (.node (o280 P) (.node (o408 P) .nil .nil) .nil))) (.node (o93 P) (.node (o128 P) (.node (o196 P) (.node (o328 P) .nil .nil) (.node (o632 P) .nil .nil)) (.node (o264 P) (.node (o392 P) .nil .nil) .nil)) (.node (o164 P) (.node (o232 P) (.node (o360 P) .nil .nil) .nil) (.node (o296 P) (.node (o600 P) .nil .nil) .nil)))) (.node (o66 P) (.node (o85 P) (.node (o120 P) (.node (o188 P) (.node (o320 P) .nil .nil) (.node (o624 P) .nil .nil)) (.node (o256 P) (.node (o384 P) .nil .nil) .nil)) (.node (o154 P) (.node (o222 P) (.node (o352 P) .nil .nil) .nil) (.node (o288 P) (.node (o416 P) .nil .nil) .nil))) (.node (o104 P) (.node (o136 P) (.node (o204 P) (.node (o336 P) .nil .nil) (.node (o640 P) .nil .nil)) (.node (o272 P) (.node (o400 P) .nil .nil) .nil)) (.node (o172 P) (.node (o240 P) (.node (o368 P) .nil .nil) .nil) (.node (o304 P) (.node (o608 P) .nil .nil) .nil))))))) (.node (o49 P) (.node (boot_o_4 P) (.node (boot_o_8 P) (.node (o53 P) (.node (o69 P) (.node (o107 P) (.node (o175 P) (.node (o307 P) .nil .nil) (.node (o611 P) .nil .nil)) (.node (o243 P) (.node (o371 P) .nil .nil) .nil)) (.node (o141 P) (.node (o209 P) (.node (o339 P) .nil .nil) .nil) (.node (o275 P) (.node (o403 P) .nil .nil) .nil))) (.node (o88 P) (.node (o123 P) (.node (o191 P) (.node (o323 P) .nil .nil) (.node (o627 P) .nil .nil)) (.node (o259 P) (.node (o387 P) .nil .nil) .nil)) (.node (o157 P) (.node (o225 P) (.node (o355 P) .nil .nil) .nil) (.node (o291 P) (.node (o419 P) .nil .nil) .nil)))) (.node (o61 P) (.node (o77 P) (.node (o115 P) (.node (o183 P) (.node (o315 P) .nil .nil) (.node (o619 P) .nil .nil)) (.node (o251 P) (.node (o379 P) .nil .nil) .nil)) (.node (o149 P) (.node (o217 P) (.node (o347 P) .nil .nil) .nil) (.node (o283 P) (.node (o411 P) .nil .nil) .nil))) (.node (o99 P) (.node (o131 P) (.node (o199 P) (.node (o331 P) .nil .nil) (.node (o635 P) .nil .nil)) (.node (o267 P) (.node (o395 P) .nil .nil) .nil)) (.node (o167 P) (.node (o235 P) (.node (o363 P) .nil .nil) .nil) (.node (o299 P) (.node (o603 P) .nil .nil) .nil))))) (.node (o596 P) (.node (o57 P) (.node (o73 P) (.node (o111 P) (.node (o179 P) (.node (o311 P) .nil .nil) (.node (o615 P) .nil .nil)) (.node (o247 P) (.node (o375 P) .nil .nil) .nil)) (.node (o145 P) (.node (o213 P) (.node (o343 P) .nil .nil) .nil) (.node (o279 P) (.node (o407 P) .nil .nil) .nil))) (.node (o92 P) (.node (o127 P) (.node (o195 P) (.node (o327 P) .nil .nil) (.node (o631 P) .nil .nil)) (.node (o263 P) (.node (o391 P) .nil .nil) .nil)) (.node (o163 P) (.node (o229 P) (.node (o359 P) .nil .nil) .nil) (.node (o295 P) (.node (o599 P) .nil .nil) .nil)))) (.node (o65 P) (.node (o84 P) (.node (o119 P) (.node (o187 P) (.node (o319 P) .nil .nil) (.node (o623 P) .nil .nil)) (.node (o255 P) (.node (o383 P) .nil .nil) .nil)) (.node (o153 P) (.node (o221 P) (.node (o351 P) .nil .nil) .nil) (.node (o287 P) (.node (o415 P) .nil .nil) .nil))) (.node (o103 P) (.node (o135 P) (.node (o203 P) (.node (o335 P) .nil .nil) (.node (o639 P) .nil .nil)) (.node (o271 P) (.node (o399 P) .nil .nil) .nil)) (.node (o171 P) (.node (o239 P) (.node (o367 P) .nil .nil) .nil) (.node (o303 P) (.node (o607 P) .nil .nil) .nil)))))) (.node (boot_o_6 P) (.node (boot_o_10 P) (.node (o55 P) (.node (o71 P) (.node (o109 P) (.node (o177 P) (.node (o309 P) .nil .nil) (.node (o613 P) .nil .nil)) (.node (o245 P) (.node (o373 P) .nil .nil) .nil)) (.node (o143 P) (.node (o211 P) (.node (o341 P) .nil .nil) .nil) (.node (o277 P) (.node (o405 P) .nil .nil) .nil))) (.node (o90 P) (.node (o125 P) (.node (o193 P) (.node (o325 P) .nil .nil) (.node (o629 P) .nil .nil)) (.node (o261 P) (.node (o389 P) .nil .nil) .nil)) (.node (o159 P) (.node (o227 P) (.node (o357 P) .nil .nil) .nil) (.node (o293 P) (.node (o597 P) .nil .nil) .nil)))) (.node (o63 P) (.node (o82 P) (.node (o117 P) (.node (o185 P) (.node (o317 P) .nil .nil) (.node (o621 P) .nil .nil)) (.node (o253 P) (.node (o381 P) .nil .nil) .nil)) (.node (o151 P) (.node (o219 P) (.node (o349 P) .nil .nil) .nil) (.node (o285 P) (.node (o413 P) .nil .nil) .nil))) (.node (o101 P) (.node (o133 P) (.node (o201 P) (.node (o333 P) .nil .nil) (.node (o637 P) .nil .nil)) (.node (o269 P) (.node (o397 P) .nil .nil) .nil)) (.node (o169 P) (.node (o237 P) (.node (o365 P) .nil .nil) .nil) (.node (o301 P) (.node (o605 P) .nil .nil) .nil))))) (.node (o46 P) (.node (o59 P) (.node (o96 P) (.node (o113 P) (.node (o181 P) (.node (o313 P) .nil .nil) (.node (o617 P) .nil .nil)) (.node (o249 P) (.node (o377 P) .nil .nil) .nil)) (.node (o147 P) (.node (o215 P) (.node (o345 P) .nil .nil) .nil) (.node (o281 P) (.node (o409 P) .nil .nil) .nil))) (.node (o97 P) (.node (o129 P) (.node (o197 P) (.node (o329 P) .nil .nil) (.node (o633 P) .nil .nil)) (.node (o265 P) (.node (o393 P) .nil .nil) .nil)) (.node (o165 P) (.node (o233 P) (.node (o361 P) .nil .nil) .nil) (.node (o297 P) (.node (o601 P) .nil .nil) .nil)))) (.node (o67 P) (.node (o86 P) (.node (o121 P) (.node (o189 P) (.node (o321 P) .nil .nil) (.node (o625 P) .nil .nil)) (.node (o257 P) (.node (o385 P) .nil .nil) .nil)) (.node (o155 P) (.node (o223 P) (.node (o353 P) .nil .nil) .nil) (.node (o289 P) (.node (o417 P) .nil .nil) .nil))) (.node (o105 P) (.node (o137 P) (.node (o205 P) (.node (o337 P) .nil .nil) (.node (o641 P) .nil .nil)) (.node (o273 P) (.node (o401 P) .nil .nil) .nil)) (.node (o173 P) (.node (o241 P) (.node (o369 P) .nil .nil) .nil) (.node (o305 P) (.node (o609 P) .nil .nil) .nil))))))))
noncomputable def h46 (P : Params) : Heap := ⟨⟨[(boot_o_0 P), (boot_o_1 P), (boot_o_2 P), (boot_o_3 P), (boot_o_4 P), (boot_o_5 P), (boot_o_6 P), (boot_o_7 P), (boot_o_8 P), (boot_o_9 P), (boot_o_10 P), (o43 P), (o44 P), (o45 P), (o46 P)]⟩, ⟨[], [], [], 0, [], [], false, #[], [], 0, false, false, false, 0, [2000, 10, 10], false, 0, true, [], [], 0, false⟩⟩
noncomputable def h642 (P : Params) : Heap := ⟨⟨((boot_o_0 P) :: (boot_o_1 P) :: (o49 P) :: (o595 P) :: (boot_o_4 P) :: (boot_o_5 P) :: (boot_o_6 P) :: (boot_o_7 P) :: (boot_o_8 P) :: (boot_o_9 P) :: (boot_o_10 P) :: (o43 P) :: (o596 P) :: (o45 P) :: (o46 P) :: (o52 P) :: (o53 P) :: (o54 P) :: (o55 P) :: (o56 P) :: (o57 P) :: (o58 P) :: (o59 P) :: (o60 P) :: (o61 P) :: (o62 P) :: (o63 P) :: (o64 P) :: (o65 P) :: (o66 P) :: (o67 P) :: (o68 P) :: (o69 P) :: (o70 P) :: (o71 P) :: (o72 P) :: (o73 P) :: (o74 P) :: (o96 P) :: (o76 P) :: (o77 P) :: (o78 P) :: (o82 P) :: (o83 P) :: (o84 P) :: (o85 P) :: (o86 P) :: (o87 P) :: (o88 P) :: (o89 P) :: (o90 P) :: (o91 P) :: (o92 P) :: (o93 P) :: (o97 P) :: (o98 P) :: (o99 P) :: (o100 P) :: (o101 P) :: (o102 P) :: (o103 P) :: (o104 P) :: (o105 P) :: (o106 P) :: (o107 P) :: (o108 P) :: (o109 P) :: (o110 P) :: (o111 P) :: (o112 P) :: (o113 P) :: (o114 P) :: (o115 P) :: (o116 P) :: (o117 P) :: (o118 P) :: (o119 P) :: (o120 P) :: (o121 P) :: (o122 P) :: (o123 P) :: (o124 P) :: (o125 P) :: (o126 P) :: (o127 P) :: (o128 P) :: (o129 P) :: (o130 P) :: (o131 P) :: (o132 P) :: (o133 P) :: (o134 P) :: (o135 P) :: (o136 P) :: (o137 P) :: (o140 P) :: (o141 P) :: (o142 P) :: (o143 P) :: (o144 P) :: (o145 P) :: (o146 P) :: (o147 P) :: (o148 P) :: (o149 P) :: (o150 P) :: (o151 P) :: (o152 P) :: (o153 P) :: (o154 P) :: (o155 P) :: (o156 P) :: (o157 P) :: (o158 P) :: (o159 P) :: (o160 P) :: (o163 P) :: (o164 P) :: (o165 P) :: (o166 P) :: (o167 P) :: (o168 P) :: (o169 P) :: (o170 P) :: (o171 P) :: (o172 P) :: (o173 P) :: (o174 P) :: (o175 P) :: (o176 P) :: (o177 P) :: (o178 P) :: (o179 P) :: (o180 P) :: (o181 P) :: (o182 P) :: (o183 P) :: (o184 P) :: (o185 P) :: (o186 P) :: (o187 P) :: (o188 P) :: (o189 P) :: (o190 P) :: (o191 P) :: (o192 P) :: (o193 P) :: (o194 P) :: (o195 P) :: (o196 P) :: (o197 P) :: (o198 P) :: (o199 P) :: (o200 P) :: (o201 P) :: (o202 P) :: (o203 P) :: (o204 P) :: (o205 P) :: (o206 P) :: (o209 P) :: (o210 P) :: (o211 P) :: (o212 P) :: (o213 P) :: (o214 P) :: (o215 P) :: (o216 P) :: (o217 P) :: (o218 P) :: (o219 P) :: (o220 P) :: (o221 P) :: (o222 P) :: (o223 P) :: (o224 P) :: (o225 P) :: (o226 P) :: (o227 P) :: (o228 P) :: (o229 P) :: (o232 P) :: (o233 P) :: (o234 P) :: (o235 P) :: (o236 P) :: (o237 P) :: (o238 P) :: (o239 P) :: (o240 P) :: (o241 P) :: (o242 P) :: (o243 P) :: (o244 P) :: (o245 P) :: (o246 P) :: (o247 P) :: (o248 P) :: (o249 P) :: (o250 P) :: (o251 P) :: (o252 P) :: (o253 P) :: (o254 P) :: (o255 P) :: (o256 P) :: (o257 P) :: (o258 P) :: (o259 P) :: (o260 P) :: (o261 P) :: (o262 P) :: (o263 P) :: (o264 P) :: (o265 P) :: (o266 P) :: (o267 P) :: (o268 P) :: (o269 P) :: (o270 P) :: (o271 P) :: (o272 P) :: (o273 P) :: (o274 P) :: (o275 P) :: (o276 P) :: (o277 P) :: (o278 P) :: (o279 P) :: (o280 P) :: (o281 P) :: (o282 P) :: (o283 P) :: (o284 P) :: (o285 P) :: (o286 P) :: (o287 P) :: (o288 P) :: (o289 P) :: (o290 P) :: (o291 P) :: (o292 P) :: (o293 P) :: (o294 P) :: (o295 P) :: (o296 P) :: (o297 P) :: (o298 P) :: (o299 P) :: (o300 P) :: (o301 P) :: (o302 P) :: (o303 P) :: (o304 P) :: (o305 P) :: (o306 P) :: (o307 P) :: (o308 P) :: (o309 P) :: (o310 P) :: (o311 P) :: (o312 P) :: (o313 P) :: (o314 P) :: (o315 P) :: (o316 P) :: (o317 P) :: (o318 P) :: (o319 P) :: (o320 P) :: (o321 P) :: (o322 P) :: (o323 P) :: (o324 P) :: (o325 P) :: (o326 P) :: (o327 P) :: (o328 P) :: (o329 P) :: (o330 P) :: (o331 P) :: (o332 P) :: (o333 P) :: (o334 P) :: (o335 P) :: (o336 P) :: (o337 P) :: (o338 P) :: (o339 P) :: (o340 P) :: (o341 P) :: (o342 P) :: (o343 P) :: (o344 P) :: (o345 P) :: (o346 P) :: (o347 P) :: (o348 P) :: (o349 P) :: (o350 P) :: (o351 P) :: (o352 P) :: (o353 P) :: (o354 P) :: (o355 P) :: (o356 P) :: (o357 P) :: (o358 P) :: (o359 P) :: (o360 P) :: (o361 P) :: (o362 P) :: (o363 P) :: (o364 P) :: (o365 P) :: (o366 P) :: (o367 P) :: (o368 P) :: (o369 P) :: (o370 P) :: (o371 P) :: (o372 P) :: (o373 P) :: (o374 P) :: (o375 P) :: (o376 P) :: (o377 P) :: (o378 P) :: (o379 P) :: (o380 P) :: (o381 P) :: (o382 P) :: (o383 P) :: (o384 P) :: (o385 P) :: (o386 P) :: (o387 P) :: (o388 P) :: (o389 P) :: (o390 P) :: (o391 P) :: (o392 P) :: (o393 P) :: (o394 P) :: (o395 P) :: (o396 P) :: (o397 P) :: (o398 P) :: (o399 P) :: (o400 P) :: (o401 P) :: (o402 P) :: (o403 P) :: (o404 P) :: (o405 P) :: (o406 P) :: (o407 P) :: (o408 P) :: (o409 P) :: (o410 P) :: (o411 P) :: (o412 P) :: (o413 P) :: (o414 P) :: (o415 P) :: (o416 P) :: (o417 P) :: (o418 P) :: (o419 P) :: (o420 P) :: (o597 P) :: (o598 P) :: (o599 P) :: (o600 P) :: (o601 P) :: (o602 P) :: (o603 P) :: (o604 P) :: (o605 P) :: (o606 P) :: (o607 P) :: (o608 P) :: (o609 P) :: (o610 P) :: (o611 P) :: (o612 P) :: (o613 P) :: (o614 P) :: (o615 P) :: (o616 P) :: (o617 P) :: (o618 P) :: (o619 P) :: (o620 P) :: (o621 P) :: (o622 P) :: (o623 P) :: (o624 P) :: (o625 P) :: (o626 P) :: (o627 P) :: (o628 P) :: (o629 P) :: (o630 P) :: (o631 P) :: (o632 P) :: (o633 P) :: (o634 P) :: (o635 P) :: (o636 P) :: (o637 P) :: (o638 P) :: (o639 P) :: (o640 P) :: (o641 P) :: [])⟩, ⟨[], [], [], 0, [], [], false, #[], [], 0, false, false, false, 0, [2000, 10, 10], false, 0, true, [], [], 0, false⟩⟩

noncomputable abbrev a0 : Arguments := by
  refine' (fun (l : Arguments) (_ : l = (fP (T 0))) => l) ?l ?h
  case h => conv => rhs; whnf
noncomputable abbrev a10 : Arguments := by
  refine' (fun (l : Arguments) (_ : l = (fP (T 10))) => l) ?l ?h
  case h => conv => rhs; whnf
noncomputable abbrev a12 : Arguments := by
  refine' (fun (l : Arguments) (_ : l = (fP (T 12))) => l) ?l ?h
  case h => conv => rhs; whnf
noncomputable abbrev a13 : Arguments := by
  refine' (fun (l : Arguments) (_ : l = (fP (T 13))) => l) ?l ?h
  case h => conv => rhs; whnf
noncomputable abbrev a14 : Arguments := by
  refine' (fun (l : Arguments) (_ : l = (fP (T 14))) => l) ?l ?h
  case h => conv => rhs; whnf
noncomputable abbrev a15 : Arguments := by
  refine' (fun (l : Arguments) (_ : l = (fP (T 15))) => l) ?l ?h
  case h => conv => rhs; whnf
noncomputable abbrev a17_0 : Arguments := by
  refine' (fun (l : Arguments) (_ : l = (fP (M 17 0))) => l) ?l ?h
  case h => conv => rhs; whnf
noncomputable abbrev a17_1 : Arguments := by
  refine' (fun (l : Arguments) (_ : l = (fP (M 17 1))) => l) ?l ?h
  case h => conv => rhs; whnf
noncomputable abbrev a17_2 : Arguments := by
  refine' (fun (l : Arguments) (_ : l = (fP (M 17 2))) => l) ?l ?h
  case h => conv => rhs; whnf
noncomputable abbrev a17_3 : Arguments := by
  refine' (fun (l : Arguments) (_ : l = (fP (M 17 3))) => l) ?l ?h
  case h => conv => rhs; whnf
noncomputable abbrev a20_0 : Arguments := by
  refine' (fun (l : Arguments) (_ : l = (fP (M 20 0))) => l) ?l ?h
  case h => conv => rhs; whnf
noncomputable abbrev a21_0 : Arguments := by
  refine' (fun (l : Arguments) (_ : l = (fP (M 21 0))) => l) ?l ?h
  case h => conv => rhs; whnf
noncomputable abbrev a21_1 : Arguments := by
  refine' (fun (l : Arguments) (_ : l = (fP (M 21 1))) => l) ?l ?h
  case h => conv => rhs; whnf
noncomputable abbrev a21_10 : Arguments := by
  refine' (fun (l : Arguments) (_ : l = (fP (M 21 10))) => l) ?l ?h
  case h => conv => rhs; whnf
noncomputable abbrev a21_11 : Arguments := by
  refine' (fun (l : Arguments) (_ : l = (fP (M 21 11))) => l) ?l ?h
  case h => conv => rhs; whnf
noncomputable abbrev a21_12 : Arguments := by
  refine' (fun (l : Arguments) (_ : l = (fP (M 21 12))) => l) ?l ?h
  case h => conv => rhs; whnf
noncomputable abbrev a21_13 : Arguments := by
  refine' (fun (l : Arguments) (_ : l = (fP (M 21 13))) => l) ?l ?h
  case h => conv => rhs; whnf
noncomputable abbrev a21_14 : Arguments := by
  refine' (fun (l : Arguments) (_ : l = (fP (M 21 14))) => l) ?l ?h
  case h => conv => rhs; whnf
noncomputable abbrev a21_15 : Arguments := by
  refine' (fun (l : Arguments) (_ : l = (fP (M 21 15))) => l) ?l ?h
  case h => conv => rhs; whnf
noncomputable abbrev a21_16 : Arguments := by
  refine' (fun (l : Arguments) (_ : l = (fP (M 21 16))) => l) ?l ?h
  case h => conv => rhs; whnf
noncomputable abbrev a21_17 : Arguments := by
  refine' (fun (l : Arguments) (_ : l = (fP (M 21 17))) => l) ?l ?h
  case h => conv => rhs; whnf
noncomputable abbrev a21_18 : Arguments := by
  refine' (fun (l : Arguments) (_ : l = (fP (M 21 18))) => l) ?l ?h
  case h => conv => rhs; whnf
noncomputable abbrev a21_19 : Arguments := by
  refine' (fun (l : Arguments) (_ : l = (fP (M 21 19))) => l) ?l ?h
  case h => conv => rhs; whnf
noncomputable abbrev a21_2 : Arguments := by
  refine' (fun (l : Arguments) (_ : l = (fP (M 21 2))) => l) ?l ?h
  case h => conv => rhs; whnf
noncomputable abbrev a21_20 : Arguments := by
  refine' (fun (l : Arguments) (_ : l = (fP (M 21 20))) => l) ?l ?h
  case h => conv => rhs; whnf
noncomputable abbrev a21_21 : Arguments := by
  refine' (fun (l : Arguments) (_ : l = (fP (M 21 21))) => l) ?l ?h
  case h => conv => rhs; whnf
noncomputable abbrev a21_22 : Arguments := by
  refine' (fun (l : Arguments) (_ : l = (fP (M 21 22))) => l) ?l ?h
  case h => conv => rhs; whnf
noncomputable abbrev a21_23 : Arguments := by
  refine' (fun (l : Arguments) (_ : l = (fP (M 21 23))) => l) ?l ?h
  case h => conv => rhs; whnf
noncomputable abbrev a21_24 : Arguments := by
  refine' (fun (l : Arguments) (_ : l = (fP (M 21 24))) => l) ?l ?h
  case h => conv => rhs; whnf
noncomputable abbrev a21_3 : Arguments := by
  refine' (fun (l : Arguments) (_ : l = (fP (M 21 3))) => l) ?l ?h
  case h => conv => rhs; whnf
noncomputable abbrev a21_4 : Arguments := by
  refine' (fun (l : Arguments) (_ : l = (fP (M 21 4))) => l) ?l ?h
  case h => conv => rhs; whnf
noncomputable abbrev a21_5 : Arguments := by
  refine' (fun (l : Arguments) (_ : l = (fP (M 21 5))) => l) ?l ?h
  case h => conv => rhs; whnf
noncomputable abbrev a21_6 : Arguments := by
  refine' (fun (l : Arguments) (_ : l = (fP (M 21 6))) => l) ?l ?h
  case h => conv => rhs; whnf
noncomputable abbrev a21_7 : Arguments := by
  refine' (fun (l : Arguments) (_ : l = (fP (M 21 7))) => l) ?l ?h
  case h => conv => rhs; whnf
noncomputable abbrev a21_8 : Arguments := by
  refine' (fun (l : Arguments) (_ : l = (fP (M 21 8))) => l) ?l ?h
  case h => conv => rhs; whnf
noncomputable abbrev a21_9 : Arguments := by
  refine' (fun (l : Arguments) (_ : l = (fP (M 21 9))) => l) ?l ?h
  case h => conv => rhs; whnf
noncomputable abbrev a23 : Arguments := by
  refine' (fun (l : Arguments) (_ : l = (fP (T 23))) => l) ?l ?h
  case h => conv => rhs; whnf
noncomputable abbrev a24 : Arguments := by
  refine' (fun (l : Arguments) (_ : l = (fP (T 24))) => l) ?l ?h
  case h => conv => rhs; whnf
noncomputable abbrev a25 : Arguments := by
  refine' (fun (l : Arguments) (_ : l = (fP (T 25))) => l) ?l ?h
  case h => conv => rhs; whnf
noncomputable abbrev a26 : Arguments := by
  refine' (fun (l : Arguments) (_ : l = (fP (T 26))) => l) ?l ?h
  case h => conv => rhs; whnf
noncomputable abbrev a27 : Arguments := by
  refine' (fun (l : Arguments) (_ : l = (fP (T 27))) => l) ?l ?h
  case h => conv => rhs; whnf
noncomputable abbrev a28 : Arguments := by
  refine' (fun (l : Arguments) (_ : l = (fP (T 28))) => l) ?l ?h
  case h => conv => rhs; whnf
noncomputable abbrev a29 : Arguments := by
  refine' (fun (l : Arguments) (_ : l = (fP (T 29))) => l) ?l ?h
  case h => conv => rhs; whnf
noncomputable abbrev a2_0 : Arguments := by
  refine' (fun (l : Arguments) (_ : l = (fP (M 2 0))) => l) ?l ?h
  case h => conv => rhs; whnf
noncomputable abbrev a8 : Arguments := by
  refine' (fun (l : Arguments) (_ : l = (fP (T 8))) => l) ?l ?h
  case h => conv => rhs; whnf
noncomputable abbrev a9 : Arguments := by
  refine' (fun (l : Arguments) (_ : l = (fP (T 9))) => l) ?l ?h
  case h => conv => rhs; whnf
noncomputable abbrev b0 : List Stmt := by
  refine' (fun (l : List Stmt) (_ : l = (fB (T 0))) => l) ?l ?h
  case h => conv => rhs; whnf
noncomputable abbrev b10 : List Stmt := by
  refine' (fun (l : List Stmt) (_ : l = (fB (T 10))) => l) ?l ?h
  case h => conv => rhs; whnf
noncomputable abbrev b12 : List Stmt := by
  refine' (fun (l : List Stmt) (_ : l = (fB (T 12))) => l) ?l ?h
  case h => conv => rhs; whnf
noncomputable abbrev b13 : List Stmt := by
  refine' (fun (l : List Stmt) (_ : l = (fB (T 13))) => l) ?l ?h
  case h => conv => rhs; whnf
noncomputable abbrev b14 : List Stmt := by
  refine' (fun (l : List Stmt) (_ : l = (fB (T 14))) => l) ?l ?h
  case h => conv => rhs; whnf
noncomputable abbrev b15 : List Stmt := by
  refine' (fun (l : List Stmt) (_ : l = (fB (T 15))) => l) ?l ?h
  case h => conv => rhs; whnf
noncomputable abbrev b17_0 : List Stmt := by
  refine' (fun (l : List Stmt) (_ : l = (fB (M 17 0))) => l) ?l ?h
  case h => conv => rhs; whnf
noncomputable abbrev b17_1 : List Stmt := by
  refine' (fun (l : List Stmt) (_ : l = (fB (M 17 1))) => l) ?l ?h
  case h => conv => rhs; whnf
noncomputable abbrev b17_2 : List Stmt := by
  refine' (fun (l : List Stmt) (_ : l = (fB (M 17 2))) => l) ?l ?h
  case h => conv => rhs; whnf
noncomputable abbrev b17_3 : List Stmt := by
  refine' (fun (l : List Stmt) (_ : l = (fB (M 17 3))) => l) ?l ?h
  case h => conv => rhs; whnf
noncomputable abbrev b20_0 : List Stmt := by
  refine' (fun (l : List Stmt) (_ : l = (fB (M 20 0))) => l) ?l ?h
  case h => conv => rhs; whnf
noncomputable abbrev b21_0 : List Stmt := by
  refine' (fun (l : List Stmt) (_ : l = (fB (M 21 0))) => l) ?l ?h
  case h => conv => rhs; whnf
noncomputable abbrev b21_1 : List Stmt := by
  refine' (fun (l : List Stmt) (_ : l = (fB (M 21 1))) => l) ?l ?h
  case h => conv => rhs; whnf
noncomputable abbrev b21_10 : List Stmt := by
  refine' (fun (l : List Stmt) (_ : l = (fB (M 21 10))) => l) ?l ?h
  case h => conv => rhs; whnf
noncomputable abbrev b21_11 : List Stmt := by
  refine' (fun (l : List Stmt) (_ : l = (fB (M 21 11))) => l) ?l ?h
  case h => conv => rhs; whnf
noncomputable abbrev b21_12 : List Stmt := by
  refine' (fun (l : List Stmt) (_ : l = (fB (M 21 12))) => l) ?l ?h
  case h => conv => rhs; whnf
noncomputable abbrev b21_13 : List Stmt := by
  refine' (fun (l : List Stmt) (_ : l = (fB (M 21 13))) => l) ?l ?h
  case h => conv => rhs; whnf
noncomputable abbrev b21_14 : List Stmt := by
  refine' (fun (l : List Stmt) (_ : l = (fB (M 21 14))) => l) ?l ?h
  case h => conv => rhs; whnf
noncomputable abbrev b21_15 : List Stmt := by
  refine' (fun (l : List Stmt) (_ : l = (fB (M 21 15))) => l) ?l ?h
  case h => conv => rhs; whnf
noncomputable abbrev b21_16 : List Stmt := by
  refine' (fun (l : List Stmt) (_ : l = (fB (M 21 16))) => l) ?l ?h
  case h => conv => rhs; whnf
noncomputable abbrev b21_17 : List Stmt := by
  refine' (fun (l : List Stmt) (_ : l = (fB (M 21 17))) => l) ?l ?h
  case h => conv => rhs; whnf
noncomputable abbrev b21_18 : List Stmt := by
  refine' (fun (l : List Stmt) (_ : l = (fB (M 21 18))) => l) ?l ?h
  case h => conv => rhs; whnf
noncomputable abbrev b21_19 : List Stmt := by
  refine' (fun (l : List Stmt) (_ : l = (fB (M 21 19))) => l) ?l ?h
  case h => conv => rhs; whnf
noncomputable abbrev b21_2 : List Stmt := by
  refine' (fun (l : List Stmt) (_ : l = (fB (M 21 2))) => l) ?l ?h
  case h => conv => rhs; whnf
noncomputable abbrev b21_20 : List Stmt := by
  refine' (fun (l : List Stmt) (_ : l = (fB (M 21 20))) => l) ?l ?h
  case h => conv => rhs; whnf
noncomputable abbrev b21_21 : List Stmt := by
  refine' (fun (l : List Stmt) (_ : l = (fB (M 21 21))) => l) ?l ?h
  case h => conv => rhs; whnf
noncomputable abbrev b21_22 : List Stmt := by
  refine' (fun (l : List Stmt) (_ : l = (fB (M 21 22))) => l) ?l ?h
  case h => conv => rhs; whnf
noncomputable abbrev b21_23 : List Stmt := by
  refine' (fun (l : List Stmt) (_ : l = (fB (M 21 23))) => l) ?l ?h
  case h => conv => rhs; whnf
noncomputable abbrev b21_24 : List Stmt := by
  refine' (fun (l : List Stmt) (_ : l = (fB (M 21 24))) => l) ?l ?h
  case h => conv => rhs; whnf
noncomputable abbrev b21_3 : List Stmt := by
  refine' (fun (l : List Stmt) (_ : l = (fB (M 21 3))) => l) ?l ?h
  case h => conv => rhs; whnf
noncomputable abbrev b21_4 : List Stmt := by
  refine' (fun (l : List Stmt) (_ : l = (fB (M 21 4))) => l) ?l ?h
  case h => conv => rhs; whnf
noncomputable abbrev b21_5 : List Stmt := by
  refine' (fun (l : List Stmt) (_ : l = (fB (M 21 5))) => l) ?l ?h
  case h => conv => rhs; whnf
noncomputable abbrev b21_6 : List Stmt := by
  refine' (fun (l : List Stmt) (_ : l = (fB (M 21 6))) => l) ?l ?h
  case h => conv => rhs; whnf
noncomputable abbrev b21_7 : List Stmt := by
  refine' (fun (l : List Stmt) (_ : l = (fB (M 21 7))) => l) ?l ?h
  case h => conv => rhs; whnf
noncomputable abbrev b21_8 : List Stmt := by
  refine' (fun (l : List Stmt) (_ : l = (fB (M 21 8))) => l) ?l ?h
  case h => conv => rhs; whnf
noncomputable abbrev b21_9 : List Stmt := by
  refine' (fun (l : List Stmt) (_ : l = (fB (M 21 9))) => l) ?l ?h
  case h => conv => rhs; whnf
noncomputable abbrev b23 : List Stmt := by
  refine' (fun (l : List Stmt) (_ : l = (fB (T 23))) => l) ?l ?h
  case h => conv => rhs; whnf
noncomputable abbrev b24 : List Stmt := by
  refine' (fun (l : List Stmt) (_ : l = (fB (T 24))) => l) ?l ?h
  case h => conv => rhs; whnf
noncomputable abbrev b25 : List Stmt := by
  refine' (fun (l : List Stmt) (_ : l = (fB (T 25))) => l) ?l ?h
  case h => conv => rhs; whnf
noncomputable abbrev b26 : List Stmt := by
  refine' (fun (l : List Stmt) (_ : l = (fB (T 26))) => l) ?l ?h
  case h => conv => rhs; whnf
noncomputable abbrev b27 : List Stmt := by
  refine' (fun (l : List Stmt) (_ : l = (fB (T 27))) => l) ?l ?h
  case h => conv => rhs; whnf
noncomputable abbrev b28 : List Stmt := by
  refine' (fun (l : List Stmt) (_ : l = (fB (T 28))) => l) ?l ?h
  case h => conv => rhs; whnf
noncomputable abbrev b29 : List Stmt := by
  refine' (fun (l : List Stmt) (_ : l = (fB (T 29))) => l) ?l ?h
  case h => conv => rhs; whnf
noncomputable abbrev b2_0 : List Stmt := by
  refine' (fun (l : List Stmt) (_ : l = (fB (M 2 0))) => l) ?l ?h
  case h => conv => rhs; whnf
noncomputable abbrev b8 : List Stmt := by
  refine' (fun (l : List Stmt) (_ : l = (fB (T 8))) => l) ?l ?h
  case h => conv => rhs; whnf
noncomputable abbrev b9 : List Stmt := by
  refine' (fun (l : List Stmt) (_ : l = (fB (T 9))) => l) ?l ?h
  case h => conv => rhs; whnf
noncomputable abbrev c0 : Scope := by
  refine' (fun (l : Scope) (_ : l = (fS (T 0))) => l) ?l ?h
  case h => conv => rhs; whnf
noncomputable abbrev c10 : Scope := by
  refine' (fun (l : Scope) (_ : l = (fS (T 10))) => l) ?l ?h
  case h => conv => rhs; whnf
noncomputable abbrev c12 : Scope := by
  refine' (fun (l : Scope) (_ : l = (fS (T 12))) => l) ?l ?h
  case h => conv => rhs; whnf
noncomputable abbrev c13 : Scope := by
  refine' (fun (l : Scope) (_ : l = (fS (T 13))) => l) ?l ?h
  case h => conv => rhs; whnf
noncomputable abbrev c14 : Scope := by
  refine' (fun (l : Scope) (_ : l = (fS (T 14))) => l) ?l ?h
  case h => conv => rhs; whnf
noncomputable abbrev c15 : Scope := by
  refine' (fun (l : Scope) (_ : l = (fS (T 15))) => l) ?l ?h
  case h => conv => rhs; whnf
noncomputable abbrev c17_0 : Scope := by
  refine' (fun (l : Scope) (_ : l = (fS (M 17 0))) => l) ?l ?h
  case h => conv => rhs; whnf
noncomputable abbrev c17_1 : Scope := by
  refine' (fun (l : Scope) (_ : l = (fS (M 17 1))) => l) ?l ?h
  case h => conv => rhs; whnf
noncomputable abbrev c17_2 : Scope := by
  refine' (fun (l : Scope) (_ : l = (fS (M 17 2))) => l) ?l ?h
  case h => conv => rhs; whnf
noncomputable abbrev c17_3 : Scope := by
  refine' (fun (l : Scope) (_ : l = (fS (M 17 3))) => l) ?l ?h
  case h => conv => rhs; whnf
noncomputable abbrev c20_0 : Scope := by
  refine' (fun (l : Scope) (_ : l = (fS (M 20 0))) => l) ?l ?h
  case h => conv => rhs; whnf
noncomputable abbrev c21_1 : Scope := by
  refine' (fun (l : Scope) (_ : l = (fS (M 21 1))) => l) ?l ?h
  case h => conv => rhs; whnf
noncomputable abbrev c21_10 : Scope := by
  refine' (fun (l : Scope) (_ : l = (fS (M 21 10))) => l) ?l ?h
  case h => conv => rhs; whnf
noncomputable abbrev c21_11 : Scope := by
  refine' (fun (l : Scope) (_ : l = (fS (M 21 11))) => l) ?l ?h
  case h => conv => rhs; whnf
noncomputable abbrev c21_12 : Scope := by
  refine' (fun (l : Scope) (_ : l = (fS (M 21 12))) => l) ?l ?h
  case h => conv => rhs; whnf
noncomputable abbrev c21_18 : Scope := by
  refine' (fun (l : Scope) (_ : l = (fS (M 21 18))) => l) ?l ?h
  case h => conv => rhs; whnf
noncomputable abbrev c21_2 : Scope := by
  refine' (fun (l : Scope) (_ : l = (fS (M 21 2))) => l) ?l ?h
  case h => conv => rhs; whnf
noncomputable abbrev c21_21 : Scope := by
  refine' (fun (l : Scope) (_ : l = (fS (M 21 21))) => l) ?l ?h
  case h => conv => rhs; whnf
noncomputable abbrev c21_22 : Scope := by
  refine' (fun (l : Scope) (_ : l = (fS (M 21 22))) => l) ?l ?h
  case h => conv => rhs; whnf
noncomputable abbrev c21_23 : Scope := by
  refine' (fun (l : Scope) (_ : l = (fS (M 21 23))) => l) ?l ?h
  case h => conv => rhs; whnf
noncomputable abbrev c21_24 : Scope := by
  refine' (fun (l : Scope) (_ : l = (fS (M 21 24))) => l) ?l ?h
  case h => conv => rhs; whnf
noncomputable abbrev c21_3 : Scope := by
  refine' (fun (l : Scope) (_ : l = (fS (M 21 3))) => l) ?l ?h
  case h => conv => rhs; whnf
noncomputable abbrev c21_4 : Scope := by
  refine' (fun (l : Scope) (_ : l = (fS (M 21 4))) => l) ?l ?h
  case h => conv => rhs; whnf
noncomputable abbrev c21_5 : Scope := by
  refine' (fun (l : Scope) (_ : l = (fS (M 21 5))) => l) ?l ?h
  case h => conv => rhs; whnf
noncomputable abbrev c21_7 : Scope := by
  refine' (fun (l : Scope) (_ : l = (fS (M 21 7))) => l) ?l ?h
  case h => conv => rhs; whnf
noncomputable abbrev c21_8 : Scope := by
  refine' (fun (l : Scope) (_ : l = (fS (M 21 8))) => l) ?l ?h
  case h => conv => rhs; whnf
noncomputable abbrev c21_9 : Scope := by
  refine' (fun (l : Scope) (_ : l = (fS (M 21 9))) => l) ?l ?h
  case h => conv => rhs; whnf
noncomputable abbrev c23 : Scope := by
  refine' (fun (l : Scope) (_ : l = (fS (T 23))) => l) ?l ?h
  case h => conv => rhs; whnf
noncomputable abbrev c24 : Scope := by
  refine' (fun (l : Scope) (_ : l = (fS (T 24))) => l) ?l ?h
  case h => conv => rhs; whnf
noncomputable abbrev c25 : Scope := by
  refine' (fun (l : Scope) (_ : l = (fS (T 25))) => l) ?l ?h
  case h => conv => rhs; whnf
noncomputable abbrev c26 : Scope := by
  refine' (fun (l : Scope) (_ : l = (fS (T 26))) => l) ?l ?h
  case h => conv => rhs; whnf
noncomputable abbrev c27 : Scope := by
  refine' (fun (l : Scope) (_ : l = (fS (T 27))) => l) ?l ?h
  case h => conv => rhs; whnf
noncomputable abbrev c28 : Scope := by
  refine' (fun (l : Scope) (_ : l = (fS (T 28))) => l) ?l ?h
  case h => conv => rhs; whnf
noncomputable abbrev c29 : Scope := by
  refine' (fun (l : Scope) (_ : l = (fS (T 29))) => l) ?l ?h
  case h => conv => rhs; whnf
noncomputable abbrev c2_0 : Scope := by
  refine' (fun (l : Scope) (_ : l = (fS (M 2 0))) => l) ?l ?h
  case h => conv => rhs; whnf
noncomputable abbrev c8 : Scope := by
  refine' (fun (l : Scope) (_ : l = (fS (T 8))) => l) ?l ?h
  case h => conv => rhs; whnf
noncomputable abbrev c9 : Scope := by
  refine' (fun (l : Scope) (_ : l = (fS (T 9))) => l) ?l ?h
  case h => conv => rhs; whnf
noncomputable def KK : Params → Frag := fun P =>
  (nat_lit 2, ⟨.none, none, (.dict #[⟨(PyData.keyHash P "type.__subclasses__.Exception.0"), (.str "type.__subclasses__.Exception.0" 221), (.int 38 0)⟩, ⟨(PyData.keyHash P "type.__subclasses__.Exception.n"), (.str "type.__subclasses__.Exception.n" 222), (.int 1 0)⟩] 2), #[]⟩) ::
  (nat_lit 3, ⟨(.type "dict"), none, (.dict #[⟨(PyData.keyHash P "__name__"), (.str "__name__" 165), (.str "law_xm0669_01" 701)⟩, ⟨(PyData.keyHash P "__doc__"), (.str "__doc__" 166), .none⟩, ⟨(PyData.keyHash P "__package__"), (.str "__package__" 167), .none⟩, ⟨(PyData.keyHash P "__loader__"), (.str "__loader__" 168), (.builtin "__main__.__loader__#opaque")⟩, ⟨(PyData.keyHash P "__spec__"), (.str "__spec__" 169), .none⟩, ⟨(PyData.keyHash P "__annotations__"), (.str "__annotations__" 170), (.ref 6)⟩, ⟨(PyData.keyHash P "__builtins__"), (.str "__builtins__" 171), (.ref 4)⟩, ⟨(PyData.keyHash P "__file__"), (.str "__file__" 173), (.str "/claim/cut.py" 172)⟩, ⟨(PyData.keyHash P "__cached__"), (.str "__cached__" 174), .none⟩, ⟨(PyData.keyHash P "_wall"), (.str "_wall" 193), (.ref 21)⟩, ⟨(PyData.keyHash P "MarkupError"), (.str "MarkupError" 224), (.ref 38)⟩, ⟨(PyData.keyHash P "TreeFault"), (.str "TreeFault" 240), (.ref 51)⟩, ⟨(PyData.keyHash P "PathFault"), (.str "PathFault" 256), (.ref 63)⟩, ⟨(PyData.keyHash P "MOST_FIGURES"), (.str "MOST_FIGURES" 260), (.int 400 259)⟩, ⟨(PyData.keyHash P "MOST"), (.str "MOST" 263), (.int 10000000000000000000000000000000000000000000000000000000000000000000000000000000000000000000000000000000000000000000000000000000000000000000000000000000000000000000000000000000000000000000000000000000000000000000000000000000000000000000000000000000000000000000000000000000000000000000000000000000000000000000000000000000000000000000000000000000000000000000000000000000000000000000000000000000000000000 262)⟩, ⟨(PyData.keyHash P "common_divisor"), (.str "common_divisor" 273), (.ref 72)⟩, ⟨(PyData.keyHash P "sign_of"), (.str "sign_of" 280), (.ref 79)⟩, ⟨(PyData.keyHash P "number_of"), (.str "number_of" 290), (.ref 87)⟩, ⟨(PyData.keyHash P "nodes_of"), (.str "nodes_of" 299), (.ref 94)⟩, ⟨(PyData.keyHash P "counted"), (.str "counted" 306), (.ref 101)⟩, ⟨(PyData.keyHash P "told_node"), (.str "told_node" 315), (.ref 108)⟩, ⟨(PyData.keyHash P "name_part"), (.str "name_part" 325), (.ref 115)⟩, ⟨(PyData.keyHash P "Context"), (.str "Context" 400), (.ref 154)⟩, ⟨(PyData.keyHash P "PARENTS"), (.str "PARENTS" 405), (.ref 159)⟩, ⟨(PyData.keyHash P "NodeRow"), (.str "NodeRow" 447), (.ref 176)⟩, ⟨(PyData.keyHash P "Tree"), (.str "Tree" 700), (.ref 365)⟩, ⟨(PyData.keyHash P "_law_pool"), (.str "_law_pool" 711), (.ref 376)⟩, ⟨(PyData.keyHash P "_law_take"), (.str "_law_take" 720), (.ref 383)⟩, ⟨(PyData.keyHash P "_law_one"), (.str "_law_one" 728), (.ref 390)⟩, ⟨(PyData.keyHash P "_law_rows"), (.str "_law_rows" 744), (.ref 397)⟩, ⟨(PyData.keyHash P "_law_is_refused"), (.str "_law_is_refused" 751), (.ref 404)⟩, ⟨(PyData.keyHash P "_law_parts"), (.str "_law_parts" 757), (.ref 409)⟩, ⟨(PyData.keyHash P "law"), (.str "law" 763), (.ref 414)⟩] 33), #[]⟩) ::
  (nat_lit 15, ⟨(.type "tuple"), none, (.seq #[] 0), #[]⟩) ::
  (nat_lit 17, ⟨(.type "tuple"), none, (.seq #[(.str "k" 190)] 0), #[]⟩) ::
  (nat_lit 18, ⟨(.type "tuple"), none, (.seq #[] 0), #[]⟩) ::
  (nat_lit 20, ⟨(.type "code"), none, (.fields #[(.str "_wall" 187), (.str "_wall" 188), (.str "/claim/cut.py" 189), (.int 1 0), (.int 1 0), (.int 0 0), (.int 0 0), (.int 3 0), (.ref 15), (.bool true), (.int 181 0), (.ref 16), .none, (.ref 17), (.ref 18), (.ref 19), (.int 191 0), (.int 1 0), (.str "/claim/cut.py" 192)]), #[]⟩) ::
  (nat_lit 21, ⟨(.type "function"), none, (.func ⟨"_wall", "_wall", a0, (.stmts b0), c0, 3, [], .none, .none, .none, (.str "__main__" 164), none, (.ref 20), .none, 0⟩), #[]⟩) ::
  (nat_lit 22, ⟨(.type "tuple"), none, (.seq #[(.type "Exception")] 0), #[]⟩) ::
  (nat_lit 29, ⟨(.type "tuple"), none, (.seq #[] 0), #[]⟩) ::
  (nat_lit 31, ⟨(.type "tuple"), none, (.seq #[(.str "self" 211), (.str "message" 212)] 0), #[]⟩) ::
  (nat_lit 32, ⟨(.type "tuple"), none, (.seq #[] 0), #[]⟩) ::
  (nat_lit 34, ⟨(.type "code"), none, (.fields #[(.str "__init__" 208), (.str "MarkupError.__init__" 209), (.str "/claim/cut.py" 210), (.int 7 0), (.int 2 0), (.int 0 0), (.int 0 0), (.int 3 0), (.ref 29), (.bool true), (.int 181 0), (.ref 30), .none, (.ref 31), (.ref 32), (.ref 33), (.int 213 0), (.int 7 0), (.str "/claim/cut.py" 214)]), #[]⟩) ::
  (nat_lit 35, ⟨(.type "function"), none, (.func ⟨"__init__", "MarkupError.__init__", a2_0, (.stmts b2_0), c2_0, 3, [], .none, .none, .none, (.str "markupmill.errors" 194), none, (.ref 34), .none, 0⟩), #[]⟩) ::
  (nat_lit 36, ⟨(.type "tuple"), none, (.seq #[(.str "message" 216)] 0), #[]⟩) ::
  (nat_lit 37, ⟨(.type "dict"), none, (.dict #[⟨(PyData.keyHash P "__module__"), (.str "__module__" 203), (.str "markupmill.errors" 194)⟩, ⟨(PyData.keyHash P "__firstlineno__"), (.str "__firstlineno__" 207), (.int 5 206)⟩, ⟨(PyData.keyHash P "__init__"), (.str "__init__" 215), (.ref 35)⟩, ⟨(PyData.keyHash P "__static_attributes__"), (.str "__static_attributes__" 217), (.ref 36)⟩, ⟨(PyData.keyHash P "__weakref__"), (.str "__weakref__" 219), (.ref 39)⟩, ⟨(PyData.keyHash P "__doc__"), (.str "__doc__" 220), .none⟩] 3), #[]⟩) ::
  (nat_lit 38, ⟨(.type "type"), none, (.cls ⟨"MarkupError", [(.type "Exception")], [(.ref 38), (.type "Exception"), (.type "BaseException"), (.type "object")], 37, "MarkupError", true, [], [(.ref 51), (.ref 63)], false, none, false⟩), #[(some (.ref 22)), none, (some (.str "MarkupError" 196)), (some (.str "MarkupError" 204)), (some (.builtin "Exception.__new__")), (some (.bool true))]⟩) ::
  (nat_lit 39, ⟨(.type "getset_descriptor"), none, (.fields #[(.str "__weakref__" 218), (.ref 38), (.builtin "ExceptionGroup.__weakref__"), .none]), #[]⟩) ::
  (nat_lit 42, ⟨(.type "tuple"), none, (.seq #[(.ref 38)] 0), #[]⟩) ::
  (nat_lit 49, ⟨(.type "tuple"), none, (.seq #[] 0), #[]⟩) ::
  (nat_lit 50, ⟨(.type "dict"), none, (.dict #[⟨(PyData.keyHash P "__module__"), (.str "__module__" 232), (.str "markupmill.errors" 194)⟩, ⟨(PyData.keyHash P "__firstlineno__"), (.str "__firstlineno__" 236), (.int 10 235)⟩, ⟨(PyData.keyHash P "__static_attributes__"), (.str "__static_attributes__" 237), (.ref 49)⟩, ⟨(PyData.keyHash P "__doc__"), (.str "__doc__" 238), .none⟩] 2), #[]⟩) ::
  (nat_lit 51, ⟨(.type "type"), none, (.cls ⟨"TreeFault", [(.ref 38)], [(.ref 51), (.ref 38), (.type "Exception"), (.type "BaseException"), (.type "object")], 50, "TreeFault", true, [], [], false, none, false⟩), #[(some (.ref 42)), none, (some (.str "TreeFault" 225)), (some (.str "TreeFault" 233)), (some (.builtin "Exception.__new__")), (some (.bool true))]⟩) ::
  (nat_lit 54, ⟨(.type "tuple"), none, (.seq #[(.ref 38)] 0), #[]⟩) ::
  (nat_lit 61, ⟨(.type "tuple"), none, (.seq #[] 0), #[]⟩) ::
  (nat_lit 62, ⟨(.type "dict"), none, (.dict #[⟨(PyData.keyHash P "__module__"), (.str "__module__" 248), (.str "markupmill.errors" 194)⟩, ⟨(PyData.keyHash P "__firstlineno__"), (.str "__firstlineno__" 252), (.int 12 251)⟩, ⟨(PyData.keyHash P "__static_attributes__"), (.str "__static_attributes__" 253), (.ref 61)⟩, ⟨(PyData.keyHash P "__doc__"), (.str "__doc__" 254), .none⟩] 2), #[]⟩) ::
  (nat_lit 63, ⟨(.type "type"), none, (.cls ⟨"PathFault", [(.ref 38)], [(.ref 63), (.ref 38), (.type "Exception"), (.type "BaseException"), (.type "object")], 62, "PathFault", true, [], [], false, none, false⟩), #[(some (.ref 54)), none, (some (.str "PathFault" 241)), (some (.str "PathFault" 249)), (some (.builtin "Exception.__new__")), (some (.bool true))]⟩) ::
  (nat_lit 66, ⟨(.type "tuple"), none, (.seq #[] 0), #[]⟩) ::
  (nat_lit 68, ⟨(.type "tuple"), none, (.seq #[(.str "one" 267), (.str "other" 268), (.str "first" 269), (.str "second" 270)] 0), #[]⟩) ::
  (nat_lit 69, ⟨(.type "tuple"), none, (.seq #[] 0), #[]⟩) ::
  (nat_lit 71, ⟨(.type "code"), none, (.fields #[(.str "common_divisor" 264), (.str "common_divisor" 265), (.str "/claim/cut.py" 266), (.int 17 0), (.int 2 0), (.int 0 0), (.int 0 0), (.int 3 0), (.ref 66), (.bool true), (.int 181 0), (.ref 67), .none, (.ref 68), (.ref 69), (.ref 70), (.int 271 0), (.int 17 0), (.str "/claim/cut.py" 272)]), #[]⟩) ::
  (nat_lit 72, ⟨(.type "function"), none, (.func ⟨"common_divisor", "common_divisor", a8, (.stmts b8), c8, 3, [], .none, .none, .none, (.str "markupmill.numbers" 257), none, (.ref 71), .none, 0⟩), #[]⟩) ::
  (nat_lit 73, ⟨(.type "tuple"), none, (.seq #[] 0), #[]⟩) ::
  (nat_lit 75, ⟨(.type "tuple"), none, (.seq #[(.str "number" 277)] 0), #[]⟩) ::
  (nat_lit 76, ⟨(.type "tuple"), none, (.seq #[] 0), #[]⟩) ::
  (nat_lit 78, ⟨(.type "code"), none, (.fields #[(.str "sign_of" 274), (.str "sign_of" 275), (.str "/claim/cut.py" 276), (.int 22 0), (.int 1 0), (.int 0 0), (.int 0 0), (.int 3 0), (.ref 73), (.bool true), (.int 181 0), (.ref 74), .none, (.ref 75), (.ref 76), (.ref 77), (.int 278 0), (.int 22 0), (.str "/claim/cut.py" 279)]), #[]⟩) ::
  (nat_lit 79, ⟨(.type "function"), none, (.func ⟨"sign_of", "sign_of", a9, (.stmts b9), c9, 3, [], .none, .none, .none, (.str "markupmill.numbers" 257), none, (.ref 78), .none, 0⟩), #[]⟩) ::
  (nat_lit 80, ⟨(.type "tuple"), none, (.seq #[(.int 1 281)] 0), #[]⟩) ::
  (nat_lit 81, ⟨(.type "tuple"), none, (.seq #[] 0), #[]⟩) ::
  (nat_lit 83, ⟨(.type "tuple"), none, (.seq #[(.str "top" 285), (.str "bottom" 286), (.str "common" 287)] 0), #[]⟩) ::
  (nat_lit 84, ⟨(.type "tuple"), none, (.seq #[] 0), #[]⟩) ::
  (nat_lit 86, ⟨(.type "code"), none, (.fields #[(.str "number_of" 282), (.str "number_of" 283), (.str "/claim/cut.py" 284), (.int 28 0), (.int 2 0), (.int 0 0), (.int 0 0), (.int 3 0), (.ref 81), (.bool true), (.int 181 0), (.ref 82), .none, (.ref 83), (.ref 84), (.ref 85), (.int 288 0), (.int 28 0), (.str "/claim/cut.py" 289)]), #[]⟩) ::
  (nat_lit 87, ⟨(.type "function"), none, (.func ⟨"number_of", "number_of", a10, (.stmts b10), c10, 3, [], (.ref 80), .none, .none, (.str "markupmill.numbers" 257), none, (.ref 86), .none, 0⟩), #[]⟩) ::
  (nat_lit 88, ⟨(.type "tuple"), none, (.seq #[] 0), #[]⟩) ::
  (nat_lit 90, ⟨(.type "tuple"), none, (.seq #[(.str "value" 296)] 0), #[]⟩) ::
  (nat_lit 91, ⟨(.type "tuple"), none, (.seq #[] 0), #[]⟩) ::
  (nat_lit 93, ⟨(.type "code"), none, (.fields #[(.str "nodes_of" 293), (.str "nodes_of" 294), (.str "/claim/cut.py" 295), (.int 39 0), (.int 1 0), (.int 0 0), (.int 0 0), (.int 3 0), (.ref 88), (.bool true), (.int 181 0), (.ref 89), .none, (.ref 90), (.ref 91), (.ref 92), (.int 297 0), (.int 39 0), (.str "/claim/cut.py" 298)]), #[]⟩) ::
  (nat_lit 94, ⟨(.type "function"), none, (.func ⟨"nodes_of", "nodes_of", a12, (.stmts b12), c12, 3, [], .none, .none, .none, (.str "markupmill.functions_sets" 291), none, (.ref 93), .none, 0⟩), #[]⟩) ::
  (nat_lit 95, ⟨(.type "tuple"), none, (.seq #[] 0), #[]⟩) ::
  (nat_lit 97, ⟨(.type "tuple"), none, (.seq #[(.str "value" 303)] 0), #[]⟩) ::
  (nat_lit 98, ⟨(.type "tuple"), none, (.seq #[] 0), #[]⟩) ::
  (nat_lit 100, ⟨(.type "code"), none, (.fields #[(.str "counted" 300), (.str "counted" 301), (.str "/claim/cut.py" 302), (.int 43 0), (.int 1 0), (.int 0 0), (.int 0 0), (.int 3 0), (.ref 95), (.bool true), (.int 181 0), (.ref 96), .none, (.ref 97), (.ref 98), (.ref 99), (.int 304 0), (.int 43 0), (.str "/claim/cut.py" 305)]), #[]⟩) ::
  (nat_lit 101, ⟨(.type "function"), none, (.func ⟨"counted", "counted", a13, (.stmts b13), c13, 3, [], .none, .none, .none, (.str "markupmill.functions_sets" 291), none, (.ref 100), .none, 0⟩), #[]⟩) ::
  (nat_lit 102, ⟨(.type "tuple"), none, (.seq #[] 0), #[]⟩) ::
  (nat_lit 104, ⟨(.type "tuple"), none, (.seq #[(.str "arguments" 310), (.str "context" 311), (.str "nodes" 312)] 0), #[]⟩) ::
  (nat_lit 105, ⟨(.type "tuple"), none, (.seq #[] 0), #[]⟩) ::
  (nat_lit 107, ⟨(.type "code"), none, (.fields #[(.str "told_node" 307), (.str "told_node" 308), (.str "/claim/cut.py" 309), (.int 45 0), (.int 2 0), (.int 0 0), (.int 0 0), (.int 3 0), (.ref 102), (.bool true), (.int 181 0), (.ref 103), .none, (.ref 104), (.ref 105), (.ref 106), (.int 313 0), (.int 45 0), (.str "/claim/cut.py" 314)]), #[]⟩) ::
  (nat_lit 108, ⟨(.type "function"), none, (.func ⟨"told_node", "told_node", a14, (.stmts b14), c14, 3, [], .none, .none, .none, (.str "markupmill.functions_sets" 291), none, (.ref 107), .none, 0⟩), #[]⟩) ::
  (nat_lit 109, ⟨(.type "tuple"), none, (.seq #[] 0), #[]⟩) ::
  (nat_lit 111, ⟨(.type "tuple"), none, (.seq #[(.str "part" 319), (.str "node" 320), (.str "tree" 321), (.str "told" 322)] 0), #[]⟩) ::
  (nat_lit 112, ⟨(.type "tuple"), none, (.seq #[] 0), #[]⟩) ::
  (nat_lit 114, ⟨(.type "code"), none, (.fields #[(.str "name_part" 316), (.str "name_part" 317), (.str "/claim/cut.py" 318), (.int 50 0), (.int 3 0), (.int 0 0), (.int 0 0), (.int 3 0), (.ref 109), (.bool true), (.int 181 0), (.ref 110), .none, (.ref 111), (.ref 112), (.ref 113), (.int 323 0), (.int 50 0), (.str "/claim/cut.py" 324)]), #[]⟩) ::
  (nat_lit 115, ⟨(.type "function"), none, (.func ⟨"name_part", "name_part", a15, (.stmts b15), c15, 3, [], .none, .none, .none, (.str "markupmill.functions_sets" 291), none, (.ref 114), .none, 0⟩), #[]⟩) ::
  (nat_lit 123, ⟨(.type "tuple"), none, (.seq #[(.int 1 340), (.int 1 341), .none, .none, .none, .none, .none] 0), #[]⟩) ::
  (nat_lit 124, ⟨(.type "tuple"), none, (.seq #[] 0), #[]⟩) ::
  (nat_lit 126, ⟨(.type "tuple"), none, (.seq #[(.str "self" 345), (.str "tree" 346), (.str "node" 347), (.str "position" 348), (.str "size" 349), (.str "variables" 350), (.str "names" 351), (.str "calls" 352), (.str "current" 353), (.str "ids" 354)] 0), #[]⟩) ::
  (nat_lit 127, ⟨(.type "tuple"), none, (.seq #[] 0), #[]⟩) ::
  (nat_lit 129, ⟨(.type "code"), none, (.fields #[(.str "__init__" 342), (.str "Context.__init__" 343), (.str "/claim/cut.py" 344), (.int 61 0), (.int 10 0), (.int 0 0), (.int 0 0), (.int 3 0), (.ref 124), (.bool true), (.int 181 0), (.ref 125), .none, (.ref 126), (.ref 127), (.ref 128), (.int 355 0), (.int 61 0), (.str "/claim/cut.py" 356)]), #[]⟩) ::
  (nat_lit 130, ⟨(.type "function"), none, (.func ⟨"__init__", "Context.__init__", a17_0, (.stmts b17_0), c17_0, 3, [], (.ref 123), .none, .none, (.str "markupmill.context" 326), none, (.ref 129), .none, 0⟩), #[]⟩) ::
  (nat_lit 131, ⟨(.type "tuple"), none, (.seq #[] 0), #[]⟩) ::
  (nat_lit 133, ⟨(.type "tuple"), none, (.seq #[(.str "self" 361), (.str "node" 362), (.str "position" 363), (.str "size" 364)] 0), #[]⟩) ::
  (nat_lit 134, ⟨(.type "tuple"), none, (.seq #[] 0), #[]⟩) ::
  (nat_lit 136, ⟨(.type "code"), none, (.fields #[(.str "at" 358), (.str "Context.at" 359), (.str "/claim/cut.py" 360), (.int 72 0), (.int 4 0), (.int 0 0), (.int 0 0), (.int 3 0), (.ref 131), (.bool true), (.int 181 0), (.ref 132), .none, (.ref 133), (.ref 134), (.ref 135), (.int 365 0), (.int 72 0), (.str "/claim/cut.py" 366)]), #[]⟩) ::
  (nat_lit 137, ⟨(.type "function"), none, (.func ⟨"at", "Context.at", a17_1, (.stmts b17_1), c17_1, 3, [], .none, .none, .none, (.str "markupmill.context" 326), none, (.ref 136), .none, 0⟩), #[]⟩) ::
  (nat_lit 138, ⟨(.type "tuple"), none, (.seq #[] 0), #[]⟩) ::
  (nat_lit 140, ⟨(.type "tuple"), none, (.seq #[(.str "self" 371), (.str "name" 372)] 0), #[]⟩) ::
  (nat_lit 141, ⟨(.type "tuple"), none, (.seq #[] 0), #[]⟩) ::
  (nat_lit 143, ⟨(.type "code"), none, (.fields #[(.str "variable" 368), (.str "Context.variable" 369), (.str "/claim/cut.py" 370), (.int 75 0), (.int 2 0), (.int 0 0), (.int 0 0), (.int 3 0), (.ref 138), (.bool true), (.int 181 0), (.ref 139), .none, (.ref 140), (.ref 141), (.ref 142), (.int 373 0), (.int 75 0), (.str "/claim/cut.py" 374)]), #[]⟩) ::
  (nat_lit 144, ⟨(.type "function"), none, (.func ⟨"variable", "Context.variable", a17_2, (.stmts b17_2), c17_2, 3, [], .none, .none, .none, (.str "markupmill.context" 326), none, (.ref 143), .none, 0⟩), #[]⟩) ::
  (nat_lit 145, ⟨(.type "tuple"), none, (.seq #[] 0), #[]⟩) ::
  (nat_lit 147, ⟨(.type "tuple"), none, (.seq #[(.str "self" 379), (.str "prefix" 380)] 0), #[]⟩) ::
  (nat_lit 148, ⟨(.type "tuple"), none, (.seq #[] 0), #[]⟩) ::
  (nat_lit 150, ⟨(.type "code"), none, (.fields #[(.str "uri_of" 376), (.str "Context.uri_of" 377), (.str "/claim/cut.py" 378), (.int 78 0), (.int 2 0), (.int 0 0), (.int 0 0), (.int 3 0), (.ref 145), (.bool true), (.int 181 0), (.ref 146), .none, (.ref 147), (.ref 148), (.ref 149), (.int 381 0), (.int 78 0), (.str "/claim/cut.py" 382)]), #[]⟩) ::
  (nat_lit 151, ⟨(.type "function"), none, (.func ⟨"uri_of", "Context.uri_of", a17_3, (.stmts b17_3), c17_3, 3, [], .none, .none, .none, (.str "markupmill.context" 326), none, (.ref 150), .none, 0⟩), #[]⟩) ::
  (nat_lit 152, ⟨(.type "tuple"), none, (.seq #[(.str "calls" 384), (.str "current" 385), (.str "ids" 386), (.str "names" 387), (.str "node" 388), (.str "position" 389), (.str "size" 390), (.str "tree" 391), (.str "variables" 392)] 0), #[]⟩) ::
  (nat_lit 153, ⟨(.type "dict"), none, (.dict #[⟨(PyData.keyHash P "__module__"), (.str "__module__" 335), (.str "markupmill.context" 326)⟩, ⟨(PyData.keyHash P "__firstlineno__"), (.str "__firstlineno__" 339), (.int 59 338)⟩, ⟨(PyData.keyHash P "__init__"), (.str "__init__" 357), (.ref 130)⟩, ⟨(PyData.keyHash P "at"), (.str "at" 367), (.ref 137)⟩, ⟨(PyData.keyHash P "variable"), (.str "variable" 375), (.ref 144)⟩, ⟨(PyData.keyHash P "uri_of"), (.str "uri_of" 383), (.ref 151)⟩, ⟨(PyData.keyHash P "__static_attributes__"), (.str "__static_attributes__" 393), (.ref 152)⟩, ⟨(PyData.keyHash P "__dict__"), (.str "__dict__" 395), (.ref 155)⟩, ⟨(PyData.keyHash P "__weakref__"), (.str "__weakref__" 397), (.ref 156)⟩, ⟨(PyData.keyHash P "__doc__"), (.str "__doc__" 398), .none⟩] 4), #[]⟩) ::
  (nat_lit 154, ⟨(.type "type"), none, (.cls ⟨"Context", [(.type "object")], [(.ref 154), (.type "object")], 153, "Context", true, [], [], false, none, false⟩), #[none, none, (some (.str "Context" 328)), (some (.str "Context" 336)), (some (.builtin "object.__new__")), (some (.bool true))]⟩) ::
  (nat_lit 155, ⟨(.type "getset_descriptor"), none, (.fields #[(.str "__dict__" 394), (.ref 154), (.builtin "function.__dict__"), (.builtin "function.__dict__#set")]), #[]⟩) ::
  (nat_lit 156, ⟨(.type "getset_descriptor"), none, (.fields #[(.str "__weakref__" 396), (.ref 154), (.builtin "ExceptionGroup.__weakref__"), .none]), #[]⟩) ::
  (nat_lit 159, ⟨(.type "tuple"), none, (.seq #[(.str "root" 403), (.str "element" 404)] 0), #[]⟩) ::
  (nat_lit 167, ⟨(.type "tuple"), none, (.seq #[] 0), #[]⟩) ::
  (nat_lit 169, ⟨(.type "tuple"), none, (.seq #[(.str "self" 421), (.str "kind" 422), (.str "name" 423), (.str "uri" 424), (.str "local" 425), (.str "value" 426), (.str "parent" 427)] 0), #[]⟩) ::
  (nat_lit 170, ⟨(.type "tuple"), none, (.seq #[] 0), #[]⟩) ::
  (nat_lit 172, ⟨(.type "code"), none, (.fields #[(.str "__init__" 418), (.str "NodeRow.__init__" 419), (.str "/claim/cut.py" 420), (.int 84 0), (.int 7 0), (.int 0 0), (.int 0 0), (.int 3 0), (.ref 167), (.bool true), (.int 181 0), (.ref 168), .none, (.ref 169), (.ref 170), (.ref 171), (.int 428 0), (.int 84 0), (.str "/claim/cut.py" 429)]), #[]⟩) ::
  (nat_lit 173, ⟨(.type "function"), none, (.func ⟨"__init__", "NodeRow.__init__", a20_0, (.stmts b20_0), c20_0, 3, [], .none, .none, .none, (.str "markupmill.tree" 401), none, (.ref 172), .none, 0⟩), #[]⟩) ::
  (nat_lit 174, ⟨(.type "tuple"), none, (.seq #[(.str "attributes" 431), (.str "children" 432), (.str "kind" 433), (.str "local" 434), (.str "name" 435), (.str "namespaces" 436), (.str "parent" 437), (.str "uri" 438), (.str "value" 439)] 0), #[]⟩) ::
  (nat_lit 175, ⟨(.type "dict"), none, (.dict #[⟨(PyData.keyHash P "__module__"), (.str "__module__" 413), (.str "markupmill.tree" 401)⟩, ⟨(PyData.keyHash P "__firstlineno__"), (.str "__firstlineno__" 417), (.int 82 416)⟩, ⟨(PyData.keyHash P "__init__"), (.str "__init__" 430), (.ref 173)⟩, ⟨(PyData.keyHash P "__static_attributes__"), (.str "__static_attributes__" 440), (.ref 174)⟩, ⟨(PyData.keyHash P "__dict__"), (.str "__dict__" 442), (.ref 177)⟩, ⟨(PyData.keyHash P "__weakref__"), (.str "__weakref__" 444), (.ref 178)⟩, ⟨(PyData.keyHash P "__doc__"), (.str "__doc__" 445), .none⟩] 4), #[]⟩) ::
  (nat_lit 176, ⟨(.type "type"), none, (.cls ⟨"NodeRow", [(.type "object")], [(.ref 176), (.type "object")], 175, "NodeRow", true, [], [], false, none, false⟩), #[none, none, (some (.str "NodeRow" 406)), (some (.str "NodeRow" 414)), (some (.builtin "object.__new__")), (some (.bool true))]⟩) ::
  (nat_lit 177, ⟨(.type "getset_descriptor"), none, (.fields #[(.str "__dict__" 441), (.ref 176), (.builtin "function.__dict__"), (.builtin "function.__dict__#set")]), #[]⟩) ::
  (nat_lit 178, ⟨(.type "getset_descriptor"), none, (.fields #[(.str "__weakref__" 443), (.ref 176), (.builtin "ExceptionGroup.__weakref__"), .none]), #[]⟩) ::
  (nat_lit 188, ⟨(.type "tuple"), none, (.seq #[] 0), #[]⟩) ::
  (nat_lit 190, ⟨(.type "tuple"), none, (.seq #[(.str "self" 463)] 0), #[]⟩) ::
  (nat_lit 191, ⟨(.type "tuple"), none, (.seq #[] 0), #[]⟩) ::
  (nat_lit 193, ⟨(.type "code"), none, (.fields #[(.str "__init__" 460), (.str "Tree.__init__" 461), (.str "/claim/cut.py" 462), (.int 96 0), (.int 1 0), (.int 0 0), (.int 0 0), (.int 3 0), (.ref 188), (.bool true), (.int 181 0), (.ref 189), .none, (.ref 190), (.ref 191), (.ref 192), (.int 464 0), (.int 96 0), (.str "/claim/cut.py" 465)]), #[]⟩) ::
  (nat_lit 194, ⟨(.type "function"), none, (.func ⟨"__init__", "Tree.__init__", a21_0, (.stmts b21_0), c21_3, 3, [], .none, .none, .none, (.str "markupmill.tree" 401), none, (.ref 193), .none, 0⟩), #[]⟩) ::
  (nat_lit 195, ⟨(.type "tuple"), none, (.seq #[] 0), #[]⟩) ::
  (nat_lit 197, ⟨(.type "tuple"), none, (.seq #[(.str "self" 470), (.str "kind" 471), (.str "name" 472), (.str "uri" 473), (.str "local" 474), (.str "value" 475), (.str "parent" 476)] 0), #[]⟩) ::
  (nat_lit 198, ⟨(.type "tuple"), none, (.seq #[] 0), #[]⟩) ::
  (nat_lit 200, ⟨(.type "code"), none, (.fields #[(.str "new_row" 467), (.str "Tree.new_row" 468), (.str "/claim/cut.py" 469), (.int 99 0), (.int 7 0), (.int 0 0), (.int 0 0), (.int 3 0), (.ref 195), (.bool true), (.int 181 0), (.ref 196), .none, (.ref 197), (.ref 198), (.ref 199), (.int 477 0), (.int 99 0), (.str "/claim/cut.py" 478)]), #[]⟩) ::
  (nat_lit 201, ⟨(.type "function"), none, (.func ⟨"new_row", "Tree.new_row", a21_1, (.stmts b21_1), c21_1, 3, [], .none, .none, .none, (.str "markupmill.tree" 401), none, (.ref 200), .none, 0⟩), #[]⟩) ::
  (nat_lit 202, ⟨(.type "tuple"), none, (.seq #[] 0), #[]⟩) ::
  (nat_lit 204, ⟨(.type "tuple"), none, (.seq #[(.str "self" 483), (.str "node" 484)] 0), #[]⟩) ::
  (nat_lit 205, ⟨(.type "tuple"), none, (.seq #[] 0), #[]⟩) ::
  (nat_lit 207, ⟨(.type "code"), none, (.fields #[(.str "row" 480), (.str "Tree.row" 481), (.str "/claim/cut.py" 482), (.int 103 0), (.int 2 0), (.int 0 0), (.int 0 0), (.int 3 0), (.ref 202), (.bool true), (.int 181 0), (.ref 203), .none, (.ref 204), (.ref 205), (.ref 206), (.int 485 0), (.int 103 0), (.str "/claim/cut.py" 486)]), #[]⟩) ::
  (nat_lit 208, ⟨(.type "function"), none, (.func ⟨"row", "Tree.row", a21_2, (.stmts b21_2), c21_2, 3, [], .none, .none, .none, (.str "markupmill.tree" 401), none, (.ref 207), .none, 0⟩), #[]⟩) ::
  (nat_lit 209, ⟨(.type "tuple"), none, (.seq #[] 0), #[]⟩) ::
  (nat_lit 211, ⟨(.type "tuple"), none, (.seq #[(.str "self" 491)] 0), #[]⟩) ::
  (nat_lit 212, ⟨(.type "tuple"), none, (.seq #[] 0), #[]⟩) ::
  (nat_lit 214, ⟨(.type "code"), none, (.fields #[(.str "new_root" 488), (.str "Tree.new_root" 489), (.str "/claim/cut.py" 490), (.int 108 0), (.int 1 0), (.int 0 0), (.int 0 0), (.int 3 0), (.ref 209), (.bool true), (.int 181 0), (.ref 210), .none, (.ref 211), (.ref 212), (.ref 213), (.int 492 0), (.int 108 0), (.str "/claim/cut.py" 493)]), #[]⟩) ::
  (nat_lit 215, ⟨(.type "function"), none, (.func ⟨"new_root", "Tree.new_root", a21_3, (.stmts b21_3), c21_3, 3, [], .none, .none, .none, (.str "markupmill.tree" 401), none, (.ref 214), .none, 0⟩), #[]⟩) ::
  (nat_lit 216, ⟨(.type "tuple"), none, (.seq #[] 0), #[]⟩) ::
  (nat_lit 218, ⟨(.type "tuple"), none, (.seq #[(.str "self" 498), (.str "parent" 499), (.str "kind" 500), (.str "name" 501), (.str "uri" 502), (.str "local" 503), (.str "value" 504), (.str "node" 505)] 0), #[]⟩) ::
  (nat_lit 219, ⟨(.type "tuple"), none, (.seq #[] 0), #[]⟩) ::
  (nat_lit 221, ⟨(.type "code"), none, (.fields #[(.str "add_child" 495), (.str "Tree.add_child" 496), (.str "/claim/cut.py" 497), (.int 111 0), (.int 7 0), (.int 0 0), (.int 0 0), (.int 3 0), (.ref 216), (.bool true), (.int 181 0), (.ref 217), .none, (.ref 218), (.ref 219), (.ref 220), (.int 506 0), (.int 111 0), (.str "/claim/cut.py" 507)]), #[]⟩) ::
  (nat_lit 222, ⟨(.type "function"), none, (.func ⟨"add_child", "Tree.add_child", a21_4, (.stmts b21_4), c21_4, 3, [], .none, .none, .none, (.str "markupmill.tree" 401), none, (.ref 221), .none, 0⟩), #[]⟩) ::
  (nat_lit 223, ⟨(.type "tuple"), none, (.seq #[] 0), #[]⟩) ::
  (nat_lit 225, ⟨(.type "tuple"), none, (.seq #[(.str "self" 512), (.str "parent" 513), (.str "name" 514), (.str "uri" 515), (.str "local" 516)] 0), #[]⟩) ::
  (nat_lit 226, ⟨(.type "tuple"), none, (.seq #[] 0), #[]⟩) ::
  (nat_lit 228, ⟨(.type "code"), none, (.fields #[(.str "add_element" 509), (.str "Tree.add_element" 510), (.str "/claim/cut.py" 511), (.int 119 0), (.int 5 0), (.int 0 0), (.int 0 0), (.int 3 0), (.ref 223), (.bool true), (.int 181 0), (.ref 224), .none, (.ref 225), (.ref 226), (.ref 227), (.int 517 0), (.int 119 0), (.str "/claim/cut.py" 518)]), #[]⟩) ::
  (nat_lit 229, ⟨(.type "function"), none, (.func ⟨"add_element", "Tree.add_element", a21_5, (.stmts b21_5), c21_5, 3, [], .none, .none, .none, (.str "markupmill.tree" 401), none, (.ref 228), .none, 0⟩), #[]⟩) ::
  (nat_lit 230, ⟨(.type "tuple"), none, (.seq #[] 0), #[]⟩) ::
  (nat_lit 232, ⟨(.type "tuple"), none, (.seq #[(.str "self" 523), (.str "parent" 524), (.str "value" 525)] 0), #[]⟩) ::
  (nat_lit 233, ⟨(.type "tuple"), none, (.seq #[] 0), #[]⟩) ::
  (nat_lit 235, ⟨(.type "code"), none, (.fields #[(.str "add_text" 520), (.str "Tree.add_text" 521), (.str "/claim/cut.py" 522), (.int 122 0), (.int 3 0), (.int 0 0), (.int 0 0), (.int 3 0), (.ref 230), (.bool true), (.int 181 0), (.ref 231), .none, (.ref 232), (.ref 233), (.ref 234), (.int 526 0), (.int 122 0), (.str "/claim/cut.py" 527)]), #[]⟩) ::
  (nat_lit 236, ⟨(.type "function"), none, (.func ⟨"add_text", "Tree.add_text", a21_6, (.stmts b21_6), c21_7, 3, [], .none, .none, .none, (.str "markupmill.tree" 401), none, (.ref 235), .none, 0⟩), #[]⟩) ::
  (nat_lit 237, ⟨(.type "tuple"), none, (.seq #[] 0), #[]⟩) ::
  (nat_lit 239, ⟨(.type "tuple"), none, (.seq #[(.str "self" 532), (.str "parent" 533), (.str "value" 534)] 0), #[]⟩) ::
  (nat_lit 240, ⟨(.type "tuple"), none, (.seq #[] 0), #[]⟩) ::
  (nat_lit 242, ⟨(.type "code"), none, (.fields #[(.str "add_comment" 529), (.str "Tree.add_comment" 530), (.str "/claim/cut.py" 531), (.int 125 0), (.int 3 0), (.int 0 0), (.int 0 0), (.int 3 0), (.ref 237), (.bool true), (.int 181 0), (.ref 238), .none, (.ref 239), (.ref 240), (.ref 241), (.int 535 0), (.int 125 0), (.str "/claim/cut.py" 536)]), #[]⟩) ::
  (nat_lit 243, ⟨(.type "function"), none, (.func ⟨"add_comment", "Tree.add_comment", a21_7, (.stmts b21_7), c21_7, 3, [], .none, .none, .none, (.str "markupmill.tree" 401), none, (.ref 242), .none, 0⟩), #[]⟩) ::
  (nat_lit 244, ⟨(.type "tuple"), none, (.seq #[] 0), #[]⟩) ::
  (nat_lit 246, ⟨(.type "tuple"), none, (.seq #[(.str "self" 541), (.str "parent" 542), (.str "target" 543), (.str "data" 544)] 0), #[]⟩) ::
  (nat_lit 247, ⟨(.type "tuple"), none, (.seq #[] 0), #[]⟩) ::
  (nat_lit 249, ⟨(.type "code"), none, (.fields #[(.str "add_instruction" 538), (.str "Tree.add_instruction" 539), (.str "/claim/cut.py" 540), (.int 128 0), (.int 4 0), (.int 0 0), (.int 0 0), (.int 3 0), (.ref 244), (.bool true), (.int 181 0), (.ref 245), .none, (.ref 246), (.ref 247), (.ref 248), (.int 545 0), (.int 128 0), (.str "/claim/cut.py" 546)]), #[]⟩) ::
  (nat_lit 250, ⟨(.type "function"), none, (.func ⟨"add_instruction", "Tree.add_instruction", a21_8, (.stmts b21_8), c21_8, 3, [], .none, .none, .none, (.str "markupmill.tree" 401), none, (.ref 249), .none, 0⟩), #[]⟩) ::
  (nat_lit 251, ⟨(.type "tuple"), none, (.seq #[] 0), #[]⟩) ::
  (nat_lit 253, ⟨(.type "tuple"), none, (.seq #[(.str "self" 551), (.str "element" 552), (.str "row" 553)] 0), #[]⟩) ::
  (nat_lit 254, ⟨(.type "tuple"), none, (.seq #[] 0), #[]⟩) ::
  (nat_lit 256, ⟨(.type "code"), none, (.fields #[(.str "element_row" 548), (.str "Tree.element_row" 549), (.str "/claim/cut.py" 550), (.int 131 0), (.int 2 0), (.int 0 0), (.int 0 0), (.int 3 0), (.ref 251), (.bool true), (.int 181 0), (.ref 252), .none, (.ref 253), (.ref 254), (.ref 255), (.int 554 0), (.int 131 0), (.str "/claim/cut.py" 555)]), #[]⟩) ::
  (nat_lit 257, ⟨(.type "function"), none, (.func ⟨"element_row", "Tree.element_row", a21_9, (.stmts b21_9), c21_9, 3, [], .none, .none, .none, (.str "markupmill.tree" 401), none, (.ref 256), .none, 0⟩), #[]⟩) ::
  (nat_lit 258, ⟨(.type "tuple"), none, (.seq #[] 0), #[]⟩) ::
  (nat_lit 260, ⟨(.type "tuple"), none, (.seq #[(.str "self" 560), (.str "element" 561), (.str "name" 562), (.str "uri" 563), (.str "local" 564), (.str "value" 565), (.str "row" 566), (.str "node" 567), (.str "known" 568)] 0), #[]⟩) ::
  (nat_lit 261, ⟨(.type "tuple"), none, (.seq #[] 0), #[]⟩) ::
  (nat_lit 263, ⟨(.type "code"), none, (.fields #[(.str "set_attribute" 557), (.str "Tree.set_attribute" 558), (.str "/claim/cut.py" 559), (.int 137 0), (.int 6 0), (.int 0 0), (.int 0 0), (.int 3 0), (.ref 258), (.bool true), (.int 181 0), (.ref 259), .none, (.ref 260), (.ref 261), (.ref 262), (.int 569 0), (.int 137 0), (.str "/claim/cut.py" 570)]), #[]⟩) ::
  (nat_lit 264, ⟨(.type "function"), none, (.func ⟨"set_attribute", "Tree.set_attribute", a21_10, (.stmts b21_10), c21_10, 3, [], .none, .none, .none, (.str "markupmill.tree" 401), none, (.ref 263), .none, 0⟩), #[]⟩) ::
  (nat_lit 265, ⟨(.type "tuple"), none, (.seq #[] 0), #[]⟩) ::
  (nat_lit 267, ⟨(.type "tuple"), none, (.seq #[(.str "self" 575), (.str "element" 576), (.str "prefix" 577), (.str "uri" 578), (.str "row" 579), (.str "node" 580)] 0), #[]⟩) ::
  (nat_lit 268, ⟨(.type "tuple"), none, (.seq #[] 0), #[]⟩) ::
  (nat_lit 270, ⟨(.type "code"), none, (.fields #[(.str "add_namespace" 572), (.str "Tree.add_namespace" 573), (.str "/claim/cut.py" 574), (.int 149 0), (.int 4 0), (.int 0 0), (.int 0 0), (.int 3 0), (.ref 265), (.bool true), (.int 181 0), (.ref 266), .none, (.ref 267), (.ref 268), (.ref 269), (.int 581 0), (.int 149 0), (.str "/claim/cut.py" 582)]), #[]⟩) ::
  (nat_lit 271, ⟨(.type "function"), none, (.func ⟨"add_namespace", "Tree.add_namespace", a21_11, (.stmts b21_11), c21_11, 3, [], .none, .none, .none, (.str "markupmill.tree" 401), none, (.ref 270), .none, 0⟩), #[]⟩) ::
  (nat_lit 272, ⟨(.type "tuple"), none, (.seq #[] 0), #[]⟩) ::
  (nat_lit 274, ⟨(.type "tuple"), none, (.seq #[(.str "self" 587), (.str "node" 588), (.str "value" 589)] 0), #[]⟩) ::
  (nat_lit 275, ⟨(.type "tuple"), none, (.seq #[] 0), #[]⟩) ::
  (nat_lit 277, ⟨(.type "code"), none, (.fields #[(.str "set_value" 584), (.str "Tree.set_value" 585), (.str "/claim/cut.py" 586), (.int 159 0), (.int 3 0), (.int 0 0), (.int 0 0), (.int 3 0), (.ref 272), (.bool true), (.int 181 0), (.ref 273), .none, (.ref 274), (.ref 275), (.ref 276), (.int 590 0), (.int 159 0), (.str "/claim/cut.py" 591)]), #[]⟩) ::
  (nat_lit 278, ⟨(.type "function"), none, (.func ⟨"set_value", "Tree.set_value", a21_12, (.stmts b21_12), c21_12, 3, [], .none, .none, .none, (.str "markupmill.tree" 401), none, (.ref 277), .none, 0⟩), #[]⟩) ::
  (nat_lit 279, ⟨(.type "tuple"), none, (.seq #[] 0), #[]⟩) ::
  (nat_lit 281, ⟨(.type "tuple"), none, (.seq #[(.str "self" 596), (.str "node" 597)] 0), #[]⟩) ::
  (nat_lit 282, ⟨(.type "tuple"), none, (.seq #[] 0), #[]⟩) ::
  (nat_lit 284, ⟨(.type "code"), none, (.fields #[(.str "kind" 593), (.str "Tree.kind" 594), (.str "/claim/cut.py" 595), (.int 162 0), (.int 2 0), (.int 0 0), (.int 0 0), (.int 3 0), (.ref 279), (.bool true), (.int 181 0), (.ref 280), .none, (.ref 281), (.ref 282), (.ref 283), (.int 598 0), (.int 162 0), (.str "/claim/cut.py" 599)]), #[]⟩) ::
  (nat_lit 285, ⟨(.type "function"), none, (.func ⟨"kind", "Tree.kind", a21_13, (.stmts b21_13), c21_18, 3, [], .none, .none, .none, (.str "markupmill.tree" 401), none, (.ref 284), .none, 0⟩), #[]⟩) ::
  (nat_lit 286, ⟨(.type "tuple"), none, (.seq #[] 0), #[]⟩) ::
  (nat_lit 288, ⟨(.type "tuple"), none, (.seq #[(.str "self" 604), (.str "node" 605)] 0), #[]⟩) ::
  (nat_lit 289, ⟨(.type "tuple"), none, (.seq #[] 0), #[]⟩) ::
  (nat_lit 291, ⟨(.type "code"), none, (.fields #[(.str "name" 601), (.str "Tree.name" 602), (.str "/claim/cut.py" 603), (.int 165 0), (.int 2 0), (.int 0 0), (.int 0 0), (.int 3 0), (.ref 286), (.bool true), (.int 181 0), (.ref 287), .none, (.ref 288), (.ref 289), (.ref 290), (.int 606 0), (.int 165 0), (.str "/claim/cut.py" 607)]), #[]⟩) ::
  (nat_lit 292, ⟨(.type "function"), none, (.func ⟨"name", "Tree.name", a21_14, (.stmts b21_14), c21_18, 3, [], .none, .none, .none, (.str "markupmill.tree" 401), none, (.ref 291), .none, 0⟩), #[]⟩) ::
  (nat_lit 293, ⟨(.type "tuple"), none, (.seq #[] 0), #[]⟩) ::
  (nat_lit 295, ⟨(.type "tuple"), none, (.seq #[(.str "self" 612), (.str "node" 613)] 0), #[]⟩) ::
  (nat_lit 296, ⟨(.type "tuple"), none, (.seq #[] 0), #[]⟩) ::
  (nat_lit 298, ⟨(.type "code"), none, (.fields #[(.str "uri" 609), (.str "Tree.uri" 610), (.str "/claim/cut.py" 611), (.int 168 0), (.int 2 0), (.int 0 0), (.int 0 0), (.int 3 0), (.ref 293), (.bool true), (.int 181 0), (.ref 294), .none, (.ref 295), (.ref 296), (.ref 297), (.int 614 0), (.int 168 0), (.str "/claim/cut.py" 615)]), #[]⟩) ::
  (nat_lit 299, ⟨(.type "function"), none, (.func ⟨"uri", "Tree.uri", a21_15, (.stmts b21_15), c21_18, 3, [], .none, .none, .none, (.str "markupmill.tree" 401), none, (.ref 298), .none, 0⟩), #[]⟩) ::
  (nat_lit 300, ⟨(.type "tuple"), none, (.seq #[] 0), #[]⟩) ::
  (nat_lit 302, ⟨(.type "tuple"), none, (.seq #[(.str "self" 620), (.str "node" 621)] 0), #[]⟩) ::
  (nat_lit 303, ⟨(.type "tuple"), none, (.seq #[] 0), #[]⟩) ::
  (nat_lit 305, ⟨(.type "code"), none, (.fields #[(.str "local" 617), (.str "Tree.local" 618), (.str "/claim/cut.py" 619), (.int 171 0), (.int 2 0), (.int 0 0), (.int 0 0), (.int 3 0), (.ref 300), (.bool true), (.int 181 0), (.ref 301), .none, (.ref 302), (.ref 303), (.ref 304), (.int 622 0), (.int 171 0), (.str "/claim/cut.py" 623)]), #[]⟩) ::
  (nat_lit 306, ⟨(.type "function"), none, (.func ⟨"local", "Tree.local", a21_16, (.stmts b21_16), c21_18, 3, [], .none, .none, .none, (.str "markupmill.tree" 401), none, (.ref 305), .none, 0⟩), #[]⟩) ::
  (nat_lit 307, ⟨(.type "tuple"), none, (.seq #[] 0), #[]⟩) ::
  (nat_lit 309, ⟨(.type "tuple"), none, (.seq #[(.str "self" 628), (.str "node" 629)] 0), #[]⟩) ::
  (nat_lit 310, ⟨(.type "tuple"), none, (.seq #[] 0), #[]⟩) ::
  (nat_lit 312, ⟨(.type "code"), none, (.fields #[(.str "value" 625), (.str "Tree.value" 626), (.str "/claim/cut.py" 627), (.int 174 0), (.int 2 0), (.int 0 0), (.int 0 0), (.int 3 0), (.ref 307), (.bool true), (.int 181 0), (.ref 308), .none, (.ref 309), (.ref 310), (.ref 311), (.int 630 0), (.int 174 0), (.str "/claim/cut.py" 631)]), #[]⟩) ::
  (nat_lit 313, ⟨(.type "function"), none, (.func ⟨"value", "Tree.value", a21_17, (.stmts b21_17), c21_18, 3, [], .none, .none, .none, (.str "markupmill.tree" 401), none, (.ref 312), .none, 0⟩), #[]⟩) ::
  (nat_lit 314, ⟨(.type "tuple"), none, (.seq #[] 0), #[]⟩) ::
  (nat_lit 316, ⟨(.type "tuple"), none, (.seq #[(.str "self" 636), (.str "node" 637)] 0), #[]⟩) ::
  (nat_lit 317, ⟨(.type "tuple"), none, (.seq #[] 0), #[]⟩) ::
  (nat_lit 319, ⟨(.type "code"), none, (.fields #[(.str "parent" 633), (.str "Tree.parent" 634), (.str "/claim/cut.py" 635), (.int 177 0), (.int 2 0), (.int 0 0), (.int 0 0), (.int 3 0), (.ref 314), (.bool true), (.int 181 0), (.ref 315), .none, (.ref 316), (.ref 317), (.ref 318), (.int 638 0), (.int 177 0), (.str "/claim/cut.py" 639)]), #[]⟩) ::
  (nat_lit 320, ⟨(.type "function"), none, (.func ⟨"parent", "Tree.parent", a21_18, (.stmts b21_18), c21_18, 3, [], .none, .none, .none, (.str "markupmill.tree" 401), none, (.ref 319), .none, 0⟩), #[]⟩) ::
  (nat_lit 321, ⟨(.type "tuple"), none, (.seq #[] 0), #[]⟩) ::
  (nat_lit 323, ⟨(.type "tuple"), none, (.seq #[(.str "self" 644), (.str "node" 645)] 0), #[]⟩) ::
  (nat_lit 324, ⟨(.type "tuple"), none, (.seq #[] 0), #[]⟩) ::
  (nat_lit 326, ⟨(.type "code"), none, (.fields #[(.str "children" 641), (.str "Tree.children" 642), (.str "/claim/cut.py" 643), (.int 180 0), (.int 2 0), (.int 0 0), (.int 0 0), (.int 3 0), (.ref 321), (.bool true), (.int 181 0), (.ref 322), .none, (.ref 323), (.ref 324), (.ref 325), (.int 646 0), (.int 180 0), (.str "/claim/cut.py" 647)]), #[]⟩) ::
  (nat_lit 327, ⟨(.type "function"), none, (.func ⟨"children", "Tree.children", a21_19, (.stmts b21_19), c21_21, 3, [], .none, .none, .none, (.str "markupmill.tree" 401), none, (.ref 326), .none, 0⟩), #[]⟩) ::
  (nat_lit 328, ⟨(.type "tuple"), none, (.seq #[] 0), #[]⟩) ::
  (nat_lit 330, ⟨(.type "tuple"), none, (.seq #[(.str "self" 652), (.str "node" 653)] 0), #[]⟩) ::
  (nat_lit 331, ⟨(.type "tuple"), none, (.seq #[] 0), #[]⟩) ::
  (nat_lit 333, ⟨(.type "code"), none, (.fields #[(.str "attributes" 649), (.str "Tree.attributes" 650), (.str "/claim/cut.py" 651), (.int 183 0), (.int 2 0), (.int 0 0), (.int 0 0), (.int 3 0), (.ref 328), (.bool true), (.int 181 0), (.ref 329), .none, (.ref 330), (.ref 331), (.ref 332), (.int 654 0), (.int 183 0), (.str "/claim/cut.py" 655)]), #[]⟩) ::
  (nat_lit 334, ⟨(.type "function"), none, (.func ⟨"attributes", "Tree.attributes", a21_20, (.stmts b21_20), c21_21, 3, [], .none, .none, .none, (.str "markupmill.tree" 401), none, (.ref 333), .none, 0⟩), #[]⟩) ::
  (nat_lit 335, ⟨(.type "tuple"), none, (.seq #[] 0), #[]⟩) ::
  (nat_lit 337, ⟨(.type "tuple"), none, (.seq #[(.str "self" 660), (.str "node" 661)] 0), #[]⟩) ::
  (nat_lit 338, ⟨(.type "tuple"), none, (.seq #[] 0), #[]⟩) ::
  (nat_lit 340, ⟨(.type "code"), none, (.fields #[(.str "namespaces" 657), (.str "Tree.namespaces" 658), (.str "/claim/cut.py" 659), (.int 186 0), (.int 2 0), (.int 0 0), (.int 0 0), (.int 3 0), (.ref 335), (.bool true), (.int 181 0), (.ref 336), .none, (.ref 337), (.ref 338), (.ref 339), (.int 662 0), (.int 186 0), (.str "/claim/cut.py" 663)]), #[]⟩) ::
  (nat_lit 341, ⟨(.type "function"), none, (.func ⟨"namespaces", "Tree.namespaces", a21_21, (.stmts b21_21), c21_21, 3, [], .none, .none, .none, (.str "markupmill.tree" 401), none, (.ref 340), .none, 0⟩), #[]⟩) ::
  (nat_lit 342, ⟨(.type "tuple"), none, (.seq #[] 0), #[]⟩) ::
  (nat_lit 344, ⟨(.type "tuple"), none, (.seq #[(.str "self" 668), (.str "node" 669)] 0), #[]⟩) ::
  (nat_lit 345, ⟨(.type "tuple"), none, (.seq #[] 0), #[]⟩) ::
  (nat_lit 347, ⟨(.type "code"), none, (.fields #[(.str "root_of" 665), (.str "Tree.root_of" 666), (.str "/claim/cut.py" 667), (.int 189 0), (.int 2 0), (.int 0 0), (.int 0 0), (.int 3 0), (.ref 342), (.bool true), (.int 181 0), (.ref 343), .none, (.ref 344), (.ref 345), (.ref 346), (.int 670 0), (.int 189 0), (.str "/claim/cut.py" 671)]), #[]⟩) ::
  (nat_lit 348, ⟨(.type "function"), none, (.func ⟨"root_of", "Tree.root_of", a21_22, (.stmts b21_22), c21_22, 3, [], .none, .none, .none, (.str "markupmill.tree" 401), none, (.ref 347), .none, 0⟩), #[]⟩) ::
  (nat_lit 349, ⟨(.type "tuple"), none, (.seq #[] 0), #[]⟩) ::
  (nat_lit 351, ⟨(.type "tuple"), none, (.seq #[(.str "self" 676), (.str "node" 677), (.str "other" 678)] 0), #[]⟩) ::
  (nat_lit 352, ⟨(.type "tuple"), none, (.seq #[] 0), #[]⟩) ::
  (nat_lit 354, ⟨(.type "code"), none, (.fields #[(.str "is_above" 673), (.str "Tree.is_above" 674), (.str "/claim/cut.py" 675), (.int 192 0), (.int 3 0), (.int 0 0), (.int 0 0), (.int 3 0), (.ref 349), (.bool true), (.int 181 0), (.ref 350), .none, (.ref 351), (.ref 352), (.ref 353), (.int 679 0), (.int 192 0), (.str "/claim/cut.py" 680)]), #[]⟩) ::
  (nat_lit 355, ⟨(.type "function"), none, (.func ⟨"is_above", "Tree.is_above", a21_23, (.stmts b21_23), c21_23, 3, [], .none, .none, .none, (.str "markupmill.tree" 401), none, (.ref 354), .none, 0⟩), #[]⟩) ::
  (nat_lit 356, ⟨(.type "tuple"), none, (.seq #[] 0), #[]⟩) ::
  (nat_lit 358, ⟨(.type "tuple"), none, (.seq #[(.str "self" 685), (.str "element" 686), (.str "uri" 687), (.str "local" 688)] 0), #[]⟩) ::
  (nat_lit 359, ⟨(.type "tuple"), none, (.seq #[] 0), #[]⟩) ::
  (nat_lit 361, ⟨(.type "code"), none, (.fields #[(.str "attribute_value" 682), (.str "Tree.attribute_value" 683), (.str "/claim/cut.py" 684), (.int 195 0), (.int 4 0), (.int 0 0), (.int 0 0), (.int 3 0), (.ref 356), (.bool true), (.int 181 0), (.ref 357), .none, (.ref 358), (.ref 359), (.ref 360), (.int 689 0), (.int 195 0), (.str "/claim/cut.py" 690)]), #[]⟩) ::
  (nat_lit 362, ⟨(.type "function"), none, (.func ⟨"attribute_value", "Tree.attribute_value", a21_24, (.stmts b21_24), c21_24, 3, [], .none, .none, .none, (.str "markupmill.tree" 401), none, (.ref 361), .none, 0⟩), #[]⟩) ::
  (nat_lit 363, ⟨(.type "tuple"), none, (.seq #[(.str "rows" 692)] 0), #[]⟩) ::
  (nat_lit 364, ⟨(.type "dict"), none, (.dict #[⟨(PyData.keyHash P "__module__"), (.str "__module__" 455), (.str "markupmill.tree" 401)⟩, ⟨(PyData.keyHash P "__firstlineno__"), (.str "__firstlineno__" 459), (.int 94 458)⟩, ⟨(PyData.keyHash P "__init__"), (.str "__init__" 466), (.ref 194)⟩, ⟨(PyData.keyHash P "new_row"), (.str "new_row" 479), (.ref 201)⟩, ⟨(PyData.keyHash P "row"), (.str "row" 487), (.ref 208)⟩, ⟨(PyData.keyHash P "new_root"), (.str "new_root" 494), (.ref 215)⟩, ⟨(PyData.keyHash P "add_child"), (.str "add_child" 508), (.ref 222)⟩, ⟨(PyData.keyHash P "add_element"), (.str "add_element" 519), (.ref 229)⟩, ⟨(PyData.keyHash P "add_text"), (.str "add_text" 528), (.ref 236)⟩, ⟨(PyData.keyHash P "add_comment"), (.str "add_comment" 537), (.ref 243)⟩, ⟨(PyData.keyHash P "add_instruction"), (.str "add_instruction" 547), (.ref 250)⟩, ⟨(PyData.keyHash P "element_row"), (.str "element_row" 556), (.ref 257)⟩, ⟨(PyData.keyHash P "set_attribute"), (.str "set_attribute" 571), (.ref 264)⟩, ⟨(PyData.keyHash P "add_namespace"), (.str "add_namespace" 583), (.ref 271)⟩, ⟨(PyData.keyHash P "set_value"), (.str "set_value" 592), (.ref 278)⟩, ⟨(PyData.keyHash P "kind"), (.str "kind" 600), (.ref 285)⟩, ⟨(PyData.keyHash P "name"), (.str "name" 608), (.ref 292)⟩, ⟨(PyData.keyHash P "uri"), (.str "uri" 616), (.ref 299)⟩, ⟨(PyData.keyHash P "local"), (.str "local" 624), (.ref 306)⟩, ⟨(PyData.keyHash P "value"), (.str "value" 632), (.ref 313)⟩, ⟨(PyData.keyHash P "parent"), (.str "parent" 640), (.ref 320)⟩, ⟨(PyData.keyHash P "children"), (.str "children" 648), (.ref 327)⟩, ⟨(PyData.keyHash P "attributes"), (.str "attributes" 656), (.ref 334)⟩, ⟨(PyData.keyHash P "namespaces"), (.str "namespaces" 664), (.ref 341)⟩, ⟨(PyData.keyHash P "root_of"), (.str "root_of" 672), (.ref 348)⟩, ⟨(PyData.keyHash P "is_above"), (.str "is_above" 681), (.ref 355)⟩, ⟨(PyData.keyHash P "attribute_value"), (.str "attribute_value" 691), (.ref 362)⟩, ⟨(PyData.keyHash P "__static_attributes__"), (.str "__static_attributes__" 693), (.ref 363)⟩, ⟨(PyData.keyHash P "__dict__"), (.str "__dict__" 695), (.ref 366)⟩, ⟨(PyData.keyHash P "__weakref__"), (.str "__weakref__" 697), (.ref 367)⟩, ⟨(PyData.keyHash P "__doc__"), (.str "__doc__" 698), .none⟩] 4), #[]⟩) ::
  (nat_lit 365, ⟨(.type "type"), none, (.cls ⟨"Tree", [(.type "object")], [(.ref 365), (.type "object")], 364, "Tree", true, [], [], false, none, false⟩), #[none, none, (some (.str "Tree" 448)), (some (.str "Tree" 456)), (some (.builtin "object.__new__")), (some (.bool true))]⟩) ::
  (nat_lit 366, ⟨(.type "getset_descriptor"), none, (.fields #[(.str "__dict__" 694), (.ref 365), (.builtin "function.__dict__"), (.builtin "function.__dict__#set")]), #[]⟩) ::
  (nat_lit 367, ⟨(.type "getset_descriptor"), none, (.fields #[(.str "__weakref__" 696), (.ref 365), (.builtin "ExceptionGroup.__weakref__"), .none]), #[]⟩) ::
  (nat_lit 370, ⟨(.type "tuple"), none, (.seq #[] 0), #[]⟩) ::
  (nat_lit 372, ⟨(.type "tuple"), none, (.seq #[(.str "script" 706), (.str "cell" 707), (.str "great" 708)] 0), #[]⟩) ::
  (nat_lit 373, ⟨(.type "tuple"), none, (.seq #[] 0), #[]⟩) ::
  (nat_lit 375, ⟨(.type "code"), none, (.fields #[(.str "_law_pool" 703), (.str "_law_pool" 704), (.str "/claim/cut.py" 705), (.int 198 0), (.int 1 0), (.int 0 0), (.int 0 0), (.int 3 0), (.ref 370), (.bool true), (.int 181 0), (.ref 371), .none, (.ref 372), (.ref 373), (.ref 374), (.int 709 0), (.int 198 0), (.str "/claim/cut.py" 710)]), #[]⟩) ::
  (nat_lit 376, ⟨(.type "function"), none, (.func ⟨"_law_pool", "_law_pool", a23, (.stmts b23), c23, 3, [], .none, .none, .none, (.str "law_xm0669_01" 701), none, (.ref 375), .none, 0⟩), #[]⟩) ::
  (nat_lit 377, ⟨(.type "tuple"), none, (.seq #[] 0), #[]⟩) ::
  (nat_lit 379, ⟨(.type "tuple"), none, (.seq #[(.str "source" 715), (.str "top" 716), (.str "figure" 717)] 0), #[]⟩) ::
  (nat_lit 380, ⟨(.type "tuple"), none, (.seq #[] 0), #[]⟩) ::
  (nat_lit 382, ⟨(.type "code"), none, (.fields #[(.str "_law_take" 712), (.str "_law_take" 713), (.str "/claim/cut.py" 714), (.int 202 0), (.int 2 0), (.int 0 0), (.int 0 0), (.int 3 0), (.ref 377), (.bool true), (.int 181 0), (.ref 378), .none, (.ref 379), (.ref 380), (.ref 381), (.int 718 0), (.int 202 0), (.str "/claim/cut.py" 719)]), #[]⟩) ::
  (nat_lit 383, ⟨(.type "function"), none, (.func ⟨"_law_take", "_law_take", a24, (.stmts b24), c24, 3, [], .none, .none, .none, (.str "law_xm0669_01" 701), none, (.ref 382), .none, 0⟩), #[]⟩) ::
  (nat_lit 384, ⟨(.type "tuple"), none, (.seq #[] 0), #[]⟩) ::
  (nat_lit 386, ⟨(.type "tuple"), none, (.seq #[(.str "source" 724), (.str "things" 725)] 0), #[]⟩) ::
  (nat_lit 387, ⟨(.type "tuple"), none, (.seq #[] 0), #[]⟩) ::
  (nat_lit 389, ⟨(.type "code"), none, (.fields #[(.str "_law_one" 721), (.str "_law_one" 722), (.str "/claim/cut.py" 723), (.int 209 0), (.int 2 0), (.int 0 0), (.int 0 0), (.int 3 0), (.ref 384), (.bool true), (.int 181 0), (.ref 385), .none, (.ref 386), (.ref 387), (.ref 388), (.int 726 0), (.int 209 0), (.str "/claim/cut.py" 727)]), #[]⟩) ::
  (nat_lit 390, ⟨(.type "function"), none, (.func ⟨"_law_one", "_law_one", a25, (.stmts b25), c25, 3, [], .none, .none, .none, (.str "law_xm0669_01" 701), none, (.ref 389), .none, 0⟩), #[]⟩) ::
  (nat_lit 391, ⟨(.type "tuple"), none, (.seq #[] 0), #[]⟩) ::
  (nat_lit 393, ⟨(.type "tuple"), none, (.seq #[(.str "source" 732), (.str "tree" 733), (.str "root" 734), (.str "top" 735), (.str "found" 736), (.str "turn" 737), (.str "told" 738), (.str "node" 739), (.str "target" 740), (.str "prefix" 741)] 0), #[]⟩) ::
  (nat_lit 394, ⟨(.type "tuple"), none, (.seq #[] 0), #[]⟩) ::
  (nat_lit 396, ⟨(.type "code"), none, (.fields #[(.str "_law_rows" 729), (.str "_law_rows" 730), (.str "/claim/cut.py" 731), (.int 211 0), (.int 2 0), (.int 0 0), (.int 0 0), (.int 3 0), (.ref 391), (.bool true), (.int 181 0), (.ref 392), .none, (.ref 393), (.ref 394), (.ref 395), (.int 742 0), (.int 211 0), (.str "/claim/cut.py" 743)]), #[]⟩) ::
  (nat_lit 397, ⟨(.type "function"), none, (.func ⟨"_law_rows", "_law_rows", a26, (.stmts b26), c26, 3, [], .none, .none, .none, (.str "law_xm0669_01" 701), none, (.ref 396), .none, 0⟩), #[]⟩) ::
  (nat_lit 398, ⟨(.type "tuple"), none, (.seq #[] 0), #[]⟩) ::
  (nat_lit 400, ⟨(.type "tuple"), none, (.seq #[(.str "call" 748)] 0), #[]⟩) ::
  (nat_lit 401, ⟨(.type "tuple"), none, (.seq #[] 0), #[]⟩) ::
  (nat_lit 403, ⟨(.type "code"), none, (.fields #[(.str "_law_is_refused" 745), (.str "_law_is_refused" 746), (.str "/claim/cut.py" 747), (.int 228 0), (.int 1 0), (.int 0 0), (.int 0 0), (.int 3 0), (.ref 398), (.bool true), (.int 181 0), (.ref 399), .none, (.ref 400), (.ref 401), (.ref 402), (.int 749 0), (.int 228 0), (.str "/claim/cut.py" 750)]), #[]⟩) ::
  (nat_lit 404, ⟨(.type "function"), none, (.func ⟨"_law_is_refused", "_law_is_refused", a27, (.stmts b27), c27, 3, [], .none, .none, .none, (.str "law_xm0669_01" 701), none, (.ref 403), .none, 0⟩), #[]⟩) ::
  (nat_lit 405, ⟨(.type "tuple"), none, (.seq #[] 0), #[]⟩) ::
  (nat_lit 408, ⟨(.type "code"), none, (.fields #[(.str "_law_parts" 752), (.str "_law_parts" 753), (.str "/claim/cut.py" 754), (.int 234 0), (.int 2 0), (.int 0 0), (.int 0 0), (.int 3 0), (.ref 405), (.bool true), (.int 181 0), (.ref 406), .none, .none, .none, (.ref 407), (.int 755 0), (.int 234 0), (.str "/claim/cut.py" 756)]), #[]⟩) ::
  (nat_lit 409, ⟨(.type "function"), none, (.func ⟨"_law_parts", "_law_parts", a28, (.stmts b28), c28, 3, [], .none, .none, .none, (.str "law_xm0669_01" 701), none, (.ref 408), .none, 0⟩), #[]⟩) ::
  (nat_lit 410, ⟨(.type "tuple"), none, (.seq #[] 0), #[]⟩) ::
  (nat_lit 413, ⟨(.type "code"), none, (.fields #[(.str "law" 758), (.str "law" 759), (.str "/claim/cut.py" 760), (.int 236 0), (.int 1 0), (.int 0 0), (.int 0 0), (.int 3 0), (.ref 410), (.bool true), (.int 181 0), (.ref 411), .none, .none, .none, (.ref 412), (.int 761 0), (.int 236 0), (.str "/claim/cut.py" 762)]), #[]⟩) ::
  (nat_lit 414, ⟨(.type "function"), none, (.func ⟨"law", "law", a29, (.stmts b29), c29, 3, [], .none, .none, .none, (.str "law_xm0669_01" 701), none, (.ref 413), .none, 0⟩), #[]⟩) :: []
end
section
set_option maxHeartbeats 0

noncomputable def envT : Env := { scope := pw.main.scope, locals := mainNs, globals := mainNs, cells := [], code := .ref 13, frame := some 14 }
noncomputable def bd : List Stmt := behindTheImports pw
noncomputable def cE : Code := .body bd envT
noncomputable def BB : List Frame := [topFrame ⟨0, 0, 0, 0⟩]
noncomputable abbrev an : Option Value := some (.ref 6)
noncomputable def gr (a n : Nat) : List Stmt := (pw.main.body.drop a).take n
noncomputable abbrev st (t : Params → BT) (n k : Nat) (w : World) (os : OsState) : SharedT := ⟨t w.params, n, {}, #[], {}, k, os⟩
theorem pre (w : World) (os : OsState) : topGo treeTable pw w 11 an 12 ⟨boot_heap w.params, #[], boot_drawn, boot_toks, os⟩ (topStub pw) = some (⟨h46 w.params, #[], {}, 187, os⟩, ⟨denote treeTable cE, cE, ⟨0, 0, 0, 0⟩, BB⟩) := by
  rewrite [Fast.te15667345088766844465, Fast.te14364793385576792824, Fast.te11892475500146522536]
  kernel_rfl
theorem blk (w : World) (os : OsState) : segRun treeTable pw w 11 an 1 1 ⟨h46 w.params, #[], {}, 187, os⟩ (blockOf bd envT cE ⟨0, 0, 0, 0⟩ BB) = some (.next, (st t47 15 187 w os).abs, cE, ⟨0, 0, 0, 0⟩) := by
  rewrite [Fast.te14374325043358763698, Fast.te14364793385576792824]
  kernel_rfl
theorem p0 (w : World) (os : OsState) : segRunT treeTable pw w 11 an 1 267 (st t47 15 187 w os) (piecesOf (gr 0 3) envT cE ⟨0, 0, 0, 0⟩ BB) = some (.next, st t78 42 225 w os, cE, ⟨5, 0, 9, 30⟩) := by
  rewrite [Fast.te10110043849684766642, Fast.te14364793385576792824]
  kernel_rfl
theorem p1 (w : World) (os : OsState) : segRunT treeTable pw w 11 an 1 214 (st t78 42 225 w os) (piecesOf (gr 3 1) envT cE ⟨5, 0, 9, 30⟩ BB) = some (.next, st t93 54 241 w os, cE, ⟨10, 0, 11, 8⟩) := by
  rewrite [Fast.te10110043849684766642, Fast.te14364793385576792824]
  kernel_rfl
theorem p2 (w : World) (os : OsState) : segRunT treeTable pw w 11 an 1 380 (st t93 54 241 w os) (piecesOf (gr 4 9) envT cE ⟨10, 0, 11, 8⟩ BB) = some (.next, st t137 95 300 w os, cE, ⟨39, 0, 42, 16⟩) := by
  rewrite [Fast.te10110043849684766642, Fast.te14364793385576792824]
  kernel_rfl
theorem p3 (w : World) (os : OsState) : segRunT treeTable pw w 11 an 1 102 (st t137 95 300 w os) (piecesOf (gr 13 4) envT cE ⟨39, 0, 42, 16⟩ BB) = some (.next, st t160 116 328 w os, cE, ⟨58, 0, 58, 8⟩) := by
  rewrite [Fast.te10110043849684766642, Fast.te14364793385576792824]
  kernel_rfl
theorem p4 (w : World) (os : OsState) : segRunT treeTable pw w 11 an 1 361 (st t160 116 328 w os) (piecesOf (gr 17 3) envT cE ⟨58, 0, 58, 8⟩ BB) = some (.next, st t206 160 406 w os, cE, ⟨81, 0, 81, 7⟩) := by
  rewrite [Fast.te10110043849684766642, Fast.te14364793385576792824]
  kernel_rfl
theorem p5 (w : World) (os : OsState) : segRunT treeTable pw w 11 an 1 236 (st t206 160 406 w os) (piecesOf (gr 20 1) envT cE ⟨81, 0, 81, 7⟩ BB) = some (.next, st t229 181 448 w os, cE, ⟨82, 0, 93, 28⟩) := by
  rewrite [Fast.te10110043849684766642, Fast.te14364793385576792824]
  kernel_rfl
theorem p6 (w : World) (os : OsState) : segRunT treeTable pw w 11 an 1 1023 (st t229 181 448 w os) (piecesOf (gr 21 1) envT cE ⟨82, 0, 93, 28⟩ BB) = some (.next, st t420 370 701 w os, cE, ⟨94, 0, 196, 16⟩) := by
  rewrite [Fast.te10110043849684766642, Fast.te14364793385576792824]
  kernel_rfl
theorem p7 (w : World) (os : OsState) : segRunT treeTable pw w 11 an 1 221 (st t420 370 701 w os) (piecesOf (gr 22 8) envT cE ⟨94, 0, 196, 16⟩ BB) = some (.next, st t641 415 764 w os, cE, ⟨236, 0, 254, 37⟩) := by
  rewrite [Fast.te10110043849684766642, Fast.te14364793385576792824]
  kernel_rfl
theorem fin (w : World) (os : OsState) : topRun treeTable pw w 11 an 2 (st t641 415 764 w os).abs ⟨doneF .next, cE, ⟨236, 0, 254, 37⟩, BB⟩ = some ⟨h642 w.params, #[], {}, 764, os⟩ := by
  rewrite [Fast.te14082659384304107361, Fast.te14364793385576792824]
  kernel_rfl
theorem bd_eq : bd = gr 0 3 ++ (gr 3 1 ++ (gr 4 9 ++ (gr 13 4 ++ (gr 17 3 ++ (gr 20 1 ++ (gr 21 1 ++ (gr 22 8 ++ []))))))) := by kernel_rfl
theorem run (w : World) (os : OsState) : topRun treeTable pw w 11 an (12 + (1 + (267 + (214 + (380 + (102 + (361 + (236 + (1023 + (221 + 2)))))))))) ⟨boot_heap w.params, #[], boot_drawn, boot_toks, os⟩ (topStub pw) = some ⟨h642 w.params, #[], {}, 764, os⟩ :=
  go_top (pre w os) (piece_block (blk w os) (by
    rw [bd_eq]
    exact (piece_app (segRun_of (p0 w os)) (piece_app (segRun_of (p1 w os)) (piece_app (segRun_of (p2 w os)) (piece_app (segRun_of (p3 w os)) (piece_app (segRun_of (p4 w os)) (piece_app (segRun_of (p5 w os)) (piece_app (segRun_of (p6 w os)) (piece_app (segRun_of (p7 w os)) (fin w os)))))))))))
end
section
set_option maxHeartbeats 0

noncomputable abbrev rwM : OpenLaw := PySem.Challenge.rw_xm0669_01
noncomputable def qv : Program := view pw [0, 2, 3, 4, 6, 7, 8, 9, 12, 13, 14, 15, 17, 19, 20, 21, 23, 24, 25, 26, 27, 28, 29]
noncomputable abbrev lo : List Str := ["MOST", "number_of"]
noncomputable abbrev lv : List (Str × WData) := [("MOST", .int 10000000000000000000000000000000000000000000000000000000000000000000000000000000000000000000000000000000000000000000000000000000000000000000000000000000000000000000000000000000000000000000000000000000000000000000000000000000000000000000000000000000000000000000000000000000000000000000000000000000000000000000000000000000000000000000000000000000000000000000000000000000000000000000000000000000000000000)]
noncomputable abbrev xt : Shared → Bool := fun s => xlAt qv lv s && recOk (RowW.records rwM.row.toRowW) s
noncomputable def ka : List Addr := [2, 3, 15, 17, 18, 20, 21, 22, 29, 31, 32, 34, 35, 36, 37, 38, 39, 42, 49, 50, 51, 54, 61, 62, 63, 66, 68, 69, 71, 72, 73, 75, 76, 78, 79, 80, 81, 83, 84, 86, 87, 88, 90, 91, 93, 94, 95, 97, 98, 100, 101, 102, 104, 105, 107, 108, 109, 111, 112, 114, 115, 123, 124, 126, 127, 129, 130, 131, 133, 134, 136, 137, 138, 140, 141, 143, 144, 145, 147, 148, 150, 151, 152, 153, 154, 155, 156, 159, 167, 169, 170, 172, 173, 174, 175, 176, 177, 178, 188, 190, 191, 193, 194, 195, 197, 198, 200, 201, 202, 204, 205, 207, 208, 209, 211, 212, 214, 215, 216, 218, 219, 221, 222, 223, 225, 226, 228, 229, 230, 232, 233, 235, 236, 237, 239, 240, 242, 243, 244, 246, 247, 249, 250, 251, 253, 254, 256, 257, 258, 260, 261, 263, 264, 265, 267, 268, 270, 271, 272, 274, 275, 277, 278, 279, 281, 282, 284, 285, 286, 288, 289, 291, 292, 293, 295, 296, 298, 299, 300, 302, 303, 305, 306, 307, 309, 310, 312, 313, 314, 316, 317, 319, 320, 321, 323, 324, 326, 327, 328, 330, 331, 333, 334, 335, 337, 338, 340, 341, 342, 344, 345, 347, 348, 349, 351, 352, 354, 355, 356, 358, 359, 361, 362, 363, 364, 365, 366, 367, 370, 372, 373, 375, 376, 377, 379, 380, 382, 383, 384, 386, 387, 389, 390, 391, 393, 394, 396, 397, 398, 400, 401, 403, 404, 405, 408, 409, 410, 413, 414]
theorem ka_eq (P : Params) : ka = (KK P).map (·.1) := by kernel_rfl
noncomputable abbrev HK : Hook := kmHook KK ka ka_eq [411]
noncomputable abbrev sF (w : World) (os : OsState) : Shared := ⟨h642 w.params, #[], {}, 764, os⟩
theorem size (w : World) : ((boot_heap w.params).isNs mainGlobals && (#[] : Array GenState).size == 0, (boot_heap w.params).objs.size, (boot_heap w.params).nsMap mainGlobals "__annotations__") = (true, 11, an) := by kernel_rfl
theorem la (w : World) (os : OsState) : (staticsOk (importedModules pw.main.body) (boot_heap w.params) (h642 w.params) && namesBound pw (h642 w.params) && gensDone (sF w os) && laidKept (boot_heap w.params) (h642 w.params)) = true := by
  rewrite [Fast.te5923862056798008813]
  kernel_rfl
theorem l1 (w : World) (os : OsState) : seen ((recsOf qv).map (·.name)) (ownsOf qv) [] { sF w os with gens := #[] } = expectedOf qv := by
  rewrite [Fast.te5160383126252970620, Fast.te3399658132070893891, Fast.te5991557255702980513]
  kernel_rfl
theorem l2 (w : World) (os : OsState) : (sF w os).heap.bltView = bltViewBooted := by kernel_rfl
theorem l3 (w : World) (os : OsState) : ((sF w os).heap.keysOk (looseW qv lo) ((recsOf qv).map (·.name)) ((litsOf qv).map (·.1)) ((clssOf qv (looseW qv lo)).map (·.name)) && (sF w os).heap.accountedOkI (importedModules pw.main.body) && (sF w os).heap.isNs mainGlobals && (sF w os).heap.isNs builtinsNs && tablesOk qv (sF w os).heap && xt (sF w os) && (sF w os).gens.size == 0) = true := by
  rewrite [Fast.te10880121769531294198, Fast.te821141287760084731, Fast.te3399658132070893891, Fast.te7409074990110511671, Fast.te13664370479719496447, Fast.te14722251495701143533, Fast.te5923862056798008813, Fast.te10994771534591457954]
  kernel_rfl
theorem l4 (w : World) (os : OsState) : tabsOk qv (sF w os) = true := by
  rewrite [Fast.te479339242167458305]
  kernel_rfl
theorem l5 (w : World) (os : OsState) : pinSeenD qv (drecsOf qv) (sF w os) = pinGoodD (drecsOf qv) := by
  rewrite [Fast.te16090120013241838585, Fast.te3247288618530077131]
  kernel_rfl
theorem l6 (w : World) (os : OsState) : plainSeenE qv (looseW qv lo) (sF w os) = plainGoodE qv (looseW qv lo) := by
  rewrite [Fast.te2386780881361962483, Fast.te821141287760084731]
  kernel_rfl
theorem l7 (w : World) (os : OsState) : plainSeenD qv lo (sF w os) = plainGoodD qv lo := by
  rewrite [Fast.te11698064438423848299]
  kernel_rfl
theorem l8 (w : World) (os : OsState) : wideSeen qv (sF w os) = wideGood qv := by
  rewrite [Fast.te7317090234206586261]
  kernel_rfl
theorem l9 (w : World) (os : OsState) : clsSeenW qv lo (sF w os) = clsGoodW qv lo := by
  rewrite [Fast.te7369524293546568484]
  kernel_rfl
theorem lk (w : World) (os : OsState) : HK.obs (sF w os) = HK.val w := by kernel_rfl
theorem left : LeftO pw qv lo xt HK.obs HK.val 5718 true :=
  LeftO.of_pieces (H₀ := boot_heap) (H₁ := h642) (gs₀ := #[]) (gs₁ := #[]) (d₀ := boot_drawn) (d₁ := {}) (k₀ := boot_toks) (k₁ := 764) (m₀ := 11) (ann := an) (M := 12 + (1 + (267 + (214 + (380 + (102 + (361 + (236 + (1023 + (221 + 2))))))))))
    (boot_open (by kernel_rfl) (by kernel_rfl) (fun s => by kernel_rfl)) size run (by kernel_rfl)
    fun w => funext fun os => looks_pair (la w os) (looks_pair (looks_pair (l1 w os) (looks_pair (l2 w os) (looks_pair (l3 w os) (looks_pair (l4 w os) (looks_pair (l5 w os) (looks_pair (l6 w os) (looks_pair (l7 w os) (looks_pair (l8 w os) (l9 w os))))))))) (lk w os))
theorem said : OpenLaw.wellSaid rwM = true := by kernel_rfl
set_option maxRecDepth 100000 in
theorem hd (T : WalkO qv lo (XL qv lv) (kmHook KK ka ka_eq [411]).says PySem.Challenge.rw_xm0669_01.row.toRowW ⟨"law", a29, b29, c29, ⟨236, 0, 254, 37⟩⟩ [] fun f vs => PySem.call f vs) : PySem.Challenge.rw_xm0669_01.Holds := by
  w_on
  refine holds_law said fun _ => ?_
  refine holds_open (q := qv) (loose := lo) (Xt := xt) (XP := XL qv lv) (Yf := HK.obs) (Ya := HK.val) (YP := HK.says) (N := 5718) left HK.of HK.keeps (fun s e => xl_of s (Bool.and_eq_true_iff.mp e).1) XL.keeps (by kernel_rfl) (by kernel_rfl) (by kernel_rfl) (fun s e => recFacts_of (Bool.and_eq_true_iff.mp e).2) (by kernel_rfl) (row_said said) (by decide +kernel) ⟨rfl, rfl, rfl, rfl, rfl, by decide +kernel⟩ ?hw T
  case hw => w_witness2
end
section
set_option maxHeartbeats 8000000
theorem fill0 : (∀ P, (KK P).map (·.1) = (KK P).map (·.1)) ∧ PySem.Challenge.rw_xm0669_01 = PySem.Challenge.rw_xm0669_01 := by
  k_fill
  exact ⟨fun _ => rfl, rfl⟩

/-- all but the ledger's own places stands as it stood -/
def Kept (h h' : Heap) (sm : List Addr) : Prop := ∀ b o, h.get? b = some o → (∀ x ∈ sm, x ≠ b) → h'.get? b = some o
theorem Kept.news {h₀ h h' : Heap} {L : Addr} {sm : List Addr} {l : List (Addr × Obj)} (k : Kept h h' sm) (N : News h₀ L h l) (off : ∀ q ∈ l, ∀ x ∈ sm, x ≠ q.1) : News h₀ L h' l :=
  fun q hq => ⟨k _ _ (N q hq).1 (off q hq), (N q hq).2⟩

theorem Kept.fin {h g h' : Heap} {L' : Addr} {m' : Str → Option Value} {as : List Addr} (k : Kept h g as) (F : Fr g L' h' m') : Kept h h' as := fun b o e n => F.keep b o (k b o e n)
theorem Kept.refl {h : Heap} {as : List Addr} : Kept h h as := fun _ _ e _ => e
theorem Kept.trans {h g h' : Heap} {as bs : List Addr} (k : Kept h g as) (l : Kept g h' bs) (sub : ∀ b ∈ bs, b ∈ as) : Kept h h' as := fun b o e n => l b o (k b o e n) fun x hx => n x (sub x hx)
section
variable {prog : Program} {w : World} {A A₀ : Around} {E : Value → Shared → Prop} {s : Shared} {K : Frag} {L : Addr} {h₀ base : Heap} {m mg mb : Str → Option Value} {news : List (Addr × Obj)} {p : Program} {loose : List Str} {mean : ExcName → Option Value}

theorem code_defF {env : Env} {outer : List Env} {R : Result → Shared → Prop} {name qual : Str} {params : Arguments} {body : List Stmt} {scope : Scope} {dV kV doc pm cdv ct oc : Value} {an od : Option Addr} {osl : Array (Option Value)} {f : Addr} {args : Args} {binds : List (Str × Value)}
    (B : Below A₀ base outer h₀) (F : Fr h₀ L s.heap m) (X₀ : K.In h₀) (N : News h₀ L s.heap news) (T : Top p loose mean mg mb h₀) (hA : A.frames = some (env :: outer)) (hf : env.frame = some L) (hke : env.scope.kind = .function)
    (ho : K.lookup f = some ⟨oc, od, .func (fnOf name qual params body scope dV kV doc pm an cdv ct), osl⟩) (hcd : codeIn K cdv qual = true) (hroom : A.depth < recursionLimit)
    (hbind : BindsTo s (fnOf name qual params body scope dV kV doc pm an cdv ct) args binds) (hloc : ∀ y ∈ binds, scope.names.lookup y.1 = some .local)
    (h : ∀ g L' h₁, Fr h₀ L g m → Fr g L' h₁ (fun y => binds.reverse.lookup y) → News g L' h₁ news → Below A base (env :: outer) g → K.In g → Top p loose mean mg mb g → Kept s.heap g (news.map (·.1)) →
      wpAny (model prog w) (A.deeper (envOf qual scope L' f cdv)) (execs body (envOf qual scope L' f cdv))
        (fun fl s' => LeaveK h₀ L m g R (match fl with | .ret v => v | _ => .none) s')
        (fun e s' => wpAny (model prog w) (A.deeper (envOf qual scope L' f cdv)) (leaving (envOf qual scope L' f cdv) e) (fun _ s'' => R (.error e) s'') (fun e' s'' => R (.error e') s'') s')
        { s with heap := h₁, toks := s.toks + binds.length })
    (hco : scope.isCoroutine = false) (hgen : scope.isGenerator = false) (hk : scope.kind = .function)
    (hcell : ∀ x ∈ scope.names, x.2 ≠ .cell) : codeAny (model prog w) A (.call (.ref f) args) R s := by
  obtain ⟨FG, BG, st, lv⟩ := groundX (R := R) B F N hA hf hke
  refine codeAny_call_def (fd := fnOf name qual params body scope dV kV doc pm an cdv ct) (body := body) (binds := binds) hroom ((X₀.keeps F.keep) _ _ ho) rfl (T.nolimit.keeps F.keep) (codeRec_of (X₀.keeps F.keep) hcd) rfl hbind hcell hloc (fun h₁ hns hk₁ => ?_) hco hgen hk
  have kg : Kept s.heap (hideAll s.heap (news.map (·.1))) (news.map (·.1)) := fun b o e n => hideAll_get _ e fun q => n b q rfl
  have nw : News (hideAll s.heap (news.map (·.1))) s.heap.objs.size h₁ news :=
    fun r hr => ⟨hk₁ _ _ (N r hr).1, Nat.ne_of_lt (Heap.lt_size (N r hr).1), hideAll_none _ (List.mem_map_of_mem hr)⟩
  have z := h _ s.heap.objs.size h₁ FG ⟨hns, fun b o e => hk₁ b o (of_hideAll _ e), Nat.le_of_eq (hideAll_size _ _)⟩ nw BG (X₀.keeps st) (T.keeps st) kg
  exact wpAny_mono z (fun fl s' hl => lv _ _ hl) fun _ _ y => y
end

/-- the ledger behind a call that has changed one place -/
theorem upd_mem {d : Addr} {o o' : Obj} : ∀ {l l' : List (Addr × Obj)}, Upd d o o' l l' → ∀ p ∈ l', p = (d, o') ∨ (p ∈ l ∧ p.1 ≠ d)
  | _, _, .head h, p, hp => by
    rcases List.mem_cons.mp hp with rfl | hp
    · exact .inl rfl
    · exact .inr ⟨.tail _ hp, h p hp⟩
  | _, _, .tail h u, p, hp => by
    rcases List.mem_cons.mp hp with rfl | hp
    · exact .inr ⟨.head _, h⟩
    · rcases upd_mem u p hp with e | ⟨e, n⟩
      · exact .inl e
      · exact .inr ⟨.tail _ e, n⟩
theorem news_upd1 {h₀ h h' : Heap} {L d : Addr} {o o' : Obj} {l l' : List (Addr × Obj)} (N : News h₀ L h l) (U : Upd d o o' l l') (N' : News h₀ L h' [(d, o')]) (k : Kept h h' [d]) : News h₀ L h' l' := fun p hp => by
  rcases upd_mem U p hp with rfl | ⟨e, n⟩
  · exact N' _ (.head _)
  · exact ⟨k _ _ (N p e).1 (fun x hx => by rw [List.mem_singleton.mp hx]; exact Ne.symm n), (N p e).2⟩

theorem News.subL {h₀ h : Heap} {L : Addr} {l l' : List (Addr × Obj)} (N : News h₀ L h l) (u : SubL l' l) : News h₀ L h l' := fun p hp => N p (u.mem p hp)
/-- a place of the ledger that stands as it stood need not be named -/
theorem Kept.drop {h₀ h h' : Heap} {L d : Addr} {o : Obj} {as bs : List Addr} {l l' : List (Addr × Obj)} (k : Kept h h' as) (N : News h₀ L h l) (N' : News h₀ L h' l') (hd : (d, o) ∈ l) (hd' : (d, o) ∈ l') (sub : ∀ b ∈ as, b = d ∨ b ∈ bs) : Kept h h' bs := fun b o' e n => by
  by_cases q : d = b
  · subst q
    rw [(N _ hd).1] at e
    rw [← e]
    exact (N' _ hd').1
  · refine k b o' e fun x hx => ?_
    rcases sub x hx with rfl | hx
    · exact q
    · exact n x hx
section
variable {prog : Program} {w : World} {A : Around} {E : Value → Shared → Prop} {s : Shared} {h₀ : Heap} {L : Addr} {news : List (Addr × Obj)}
theorem item_any {value slice : PySem.Expr} {l : Addr} {items : Array Value} {k : Int} {u : Tok} {n : Nat} {Q : Value → Shared → Prop}
    (N : News h₀ L s.heap news) (hl : (l, W.listOf items n) ∈ news) (h0 : 0 ≤ k) (hk : k < (items.size : Int)) (hz : items.size ≤ 1048576) (h : ∀ v, items[k.toNat]? = some v → v ∈ items → Q v s)
    (hs : subscripted slice false (.ref l) (.int k u) = operate [.ref l, .int k u] (getItem (.ref l) (.int k u)) := by with_unfolding_all rfl) :
    wpAny (model prog w) A (subscriptTail value slice (.ref l) (.int k u)) Q E s := by
  have hL : s.heap.IsList l items := ⟨_, (N _ hl).1, rfl, n, rfl⟩
  have hj : k.toNat < items.size := by omega
  have e : items[k.toNat]? = some items[k.toNat] := Array.getElem?_eq_getElem hj
  exact tail_any hL.typeIs slot_list_getitem.lookup (wpAny_getItem_list hL h0 (by omega) e (h _ e (Array.getElem_mem hj))) hs
end
section
variable {prog : Program} {w : World} {A : Around} {E : Value → Shared → Prop} {s : Shared} {h₀ : Heap} {L : Addr} {news : List (Addr × Obj)}
theorem len_push {l : Addr} {items : Array Value} {v : Value} {n : Nat} {Q : Value → Shared → Prop} (N : News h₀ L s.heap news) (hl : (l, W.listOf (items.push v) n) ∈ news) (hz : items.size ≤ 1048576)
    (h : Q (.int ((items.size : Int) + 1) (s.toks + 1)) { s with toks := s.toks + 1 + 1 }) : wpAny (model prog w) A (call (.builtin "len") [.ref l]) Q E s := by
  have hL : s.heap.IsList l (items.push v) := ⟨_, (N _ hl).1, rfl, n, rfl⟩
  refine PyProof.Rows.len_list hL (by rw [Array.size_push]; omega) ?_
  rw [Array.size_push]
  exact h
theorem len_any {l : Addr} {items : Array Value} {n : Nat} {Q : Value → Shared → Prop} (N : News h₀ L s.heap news) (hl : (l, W.listOf items n) ∈ news) (hz : items.size ≤ 1048576)
    (h : Q (.int (items.size : Int) (s.toks + 1)) { s with toks := s.toks + 1 + 1 }) : wpAny (model prog w) A (call (.builtin "len") [.ref l]) Q E s :=
  PyProof.Rows.len_list (⟨_, (N _ hl).1, rfl, n, rfl⟩ : s.heap.IsList l items) (by omega) h
end
/-- a row of the tree: what its dict holds -/
abbrev rowD (P : Params) (t1 t2 t3 t4 t5 t6 t7 t8 t9 : Tok) (kind name uri loc val par : Value) (ch at_ ns : Addr) : Obj :=
  dictOf [⟨PyData.keyHash P "kind", .str "kind" t1, kind⟩, ⟨PyData.keyHash P "name", .str "name" t2, name⟩, ⟨PyData.keyHash P "uri", .str "uri" t3, uri⟩, ⟨PyData.keyHash P "local", .str "local" t4, loc⟩, ⟨PyData.keyHash P "value", .str "value" t5, val⟩, ⟨PyData.keyHash P "parent", .str "parent" t6, par⟩, ⟨PyData.keyHash P "children", .str "children" t7, .ref ch⟩, ⟨PyData.keyHash P "attributes", .str "attributes" t8, .ref at_⟩, ⟨PyData.keyHash P "namespaces", .str "namespaces" t9, .ref ns⟩] 9
theorem push_get {xs : Array Value} {v y : Value} {i : Nat} (h : xs[i]? = some v) : (xs.push y)[i]? = some v := by
  obtain ⟨hi, e⟩ := Array.getElem?_eq_some_iff.mp h
  rw [Array.getElem?_push]
  rw [if_neg (by omega)]
  exact h
theorem size_of_get {xs : Array Value} {v : Value} {k : Int} (h : xs[k.toNat]? = some v) (h0 : 0 ≤ k) : k < (xs.size : Int) := by
  obtain ⟨hi, e⟩ := Array.getElem?_eq_some_iff.mp h
  omega
section
variable {prog : Program} {w : World} {A : Around} {E : Value → Shared → Prop} {s : Shared} {h₀ : Heap} {L : Addr} {news : List (Addr × Obj)}
theorem item_at {value slice : PySem.Expr} {l : Addr} {items : Array Value} {k : Int} {u : Tok} {n : Nat} {v : Value} {Q : Value → Shared → Prop}
    (N : News h₀ L s.heap news) (hl : (l, W.listOf items n) ∈ news) (h0 : 0 ≤ k) (hv : items[k.toNat]? = some v) (hz : items.size ≤ 1048576) (h : Q v s)
    (hs : subscripted slice false (.ref l) (.int k u) = operate [.ref l, .int k u] (getItem (.ref l) (.int k u)) := by with_unfolding_all rfl) :
    wpAny (model prog w) A (subscriptTail value slice (.ref l) (.int k u)) Q E s := by
  have hL : s.heap.IsList l items := ⟨_, (N _ hl).1, rfl, n, rfl⟩
  have := size_of_get hv h0
  exact tail_any hL.typeIs slot_list_getitem.lookup (wpAny_getItem_list hL h0 (by omega) hv h) hs
end
section
variable {prog : Program} {w : World} {A A₀ : Around} {E : Value → Shared → Prop} {s : Shared} {K : Frag} {L : Addr} {h₀ base : Heap} {m mg mb : Str → Option Value} {news : List (Addr × Obj)} {p : Program} {loose : List Str} {mean : ExcName → Option Value}
theorem code_defCF {env : Env} {outer : List Env} {R : Result → Shared → Prop} {name qual : Str} {params : Arguments} {body : List Stmt} {scope : Scope} {dV kV doc pm cdv ct oc : Value} {an od : Option Addr} {osl : Array (Option Value)} {f : Addr} {args : Args} {binds : List (Str × Value)}
    (B : Below A₀ base outer h₀) (F : Fr h₀ L s.heap m) (X₀ : K.In h₀) (N : News h₀ L s.heap news) (T : Top p loose mean mg mb h₀) (hA : A.frames = some (env :: outer)) (hf : env.frame = some L) (hke : env.scope.kind = .function)
    (ho : K.lookup f = some ⟨oc, od, .func (fnOf name qual params body scope dV kV doc pm an cdv ct), osl⟩) (hcd : codeIn K cdv qual = true) (hroom : A.depth < recursionLimit)
    (hbind : BindsTo s (fnOf name qual params body scope dV kV doc pm an cdv ct) args binds) (hkind : (binds.all fun y => scope.names.lookup y.1 == some .local || scope.names.lookup y.1 == some .cell) = true)
    (hnd : ((cellsFrom 0 scope.names []).map (·.1)).Nodup)
    (h : ∀ g L' h₁ tk cells, Fr h₀ L g m → Fr g L' h₁ (bindL (envOfC qual scope L' f cdv).kindOf binds fun _ => none) → News g L' h₁ (cells ++ news) →
      CellsAre (bindC (envOfC qual scope L' f cdv).kindOf binds fun _ => none) (cellsFrom (L' + 1) scope.names []) cells → Below A base (env :: outer) g → K.In g → Top p loose mean mg mb g → (∀ p ∈ news, p.1 < L') → Kept s.heap g (news.map (·.1)) →
      wpAny (model prog w) (A.deeper (envOfC qual scope L' f cdv)) (execs body (envOfC qual scope L' f cdv))
        (fun fl s' => LeaveK h₀ L m g R (match fl with | .ret v => v | _ => .none) s')
        (fun e s' => wpAny (model prog w) (A.deeper (envOfC qual scope L' f cdv)) (leaving (envOfC qual scope L' f cdv) e) (fun _ s'' => R (.error e) s'') (fun e' s'' => R (.error e') s'') s')
        { s with heap := h₁, toks := tk })
    (hco : scope.isCoroutine = false) (hgen : scope.isGenerator = false) (hk : scope.kind = .function) : codeAny (model prog w) A (.call (.ref f) args) R s := by
  obtain ⟨FG, BG, st, lv⟩ := groundX (R := R) B F N hA hf hke
  have kg : Kept s.heap (hideAll s.heap (news.map (·.1))) (news.map (·.1)) := fun b o e n => hideAll_get _ e fun q => n b q rfl
  refine codeAny_call_function hroom ((X₀.keeps F.keep) _ _ ho) rfl hco hgen rfl (codeRec_of (X₀.keeps F.keep) hcd) (hbind _ _ _ _ ?_)
  refine wpAny_newFunctionEnv_cells hk (kindsX hkind _) fun env' he s' x => ?_
  subst he
  refine ⟨(T.nolimit.keeps F.keep).keeps x.toInCall.keep, codeAny_func ?_⟩
  obtain ⟨h₁, tk, rfl, _⟩ := x.done
  have hk₁ := x.toInCall.keep
  obtain ⟨cells, NC, Y⟩ := Cl.news (h₀ := s.heap) (Nat.le_refl _) fun n c hm => ⟨x.cell n c (lookup_of_mem_nodup (cellsFrom_names scope.names 0 (s.heap.objs.size + 1) [] [] rfl ▸ hnd) hm), x.above n c hm⟩
  have nw : News (hideAll s.heap (news.map (·.1))) s.heap.objs.size h₁ (cells ++ news) := fun r hr => by
    rcases List.mem_append.mp hr with hr | hr
    · refine ⟨(NC r hr).1, (NC r hr).2.1, ?_⟩
      cases q : (hideAll s.heap (news.map (·.1))).get? r.1 with
      | none => rfl
      | some o => have := of_hideAll _ q; rw [(NC r hr).2.2] at this; cases this
    · exact ⟨hk₁ _ _ (N r hr).1, Nat.ne_of_lt (Heap.lt_size (N r hr).1), hideAll_none _ (List.mem_map_of_mem hr)⟩
  have z := h _ s.heap.objs.size h₁ tk cells FG ⟨x.toInCall.ns, fun b o e => hk₁ b o (of_hideAll _ e), Nat.le_of_eq (hideAll_size _ _)⟩ nw Y BG (X₀.keeps st) (T.keeps st) (fun p hp => Heap.lt_size (N p hp).1) kg
  exact wpAny_mono z (fun fl s' hl => lv _ _ hl) fun _ _ y => y
end
/-- where the whole ledger stands as it stood, all does -/
theorem Kept.all {h₀ h h' : Heap} {L : Addr} {l : List (Addr × Obj)} (k : Kept h h' (l.map (·.1))) (N : News h₀ L h l) (N' : News h₀ L h' l) : Kept h h' [] := fun b o e _ => by
  by_cases q : b ∈ l.map (·.1)
  · obtain ⟨r, hr, rfl⟩ := List.mem_map.mp q
    rw [(N r hr).1] at e
    rw [← e]
    exact (N' r hr).1
  · exact k b o e fun x hx hxb => q (hxb ▸ hx)
theorem News.stay {h₀ h h' : Heap} {L : Addr} {l : List (Addr × Obj)} (N : News h₀ L h l) (k : Kept h h' []) : News h₀ L h' l := fun p hp => ⟨k _ _ (N p hp).1 (fun _ hx => nomatch hx), (N p hp).2⟩
theorem News.both {h₀ h : Heap} {L : Addr} {l l' : List (Addr × Obj)} (N : News h₀ L h l) (N' : News h₀ L h l') : News h₀ L h (l ++ l') := fun p hp => (List.mem_append.mp hp).elim (N p) (N' p)
section
variable {prog : Program} {w : World} {A : Around} {E : Value → Shared → Prop} {s : Shared} {h₀ : Heap} {L : Addr} {news : List (Addr × Obj)} {m : Str → Option Value}
theorem notin_parents {k : Str} {tk : Tok} {Q : Value → Shared → Prop} (F : Fr h₀ L s.heap m) (X : (KK w.params).In h₀) (hk : k = "root" ∨ k = "element") (h : Q (.bool false) s) :
    wpAny (model prog w) A (compareOp .NotIn (.str k tk) (.ref 159)) Q E s := by
  refine notin_tuple_strs (ys := ["root", "element"]) (tupK (l := [.str "root" 403, .str "element" 404]) (X.keeps F.keep) rfl) (.cons _ _ (.cons _ _ .nil)) ?_
  rcases hk with rfl | rfl
  · rw [show (!(["root", "element"] : List Str).any fun x => x == "root") = false from by decide]; exact h
  · rw [show (!(["root", "element"] : List Str).any fun x => x == "element") = false from by decide]; exact h
end
theorem inst_ne_list {C dx : Addr} {xs : Array Value} {k : Nat} : instObj C dx ≠ W.listOf xs k := fun h => by
  have := congrArg Obj.cls h
  cases this
theorem dict_ne_list {es : _} {n : Nat} {xs : Array Value} {k : Nat} : dictOf es n ≠ W.listOf xs k := fun h => by
  have := congrArg Obj.cls h
  injection this with e
  exact absurd e (by decide)
theorem news_ne {h₀ h : Heap} {L a b : Addr} {o o' : Obj} {l : List (Addr × Obj)} (N : News h₀ L h l) (ha : (a, o) ∈ l) (hb : (b, o') ∈ l) (n : o ≠ o') : @Ne Nat a b := fun e => by
  subst e
  have x := (N _ ha).1
  have y := (N _ hb).1
  exact n (Option.some.inj (x.symm.trans y))
theorem mem_find {d : Addr} {l : List (Addr × Obj)} (h : AllLt d l) : ∀ q ∈ l, q.1 < d := by
  induction l with
  | nil => exact fun _ h => nomatch h
  | cons a r ih =>
    intro q hq
    rcases List.mem_cons.mp hq with rfl | hq
    · exact h.1
    · exact ih h.2 q hq
theorem kept_of {h₀ h h' : Heap} {L : Addr} {news : List (Addr × Obj)} {as mu : List Addr} (N : News h₀ L h news) (k : Kept h h' as) (sub : ∀ a ∈ as, ∃ o, (a, o) ∈ news) (still : ∀ q ∈ news, q.1 ∉ mu → h'.get? q.1 = some q.2) : Kept h h' mu := by
  intro b o e n
  by_cases q : ∃ o', (b, o') ∈ news
  · obtain ⟨o', ho⟩ := q
    have x := (N _ ho).1
    rw [e] at x
    cases x
    exact still _ ho fun hb => n _ hb rfl
  · exact k b o e fun x hx hxb => q (hxb ▸ sub x hx)
/-- the ledger behind a call that has changed one place and made others -/
theorem News.grow {h₀ h h' : Heap} {L d : Addr} {o o' : Obj} {l l' new : List (Addr × Obj)} (N : News h₀ L h l) (U : Upd d o o' l l') (M : News h₀ L h' (new ++ [(d, o')])) (k : Kept h h' [d]) : News h₀ L h' (new ++ l') := fun p hp =>
  (List.mem_append.mp hp).elim (fun h => M p (List.mem_append.mpr (.inl h))) (news_upd1 N U (fun q hq => M q (List.mem_append.mpr (.inr hq))) k p)
theorem News.grow2 {h₀ h h' : Heap} {L d e : Addr} {o o' u u' : Obj} {l l' l'' new : List (Addr × Obj)} (N : News h₀ L h l) (U : Upd d o o' l l') (V : Upd e u u' l' l'') (M : News h₀ L h' (new ++ [(d, o'), (e, u')])) (k : Kept h h' [d, e]) : News h₀ L h' (new ++ l'') := fun p hp =>
  (List.mem_append.mp hp).elim (fun h => M p (List.mem_append.mpr (.inl h))) fun hp => by
    rcases upd_mem V p hp with rfl | ⟨hp, n⟩
    · exact M _ (List.mem_append.mpr (.inr (.tail _ (.head _))))
    rcases upd_mem U p hp with rfl | ⟨hp, n'⟩
    · exact M _ (List.mem_append.mpr (.inr (.head _)))
    · refine ⟨k _ _ (N p hp).1 (fun x hx => ?_), (N p hp).2⟩
      rcases List.mem_cons.mp hx with rfl | hx
      · exact Ne.symm n'
      · rw [List.mem_singleton.mp hx]; exact Ne.symm n
theorem offc {d : Addr} {q : Addr × Obj} {l : List (Addr × Obj)} (h : q.1 ≠ d) (k : ∀ p ∈ l, p.1 ≠ d) : ∀ p ∈ q :: l, p.1 ≠ d := List.forall_mem_cons.mpr ⟨h, k⟩
theorem offn {d : Addr} : ∀ p ∈ ([] : List (Addr × Obj)), p.1 ≠ d := List.forall_mem_nil _
theorem neA {a b : Nat} (h : a < b) : a ≠ b := Nat.ne_of_lt h
theorem neB {a b : Nat} (h : b < a) : a ≠ b := Nat.ne_of_gt h
theorem room {d j k n : Nat} (h : d + k < n) (e : j ≤ k) : d + j < n := Nat.lt_of_le_of_lt (Nat.add_le_add_left e d) h
theorem subc {α : Type} {x : α} {l l' : List α} (h : x ∈ l') (k : ∀ q ∈ l, q ∈ l') : ∀ q ∈ x :: l, q ∈ l' := List.forall_mem_cons.mpr ⟨h, k⟩
theorem offLe {l : List (Addr × Obj)} {a lo : Nat} (h : ∀ q ∈ l, @LE.le Nat _ lo q.1) (hl : a < lo) : ∀ q ∈ l, q.1 ≠ a := fun q hq => Nat.ne_of_gt (Nat.lt_of_lt_of_le hl (h q hq))
theorem abvc {d : Nat} {q : Addr × Obj} {l : List (Addr × Obj)} (h : @LT.lt Nat _ d q.1) (k : ∀ p ∈ l, @LT.lt Nat _ d p.1) : ∀ p ∈ q :: l, @LT.lt Nat _ d p.1 := List.forall_mem_cons.mpr ⟨h, k⟩
section
variable {α : Type} {q i : α} {l t D D1 D2 B B' E E' E1 En R new old : List α}
theorem memL (h : q ∈ l) : q ∈ l ++ t := List.mem_append.mpr (.inl h)
theorem memR (h : q ∈ t) : q ∈ l ++ t := List.mem_append.mpr (.inr h)
theorem midL : ∀ q ∈ l ++ (D ++ t), q ∈ D ++ (l ++ t) := fun q hq => (List.mem_append.mp hq).elim (fun h => memR (memL h)) fun hq => (List.mem_append.mp hq).elim (fun h => memL h) fun h => memR (memR h)
theorem perm1 (k : ∀ q ∈ En, q ∈ E1) : ∀ q ∈ i :: ((B ++ En) ++ ((D1 ++ D2) ++ (E ++ R))), q ∈ D1 ++ (E1 ++ (D2 ++ (i :: (B ++ (E ++ R))))) := fun q hq => (List.mem_cons.mp hq).elim (fun h => h ▸ memR (memR (memR (.head _)))) fun hq =>
  (List.mem_append.mp hq).elim (fun hq => (List.mem_append.mp hq).elim (fun h => memR (memR (memR (.tail _ (memL h))))) fun h => memR (memL (k _ h))) fun hq =>
  (List.mem_append.mp hq).elim (fun hq => (List.mem_append.mp hq).elim (fun h => memL h) fun h => memR (memR (memL h))) fun h => memR (memR (memR (.tail _ (memR h))))
theorem perm2 (k : ∀ q ∈ E1, q ∈ En) : ∀ q ∈ D1 ++ E1, q ∈ (B ++ En) ++ ((D1 ++ D2) ++ R) := fun q hq => (List.mem_append.mp hq).elim (fun h => memR (memL (memL h))) fun h => memL (memR (k _ h))
theorem perm3 (k1 : q ∈ B → q ∈ B') (k2 : q ∈ E → q ∈ E') (hq : q ∈ (B ++ E) ++ R) : q ∈ (B' ++ En) ++ (D ++ (E' ++ R)) := (List.mem_append.mp hq).elim (fun hq => (List.mem_append.mp hq).elim (fun h => memL (memL (k1 h))) fun h => memR (memR (memL (k2 h)))) fun h => memR (memR (memR h))
theorem perm4 : ∀ q ∈ i :: ((B ++ E) ++ ((En ++ (D ++ new)) ++ old)), q ∈ i :: ((B ++ En) ++ (D ++ (E ++ (new ++ old)))) := fun q hq => (List.mem_cons.mp hq).elim (fun h => h ▸ .head _) fun hq => .tail _ <|
  (List.mem_append.mp hq).elim (fun hq => (List.mem_append.mp hq).elim (fun h => memL (memL h)) fun h => memR (memR (memL h))) fun hq => (List.mem_append.mp hq).elim (fun hq => (List.mem_append.mp hq).elim (fun h => memL (memR h)) fun hq =>
  (List.mem_append.mp hq).elim (fun h => memR (memL h)) fun h => memR (memR (memR (memL h)))) fun h => memR (memR (memR (memR h)))
theorem perm5 : ∀ q ∈ (B ++ En) ++ (D ++ (E ++ new)), q ∈ (B ++ E) ++ (En ++ (D ++ new)) := fun q hq => (List.mem_append.mp hq).elim (fun hq => (List.mem_append.mp hq).elim (fun h => memL (memL h)) fun h => memR (memL h)) fun hq => (List.mem_append.mp hq).elim (fun h => memR (memR (memL h))) fun hq =>
  (List.mem_append.mp hq).elim (fun h => memL (memR h)) fun h => memR (memR (memR h))
theorem rev5 {x d c1 c2 c3 : α} : ∀ q ∈ [x, d, c1, c2, c3], q ∈ [c3, c2, c1, x, d] := fun q hq => by
  simp only [List.mem_cons, List.not_mem_nil, or_false] at hq ⊢
  rcases hq with h | h | h | h | h <;> simp only [h, true_or, or_true]
theorem ver5 {x d c1 c2 c3 : α} : ∀ q ∈ [c3, c2, c1, x, d], q ∈ [x, d, c1, c2, c3] := fun q hq => by
  simp only [List.mem_cons, List.not_mem_nil, or_false] at hq ⊢
  rcases hq with h | h | h | h | h <;> simp only [h, true_or, or_true]
end
end
section
open PySem PySem.W PySem.Calls PyProof.Rows PyProof.V PySem.Spec
set_option maxHeartbeats 800000
theorem push_last {xs : Array Value} {y : Value} {i : Int} (h : i = (xs.size : Int)) : (xs.push y)[i.toNat]? = some y := by
  subst h
  simp
/-- the end of a turn: the iterator stands, the ledger is one of the next J -/
def TurnEndJ (h₀ : Heap) (L : Addr) (J : (Str → Option Value) → List (Addr × Obj) → Prop) (I : Addr) (it : Obj) (s₁ s₂ : Shared) : Prop :=
  ∃ h' tk m' news', s₂ = { s₁ with heap := h', toks := tk } ∧ Fr h₀ L h' m' ∧ News h₀ L h' ((I, it) :: news') ∧ (∀ p ∈ news', p.1 ≠ I) ∧ J m' news'
def TurnJ (h₀ : Heap) (L : Addr) (J : (Str → Option Value) → List (Addr × Obj) → Prop) (I : Addr) (it : Obj) (s₁ : Shared) (Q : Flow → Shared → Prop) (f : Flow) (s₂ : Shared) : Prop :=
  match f with
  | .ret v => Q (.ret v) s₂
  | .brk => Q .next s₂
  | _ => TurnEndJ h₀ L J I it s₁ s₂
theorem TurnEndJ.intro {h₀ : Heap} {L : Addr} {J : (Str → Option Value) → List (Addr × Obj) → Prop} {I : Addr} {it : Obj} {s₁ : Shared} {h' : Heap} {tk : Nat} {m' : Str → Option Value} (news' : List (Addr × Obj)) (F : Fr h₀ L h' m') (N : News h₀ L h' ((I, it) :: news')) (ho : ∀ p ∈ news', p.1 ≠ I) (j : J m' news') :
    TurnEndJ h₀ L J I it s₁ { s₁ with heap := h', toks := tk } := ⟨h', tk, m', news', rfl, F, N, ho, j⟩
section
variable {prog : Program} {w : World} {A : Around} {E : Value → Shared → Prop} {s : Shared} {env : Env} {h₀ : Heap} {x : Str} {body : List Stmt} {Q : Flow → Shared → Prop}
theorem iter_listJ {l : Addr} {items : Array Value} {nl : Nat} {m₀ : Str → Option Value} {news : List (Addr × Obj)} (J : Nat → (Str → Option Value) → List (Addr × Obj) → Prop)
    (hh : A.handled = none) (F : Fr h₀ env.locals s.heap m₀) (N : News h₀ env.locals s.heap news) (hl : (l, W.listOf items nl) ∈ news) (hj : J 0 m₀ news) (hJ : ∀ i m₁ news₁, J i m₁ news₁ → (l, W.listOf items nl) ∈ news₁)
    (turn : ∀ i v m₁ news₁ I it h tk, items[i]? = some v → J i m₁ news₁ → (∀ p ∈ news, @LT.lt Nat _ p.1 I) → (∀ p ∈ news₁, p.1 ≠ I) → Fr h₀ env.locals h (fun y => if y = x then some v else m₁ y) → News h₀ env.locals h ((I, it) :: news₁) →
      wpAny (model prog w) A (execs body env) (TurnJ h₀ env.locals (J (i + 1)) I it { s with heap := h, toks := tk } Q) E { s with heap := h, toks := tk })
    (done : ∀ m₁ news₁ h tk, J items.size m₁ news₁ → Fr h₀ env.locals h m₁ → News h₀ env.locals h news₁ → Q .next { s with heap := h, toks := tk }) :
    wpAny (model prog w) A (pyIter (.ref l)) (fun it s₂ => LoopAtV prog w A h₀ env x body Q E it s₂) E s := by
  have hls : s.heap.IsList l items := ⟨_, (N _ hl).1, rfl, nl, rfl⟩
  have hlt : l < s.heap.objs.size := Heap.lt_size (N _ hl).1
  have hne : l ≠ s.heap.objs.size := Nat.ne_of_lt hlt
  refine wpAny_pyIter_list hls ?_
  have Wk := Walks.list (prog := prog) (w := w) hh s.heap.objs.size l hne items
  refine ⟨_, _, _, items.size, _, _, m₀, news, J, rfl, Wk, ?_, ?_, ?_, ⟨⟨_, Heap.get?_push_size _ rfl, rfl, rfl⟩, hls.at fun o e => Heap.get?_push_of_some _ e⟩, F.push _, (fun p hp => ⟨Heap.get?_push_of_some _ (N p hp).1, (N p hp).2⟩), hj, ?_, ?_⟩
  · intro hm
    rcases List.mem_cons.mp hm with e | hm
    · exact absurd F.ns.lt (e ▸ Nat.lt_irrefl _)
    · exact (N _ hl).2.1 (List.mem_singleton.mp hm).symm
  · intro b hb
    rw [List.mem_singleton.mp hb]
    exact next_is_new F
  · intro p hp hI
    exact absurd (Heap.lt_size (N p hp).1) ((List.mem_singleton.mp hI) ▸ Nat.lt_irrefl _)
  · rintro i v m₁ news₁ s₁ own ⟨hh', tk', rfl⟩ hin hP hJi hoff hown hget hall hst F₁ N₁
    obtain ⟨⟨io, hio, _⟩, ⟨lo, hlo, hc, nl', hd⟩⟩ := id hst
    have hmI := hall s.heap.objs.size (.head _) (next_is_new F) _ hio
    have hml := hall l (.tail _ (.head _)) (N _ hl).2.2 _ hlo
    have hio' : (s.heap.objs.size, io) ∈ own := hmI
    have N₂ : News h₀ env.locals hh' ((s.heap.objs.size, io) :: news₁) := fun p hp => by
      rcases List.mem_cons.mp hp with rfl | hp
      · exact N₁ _ (List.mem_append_left _ hmI)
      · exact N₁ _ (List.mem_append_right _ hp)
    have hli : hh'.get? l = some (W.listOf items nl) := (N₂ _ (.tail _ (hJ _ _ _ hJi))).1
    have hv : items[i]? = some v := by simpa using hP
    refine wpAny_mono (turn i v m₁ news₁ s.heap.objs.size io hh' tk' hv hJi (fun p hp => Heap.lt_size (N p hp).1) (fun p hp e => hoff p hp (List.mem_singleton.mpr e)) F₁ N₂) (fun f s₂ p => ?_) fun _ _ e => e
    have fin : TurnEndJ h₀ env.locals (J (i + 1)) s.heap.objs.size io { s with heap := hh', toks := tk' } s₂ → LoopStepU h₀ env.locals [s.heap.objs.size] own (J (i + 1)) { s with heap := hh', toks := tk' } .next s₂ := by
      rintro ⟨h', tk, m', news', e, F', N', ho, r⟩
      refine ⟨rfl, h', tk, m', news', e, F', fun p hp => ?_, fun p hp hI => ho p hp (List.mem_singleton.mp hI), r⟩
      rcases List.mem_append.mp hp with hp | hp
      · have h2 : hh'.get? p.1 = some p.2 := hget p hp
        rcases List.mem_cons.mp (hown p hp) with h1 | h1
        · have h3 : p = (s.heap.objs.size, io) := by
            rw [h1, hio] at h2
            exact Prod.ext h1 (Option.some.inj h2).symm
          rw [h3]; exact N' _ (List.mem_cons_self ..)
        · have h1 := List.mem_singleton.mp h1
          have h3 : p = (l, W.listOf items nl) := by
            rw [h1, hli] at h2
            exact Prod.ext h1 (Option.some.inj h2).symm
          rw [h3]; exact N' _ (List.mem_cons_of_mem _ (hJ _ _ _ r))
      · exact N' _ (List.mem_cons_of_mem _ hp)
    cases f with
    | ret v => exact .ret p
    | brk => exact .brk p
    | next => exact .next (fin p)
    | cont => exact .cont (fin p)
  · rintro h' tk m' news' F' N' _ hJ
    exact done m' news' h' tk hJ F' N'
/-- a loop over an empty list does nothing -/
theorem iter_nil {l : Addr} {nl : Nat} {m₀ : Str → Option Value} {news : List (Addr × Obj)} (hh : A.handled = none) (F : Fr h₀ env.locals s.heap m₀) (N : News h₀ env.locals s.heap news) (hl : (l, W.listOf #[] nl) ∈ news)
    (done : ∀ h tk, Fr h₀ env.locals h m₀ → News h₀ env.locals h news → Q .next { s with heap := h, toks := tk }) :
    wpAny (model prog w) A (pyIter (.ref l)) (fun it s₂ => LoopAtV prog w A h₀ env x body Q E it s₂) E s :=
  iter_listJ (fun _ m n => m = m₀ ∧ n = news) hh F N hl ⟨rfl, rfl⟩ (fun _ _ _ h => h.2 ▸ hl) (fun i v _ _ _ _ _ _ h => by simp at h) (fun m₁ n₁ h tk j F' N' => done h tk (j.1 ▸ F') (j.2 ▸ N'))
theorem iter_rangeJ {r : Addr} {a₀ b₀ : Int} {t₀ u₀ v₀ : Tok} {n : Nat} {m₀ : Str → Option Value} {news : List (Addr × Obj)} (J : Nat → (Str → Option Value) → List (Addr × Obj) → Prop)
    (hh : A.handled = none) (hr : IsRange s.heap r a₀ b₀ 1 t₀ u₀ v₀) (hsmall : Builtin.Range.small a₀ b₀ 1 = true) (hn : Builtin.Range.rangeSize a₀ b₀ 1 = (n : Int)) (F : Fr h₀ env.locals s.heap m₀) (N : News h₀ env.locals s.heap news) (hj : J 0 m₀ news)
    (turn : ∀ i t m₁ news₁ I it h tk, i < n → J i m₁ news₁ → (∀ p ∈ news, @LT.lt Nat _ p.1 I) → (∀ p ∈ news₁, p.1 ≠ I) → Fr h₀ env.locals h (fun y => if y = x then some (.int (a₀ + (i : Int)) t) else m₁ y) → News h₀ env.locals h ((I, it) :: news₁) →
      wpAny (model prog w) A (execs body env) (TurnJ h₀ env.locals (J (i + 1)) I it { s with heap := h, toks := tk } Q) E { s with heap := h, toks := tk })
    (done : ∀ m₁ news₁ h tk, J n m₁ news₁ → Fr h₀ env.locals h m₁ → News h₀ env.locals h news₁ → Q .next { s with heap := h, toks := tk }) :
    wpAny (model prog w) A (pyIter (.ref r)) (fun it s₂ => LoopAtV prog w A h₀ env x body Q E it s₂) E s := by
  refine wpAny_pyIter_range hr hsmall ?_
  have Wk : Walks prog w A s.heap.objs.size [s.heap.objs.size] [s.heap.objs.size] n (fun i v => i < n ∧ ∃ t, v = .int (a₀ + i * 1) t)
      (fun i h => IsRangeIter h s.heap.objs.size (a₀ + (i : Nat) * 1) ((n : Int) - (i : Nat)) 1) := (Walks.range hh _ a₀ 1 n).bound
  have hnew := next_is_new F
  refine ⟨_, _, _, n, _, _, m₀, news, J, rfl, Wk, ?_, ?_, ?_, (by show IsRangeIter _ _ _ _ _; rw [hn]; simpa using Heap.get?_push_size _ rfl), F.push _, (fun p hp => ⟨Heap.get?_push_of_some _ (N p hp).1, (N p hp).2⟩), hj, ?_, ?_⟩
  · intro hm
    exact absurd F.ns.lt ((List.mem_singleton.mp hm) ▸ Nat.lt_irrefl _)
  · intro b hb
    rw [List.mem_singleton.mp hb]
    exact hnew
  · intro p hp hI
    exact absurd (Heap.lt_size (N p hp).1) ((List.mem_singleton.mp hI) ▸ Nat.lt_irrefl _)
  · rintro i v m₁ news₁ s₁ own ⟨hh', tk', rfl⟩ hin ⟨_, t, rfl⟩ hJi hoff hown hget hall hst F₁ N₁
    have hst' : hh'.get? s.heap.objs.size = some (itR (a₀ + ((i + 1 : Nat) : Int)) ((n : Int) - ((i + 1 : Nat) : Int))) := by
      have q : IsRangeIter hh' s.heap.objs.size (a₀ + ((i + 1 : Nat) : Int) * 1) ((n : Int) - ((i + 1 : Nat) : Int)) 1 := hst
      rw [Int.mul_one] at q
      exact q
    have hmem := hall s.heap.objs.size (List.mem_singleton.mpr rfl) hnew _ hst'
    have e1 : a₀ + (i : Int) * 1 = a₀ + (i : Int) := by rw [Int.mul_one]
    rw [e1] at F₁
    have N₂ : News h₀ env.locals hh' ((s.heap.objs.size, itR (a₀ + ((i + 1 : Nat) : Int)) ((n : Int) - ((i + 1 : Nat) : Int))) :: news₁) := fun p hp => by
      rcases List.mem_cons.mp hp with rfl | hp
      · exact N₁ _ (List.mem_append_left _ hmem)
      · exact N₁ _ (List.mem_append_right _ hp)
    refine wpAny_mono (turn i t m₁ news₁ _ _ hh' tk' hin hJi (fun p hp => Heap.lt_size (N p hp).1) (fun p hp e => hoff p hp (List.mem_singleton.mpr e)) F₁ N₂) (fun f s₂ p => ?_) fun _ _ e => e
    have fin : TurnEndJ h₀ env.locals (J (i + 1)) s.heap.objs.size (itR (a₀ + ((i + 1 : Nat) : Int)) ((n : Int) - ((i + 1 : Nat) : Int))) { s with heap := hh', toks := tk' } s₂ → LoopStepU h₀ env.locals [s.heap.objs.size] own (J (i + 1)) { s with heap := hh', toks := tk' } .next s₂ := by
      rintro ⟨h', tk, m', news', e, F', N', ho, r⟩
      refine ⟨rfl, h', tk, m', news', e, F', fun p hp => ?_, fun p hp hI => ho p hp (List.mem_singleton.mp hI), r⟩
      rcases List.mem_append.mp hp with hp | hp
      · have h1 : p.1 = s.heap.objs.size := List.mem_singleton.mp (hown p hp)
        have h2 : hh'.get? p.1 = some p.2 := hget p hp
        have h3 : p = (s.heap.objs.size, itR (a₀ + ((i + 1 : Nat) : Int)) ((n : Int) - ((i + 1 : Nat) : Int))) := by
          rw [h1, hst'] at h2
          exact Prod.ext h1 (Option.some.inj h2).symm
        rw [h3]; exact N' _ (List.mem_cons_self ..)
      · exact N' _ (List.mem_cons_of_mem _ hp)
    cases f with
    | ret v => exact .ret p
    | brk => exact .brk p
    | next => exact .next (fin p)
    | cont => exact .cont (fin p)
  · rintro h' tk m' news' F' N' _ hJ
    exact done m' news' h' tk hJ F' N'
end
end
section
set_option maxHeartbeats 8000000
def forB : Stmt → List Stmt
  | .For _ _ b _ _ => b
  | _ => []
noncomputable abbrev z0 : Stmt := by
  refine' (fun (l : Stmt) (_ : l = nthS (forB (nthS b26 3)) 0) => l) ?l ?h
  case h => conv => rhs; whnf
noncomputable abbrev z1 : Stmt := by
  refine' (fun (l : Stmt) (_ : l = nthS (forB (nthS b26 3)) 1) => l) ?l ?h
  case h => conv => rhs; whnf
noncomputable abbrev z2 : Stmt := by
  refine' (fun (l : Stmt) (_ : l = nthS (forB (nthS b26 3)) 2) => l) ?l ?h
  case h => conv => rhs; whnf
noncomputable abbrev z3 : Stmt := by
  refine' (fun (l : Stmt) (_ : l = nthS (forB (nthS b26 3)) 3) => l) ?l ?h
  case h => conv => rhs; whnf
noncomputable abbrev z4 : Stmt := by
  refine' (fun (l : Stmt) (_ : l = nthS (forB (nthS b26 3)) 4) => l) ?l ?h
  case h => conv => rhs; whnf
noncomputable abbrev z5 : Stmt := by
  refine' (fun (l : Stmt) (_ : l = nthS (forB (nthS b26 3)) 5) => l) ?l ?h
  case h => conv => rhs; whnf
noncomputable abbrev z6 : Stmt := by
  refine' (fun (l : Stmt) (_ : l = nthS (forB (nthS b26 3)) 6) => l) ?l ?h
  case h => conv => rhs; whnf
noncomputable abbrev z7 : Stmt := by
  refine' (fun (l : Stmt) (_ : l = nthS (forB (nthS b26 3)) 7) => l) ?l ?h
  case h => conv => rhs; whnf
noncomputable abbrev z8 : Stmt := by
  refine' (fun (l : Stmt) (_ : l = nthS (forB (nthS b26 3)) 8) => l) ?l ?h
  case h => conv => rhs; whnf
noncomputable abbrev z9 : Stmt := by
  refine' (fun (l : Stmt) (_ : l = nthS (forB (nthS b26 3)) 9) => l) ?l ?h
  case h => conv => rhs; whnf
noncomputable abbrev z10 : Stmt := by
  refine' (fun (l : Stmt) (_ : l = nthS (forB (nthS b26 3)) 10) => l) ?l ?h
  case h => conv => rhs; whnf
/-- the body of the loop of _law_rows -/
noncomputable abbrev zB : List Stmt := [z0, z1, z2, z3, z4, z5, z6, z7, z8, z9, z10]
theorem map5 {m : Str → Option Value} {a1 a2 a3 a4 a5 : Value} (h1 : m "source" = some a1) (h2 : m "tree" = some a2) (h3 : m "top" = some a3) (h4 : m "found" = some a4) (h5 : m "node" = some a5) :
    m = fun y => if y = Str.ofString "source" then some a1 else if y = Str.ofString "tree" then some a2 else if y = Str.ofString "top" then some a3 else if y = Str.ofString "found" then some a4 else if y = Str.ofString "node" then some a5 else m y := by
  funext y
  split
  · subst_vars; exact h1
  · split
    · subst_vars; exact h2
    · split
      · subst_vars; exact h3
      · split
        · subst_vars; exact h4
        · split
          · subst_vars; exact h5
          · rfl
theorem map4 {m : Str → Option Value} {a1 a2 a3 a4 : Value} (h1 : m "source" = some a1) (h2 : m "tree" = some a2) (h3 : m "top" = some a3) (h4 : m "found" = some a4) :
    m = fun y => if y = Str.ofString "source" then some a1 else if y = Str.ofString "tree" then some a2 else if y = Str.ofString "top" then some a3 else if y = Str.ofString "found" then some a4 else m y := by
  funext y
  split
  · subst_vars; exact h1
  · split
    · subst_vars; exact h2
    · split
      · subst_vars; exact h3
      · split
        · subst_vars; exact h4
        · rfl
/-- what a found tuple says of the row that it names -/
abbrev tupO (l : List Value) : Obj := { cls := .type "tuple", data := .seq l.toArray }
def Good (P : Params) (led : List (Addr × Obj)) (xs : Array Value) (v : Value) : Prop :=
  ∃ (t x dx c1 c2 c3 : Addr) (i : Int) (ti a1 a2 a3 b1 b2 b3 t1 t2 t3 t4 t5 t6 t7 t8 t9 : Tok) (nm lc ur : Str) (kd vl pr : Value),
    v = .ref t ∧ (t, tupO [.int i ti, .str nm a1, .str lc a2, .str ur a3]) ∈ led ∧ 0 ≤ i ∧ xs[i.toNat]? = some (.ref x) ∧ (x, instObj 176 dx) ∈ led ∧
      (dx, rowD P t1 t2 t3 t4 t5 t6 t7 t8 t9 kd (.str nm b1) (.str ur b2) (.str lc b3) vl pr c1 c2 c3) ∈ led ∧ PyData.strOk nm = true ∧ PyData.strOk lc = true ∧ PyData.strOk ur = true
theorem Good.mono {P : Params} {l l' : List (Addr × Obj)} {xs xs' : Array Value} {v : Value} (g : Good P l xs v) (h : ∀ q ∈ l, (∀ ys k, q.2 ≠ W.listOf ys k) → q ∈ l') (hx : ∀ (i : Nat) (w : Value), xs[i]? = some w → xs'[i]? = some w) : Good P l' xs' v := by
  obtain ⟨t, x, dx, c1, c2, c3, i, ti, a1, a2, a3, b1, b2, b3, t1, t2, t3, t4, t5, t6, t7, t8, t9, nm, lc, ur, kd, vl, pr, e, h1, h2, h3, h4, h5, ho⟩ := g
  refine ⟨t, x, dx, c1, c2, c3, i, ti, a1, a2, a3, b1, b2, b3, t1, t2, t3, t4, t5, t6, t7, t8, t9, nm, lc, ur, kd, vl, pr, e, h _ h1 (fun ys k q => ?_), h2, hx _ _ h3, h _ h4 (fun ys k q => inst_ne_list q), h _ h5 (fun ys k q => dict_ne_list q), ho⟩
  have := congrArg Obj.cls q
  injection this with e
  exact absurd e (by decide)
theorem spl_here {α : Type} {t : List α} : t = [] ++ t := rfl
theorem spl_cons {α : Type} {e : α} {l D t : List α} (h : l = D ++ t) : e :: l = (e :: D) ++ t := by rw [h]; rfl
def LoIs (_n : Nat) : Prop := True
theorem all2 {p : Value → Prop} {a b : Value} (ha : p a) (hb : p b) : ∀ v ∈ #[a, b], p v := by
  intro v hv; simp at hv; rcases hv with rfl | rfl <;> assumption
theorem all3 {p : Value → Prop} {a b c : Value} (ha : p a) (hb : p b) (hc : p c) : ∀ v ∈ #[a, b, c], p v := by
  intro v hv; simp at hv; rcases hv with rfl | rfl | rfl <;> assumption
theorem all4 {p : Value → Prop} {a b c d : Value} (ha : p a) (hb : p b) (hc : p c) (hd : p d) : ∀ v ∈ #[a, b, c, d], p v := by
  intro v hv; simp at hv; rcases hv with rfl | rfl | rfl | rfl <;> assumption
section
variable {prog : Program} {w : World} {E : Value → Shared → Prop} {s : Shared} {h₀ : Heap} {L : Addr} {Q : Value → Shared → Prop}
theorem item_tup {value slice : PySem.Expr} {t : Addr} {l : List Value} {k : Int} {u : Tok} {j : Nat} {x : Value} {news : List (Addr × Obj)} (N : News h₀ L s.heap news) (hm : (t, tupO l) ∈ news)
    (hlo : -(2 ^ 63) ≤ k) (hhi : k < 2 ^ 63) (hj : seqIndex? k l.length = some j) (hx : l[j]? = some x) {A : Around} (h : Q x s)
    (hs : subscripted slice false (.ref t) (.int k u) = operate [.ref t, .int k u] (getItem (.ref t) (.int k u)) := by with_unfolding_all rfl) :
    wpAny (model prog w) A (subscriptTail value slice (.ref t) (.int k u)) Q E s := item_tupleT ⟨_, (N _ hm).1, rfl, _, rfl⟩ hlo hhi hj hx h hs
end
end
section
set_option maxHeartbeats 1500000
structure BC where
  (sA tR tD rA fA : Addr) (t0 : Tok) (nd : Nat)
structure EC where
  (x dx c1 c2 c3 : Addr) (tk tv q1 q2 q3 q4 q5 q6 q7 q8 q9 : Tok) (iv : Int) (nm ur lc vl pr : Value)
def pre1 (P : Params) (b : BC) (e : EC) (sx sy : Int) (tsx tsy : Tok) (ns : Nat) (xs : Array Value) (k : Nat) (fs : Array Value) (kf : Nat) (v1 v2 v3 : Array Value) (k1 k2 k3 : Nat) : List (Addr × Obj) :=
  [(b.sA, W.listOf #[.int sx tsx, .int sy tsy] ns), (b.tR, instObj 365 b.tD), (b.tD, dictOf [⟨PyData.keyHash P "rows", .str "rows" b.t0, .ref b.rA⟩] b.nd), (b.rA, W.listOf xs k), (b.fA, W.listOf fs kf), (e.x, instObj 176 e.dx), (e.dx, rowD P e.q1 e.q2 e.q3 e.q4 e.q5 e.q6 e.q7 e.q8 e.q9 (.str "element" e.tk) e.nm e.ur e.lc e.vl e.pr e.c1 e.c2 e.c3), (e.c1, W.listOf v1 k1), (e.c2, W.listOf v2 k2), (e.c3, W.listOf v3 k3)]
/-- an entry that is no list -/
def NoL (q : Addr × Obj) : Prop := ∀ ys k, q.2 ≠ W.listOf ys k
theorem pre1_nl {P : Params} {b : BC} {e : EC} {sx sy sx' sy' : Int} {tsx tsy tsx' tsy' : Tok} {ns ns' k k' kf kf' k1 k2 k3 k1' k2' k3' : Nat} {xs xs' fs fs' v1 v2 v3 v1' v2' v3' : Array Value} :
    ∀ q ∈ pre1 P b e sx sy tsx tsy ns xs k fs kf v1 v2 v3 k1 k2 k3, NoL q → q ∈ pre1 P b e sx' sy' tsx' tsy' ns' xs' k' fs' kf' v1' v2' v3' k1' k2' k3' := by
  intro q hq hn
  simp only [pre1, List.mem_cons, List.not_mem_nil, or_false] at hq ⊢
  rcases hq with h | h | h | h | h | h | h | h | h | h
  · exact absurd (congrArg Prod.snd h) (hn _ _)
  · exact .inr (.inl h)
  · exact .inr (.inr (.inl h))
  · exact absurd (congrArg Prod.snd h) (hn _ _)
  · exact absurd (congrArg Prod.snd h) (hn _ _)
  · exact .inr (.inr (.inr (.inr (.inr (.inl h)))))
  · exact .inr (.inr (.inr (.inr (.inr (.inr (.inl h))))))
  · exact absurd (congrArg Prod.snd h) (hn _ _)
  · exact absurd (congrArg Prod.snd h) (hn _ _)
  · exact absurd (congrArg Prod.snd h) (hn _ _)
theorem offD {l : List (Addr × Obj)} {a lo : Nat} (h : ∀ q ∈ l, @LT.lt Nat _ lo q.1) (hl : a ≤ lo) : ∀ q ∈ l, q.1 ≠ a := fun q hq e => by
  have h1 : @LT.lt Nat _ lo q.1 := h q hq
  have h2 : @Eq Nat q.1 a := e
  omega
theorem offApp {l l' : List (Addr × Obj)} {a : Addr} (h : ∀ q ∈ l, q.1 ≠ a) (h' : ∀ q ∈ l', q.1 ≠ a) : ∀ q ∈ l ++ l', q.1 ≠ a := fun q hq => (List.mem_append.mp hq).elim (h q) (h' q)
theorem allApp {l l' : List (Addr × Obj)} {p : Addr × Obj → Prop} (h : ∀ q ∈ l, p q) (h' : ∀ q ∈ l', p q) : ∀ q ∈ l ++ l', p q := fun q hq => (List.mem_append.mp hq).elim (h q) (h' q)
theorem goods_push {P : Params} {l l' : List (Addr × Obj)} {xs fs : Array Value} {y u : Value} (g : ∀ v ∈ fs, Good P l xs v) (h : ∀ q ∈ l, NoL q → q ∈ l') (gu : Good P l' (xs.push y) u) : ∀ v ∈ fs.push u, Good P l' (xs.push y) v := fun v hv => by
  rcases Array.mem_push.mp hv with hv | rfl
  · exact (g v hv).mono h fun i w e => push_get e
  · exact gu
def NS (P : Params) (h₀ : Heap) (L : Addr) (h : Heap) (m : Str → Option Value) (iA : Addr) (it : Obj) (b : BC) (jv : Int) (jt : Tok) (e : EC) (nr0 gr0 : List (Addr × Obj)) (xs0 : Array Value) (n : Nat) (v1 v2 v3 : Array Value) : Prop :=
  ∃ (sx sy : Int) (tsx tsy : Tok) (ns : Nat) (xs : Array Value) (k : Nat) (fs : Array Value) (kf k1 k2 k3 : Nat) (D : List (Addr × Obj)),
    Fr h₀ L h m ∧ m "source" = some (.ref b.sA) ∧ m "tree" = some (.ref b.tR) ∧ m "top" = some (.int jv jt) ∧ m "found" = some (.ref b.fA) ∧ m "node" = some (.int e.iv e.tv) ∧
    News h₀ L h ((iA, it) :: (pre1 P b e sx sy tsx tsy ns xs k fs kf v1 v2 v3 k1 k2 k3 ++ (D ++ nr0))) ∧
    (∀ q ∈ D, @LT.lt Nat _ iA q.1 ∧ q.1 ≠ e.c1 ∧ q.1 ≠ e.c2 ∧ q.1 ≠ e.c3) ∧ 0 ≤ sx ∧ 0 ≤ sy ∧ sy < 2147483648 ∧ xs.size = n ∧ fs.size = n ∧ 0 ≤ e.iv ∧ xs[e.iv.toNat]? = some (.ref e.x) ∧
    (∀ v ∈ fs, Good P (pre1 P b e sx sy tsx tsy ns xs k fs kf v1 v2 v3 k1 k2 k3 ++ (D ++ gr0)) xs v) ∧ (∀ (i : Nat) (w : Value), xs0[i]? = some w → xs[i]? = some w)
structure NO (iA : Addr) (b : BC) (e : EC) (nr0 : List (Addr × Obj)) : Prop where
  o1 : @LT.lt Nat _ b.sA b.tD
  o2 : @LT.lt Nat _ b.tD b.tR
  o3 : @LT.lt Nat _ b.tR b.rA
  o4 : @LT.lt Nat _ b.rA b.fA
  o5 : @LT.lt Nat _ b.fA iA
  o6 : @LT.lt Nat _ iA e.dx
  o7 : @LT.lt Nat _ e.dx e.x
  o8 : @LT.lt Nat _ e.x e.c1
  o9 : @LT.lt Nat _ e.c1 e.c2
  o10 : @LT.lt Nat _ e.c2 e.c3
  f1 : ∀ q ∈ nr0, q.1 ≠ b.sA
  f2 : ∀ q ∈ nr0, q.1 ≠ b.rA
  f3 : ∀ q ∈ nr0, q.1 ≠ b.fA
  f4 : ∀ q ∈ nr0, q.1 ≠ e.c1
  f5 : ∀ q ∈ nr0, q.1 ≠ e.c2
  f6 : ∀ q ∈ nr0, q.1 ≠ e.c3
/-- the state behind a group of statements, out of what the group says -/
theorem NS.next {P : Params} {h₀ : Heap} {L : Addr} {h' : Heap} {m' : Str → Option Value} {iA : Addr} {it : Obj} {b : BC} {jv : Int} {jt : Tok} {e : EC} {nr0 gr0 : List (Addr × Obj)} {xs0 : Array Value} {n : Nat}
    {sx sy sx' sy' : Int} {tsx tsy tsx' tsy' : Tok} {ns ns' k k' kf kf' k1 k2 k3 k1' k2' k3' : Nat} {xs fs v1 v2 v3 v1' v2' v3' : Array Value} {u y : Addr} {D D0 : List (Addr × Obj)} (O : NO iA b e nr0)
    (F : Fr h₀ L h' m') (e1 : m' "source" = some (.ref b.sA)) (e2 : m' "tree" = some (.ref b.tR)) (e3 : m' "top" = some (.int jv jt)) (e4 : m' "found" = some (.ref b.fA)) (e5 : m' "node" = some (.int e.iv e.tv))
    (N : News h₀ L h' (D ++ ((iA, it) :: (pre1 P b e sx' sy' tsx' tsy' ns' (xs.push (.ref y)) k' (fs.push (.ref u)) kf' v1' v2' v3' k1' k2' k3' ++ (D0 ++ nr0)))))
    (hD : ∀ q ∈ D, @LT.lt Nat _ e.c3 q.1) (hD0 : ∀ q ∈ D0, @LT.lt Nat _ iA q.1 ∧ q.1 ≠ e.c1 ∧ q.1 ≠ e.c2 ∧ q.1 ≠ e.c3) (hx : 0 ≤ sx') (hy : 0 ≤ sy') (hy2 : sy' < 2147483648) (hn : xs.size = n) (hn2 : fs.size = n) (h0 : 0 ≤ e.iv) (hv : xs[e.iv.toNat]? = some (.ref e.x))
    (gd : ∀ v ∈ fs, Good P (pre1 P b e sx sy tsx tsy ns xs k fs kf v1 v2 v3 k1 k2 k3 ++ (D0 ++ gr0)) xs v) (hxs : ∀ (i : Nat) (w : Value), xs0[i]? = some w → xs[i]? = some w)
    (gu : Good P D (xs.push (.ref y)) (.ref u)) :
    NS P h₀ L h' m' iA it b jv jt e nr0 gr0 xs0 (n + 1) v1' v2' v3' := by
  have ⟨o1, o2, o3, o4, o5, o6, o7, o8, o9, o10, _, _, _, _, _, _⟩ := O
  refine ⟨sx', sy', tsx', tsy', ns', xs.push (.ref y), k', fs.push (.ref u), kf', k1', k2', k3', D ++ D0, F, e1, e2, e3, e4, e5, fun q hq => N q ?_, allApp (fun q hq => ?_) hD0, hx, hy, hy2, ?_, ?_, h0, push_get hv, goods_push gd (fun q hq hl => ?_) (gu.mono (fun q hq hl => ?_) fun _ _ e => e), fun i w e => push_get (hxs i w e)⟩
  · simp only [List.mem_cons, List.mem_append] at hq ⊢
    rcases hq with h | h | (h | h) | h
    · exact .inr (.inl h)
    · exact .inr (.inr (.inl h))
    · exact .inl h
    · exact .inr (.inr (.inr (.inl h)))
    · exact .inr (.inr (.inr (.inr h)))
  · have h1 : @LT.lt Nat _ e.c3 q.1 := hD q hq
    refine ⟨?_, fun h => ?_, fun h => ?_, fun h => ?_⟩
    · omega
    · have : @Eq Nat q.1 e.c1 := h
      omega
    · have : @Eq Nat q.1 e.c2 := h
      omega
    · have : @Eq Nat q.1 e.c3 := h
      omega
  · rw [Array.size_push, hn]
  · rw [Array.size_push, hn2]
  · rcases List.mem_append.mp hq with hq | hq
    · exact List.mem_append.mpr (.inl (pre1_nl q hq hl))
    · refine List.mem_append.mpr (.inr ?_)
      rw [List.append_assoc]
      exact List.mem_append.mpr (.inr hq)
  · refine List.mem_append.mpr (.inr ?_)
    rw [List.append_assoc]
    exact List.mem_append.mpr (.inl hq)
end
section
set_option maxHeartbeats 1500000
noncomputable abbrev y0 : Stmt := by
  refine' (fun (l : Stmt) (_ : l = nthS b29 0) => l) ?l ?h
  case h => conv => rhs; whnf
noncomputable abbrev y1 : Stmt := by
  refine' (fun (l : Stmt) (_ : l = nthS b29 1) => l) ?l ?h
  case h => conv => rhs; whnf
noncomputable abbrev y2 : Stmt := by
  refine' (fun (l : Stmt) (_ : l = nthS b29 2) => l) ?l ?h
  case h => conv => rhs; whnf
noncomputable abbrev y3 : Stmt := by
  refine' (fun (l : Stmt) (_ : l = nthS b29 3) => l) ?l ?h
  case h => conv => rhs; whnf
noncomputable abbrev y4 : Stmt := by
  refine' (fun (l : Stmt) (_ : l = nthS b29 4) => l) ?l ?h
  case h => conv => rhs; whnf
noncomputable abbrev y5 : Stmt := by
  refine' (fun (l : Stmt) (_ : l = nthS b29 5) => l) ?l ?h
  case h => conv => rhs; whnf
noncomputable abbrev y6 : Stmt := by
  refine' (fun (l : Stmt) (_ : l = nthS b29 6) => l) ?l ?h
  case h => conv => rhs; whnf
noncomputable abbrev y7 : Stmt := by
  refine' (fun (l : Stmt) (_ : l = nthS b29 7) => l) ?l ?h
  case h => conv => rhs; whnf
noncomputable abbrev y8 : Stmt := by
  refine' (fun (l : Stmt) (_ : l = nthS b29 8) => l) ?l ?h
  case h => conv => rhs; whnf
noncomputable abbrev y9 : Stmt := by
  refine' (fun (l : Stmt) (_ : l = nthS b29 9) => l) ?l ?h
  case h => conv => rhs; whnf
noncomputable abbrev y10 : Stmt := by
  refine' (fun (l : Stmt) (_ : l = nthS b29 10) => l) ?l ?h
  case h => conv => rhs; whnf
noncomputable abbrev y11 : Stmt := by
  refine' (fun (l : Stmt) (_ : l = nthS b29 11) => l) ?l ?h
  case h => conv => rhs; whnf
noncomputable abbrev lB0 : Stmt := by
  refine' (fun (l : Stmt) (_ : l = nthS (forB (nthS b29 2)) 0) => l) ?l ?h
  case h => conv => rhs; whnf
/-- a cell that holds a value -/
abbrev cellHas (o : Obj) (v : Option Value) : Prop := o.data = .cell v
theorem mapT {m : Str → Option Value} {a1 : Value} (h1 : m "tree" = some a1) : m = fun y => if y = Str.ofString "tree" then some a1 else m y := by
  funext y
  split
  · subst_vars; exact h1
  · rfl
theorem mapH {m : Str → Option Value} {a1 a2 : Value} (h1 : m "tree" = some a1) (h2 : m "here" = some a2) : m = fun y => if y = Str.ofString "tree" then some a1 else if y = Str.ofString "here" then some a2 else m y := by
  funext y
  split
  · subst_vars; exact h1
  · split
    · subst_vars; exact h2
    · rfl
theorem mapD {m : Str → Option Value} {a1 a2 a3 a4 a5 : Value} (h1 : m "tree" = some a1) (h2 : m "here" = some a2) (h3 : m "some" = some a3) (h4 : m "nodes" = some a4) (h5 : m "due" = some a5) :
    m = fun y => if y = Str.ofString "tree" then some a1 else if y = Str.ofString "here" then some a2 else if y = Str.ofString "some" then some a3 else if y = Str.ofString "nodes" then some a4 else if y = Str.ofString "due" then some a5 else m y := by
  funext y
  split
  · subst_vars; exact h1
  · split
    · subst_vars; exact h2
    · split
      · subst_vars; exact h3
      · split
        · subst_vars; exact h4
        · split
          · subst_vars; exact h5
          · rfl
theorem mapE {m : Str → Option Value} {a1 a3 a4 a5 : Value} (h1 : m "tree" = some a1) (h3 : m "some" = some a3) (h4 : m "nodes" = some a4) (h5 : m "due" = some a5) :
    m = fun y => if y = Str.ofString "tree" then some a1 else if y = Str.ofString "some" then some a3 else if y = Str.ofString "nodes" then some a4 else if y = Str.ofString "due" then some a5 else m y := by
  funext y
  split
  · subst_vars; exact h1
  · split
    · subst_vars; exact h3
    · split
      · subst_vars; exact h4
      · split
        · subst_vars; exact h5
        · rfl
end
section
set_option maxHeartbeats 1500000
/-- a fact laid by, so that no line of the walk takes it up -/
def Keep (p : Prop) : Prop := p
/-- what is good, its number told -/
def GoodI (P : Params) (led : List (Addr × Obj)) (xs : Array Value) (i : Int) (v : Value) : Prop :=
  ∃ (t x dx c1 c2 c3 : Addr) (ti a1 a2 a3 b1 b2 b3 t1 t2 t3 t4 t5 t6 t7 t8 t9 : Tok) (nm lc ur : Str) (kd vl pr : Value),
    v = .ref t ∧ (t, tupO [.int i ti, .str nm a1, .str lc a2, .str ur a3]) ∈ led ∧ 0 ≤ i ∧ xs[i.toNat]? = some (.ref x) ∧ (x, instObj 176 dx) ∈ led ∧
      (dx, rowD P t1 t2 t3 t4 t5 t6 t7 t8 t9 kd (.str nm b1) (.str ur b2) (.str lc b3) vl pr c1 c2 c3) ∈ led ∧ PyData.strOk nm = true ∧ PyData.strOk lc = true ∧ PyData.strOk ur = true
theorem goodI_of {P : Params} {led : List (Addr × Obj)} {xs : Array Value} {v : Value} (g : Good P led xs v) : ∃ i, GoodI P led xs i v := by
  obtain ⟨t, x, dx, c1, c2, c3, i, ti, r⟩ := g
  exact ⟨i, t, x, dx, c1, c2, c3, ti, r⟩
inductive Heads (P : Params) (led : List (Addr × Obj)) (xs : Array Value) : List Int → List Value → Prop
  | nil : Heads P led xs [] []
  | cons {i : Int} {v : Value} {is : List Int} {ys : List Value} : GoodI P led xs i v → Heads P led xs is ys → Heads P led xs (i :: is) (v :: ys)
theorem heads_of {P : Params} {led : List (Addr × Obj)} {xs : Array Value} : ∀ {ys : List Value}, (∀ y ∈ ys, Good P led xs y) → ∃ is, Heads P led xs is ys
  | [], _ => ⟨[], .nil⟩
  | y :: r, h => by
    obtain ⟨i, hi⟩ := goodI_of (h y (.head _))
    obtain ⟨is, his⟩ := heads_of (ys := r) fun z hz => h z (.tail _ hz)
    exact ⟨i :: is, .cons hi his⟩
theorem Heads.at {P : Params} {led : List (Addr × Obj)} {xs : Array Value} : ∀ {is : List Int} {ys : List Value}, Heads P led xs is ys → ∀ (k : Nat) (v : Value), ys[k]? = some v → ∃ i, is[k]? = some i ∧ GoodI P led xs i v
  | _, _, .nil, k, v, h => by simp at h
  | _, _, .cons g _, 0, v, h => by
    simp at h
    subst h
    exact ⟨_, rfl, g⟩
  | _, _, .cons _ r, k + 1, v, h => by simpa using r.at k v (by simpa using h)
theorem Heads.len {P : Params} {led : List (Addr × Obj)} {xs : Array Value} {is : List Int} {ys : List Value} (h : Heads P led xs is ys) : is.length = ys.length := by
  induction h with
  | nil => rfl
  | cons _ _ ih => simp [ih]
end
section
open PySem PySem.W PySem.Calls PyProof.Rows PyProof.V PySem.Spec
open PySem.Sem (wp)
set_option maxHeartbeats 1500000
section
variable {prog : Program} {w : World} {A : Around} {E : Value → Shared → Prop} {h : Heap} {g : Array GenState} {d : Drawn} {t : Nat} {os : OsState}
variable {nm q : Str} {C N : Addr} {bs bm : List Value} {hdct : Bool} {sn : List Str} {sub : List Value} {ab : Bool} {col : Option Bool} {dd : Option Addr} {k0 k1 k2 k3 k5 : Option Value}
/-- a class of the text's own under Exception: what the built-in's own words ask of its line of classes -/
structure Under (bm : List Value) : Prop where
  e : bm.contains (.type "Exception") = true
  b : bm.contains (.type "BaseException") = true
  a : bm.contains (.type "AttributeError") = false
  n : bm.contains (.type "NameError") = false
theorem x_check {M : Model} (U : Under bm) {rest : List Value} {Q : Unit → Shared → Prop} (hC : h.get? C = some (excClassObj nm q C N bs bm hdct sn sub ab col dd k0 k1 k2 k3 k5 "Exception.__new__"))
    (hq : Q () ⟨h, g, d, t, os⟩) : wpAny M A (checkBuiltinCall "Exception.__new__" ⟨.ref C :: rest, []⟩) Q E ⟨h, g, d, t, os⟩ := by
  have hcont : (Value.ref C :: bm).contains (.type "Exception") = true := by rw [List.contains_cons, U.e, Bool.or_true]
  have hstar := PySem.F.excBase_Exception.noStar
  simp only [checkBuiltinCall, PySem.F.excBase_Exception.newKind, PySem.F.excBase_Exception.newSplit, PySem.F.excBase_Exception.newRow]
  repeat (first | refine wpAny_loadPart_at hC ?_ | (refine wpAny_isSubtype_exc hC ?_; rw [hcont]) | refine wpAny_staticBase_exc hC ?_ | refine wpAny_madeBy_exc hC ?_ | simp only [bne_self_eq_false, Bool.false_eq_true, if_false] | wp_step)
  exact hq
theorem x_new {R : Result → Shared → Prop} (U : Under bm) {rest : List Value} (hC : h.get? C = some (excClassObj nm q C N bs bm hdct sn sub ab col dd k0 k1 k2 k3 k5 "Exception.__new__"))
    (hq : R (.ok (.ret (.ref (h.objs.size + 1)))) ⟨(h.push { cls := .type "tuple", data := .seq rest.toArray }).push
      { cls := .ref C, data := .fields #[.ref h.objs.size, .none, .none, .none, .bool false, .none] }, g, d, t, os⟩) (hrest : rest.length ≤ sizeLine := by size_fits) :
    codeAny (model prog w) A (.builtin "Exception.__new__" ⟨.ref C :: rest, []⟩) R ⟨h, g, d, t, os⟩ := by
  have hends := PySem.F.excBase_Exception.ends
  have hcB : (Value.ref C :: bm).contains (.type "Exception") = true := by rw [List.contains_cons, U.e, Bool.or_true]
  have hcA : (Value.ref C :: bm).contains (.type "AttributeError") = false := by rw [List.contains_cons, U.a]; rfl
  have hcN : (Value.ref C :: bm).contains (.type "NameError") = false := by rw [List.contains_cons, U.n]; rfl
  refine codeAny_builtinAt PySem.F.excBase_Exception.entry ?_
  unfold Builtin.«BaseException.__new__»
  refine PySem.wpAt_bind ?_
  show PySem.wpAt _ _ _ (stack >>= _) _ _ _
  refine PySem.wpAt_bind (PySem.wpAt_stack fun p below => PySem.wpAt_of_wpAny ?_)
  wp_walk
  refine PySem.wpAt_of_wpAny ?_
  rw [PySem.F.excBase_Exception.owner]
  repeat (first | with_reducible refine wpAny_madeHere_exc PySem.F.excBase_Exception.canon hC ?_ | with_reducible refine wpAny_loadPart_at hC ?_ | (with_reducible refine wpAny_isSubtype_exc hC ?_; first | rw [hcB] | rw [hcA] | rw [hcN]) | wp_step)
  show R _ _
  rw [Heap.size_push]
  exact hq
theorem x_type_call (U : Under bm) {K : Frag} {rest : List Value} {fI : Addr} {Q : Fin → Shared → Prop} (X : K.In h)
    (hC : h.get? C = some (excClassObj nm q C N bs bm hdct sn sub ab col dd k0 k1 k2 k3 k5 "Exception.__new__")) (hi : findIn K (.ref C) "__init__" = some (some (.ref fI))) (hf : typeIn K (.ref fI) = some (.type "function"))
    (hq : ∀ h' e, Heap.MadeExcOf h h' e (.ref C) rest →
      wpAny (model prog w) A (call (.ref fI) (.ref e :: rest)) (fun r s' => r = .none ∧ Q (.done (.ret (.ref e))) s') E ⟨h', g, d, t, os⟩) (hrest : rest.length ≤ sizeLine := by size_fits) :
    wpAny (model prog w) A (Builtin.«type.__call__» ⟨.ref C :: rest, []⟩) Q E ⟨h, g, d, t, os⟩ := by
  repeat (first | with_reducible refine wpAny_loadPart_at hC ?_ | with_reducible refine wpAny_madeBy_exc hC ?_ | wp_step)
  refine codeAny_call_builtin_code (Code.quiet_builtin _ PySem.F.excBase_Exception.quiet) (x_check U hC ?_)
  refine x_new U hC ?_ hrest
  show wpAny _ _ _ _ _ _
  have kk : ∀ b o, h.get? b = some o → ((h.push { cls := .type "tuple", data := .seq rest.toArray }).push { cls := .ref C, data := .fields #[.ref h.objs.size, .none, .none, .none, .bool false, .none] }).get? b = some o :=
    fun b o e => Heap.get?_push_of_some _ (Heap.get?_push_of_some _ e)
  have hC₁ := kk _ _ hC
  have X₁ : K.In ((h.push { cls := .type "tuple", data := .seq rest.toArray }).push { cls := .ref C, data := .fields #[.ref h.objs.size, .none, .none, .none, .bool false, .none] }) := X.keeps kk
  have hget : ((h.push { cls := .type "tuple", data := .seq rest.toArray }).push
      { cls := .ref C, data := .fields #[.ref h.objs.size, .none, .none, .none, .bool false, .none] }).get? (h.objs.size + 1) = some
      { cls := .ref C, data := .fields #[.ref h.objs.size, .none, .none, .none, .bool false, .none] } := by heap_get
  have hcC : (Value.ref C :: bm).contains (.ref C) = true := by simp
  unfold isInstance
  repeat (first | with_reducible refine wpAny_loadPart_at hget ?_ | (with_reducible refine wpAny_isSubtype_exc hC₁ ?_; rw [hcC]) | wp_step)
  show wpAny _ _ (typeLookup (.ref C) _) _ _ _
  refine (looks_findIn X₁ hi).here ?_
  refine wpAny_holding (wpAny_bind ((bind_fn X₁ _ hf).here ?_))
  refine wpAny_bind (wpAny_mono (hq _ (h.objs.size + 1) ⟨kk, Heap.get?_none_of_le (Nat.le_succ _), h.objs.size, hget, Heap.get?_none_of_le (Nat.le_refl _), ?_⟩) (fun r s' hr => ?_) fun _ _ x => x)
  · exact Heap.get?_push_of_some _ (Heap.get?_push_at rfl rfl)
  · obtain ⟨rfl, hQ⟩ := hr
    wp_walk
    exact hQ
theorem x_call (U : Under bm) {K : Frag} {rest : List Value} {fI : Addr} {Q : Value → Shared → Prop} (X : K.In h)
    (hC : h.get? C = some (excClassObj nm q C N bs bm hdct sn sub ab col dd k0 k1 k2 k3 k5 "Exception.__new__")) (hi : findIn K (.ref C) "__init__" = some (some (.ref fI))) (hf : typeIn K (.ref fI) = some (.type "function"))
    (hq : ∀ h' e, Heap.MadeExcOf h h' e (.ref C) rest →
      wpAny (model prog w) (A.under (.builtin "type.__call__" ⟨.ref C :: rest, []⟩)) (call (.ref fI) (.ref e :: rest)) (fun r s' => r = .none ∧ Q (.ref e) s') E ⟨h', g, d, t, os⟩) (hrest : rest.length ≤ sizeLine := by size_fits) :
    wpAny (model prog w) A (call (.ref C) rest) Q E ⟨h, g, d, t, os⟩ := by
  have f1 := tc_lookup
  have f2 := tc_bind (.ref C)
  have hT : (⟨h, g, d, t, os⟩ : Shared).TypeIs (.ref C) "type" := ⟨_, hC, rfl⟩
  refine wpAny_call (codeAny_of_tree ?_)
  show wpAny _ _ (callAny (.ref C) _) _ _ _
  repeat (any_goals (first | assumption | with_reducible refine wpAny_loadPart_at hC ?_ | wp_step))
  refine ⟨rfl, ?_⟩
  refine codeAny_call_builtin_at (Code.quiet_builtin _ (by decide +kernel)) entry_typeCall (wpAny_check_type_call_sub hC (x_type_call (hrest := hrest) U X hC hi hf fun h' e hm => ?_))
  exact hq h' e hm
end
end
set_option maxHeartbeats 1500000
local macro_rules | `(tactic| walk_at "call ref") => `(tactic| k_extra "call ref m")
local macro_rules | `(tactic| walk_at "compareOp NotEq ref ref") => `(tactic| k_extra "compareOp NotEq ref ref m")
local macro_rules | `(tactic| walk_at "subscriptTail Name Constant ref int") => `(tactic| k_extra "subscriptTail Name Constant ref int m")
local macro_rules | `(tactic| walk_at "compareOp Eq ref ref") => `(tactic| k_extra "compareOp Eq ref ref m")
local macro_rules | `(tactic| walk_at "subscriptTail") => `(tactic| k_extra "subscriptTail m")
local macro_rules | `(tactic| walk_at "subscriptTail Name Slice ref ref") => `(tactic| k_extra "subscriptTail Name Slice ref ref m")
local macro_rules | `(tactic| walk_at "pyIter ref") => `(tactic| k_extra "pyIter ref m")
local macro_rules | `(tactic| walk_at "getMethod type:Exception") => `(tactic| k_extra "getMethod type:Exception m")
local macro_rules | `(tactic| walk_at "exec Raise some none") => `(tactic| k_extra "exec Raise some none m")
local macro_rules | `(tactic| walk_at "compareOp NotIn str ref") => `(tactic| k_extra "compareOp NotIn str ref m")
local macro_rules | `(tactic| walk_at "compareOp NotEq int int") => `(tactic| k_extra "compareOp NotEq int int m")
local macro_rules | `(tactic| walk_at "call type:list") => `(tactic| k_extra "call type:list m")
local macro_rules | `(tactic| walk_at "call builtin:len") => `(tactic| k_extra "call builtin:len m")
local macro_rules | `(tactic| walk_at "CompRest") => `(tactic| k_extra "CompRest m")
local macro_rules | `(tactic| k_room) => `(tactic| k_extra "k_room")
local macro_rules | `(tactic| ktr_enter) => `(tactic| k_extra "ktr_enter")
local macro_rules | `(tactic| ktr_rel) => `(tactic| k_extra "ktr_rel")
local macro_rules | `(tactic| k_mem) => `(tactic| k_extra "k_mem")
local macro_rules | `(tactic| k_steps) => `(tactic| k_extra "k_steps")
local macro_rules | `(tactic| k_all) => `(tactic| k_extra "k_all")
local macro_rules | `(tactic| lcg_off) => `(tactic| k_extra "lcg_off")
local macro_rules | `(tactic| k_enter) => `(tactic| k_extra "k_enter")
local macro_rules | `(tactic| k_ne) => `(tactic| k_extra "k_ne")
local macro_rules | `(tactic| k_upd) => `(tactic| k_extra "k_upd")
local macro_rules | `(tactic| k_lt $h) => `(tactic| (k_extra "lt on"; replace $h := allLt_of $h; dsimp only [AllLt] at $h:ident))
section
variable {prog : Program} {w : World} {p : Program} {loose : List Str} {mean : ExcName → Option Value} {mg mb : Str → Option Value} {dp un : Nat} {gd : Option (List Code)} {cn : Str} {cs : Scope} {a : Addr} {ccd : Value} {cl : List (Str × Addr)} {outer : List Env} {A₀ : Around} {base h₀ : Heap} {L : Addr} {m : Str → Option Value} {s : Shared} {Q E : Value → Shared → Prop}
section
theorem regC11 : True := by
  w_top off
  k_with_none
  k_with "lt" => (first | with_reducible assumption | exact And.left (by k_extra "ca0") | exact And.right (by k_extra "ca1"))
  k_with "ca0" => (first | with_reducible assumption | exact And.right (by k_extra "ca1"))
  k_with "ca1" => (first | with_reducible assumption | exact And.right (by k_extra "ca2"))
  k_with "ca2" => (first | with_reducible assumption | exact And.right (by k_extra "ca3"))
  k_with "ca3" => (first | with_reducible assumption | exact And.right (by k_extra "ca4"))
  k_with "ca4" => (first | with_reducible assumption | exact And.right (by k_extra "ca5"))
  k_with "ca5" => (first | with_reducible assumption | exact And.right (by k_extra "ca6"))
  k_with "ca6" => (first | with_reducible assumption | exact And.right (by k_extra "ca7"))
  k_with "ca7" => (first | with_reducible assumption | exact And.right (by k_extra "ca8"))
  k_with "ca8" => (first | with_reducible assumption | exact And.right (by k_extra "ca9"))
  k_with "ca9" => (first | with_reducible assumption | exact And.right (by k_extra "ca10"))
  k_with "ca10" => (first | with_reducible assumption | exact And.right (by k_extra "ca11"))
  k_with "ca11" => (first | with_reducible assumption | exact And.right (by k_extra "ca12"))
  k_with "ca12" => (first | with_reducible assumption | exact And.right (by k_extra "ca13"))
  k_with "ca13" => (first | with_reducible assumption | exact And.right (by k_extra "ca14"))
  k_with "ca14" => (first | with_reducible assumption | exact And.right (by k_extra "ca15"))
  k_with "ca15" => (first | with_reducible assumption | exact And.right (by k_extra "ca16"))
  k_with "ca16" => (first | with_reducible assumption | exact And.right (by k_extra "ca17"))
  k_with "ca17" => (first | with_reducible assumption | exact And.right (by k_extra "ca18"))
  k_with "ca18" => (first | with_reducible assumption | exact And.right (by k_extra "ca19"))
  k_with "ca19" => (first | with_reducible assumption | exact And.right (by k_extra "ca20"))
  k_with "ca20" => (first | with_reducible assumption | exact And.right (by k_extra "ca21"))
  k_with "ca21" => (first | with_reducible assumption | exact And.right (by k_extra "ca22"))
  k_with "ca22" => (first | with_reducible assumption | exact And.right (by k_extra "ca23"))
  k_with "ca23" => (first | with_reducible assumption | exact And.right (by k_extra "ca24"))
  k_with "ca24" => (first | with_reducible assumption | exact And.right (by k_extra "ca25"))
  k_with "ca25" => (first | with_reducible assumption)
  k_with "tr0" => (first | with_reducible assumption | exact Nat.lt_trans (by with_reducible assumption) (by k_extra "tr1"))
  k_with "tr1" => (first | with_reducible assumption | exact Nat.lt_trans (by with_reducible assumption) (by k_extra "tr2"))
  k_with "tr2" => (first | with_reducible assumption | exact Nat.lt_trans (by with_reducible assumption) (by k_extra "tr3"))
  k_with "tr3" => (first | with_reducible assumption | exact Nat.lt_trans (by with_reducible assumption) (by k_extra "tr4"))
  k_with "tr4" => (first | with_reducible assumption | exact Nat.lt_trans (by with_reducible assumption) (by k_extra "tr5"))
  k_with "tr5" => (first | with_reducible assumption | exact Nat.lt_trans (by with_reducible assumption) (by k_extra "tr6"))
  k_with "tr6" => (first | with_reducible assumption | exact Nat.lt_trans (by with_reducible assumption) (by k_extra "tr7"))
  k_with "tr7" => (first | with_reducible assumption | exact Nat.lt_trans (by with_reducible assumption) (by k_extra "tr8"))
  k_with "tr8" => (first | with_reducible assumption | exact Nat.lt_trans (by with_reducible assumption) (by k_extra "tr9"))
  k_with "tr9" => (first | with_reducible assumption | exact Nat.lt_trans (by with_reducible assumption) (by k_extra "tr10"))
  k_with "tr10" => (first | with_reducible assumption | exact Nat.lt_trans (by with_reducible assumption) (by k_extra "tr11"))
  k_with "tr11" => (first | with_reducible assumption | exact Nat.lt_trans (by with_reducible assumption) (by k_extra "tr12"))
  k_with "tr12" => (first | with_reducible assumption | exact Nat.lt_trans (by with_reducible assumption) (by k_extra "tr13"))
  k_with "tr13" => (first | with_reducible assumption | exact Nat.lt_trans (by with_reducible assumption) (by k_extra "tr14"))
  k_with "tr14" => (first | with_reducible assumption | exact Nat.lt_trans (by with_reducible assumption) (by k_extra "tr15"))
  k_with "tr15" => (first | with_reducible assumption | exact Nat.lt_trans (by with_reducible assumption) (by k_extra "tr16"))
  k_with "tr16" => (first | with_reducible assumption | exact Nat.lt_trans (by with_reducible assumption) (by k_extra "tr17"))
  k_with "tr17" => (first | with_reducible assumption | exact Nat.lt_trans (by with_reducible assumption) (by k_extra "tr18"))
  k_with "tr18" => (first | with_reducible assumption | exact Nat.lt_trans (by with_reducible assumption) (by k_extra "tr19"))
  k_with "tr19" => (first | with_reducible assumption | exact Nat.lt_trans (by with_reducible assumption) (by k_extra "tr20"))
  k_with "tr20" => (first | with_reducible assumption | exact Nat.lt_trans (by with_reducible assumption) (by k_extra "tr21"))
  k_with "tr21" => (first | with_reducible assumption | exact Nat.lt_trans (by with_reducible assumption) (by k_extra "tr22"))
  k_with "tr22" => (first | with_reducible assumption | exact Nat.lt_trans (by with_reducible assumption) (by k_extra "tr23"))
  k_with "tr23" => (first | with_reducible assumption)
  k_with "up0" => (first | k_extra "tr0" | exact Nat.lt_trans (Nat.lt_add_one _) (by k_extra "up1"))
  k_with "up1" => (first | k_extra "tr0" | exact Nat.lt_trans (Nat.lt_add_one _) (by k_extra "up2"))
  k_with "up2" => (first | k_extra "tr0" | exact Nat.lt_trans (Nat.lt_add_one _) (by k_extra "up3"))
  k_with "up3" => (first | k_extra "tr0" | exact Nat.lt_trans (Nat.lt_add_one _) (by k_extra "up4"))
  k_with "up4" => (first | k_extra "tr0" | exact Nat.lt_trans (Nat.lt_add_one _) (by k_extra "up5"))
  k_with "up5" => (first | k_extra "tr0")
  k_with "up" => (first | exact Nat.lt_trans (Nat.lt_add_one _) (by k_extra "up0") | exact Nat.lt_trans (by with_reducible assumption) (Nat.lt_trans (Nat.lt_add_one _) (by k_extra "up0")))
  k_with "ord" => (first | k_extra "tr0" | exact And.intro (by k_extra "ord") (by k_extra "ord") | exact Nat.le_of_lt (by k_extra "tr0") | exact neA (by k_extra "tr0") | exact neB (by k_extra "tr0") | exact Nat.le_refl _ | k_extra "lt" | exact Nat.le_of_lt (by k_extra "lt") | exact neA (by k_extra "lt") | exact neB (by k_extra "lt") | omega)
  k_with "rm" => (first | exact room (by with_reducible assumption) (Nat.le_of_ble_eq_true rfl) | (simp only [Nat.add_assoc]; exact room (by with_reducible assumption) (Nat.le_of_ble_eq_true rfl)) | omega)
  k_with "sub" => (first | exact List.forall_mem_nil _ | (refine' subc ?sa ?sb; (case sa => k_mem); (case sb => k_extra "sub")) | (intro q hq; repeat (first | exact hq | refine List.mem_cons_of_mem _ ?_)))
  k_with "lt on" => (skip)
  k_with "k_ne" => (refine neN ?_; (try dsimp only); first | with_reducible assumption | exact neA (by k_extra "tr0") | exact neB (by k_extra "tr0") | exact neA (And.left (by k_extra "ca0")) | exact neB (And.left (by k_extra "ca0")) | exact neA (by k_extra "up") | exact neB (by k_extra "up") | exact neA (And.right (by k_extra "ca1")) | exact neB (And.right (by k_extra "ca1")) | omega)
  k_with "k_all" => (first | exact offn | (refine' offc ?a ?b; (case a => k_ne); (case b => k_all)))
  k_with "k_room" => (((try simp only [depth_mark, depth_under_make, depth_under_kw, depth_in1, depth_deeper, depth_caller]); (try dsimp only [ktrTop]); (simp only [recursionLimit]); k_extra "rm"))
  k_with "ktr_enter" => (first | (refine' code_defF ?k1 ?k2 ?k3 ?k4 ?k5 ?kA ?kF ?kK ?k6 ?k7 ?k8 ?k9 ?kB ?_ ?c2 ?c3 ?c4 ?c5; (case kA => exact rfl); (case kF => exact rfl); (case kK => first | exact rfl | assumption); (case k1 => k_asm); (case k2 => k_asm); (case k3 => k_asm); (case k4 => k_asm); (case k5 => k_asm); (case k6 => k_is); (case k7 => k_is); (case k8 => k_room); (case k9 => first | exact BindsTo.of_eq rfl | exact binds_K (by k_in) rfl (by k_is) rfl rfl rfl); (case c5 => decide); (case kB => exact locs rfl); (case c2 => exact rfl); (case c3 => exact rfl); (case c4 => exact rfl); k_whole; intro g' L' h' FG' F' N' B' X' T' K'; (try dsimp only); (try k_fold)) | (refine' code_defCF ?k1 ?k2 ?k3 ?k4 ?k5 ?kA ?kF ?kK ?k6 ?k7 ?k8 ?k9 ?kB ?kD ?_ ?c2 ?c3 ?c4; (case kA => exact rfl); (case kF => exact rfl); (case kK => first | exact rfl | assumption); (case k1 => k_asm); (case k2 => k_asm); (case k3 => k_asm); (case k4 => k_asm); (case k5 => k_asm); (case k6 => k_is); (case k7 => k_is); (case k8 => k_room); (case k9 => first | exact BindsTo.of_eq rfl | exact binds_K (by k_in) rfl (by k_is) rfl rfl rfl); (case kB => exact rfl); (case kD => decide +kernel); (case c2 => exact rfl); (case c3 => exact rfl); (case c4 => exact rfl); k_whole; intro g' L' h' tk' cells' FG' F' N' Y' B' X' T' l1 K'; (try k_lt l1); k_cells Y'; (try simp only [List.cons_append, List.nil_append] at N'); (try dsimp only); (try k_lift B'); (try k_fold)))
  k_with "ktr_rel" => ((refine' Kept.fin ?kkA ?kkB; (case kkA => assumption); (case kkB => assumption)))
  k_with "k_mem" => (first | exact List.Mem.head _ | ktr_member | (refine' List.mem_cons_of_mem _ ?_; k_mem))
  k_with "my side" => (first | with_reducible assumption | ((simp only [depth_deeper, units_deeper, depth_in1, units_in1, Around.mark_units]); (try dsimp only [ktrTop]); k_extra "rm") | k_extra "rm" | ((try dsimp only [ktrTop]); k_extra "rm") | (simp only [List.size_toArray, List.length_cons, List.length_nil]; omega))
  k_with "my sub" => ((refine' News.subL ?un ?us; (case un => k_asm); (case us => k_subL)))
  k_with "my stop" => ((with_reducible show wpAny _ _ (call (Value.ref 383) _ _) _ _ _))
  k_with "k_steps" => (repeat' (first | (k_unfold; (try dsimp only)) | (k_unmd; k_unfold; (try dsimp only)) | (k_end; kc_close) | ((fail_if_success walk_at "my stop"); walk1) | ((fail_if_success walk_at "my stop"); dsimp only; (fail_if_success walk_at "my stop"); walk1) | (leave1; walk_say "STEP leave1"; try dsimp only) | fail "no step"))
  k_with "call builtin:len m" => ((k_here; (with_reducible show wpAny _ _ (call (Value.builtin "len") [Value.ref _] _) _ _ _); k_dflt (first | (refine' len_push ?N ?m ?z ?_; (case N => k_asm); (case m => k_mem); (case z => walk_at "my side")) | (refine' len_any ?N ?m ?z ?_; (case N => k_asm); (case m => k_mem); (case z => walk_at "my size"))); (try dsimp only)))
  k_with "k_all" => (with_reducible assumption)
  k_with "my get" => (first | with_reducible assumption | exact push_get (by walk_at "my get"))
  k_with "my size" => (((try simp only [Array.size_push, List.size_toArray, List.length_cons, List.length_nil]); omega))
  k_with "subscriptTail m" => ((k_here; (with_reducible show wpAny _ _ (subscriptTail _ _ (Value.ref _) (Value.int _ _)) _ _ _); k_dflt (refine' item_at ?N ?m ?z ?v ?s ?_; (case N => k_asm); (case m => k_mem); (case z => omega); (case v => walk_at "my get"); (case s => walk_at "my size"); k_whole)))
  k_with "lcg_off" => (assumption)
  k_with "my turn" => ((with_unfolding_all first | (refine LCg.CompRest.succ ?_; intro v' I' oI' C' oC' D' m' h' tk' E' hv' hC' hx' F' N' off' ne'; (first | lcg_open hv' | (obtain ⟨t9', hv9'⟩ := hv'; subst hv9'))) | refine LCg.CompRest.zero ?_))
  k_with "CompRest m" => (walk_at "my turn")
  trivial
theorem fm (a b : Int) (hb : 0 < b) : 0 ≤ a.fmod b ∧ a.fmod b < b := ⟨Int.fmod_nonneg_of_pos a hb, Int.fmod_lt_of_pos a hb⟩
theorem fd (a b : Int) (ha : 0 ≤ a) (hb : 0 < b) : 0 ≤ a.fdiv b := Int.fdiv_nonneg ha (Int.le_of_lt hb)
theorem c_take {S : Addr} {x y top : Int} {tx ty tt : Tok} {n : Nat}
    (B : Below A₀ base outer h₀) (F : Fr h₀ L s.heap m) (X : (KK w.params).In h₀) (N : News h₀ L s.heap [(S, W.listOf #[.int x tx, .int y ty] n)]) (T : Top p loose mean mg mb h₀) (hk : cs.kind = .function) (hd : dp + 5 < 1000) (hu : un + 40 < 9900)
    (hx : 0 ≤ x) (hy : 0 ≤ y) (hy2 : y < 2147483648) (ht : 0 < top) (ht2 : top ≤ 64)
    (ret : ∀ (k : Int) (tk : Tok) (x' y' : Int) (tx' ty' : Tok) (n' : Nat) (h' : Heap) (t' : Nat), 0 ≤ k → k < top → 0 ≤ x' → 0 ≤ y' → y' < 2147483648 → Fr h₀ L h' m → News h₀ L h' [(S, W.listOf #[.int x' tx', .int y' ty'] n')] → Kept s.heap h' [S] → Q (.int k tk) { s with heap := h', toks := t' }) :
    wpAny (model prog w) (ktrTop dp un gd cn cs L a ccd cl outer) (call (.ref 383) [.ref S, .int top tt]) Q E s := by
  refine wpAny_call ?_
  k_dflt ktr_enter
  k_steps
  · refine ret _ _ _ _ _ _ _ _ _ ?_ ?_ ?_ hy hy2 (by assumption) (by assumption) ?_
    · exact (fm _ _ ht).1
    · exact (fm _ _ ht).2
    · exact fd _ _ hx ht
    · ktr_rel
  · have b1 := (fm (y * 39373 + 7) 2147483647 (by decide))
    refine mul_int ?kq (IntMulOk.of_right (intBits_le_64 (k := (y * 39373 + 7).fmod 2147483647) ?h1 ?h2))
    case h1 => omega
    case h2 => omega
    k_steps
    refine ret _ _ _ _ _ _ _ _ _ ?_ ?_ hx ?_ ?_ (by assumption) (by assumption) ?_
    · exact (fm _ _ ht).1
    · exact (fm _ _ ht).2
    · exact b1.1
    · exact Int.lt_trans b1.2 (by decide)
    · ktr_rel

end
section
theorem regC22 : True := by
  w_top off
  k_with "my take" => (((rename News _ _ _ _ => N9); k_dflt (refine' c_take ?B ?F ?X ?N ?T ?hk ?hd ?hu ?hx ?hy ?hy2 ?ht ?ht2 ?_; (case B => k_asm); (case F => k_asm); (case X => k_asm); (case N => (refine' News.subL N9 ?u; (case u => k_subL))); (case T => k_asm); (case hk => exact rfl); (case hd => walk_at "my side"); (case hu => walk_at "my side"); (case hx => walk_at "my side"); (case hy => walk_at "my side"); (case hy2 => walk_at "my side"); (case ht => walk_at "my side"); (case ht2 => walk_at "my side")); (intro k9 tk9 x9 y9 tx9 ty9 n9 h9 t9 hk9 hl9 hx9 hy9 hz9 F9 M9 K9); (have N8 := news_upd1 N9 (by k_upd) M9 K9); clear M9 K9; (try k_sweep); (try dsimp only); (try k_fold)))
  trivial
theorem c_one {S Th : Addr} {x y : Int} {tx ty : Tok} {n k : Nat} {vs : Array Value}
    (B : Below A₀ base outer h₀) (F : Fr h₀ L s.heap m) (X : (KK w.params).In h₀) (N : News h₀ L s.heap [(S, W.listOf #[.int x tx, .int y ty] n), (Th, W.listOf vs k)]) (T : Top p loose mean mg mb h₀) (hk : cs.kind = .function) (hd : dp + 10 < 1000) (hu : un + 60 < 9900)
    (hx : 0 ≤ x) (hy : 0 ≤ y) (hy2 : y < 2147483648) (hne : @Ne Nat S Th) (hv : 0 < vs.size) (hv2 : vs.size ≤ 64)
    (ret : ∀ (v : Value) (x' y' : Int) (tx' ty' : Tok) (n' : Nat) (h' : Heap) (t' : Nat), v ∈ vs → 0 ≤ x' → 0 ≤ y' → y' < 2147483648 → Fr h₀ L h' m → News h₀ L h' [(S, W.listOf #[.int x' tx', .int y' ty'] n')] → Kept s.heap h' [S] → Q v { s with heap := h', toks := t' }) :
    wpAny (model prog w) (ktrTop dp un gd cn cs L a ccd cl outer) (call (.ref 390) [.ref S, .ref Th]) Q E s := by
  refine wpAny_call ?_
  k_dflt ktr_enter
  k_steps

  walk_at "my take"
  refine item_any (by assumption) (.tail _ (.head _)) (by assumption) (by assumption) (by omega) fun v _ hm => ?_
  k_steps
  refine' ret _ _ _ _ _ _ _ _ hm ?a ?b ?c ?F ?N ?K
  case N => walk_at "my sub"
  case F => assumption
  case K =>
    rename News _ _ _ _ => N9
    have k9 : Kept s.heap _ [S, Th] := Kept.fin (by assumption) (by assumption)
    exact k9.drop N N9 (.tail _ (.head _)) (.tail _ (.head _)) (by simp)
  all_goals assumption

end
section
theorem regC33 : True := by
  w_top off
  trivial
theorem newrow0 {Tr TD R : Addr} {t0 : Tok} {nd k : Nat} {xs : Array Value} {v1 v2 v3 v4 v5 v6 : Value} {rest : List (Addr × Obj)}
    (B : Below A₀ base outer h₀) (F : Fr h₀ L s.heap m) (X : (KK w.params).In h₀) (N : News h₀ L s.heap ((Tr, instObj 365 TD) :: (TD, dictOf [⟨PyData.keyHash w.params "rows", .str "rows" t0, .ref R⟩] nd) :: (R, W.listOf xs k) :: rest)) (T : Top p loose mean mg mb h₀) (hk : cs.kind = .function) (hd : dp + 10 < 1000) (hu : un + 60 < 9900)
    (hn1 : @Ne Nat Tr R) (hn2 : @Ne Nat TD R) (hof : ∀ q ∈ rest, q.1 ≠ R) (hz : xs.size ≤ 1000)
    (ret : ∀ (i : Int) (ti t1 t2 t3 t4 t5 t6 t7 t8 t9 : Tok) (y dy c1 c2 c3 : Addr) (n' : Nat) (h' : Heap) (t' : Nat), i = (xs.size : Int) → Fr h₀ L h' m →
      News h₀ L h' ((c3, W.listOf #[] 0) :: (c2, W.listOf #[] 0) :: (c1, W.listOf #[] 0) :: (y, instObj 176 dy) :: (dy, rowD w.params t1 t2 t3 t4 t5 t6 t7 t8 t9 v1 v2 v3 v4 v5 v6 c1 c2 c3) :: (Tr, instObj 365 TD) :: (TD, dictOf [⟨PyData.keyHash w.params "rows", .str "rows" t0, .ref R⟩] nd) :: (R, W.listOf (xs.push (.ref y)) n') :: rest) →
      Kept s.heap h' (((Tr, instObj 365 TD) :: (TD, dictOf [⟨PyData.keyHash w.params "rows", .str "rows" t0, .ref R⟩] nd) :: (R, W.listOf xs k) :: rest).map (·.1)) → @LT.lt Nat _ R dy → AllLt dy rest → @LT.lt Nat _ dy y → @LT.lt Nat _ y c1 → @LT.lt Nat _ c1 c2 → @LT.lt Nat _ c2 c3 → Q (.int i ti) { s with heap := h', toks := t' }) :
    wpAny (model prog w) (ktrTop dp un gd cn cs L a ccd cl outer) (call (.ref 201) [.ref Tr, v1, v2, v3, v4, v5, v6]) Q E s := by
  refine wpAny_call ?_
  k_dflt ktr_enter
  k_steps
  refine' ret _ _ _ _ _ _ _ _ _ _ _ _ _ _ _ _ _ _ _ ?e ?F ?N ?K ?a ?b ?d ?e1 ?f ?g
  case N => assumption
  case F => assumption
  case b => tbn_find
  case K => exact Kept.fin (by assumption) (by assumption)
  all_goals k_extra "ord"

theorem c_newrow {Tr TD R : Addr} {t0 : Tok} {nd k : Nat} {xs : Array Value} {v1 v2 v3 v4 v5 v6 : Value} {news : List (Addr × Obj)}
    (B : Below A₀ base outer h₀) (F : Fr h₀ L s.heap m) (X : (KK w.params).In h₀) (N : News h₀ L s.heap news) (T : Top p loose mean mg mb h₀) (hk : cs.kind = .function) (hd : dp + 10 < 1000) (hu : un + 60 < 9900)
    (m1 : (Tr, instObj 365 TD) ∈ news) (m2 : (TD, dictOf [⟨PyData.keyHash w.params "rows", .str "rows" t0, .ref R⟩] nd) ∈ news) (m3 : (R, W.listOf xs k) ∈ news) (hz : xs.size ≤ 1000)
    (ret : ∀ (i : Int) (ti t1 t2 t3 t4 t5 t6 t7 t8 t9 : Tok) (y dy c1 c2 c3 : Addr) (n' : Nat) (h' : Heap) (t' : Nat), i = (xs.size : Int) → Fr h₀ L h' m →
      News h₀ L h' [(c3, W.listOf #[] 0), (c2, W.listOf #[] 0), (c1, W.listOf #[] 0), (y, instObj 176 dy), (dy, rowD w.params t1 t2 t3 t4 t5 t6 t7 t8 t9 v1 v2 v3 v4 v5 v6 c1 c2 c3), (R, W.listOf (xs.push (.ref y)) n')] →
      Kept s.heap h' [R] → (∀ q ∈ news, @LT.lt Nat _ q.1 dy) → @LT.lt Nat _ dy y → @LT.lt Nat _ y c1 → @LT.lt Nat _ c1 c2 → @LT.lt Nat _ c2 c3 → Q (.int i ti) { s with heap := h', toks := t' }) :
    wpAny (model prog w) (ktrTop dp un gd cn cs L a ccd cl outer) (call (.ref 201) [.ref Tr, v1, v2, v3, v4, v5, v6]) Q E s := by
  have e1 := news_ne N m1 m3 inst_ne_list
  have e2 := news_ne N m2 m3 dict_ne_list
  refine newrow0 (t0 := t0) (nd := nd) (k := k) (rest := news.filter (fun q => decide (q.1 ≠ R))) B F X ?N T hk hd hu e1 e2 ?o hz ?r
  case N =>
    intro q hq
    rcases List.mem_cons.mp hq with rfl | hq
    · exact N _ m1
    rcases List.mem_cons.mp hq with rfl | hq
    · exact N _ m2
    rcases List.mem_cons.mp hq with rfl | hq
    · exact N _ m3
    · exact N _ (List.mem_filter.mp hq).1
  case o => exact fun q hq => of_decide_eq_true (List.mem_filter.mp hq).2
  case r =>
    intro i ti t1 t2 t3 t4 t5 t6 t7 t8 t9 y dy c1 c2 c3 n' h' t' hi F' N' K' l1 l2 l3 l4 l5 l6
    have al : ∀ q ∈ news, @LT.lt Nat _ q.1 dy := fun q hq => by
      by_cases e : q.1 = R
      · rw [e]; exact l1
      · exact mem_find l2 q (List.mem_filter.mpr ⟨hq, decide_eq_true e⟩)
    refine ret i ti t1 t2 t3 t4 t5 t6 t7 t8 t9 y dy c1 c2 c3 n' h' t' hi F' ?n ?k al l3 l4 l5 l6
    case n =>
      intro q hq
      refine N' q ?_
      simp only [List.mem_cons, List.not_mem_nil, or_false] at hq ⊢
      rcases hq with h | h | h | h | h | h
      · exact .inl h
      · exact .inr (.inl h)
      · exact .inr (.inr (.inl h))
      · exact .inr (.inr (.inr (.inl h)))
      · exact .inr (.inr (.inr (.inr (.inl h))))
      · exact .inr (.inr (.inr (.inr (.inr (.inr (.inr (.inl h)))))))
    case k =>
      intro b o e n
      have nR : b ≠ R := fun q => n R (.head _) q.symm
      by_cases q : ∃ o', (b, o') ∈ news
      · obtain ⟨o', ho⟩ := q
        have x := (N _ ho).1
        rw [e] at x
        cases x
        exact (N' (b, o') (.tail _ (.tail _ (.tail _ (.tail _ (.tail _ (.tail _ (.tail _ (.tail _ (List.mem_filter.mpr ⟨ho, decide_eq_true nR⟩)))))))))).1
      · refine K' b o e fun x hx hxb => q ?_
        subst hxb
        obtain ⟨z, hz, rfl⟩ := List.mem_map.mp hx
        rcases List.mem_cons.mp hz with rfl | hz
        · exact ⟨_, m1⟩
        rcases List.mem_cons.mp hz with rfl | hz
        · exact ⟨_, m2⟩
        rcases List.mem_cons.mp hz with rfl | hz
        · exact ⟨_, m3⟩
        · exact ⟨z.2, (List.mem_filter.mp hz).1⟩

end
section
theorem regC44 : True := by
  w_top off
  trivial
theorem c_row {Tr TD R : Addr} {t0 tp : Tok} {nd k : Nat} {xs : Array Value} {news : List (Addr × Obj)} {i : Int} {v : Value}
    (B : Below A₀ base outer h₀) (F : Fr h₀ L s.heap m) (X : (KK w.params).In h₀) (N : News h₀ L s.heap news) (T : Top p loose mean mg mb h₀) (hk : cs.kind = .function) (hd : dp + 5 < 1000) (hu : un + 40 < 9900)
    (m1 : (Tr, instObj 365 TD) ∈ news) (m2 : (TD, dictOf [⟨PyData.keyHash w.params "rows", .str "rows" t0, .ref R⟩] nd) ∈ news) (m3 : (R, W.listOf xs k) ∈ news)
    (hz : xs.size ≤ 1000) (h0 : 0 ≤ i) (hv : xs[i.toNat]? = some v)
    (ret : ∀ (h' : Heap) (t' : Nat), Fr h₀ L h' m → News h₀ L h' news → Q v { s with heap := h', toks := t' }) :
    wpAny (model prog w) (ktrTop dp un gd cn cs L a ccd cl outer) (call (.ref 208) [.ref Tr, .int i tp]) Q E s := by
  have hi := size_of_get hv h0
  refine wpAny_call ?_
  k_dflt ktr_enter
  k_steps
  exact ret _ _ (by assumption) (by assumption)

end
section
theorem regC125 : True := by
  w_top off
  trivial
theorem tslice {A : Around} {value slice : PySem.Expr} {t : Addr} {v0 v1 v2 v3 : Value} {u : Tok} {news : List (Addr × Obj)} (F : Fr h₀ L s.heap m) (N : News h₀ L s.heap news) (hm : (t, tupO [v0, v1, v2, v3]) ∈ news)
    (h : ∀ (D : Addr) (h' : Heap), Fr h₀ L h' m → News h₀ L h' ((D, tupO [v1, v2, v3]) :: news) → (∀ p ∈ news, @LT.lt Nat _ p.1 D) → Q (.ref D) { s with heap := h' })
    (hs : subscripted slice false (.ref t) (.ref s.heap.objs.size) = operate [.ref s.heap.objs.size, .ref t] (getItem (.ref t) (.ref s.heap.objs.size)) := by with_unfolding_all rfl)
    (hg : ∀ r, letTemporaryGo value (.ref t) r = pure () := by intro _; with_unfolding_all rfl) :
    wpAny (model prog w) A (subscriptTail value slice (.ref t) (.ref s.heap.objs.size)) Q E { s with heap := s.heap.push { cls := .type "slice", data := .fields #[.int 1 u, .none, .none] } } :=
  slice_tuple_from (a := 1) (items := #[v0, v1, v2, v3]) F N ⟨_, (N _ hm).1, rfl, _, rfl⟩ (by decide) (by simp) (fun h' F' N' => h _ h' F' N' fun p hp => Nat.lt_succ_of_lt (Heap.lt_size (N p hp).1)) hs hg
theorem tlist {A : Around} {t : Addr} {l : List Value} {news : List (Addr × Obj)} (F : Fr h₀ L s.heap m) (N : News h₀ L s.heap news) (hm : (t, tupO l) ∈ news) (hz : l.length ≤ 100)
    (h : ∀ (D : Addr) (c : Nat) (h' : Heap), Fr h₀ L h' m → News h₀ L h' ((D, W.listOf l.toArray c) :: news) → (∀ p ∈ news, @LT.lt Nat _ p.1 D) → Q (.ref D) { s with heap := h' }) :
    wpAny (model prog w) A (call (.type "list") [.ref t]) Q E s :=
  list_copyKT F N ⟨_, (N _ hm).1, rfl, _, rfl⟩ h (by rw [sizeLine_eq]; simp; omega)
theorem sh3 {x1 x2 x3 : Str} (k1 : PyData.strOk x1 = true) (k2 : PyData.strOk x2 = true) (k3 : PyData.strOk x3 = true) : PySem.SeqAt.shaped (.list [.str x1, .str x2, .str x3]) = true := by
  unfold PySem.SeqAt.shaped
  refine Bool.and_eq_true_iff.mpr ⟨?_, rfl⟩
  simp only [PyData.canLay0, PyData.canLayAll0, k1, k2, k3, Bool.and_self]
theorem ne_str3 {A : Around} {a b : Addr} {x1 x2 x3 : Str} {t1 t2 t3 u1 u2 u3 : Tok} {n k : Nat} {news : List (Addr × Obj)} (N : News h₀ L s.heap news) (ha : (a, W.listOf #[.str x1 t1, .str x2 t2, .str x3 t3] n) ∈ news) (hb : (b, W.listOf #[.str x1 u1, .str x2 u2, .str x3 u3] k) ∈ news)
    (k1 : PyData.strOk x1 = true) (k2 : PyData.strOk x2 = true) (k3 : PyData.strOk x3 = true) (hu : A.units + 64 < cLine) (h : Q (.bool false) s) : wpAny (model prog w) A (compareOp .NotEq (.ref a) (.ref b)) Q E s := by
  refine ne_dataH (da := .list [.str x1, .str x2, .str x3]) (db := .list [.str x1, .str x2, .str x3]) (reads_list_at (News.get N ha) rfl rfl (ReadsAll.cons (Reads.str _ _) (ReadsAll.cons (Reads.str _ _) (ReadsAll.cons (Reads.str _ _) ReadsAll.nil)))) (reads_list_at (News.get N hb) rfl rfl (ReadsAll.cons (Reads.str _ _) (ReadsAll.cons (Reads.str _ _) (ReadsAll.cons (Reads.str _ _) ReadsAll.nil)))) (sh3 k1 k2 k3) (sh3 k1 k2 k3) hu ?_
  simp only [PyData.eqv, PyData.eqvAll, beq_self_eq_true, Bool.and_true, Bool.not_true, decide_true]
  exact h
/-- a list of another length is another list, whatever it holds -/
theorem eq_len {A : Around} {a b : Addr} {xs ys : Array Value} {n k : Nat} {news : List (Addr × Obj)} (N : News h₀ L s.heap news) (ha : (a, W.listOf xs n) ∈ news) (hb : (b, W.listOf ys k) ∈ news) (hne : (xs.size != ys.size) = true) (hu : A.units + 64 < cLine)
    (h : Q (.bool false) s) : wpAny (model prog w) A (compareOp .Eq (.ref a) (.ref b)) Q E s :=
  PySem.SeqAt.eq_list_lengthsAt ⟨_, (N _ ha).1, rfl, _, rfl⟩ ⟨_, (N _ hb).1, rfl, _, rfl⟩ hne (by unfold cLine at hu ⊢; omega) h
theorem ne_len {A : Around} {a b : Addr} {xs ys : Array Value} {n k : Nat} {news : List (Addr × Obj)} (N : News h₀ L s.heap news) (ha : (a, W.listOf xs n) ∈ news) (hb : (b, W.listOf ys k) ∈ news) (hne : (xs.size != ys.size) = true) (hu : A.units + 64 < cLine)
    (h : Q (.bool true) s) : wpAny (model prog w) A (compareOp .NotEq (.ref a) (.ref b)) Q E s :=
  PySem.SeqAt.RcNeAt.lists_lengths ⟨_, (N _ ha).1, rfl, _, rfl⟩ ⟨_, (N _ hb).1, rfl, _, rfl⟩ hne (by unfold cLine at hu ⊢; omega) prog w E Q h

end
section
theorem regC166 : True := by
  w_top off
  trivial
/-- a comprehension by an invariant over what it has made and the ledger -/
theorem comp_ind {A : Around} {env : Env} {elt : PySem.Expr} {x : Str} {scope : Scope} {cl : List (Str × Addr)} {S : List (Addr × Obj) → Prop} {P : Nat → Value → Prop} {Fin : List Value → List (Addr × Obj) → Prop} {news : List (Addr × Obj)} {n : Nat} (J : List Value → List (Addr × Obj) → Prop) (start : J [] news)
    (turn : ∀ (i : Nat) (v : Value) (ys : List Value) (nw : List (Addr × Obj)) (I : Addr) (oI : Obj) (C : Addr) (oC : Obj) (D : Addr) (m₂ : Str → Option Value) (h : Heap) (tk : Nat) (E' : Value → Shared → Prop), i < n → ys.length = i → P i v → J ys nw → LCg.NsObj oC m₂ → m₂ x = some v → Fr h₀ L h m → News h₀ L h ((I, oI) :: (C, oC) :: (D, LCg.lst ys) :: nw) → LCg.Off3 I C D nw → ((@Ne Nat I C) ∧ (@Ne Nat I D) ∧ (@Ne Nat C D)) →
      wpAny (model prog w) A (eval elt (compEnvC scope cl C env)) (LCg.CompEnd h₀ L m { s with heap := h, toks := tk } I oI C oC D (LCg.lst ys) S (fun y nw' => J (ys ++ [y]) nw')) E' { s with heap := h, toks := tk })
    (fin : ∀ ys nw, ys.length = n → J ys nw → Fin ys nw) : LCg.CompRest prog w A h₀ L m env elt x scope cl s S P Fin n 0 [] news := by
  have key : ∀ (j i : Nat) (ys : List Value) (nw : List (Addr × Obj)), i + j = n → ys.length = i → J ys nw → LCg.CompRest prog w A h₀ L m env elt x scope cl s S P Fin j i ys nw := by
    intro j
    induction j with
    | zero => exact fun i ys nw hi hl hj => LCg.CompRest.zero (fin ys nw (by omega) hj)
    | succ j ih =>
      intro i ys nw hi hl hj
      refine LCg.CompRest.succ ?_
      intro v I oI C oC D m₂ h tk E' hv hC hx F N off ne
      refine wpAny_mono (turn i v ys nw I oI C oC D m₂ h tk E' (by omega) hl hv hj hC hx F N off ne) (fun y s₂ hq => ?_) fun _ _ e => e
      obtain ⟨h', tk', nw', e, F', N', off', hS, hj'⟩ := hq
      exact ⟨h', tk', nw', e, F', N', off', hS, ih (i + 1) _ _ (by omega) (by simp [hl]) hj'⟩
  exact key n 0 [] news (by omega) rfl start

end
section
theorem regC177 : True := by
  w_top off
  trivial
theorem item_hd {A : Around} {value slice : PySem.Expr} {l : Addr} {x : Value} {r : List Value} {u : Tok} {n : Nat} {news : List (Addr × Obj)} (N : News h₀ L s.heap news) (hl : (l, W.listOf (x :: r).toArray n) ∈ news) (h : Q x s)
    (hs : subscripted slice false (.ref l) (.int 0 u) = operate [.ref l, .int 0 u] (getItem (.ref l) (.int 0 u)) := by with_unfolding_all rfl) :
    wpAny (model prog w) A (subscriptTail value slice (.ref l) (.int 0 u)) Q E s := by
  have hL : s.heap.IsList l (x :: r).toArray := ⟨_, (N _ hl).1, rfl, n, rfl⟩
  exact tail_any hL.typeIs slot_list_getitem.lookup (wpAny_getItem_list hL (by decide) (by decide) (by rfl) h) hs
theorem ne_self {A : Around} {a : Int} {t u : Tok} (h : Q (.bool false) s) : wpAny (model prog w) A (compareOp .NotEq (.int a t) (.int a u)) Q E s := PyProof.Rows.ne_int (by rw [bne_self_eq_false]; exact h)

end
section
theorem regC218 : True := by
  w_top off
  trivial
theorem sh2i {a b : Int} : PySem.SeqAt.shaped (.tuple [.int a, .int b]) = true := by
  unfold PySem.SeqAt.shaped
  refine Bool.and_eq_true_iff.mpr ⟨?_, rfl⟩
  simp only [PyData.canLay0, PyData.canLayAll0, Bool.and_self]
theorem ne_tup2 {A : Around} {a b : Addr} {i k : Int} {t1 t2 u1 u2 : Tok} {news : List (Addr × Obj)} (N : News h₀ L s.heap news) (ha : (a, tupO [.int i t1, .int k t2]) ∈ news) (hb : (b, tupO [.int i u1, .int k u2]) ∈ news)
    (hu : A.units + 64 < cLine) (h : Q (.bool false) s) : wpAny (model prog w) A (compareOp .NotEq (.ref a) (.ref b)) Q E s := by
  refine ne_dataH (da := .tuple [.int i, .int k]) (db := .tuple [.int i, .int k]) (reads_tuple_at (News.get N ha) rfl rfl (ReadsAll.cons (Reads.int _ _) (ReadsAll.cons (Reads.int _ _) ReadsAll.nil))) (reads_tuple_at (News.get N hb) rfl rfl (ReadsAll.cons (Reads.int _ _) (ReadsAll.cons (Reads.int _ _) ReadsAll.nil))) sh2i sh2i hu ?_
  simp only [PyData.eqv, PyData.eqvAll, beq_self_eq_true, Bool.and_true, Bool.not_true, decide_true]
  exact h

end
section
theorem regC109 : True := by
  w_top off
  trivial
theorem list_ne_tup {l : List Value} {xs : Array Value} {k : Nat} : W.listOf xs k ≠ tupO l := fun h => by
  have := congrArg Obj.cls h
  injection this with e
  exact absurd e (by decide)
theorem c_oneT {S Th lo : Addr} {x y : Int} {tx ty : Tok} {n k : Nat} {vs : Array Value} {news : List (Addr × Obj)}
    (B : Below A₀ base outer h₀) (F : Fr h₀ L s.heap m) (X : (KK w.params).In h₀) (N : News h₀ L s.heap news) (T : Top p loose mean mg mb h₀) (hk : cs.kind = .function) (hd : dp + 10 < 1000) (hu : un + 60 < 9900)
    (mS : (S, W.listOf #[.int x tx, .int y ty] n) ∈ news) (mT : (Th, W.listOf vs k) ∈ news) (hlo : LoIs lo)
    (hx : 0 ≤ x) (hy : 0 ≤ y) (hy2 : y < 2147483648) (hne : @Ne Nat S Th) (hv : 0 < vs.size) (hv2 : vs.size ≤ 64)
    (hvs : ∀ v ∈ vs, ∃ (t : Addr) (nm lc ur : Str) (a b c : Tok), v = .ref t ∧ (t, tupO [.str nm a, .str lc b, .str ur c]) ∈ news ∧ @LT.lt Nat _ lo t ∧ PyData.strOk nm = true ∧ PyData.strOk lc = true ∧ PyData.strOk ur = true)
    (ret : ∀ (t : Addr) (nm lc ur : Str) (a b c : Tok) (x' y' : Int) (tx' ty' : Tok) (n' : Nat) (h' : Heap) (t' : Nat), @LT.lt Nat _ lo t → PyData.strOk nm = true → PyData.strOk lc = true → PyData.strOk ur = true → 0 ≤ x' → 0 ≤ y' → y' < 2147483648 → Fr h₀ L h' m → News h₀ L h' [(t, tupO [.str nm a, .str lc b, .str ur c]), (S, W.listOf #[.int x' tx', .int y' ty'] n')] → Kept s.heap h' [S] → Q (.ref t) { s with heap := h', toks := t' }) :
    wpAny (model prog w) (ktrTop dp un gd cn cs L a ccd cl outer) (call (.ref 390) [.ref S, .ref Th]) Q E s := by
  refine c_one (tx := tx) (ty := ty) (n := n) (k := k) B F X (fun q hq => ?_) T hk hd hu hx hy hy2 hne hv hv2 ?r
  · rcases List.mem_cons.mp hq with rfl | hq
    · exact N _ mS
    · rw [List.mem_singleton.mp hq]; exact N _ mT
  case r =>
    intro v x' y' tx' ty' n' h' t' hm hx' hy' hy2' F' N' K'
    obtain ⟨t, nm, lc, ur, a, b, c, rfl, hmem, hl, ok1, ok2, ok3⟩ := hvs v hm
    refine ret t nm lc ur a b c x' y' tx' ty' n' h' t' hl ok1 ok2 ok3 hx' hy' hy2' F' (fun q hq => ?_) K'
    rcases List.mem_cons.mp hq with rfl | hq
    · exact ⟨K' _ _ (N _ hmem).1 (fun z hz => by rw [List.mem_singleton.mp hz]; exact news_ne N mS hmem list_ne_tup), (N _ hmem).2⟩
    · exact N' q hq
theorem c_oneS {S Th : Addr} {x y : Int} {tx ty : Tok} {n k : Nat} {vs : Array Value} {news : List (Addr × Obj)}
    (B : Below A₀ base outer h₀) (F : Fr h₀ L s.heap m) (X : (KK w.params).In h₀) (N : News h₀ L s.heap news) (T : Top p loose mean mg mb h₀) (hk : cs.kind = .function) (hd : dp + 10 < 1000) (hu : un + 60 < 9900)
    (mS : (S, W.listOf #[.int x tx, .int y ty] n) ∈ news) (mT : (Th, W.listOf vs k) ∈ news)
    (hx : 0 ≤ x) (hy : 0 ≤ y) (hy2 : y < 2147483648) (hne : @Ne Nat S Th) (hv : 0 < vs.size) (hv2 : vs.size ≤ 64)
    (hvs : ∀ v ∈ vs, ∃ (st : Str) (b : Tok), v = .str st b ∧ PyData.strOk st = true)
    (ret : ∀ (st : Str) (b : Tok) (x' y' : Int) (tx' ty' : Tok) (n' : Nat) (h' : Heap) (t' : Nat), PyData.strOk st = true → 0 ≤ x' → 0 ≤ y' → y' < 2147483648 → Fr h₀ L h' m → News h₀ L h' [(S, W.listOf #[.int x' tx', .int y' ty'] n')] → Kept s.heap h' [S] → Q (.str st b) { s with heap := h', toks := t' }) :
    wpAny (model prog w) (ktrTop dp un gd cn cs L a ccd cl outer) (call (.ref 390) [.ref S, .ref Th]) Q E s := by
  refine c_one (tx := tx) (ty := ty) (n := n) (k := k) B F X (fun q hq => ?_) T hk hd hu hx hy hy2 hne hv hv2 ?r
  · rcases List.mem_cons.mp hq with rfl | hq
    · exact N _ mS
    · rw [List.mem_singleton.mp hq]; exact N _ mT
  case r =>
    intro v x' y' tx' ty' n' h' t' hm hx' hy' hy2' F' N' K'
    obtain ⟨st, b, rfl, ok⟩ := hvs v hm
    exact ret st b x' y' tx' ty' n' h' t' ok hx' hy' hy2' F' N' K'

end
section
theorem regC1310 : True := by
  w_top off
  trivial
theorem c_oneG {S Th : Addr} {x y : Int} {tx ty : Tok} {n k : Nat} {fs xs : Array Value} {news nn : List (Addr × Obj)}
    (B : Below A₀ base outer h₀) (F : Fr h₀ L s.heap m) (X : (KK w.params).In h₀) (N : News h₀ L s.heap news) (T : Top p loose mean mg mb h₀) (hk : cs.kind = .function) (hd : dp + 10 < 1000) (hu : un + 60 < 9900)
    (mS : (S, W.listOf #[.int x tx, .int y ty] n) ∈ news) (mT : (Th, W.listOf fs k) ∈ news)
    (hx : 0 ≤ x) (hy : 0 ≤ y) (hy2 : y < 2147483648) (hne : @Ne Nat S Th) (hv : 2 ≤ fs.size) (hv2 : fs.size ≤ 20) (hg : ∀ v ∈ fs, Good w.params nn xs v)
    (ret : ∀ (t x dx c1 c2 c3 : Addr) (i : Int) (ti a1 a2 a3 b1 b2 b3 t1 t2 t3 t4 t5 t6 t7 t8 t9 : Tok) (nm lc ur : Str) (kd vl pr : Value) (x' y' : Int) (tx' ty' : Tok) (n' : Nat) (h' : Heap) (t' : Nat),
      (t, tupO [.int i ti, .str nm a1, .str lc a2, .str ur a3]) ∈ nn → 0 ≤ i → xs[i.toNat]? = some (.ref x) → (x, instObj 176 dx) ∈ nn → (dx, rowD w.params t1 t2 t3 t4 t5 t6 t7 t8 t9 kd (.str nm b1) (.str ur b2) (.str lc b3) vl pr c1 c2 c3) ∈ nn → PyData.strOk nm = true → PyData.strOk lc = true → PyData.strOk ur = true →
      0 ≤ x' → 0 ≤ y' → y' < 2147483648 → Fr h₀ L h' m → News h₀ L h' [(S, W.listOf #[.int x' tx', .int y' ty'] n')] → Kept s.heap h' [S] → Q (.ref t) { s with heap := h', toks := t' }) :
    wpAny (model prog w) (ktrTop dp un gd cn cs L a ccd cl outer) (call (.ref 390) [.ref S, .ref Th]) Q E s := by
  refine c_one (tx := tx) (ty := ty) (n := n) (k := k) (vs := fs) B F X (fun q hq => ?_) T hk hd hu hx hy hy2 hne (Nat.lt_of_lt_of_le (by decide) hv) (Nat.le_trans hv2 (by decide)) ?r
  · rcases List.mem_cons.mp hq with rfl | hq
    · exact N _ mS
    · rw [List.mem_singleton.mp hq]; exact N _ mT
  case r =>
    intro v x' y' tx' ty' n' h' t' hm hx' hy' hy2' F' N' K'
    obtain ⟨t, x, dx, c1, c2, c3, ii, ti, a1, a2, a3, b1, b2, b3, t1, t2, t3, t4, t5, t6, t7, t8, t9, nm, lc, ur, kd, vl, pr, rfl, g1, g2, g3, g4, g5, k1, k2, k3⟩ := hg v hm
    exact ret t x dx c1 c2 c3 ii ti a1 a2 a3 b1 b2 b3 t1 t2 t3 t4 t5 t6 t7 t8 t9 nm lc ur kd vl pr x' y' tx' ty' n' h' t' g1 g2 g3 g4 g5 k1 k2 k3 hx' hy' hy2' F' N' K'
theorem c_oneV {S Th : Addr} {x y : Int} {tx ty : Tok} {n k : Nat} {fs xs : Array Value} {news nn : List (Addr × Obj)}
    (B : Below A₀ base outer h₀) (F : Fr h₀ L s.heap m) (X : (KK w.params).In h₀) (N : News h₀ L s.heap news) (T : Top p loose mean mg mb h₀) (hk : cs.kind = .function) (hd : dp + 10 < 1000) (hu : un + 60 < 9900)
    (mS : (S, W.listOf #[.int x tx, .int y ty] n) ∈ news) (mT : (Th, W.listOf fs k) ∈ news)
    (hx : 0 ≤ x) (hy : 0 ≤ y) (hy2 : y < 2147483648) (hne : @Ne Nat S Th) (hv : 2 ≤ fs.size) (hv2 : fs.size ≤ 20) (hg : ∀ v ∈ fs, Good w.params nn xs v)
    (ret : ∀ (v : Value) (x' y' : Int) (tx' ty' : Tok) (n' : Nat) (h' : Heap) (t' : Nat), Good w.params nn xs v → 0 ≤ x' → 0 ≤ y' → y' < 2147483648 → Fr h₀ L h' m → News h₀ L h' [(S, W.listOf #[.int x' tx', .int y' ty'] n')] → Kept s.heap h' [S] → Q v { s with heap := h', toks := t' }) :
    wpAny (model prog w) (ktrTop dp un gd cn cs L a ccd cl outer) (call (.ref 390) [.ref S, .ref Th]) Q E s := by
  refine c_one (tx := tx) (ty := ty) (n := n) (k := k) (vs := fs) B F X (fun q hq => ?_) T hk hd hu hx hy hy2 hne (Nat.lt_of_lt_of_le (by decide) hv) (Nat.le_trans hv2 (by decide)) ?r
  · rcases List.mem_cons.mp hq with rfl | hq
    · exact N _ mS
    · rw [List.mem_singleton.mp hq]; exact N _ mT
  case r => exact fun v x' y' tx' ty' n' h' t' hm hx' hy' hy2' F' N' K' => ret v x' y' tx' ty' n' h' t' (hg v hm) hx' hy' hy2' F' N' K'

end
section
theorem regC5a11 : True := by
  w_top off
  k_with "my row" => ((k_dflt (refine' c_row ?B ?F ?X ?N ?T ?hk ?hd ?hu ?m1 ?m2 ?m3 ?hz ?h0 ?hv ?_; (case B => k_asm); (case F => k_asm); (case X => k_asm); (case N => k_asm); (case T => k_asm); (case hk => exact rfl); (case hd => walk_at "my side"); (case hu => walk_at "my side"); (case m1 => k_mem); (case m2 => k_mem); (case m3 => k_mem); (case hz => walk_at "my size"); (case h0 => omega); (case hv => walk_at "my get")); (intro h9 t9 F9 N9); (try k_sweep); (try dsimp only); (try k_fold)))
  k_with "call ref m" => (((with_reducible show wpAny _ _ (call (Value.ref 208) [Value.ref _, Value.int _ _] _) _ _ _); walk_at "my row"))
  trivial
theorem c_np {Tr TD R x dx c1 c2 c3 : Addr} {t0 ti t1 t2 t3 t4 t5 t6 t7 t8 t9 a1 a2 a3 tp : Tok} {nd k : Nat} {xs : Array Value} {i : Int} {nm ur lc pt : Str} {kd vl pr : Value} {r : Str}
    (B : Below A₀ base outer h₀) (F : Fr h₀ L s.heap m) (X : (KK w.params).In h₀) (T : Top p loose mean mg mb h₀) (hk : cs.kind = .function) (hd : dp + 15 < 1000) (hu : un + 80 < 9900)
    (N : News h₀ L s.heap [(Tr, instObj 365 TD), (TD, dictOf [⟨PyData.keyHash w.params "rows", .str "rows" t0, .ref R⟩] nd), (R, W.listOf xs k), (x, instObj 176 dx), (dx, rowD w.params t1 t2 t3 t4 t5 t6 t7 t8 t9 kd (.str nm a1) (.str ur a2) (.str lc a3) vl pr c1 c2 c3)])
    (hz : xs.size ≤ 1000) (h0 : 0 ≤ i) (hv : xs[i.toNat]? = some (.ref x)) (hp : (pt = "name" ∧ r = nm) ∨ (pt = "local-name" ∧ r = lc) ∨ (pt = "namespace-uri" ∧ r = ur))
    (ret : ∀ (b : Tok) (h' : Heap) (t' : Nat), Fr h₀ L h' m → Kept s.heap h' [] → Q (.str r b) { s with heap := h', toks := t' }) :
    wpAny (model prog w) (ktrTop dp un gd cn cs L a ccd cl outer) (call (.ref 115) [.str pt tp, .int i ti, .ref Tr]) Q E s := by
  rcases hp with ⟨rfl, rfl⟩ | ⟨rfl, rfl⟩ | ⟨rfl, rfl⟩
  all_goals (
    refine wpAny_call ?_
    k_dflt ktr_enter
    k_steps
    refine ret _ _ _ (by assumption) ?_
    rename News _ _ _ _ => N9
    exact Kept.all (l := [_, _, _, _, _]) (Kept.fin (by assumption) (by assumption)) N N9)

end
section
theorem regC512 : True := by
  w_top off
  k_with "my np" => (((rename News _ _ _ _ => N9); k_dflt (refine' c_np ?B ?F ?X ?T ?hk ?hd ?hu ?N ?hz ?h0 ?hv ?hp ?_; (case B => k_asm); (case F => k_asm); (case X => k_asm); (case T => k_asm); (case hk => exact rfl); (case hd => walk_at "my side"); (case hu => walk_at "my side"); (case N => (refine' News.subL N9 ?u; (case u => k_subL))); (case hz => walk_at "my size"); (case h0 => omega); (case hv => walk_at "my get"); (case hp => first | exact .inl ⟨rfl, rfl⟩ | exact .inr (.inl ⟨rfl, rfl⟩) | exact .inr (.inr ⟨rfl, rfl⟩))); (intro b9 h9 t9 F9 K9); (have N8 := News.stay N9 K9); (try k_sweep); clear K9; (try dsimp only); (try k_fold)))
  k_with "call ref m" => (((with_reducible show wpAny _ _ (call (Value.ref 115) [Value.str _ _, Value.int _ _, Value.ref _] _) _ _ _); walk_at "my np"))
  trivial
theorem c_parts {Tr TD R x dx c1 c2 c3 : Addr} {t0 ti t1 t2 t3 t4 t5 t6 t7 t8 t9 a1 a2 a3 : Tok} {nd k : Nat} {xs : Array Value} {i : Int} {nm ur lc : Str} {kd vl pr : Value}
    (B : Below A₀ base outer h₀) (F : Fr h₀ L s.heap m) (X : (KK w.params).In h₀) (T : Top p loose mean mg mb h₀) (hk : cs.kind = .function) (hd : dp + 20 < 1000) (hu : un + 100 < 9900)
    (N : News h₀ L s.heap [(Tr, instObj 365 TD), (TD, dictOf [⟨PyData.keyHash w.params "rows", .str "rows" t0, .ref R⟩] nd), (R, W.listOf xs k), (x, instObj 176 dx), (dx, rowD w.params t1 t2 t3 t4 t5 t6 t7 t8 t9 kd (.str nm a1) (.str ur a2) (.str lc a3) vl pr c1 c2 c3)])
    (hz : xs.size ≤ 1000) (h0 : 0 ≤ i) (hv : xs[i.toNat]? = some (.ref x))
    (ret : ∀ (l : Addr) (n9 : Nat) (b1 b2 b3 : Tok) (h' : Heap) (t' : Nat), Fr h₀ L h' m → News h₀ L h' [(l, W.listOf #[.str nm b1, .str lc b2, .str ur b3] n9)] → Kept s.heap h' [] → Q (.ref l) { s with heap := h', toks := t' }) :
    wpAny (model prog w) (ktrTop dp un gd cn cs L a ccd cl outer) (call (.ref 409) [.ref Tr, .int i ti]) Q E s := by
  refine wpAny_call ?_
  k_dflt ktr_enter
  k_steps
  rename News _ _ _ _ => N9
  refine' ret _ _ _ _ _ _ _ (by assumption) ?N ?K
  case N => exact News.subL N9 (by k_subL)
  case K => exact Kept.all (l := [_, _, _, _, _]) (Kept.fin (by assumption) (by assumption)) N (News.subL N9 (by k_subL))

end
section
theorem regC613 : True := by
  w_top off
  k_with "my newrow" => (((rename News _ _ _ _ => N9); k_dflt (refine' c_newrow ?B ?F ?X ?N ?T ?hk ?hd ?hu ?m1 ?m2 ?m3 ?hz ?_; (case B => k_asm); (case F => k_asm); (case X => k_asm); (case N => exact N9); (case T => k_asm); (case hk => exact rfl); (case hd => walk_at "my side"); (case hu => walk_at "my side"); (case m1 => k_mem); (case m2 => k_mem); (case m3 => k_mem); (case hz => walk_at "my size")); (intro i9 ti9 ta9 tb9 tc9 td9 te9 tf9 tg9 th9 tj9 y9 dy9 ca9 cb9 cc9 n9 h9 t9 hi9 F9 M9 K9 al9 la9 lb9 lc9 ld9); (have N8 := News.grow (new := [_, _, _, _, _]) N9 (by k_upd) M9 K9); clear M9 K9; (try simp only [List.cons_append, List.nil_append] at N8); (k_lt al9); (try k_sweep); (try dsimp only); (try k_fold)))
  k_with "call ref m" => (((with_reducible show wpAny _ _ (call (Value.ref 201) [Value.ref _, _, _, _, _, _, _] _) _ _ _); walk_at "my newrow"))
  k_with "my row" => ((k_dflt (refine' c_row ?B ?F ?X ?N ?T ?hk ?hd ?hu ?m1 ?m2 ?m3 ?hz ?h0 ?hv ?_; (case B => k_asm); (case F => k_asm); (case X => k_asm); (case N => k_asm); (case T => k_asm); (case hk => exact rfl); (case hd => walk_at "my side"); (case hu => walk_at "my side"); (case m1 => k_mem); (case m2 => k_mem); (case m3 => k_mem); (case hz => walk_at "my size"); (case h0 => omega); (case hv => walk_at "my get")); (intro h9 t9 F9 N9); (try k_sweep); (try dsimp only); (try k_fold)))
  k_with "call ref m" => (((with_reducible show wpAny _ _ (call (Value.ref 208) [Value.ref _, Value.int _ _] _) _ _ _); walk_at "my row"))
  k_with "compareOp NotIn str ref m" => (((with_reducible show wpAny _ _ (compareOp CmpOp.NotIn (Value.str _ _) (Value.ref 159)) _ _ _); k_dflt (refine' notin_parents ?F ?X ?k ?_; (case F => k_asm); (case X => k_asm); (case k => with_reducible assumption)); (try dsimp only)))
  trivial
theorem addchild0 {Tr TD R x dx C e1 e2 : Addr} {t0 tp tk t1 t2 t3 t4 t5 t6 t7 t8 t9 : Tok} {nd k kc : Nat} {xs cv : Array Value} {i : Int} {kd : Str} {nm ur lc vl pr v1 v2 v3 v4 v5 : Value} {rest : List (Addr × Obj)}
    (B : Below A₀ base outer h₀) (F : Fr h₀ L s.heap m) (X : (KK w.params).In h₀) (T : Top p loose mean mg mb h₀) (hk : cs.kind = .function) (hd : dp + 20 < 1000) (hu : un + 100 < 9900)
    (N : News h₀ L s.heap ((Tr, instObj 365 TD) :: (TD, dictOf [⟨PyData.keyHash w.params "rows", .str "rows" t0, .ref R⟩] nd) :: (R, W.listOf xs k) :: (x, instObj 176 dx) :: (dx, rowD w.params t1 t2 t3 t4 t5 t6 t7 t8 t9 (.str kd tk) nm ur lc vl pr C e1 e2) :: (C, W.listOf cv kc) :: rest))
    (hn1 : @Ne Nat Tr R) (hn2 : @Ne Nat TD R) (hn3 : @Ne Nat x R) (hn4 : @Ne Nat dx R) (hn5 : @Ne Nat C R) (hn6 : @Ne Nat Tr C) (hn7 : @Ne Nat TD C) (hn8 : @Ne Nat x C) (hn9 : @Ne Nat dx C) (hof : ∀ q ∈ rest, q.1 ≠ R) (hof2 : ∀ q ∈ rest, q.1 ≠ C)
    (hz : xs.size ≤ 1000) (hz2 : cv.size ≤ 1000) (h0 : 0 ≤ i) (hv : xs[i.toNat]? = some (.ref x)) (hkd : kd = "root" ∨ kd = "element")
    (ret : ∀ (i' : Int) (ti t1' t2' t3' t4' t5' t6' t7' t8' t9' : Tok) (y dy c1 c2 c3 : Addr) (n' n'' : Nat) (h' : Heap) (t' : Nat), i' = (xs.size : Int) → Fr h₀ L h' m →
      News h₀ L h' ((c3, W.listOf #[] 0) :: (c2, W.listOf #[] 0) :: (c1, W.listOf #[] 0) :: (y, instObj 176 dy) :: (dy, rowD w.params t1' t2' t3' t4' t5' t6' t7' t8' t9' v1 v2 v3 v4 v5 (.int i tp) c1 c2 c3) :: (Tr, instObj 365 TD) :: (TD, dictOf [⟨PyData.keyHash w.params "rows", .str "rows" t0, .ref R⟩] nd) :: (R, W.listOf (xs.push (.ref y)) n') :: (x, instObj 176 dx) :: (dx, rowD w.params t1 t2 t3 t4 t5 t6 t7 t8 t9 (.str kd tk) nm ur lc vl pr C e1 e2) :: (C, W.listOf (cv.push (.int i' ti)) n'') :: rest) →
      Kept s.heap h' (((Tr, instObj 365 TD) :: (TD, dictOf [⟨PyData.keyHash w.params "rows", .str "rows" t0, .ref R⟩] nd) :: (R, W.listOf xs k) :: (x, instObj 176 dx) :: (dx, rowD w.params t1 t2 t3 t4 t5 t6 t7 t8 t9 (.str kd tk) nm ur lc vl pr C e1 e2) :: (C, W.listOf cv kc) :: rest).map (·.1)) →
      AllLt dy ((Tr, instObj 365 TD) :: (TD, dictOf [⟨PyData.keyHash w.params "rows", .str "rows" t0, .ref R⟩] nd) :: (R, W.listOf xs k) :: (x, instObj 176 dx) :: (dx, rowD w.params t1 t2 t3 t4 t5 t6 t7 t8 t9 (.str kd tk) nm ur lc vl pr C e1 e2) :: (C, W.listOf cv kc) :: rest) → @LT.lt Nat _ dy y → @LT.lt Nat _ y c1 → @LT.lt Nat _ c1 c2 → @LT.lt Nat _ c2 c3 → Q (.int i' ti) { s with heap := h', toks := t' }) :
    wpAny (model prog w) (ktrTop dp un gd cn cs L a ccd cl outer) (call (.ref 222) [.ref Tr, .int i tp, v1, v2, v3, v4, v5]) Q E s := by
  refine wpAny_call ?_
  k_dflt ktr_enter
  k_steps
  refine' ret _ _ _ _ _ _ _ _ _ _ _ _ _ _ _ _ _ _ _ _ ?e ?F ?N ?K ?a ?b ?d ?e1 ?f
  case N => assumption
  case F => assumption
  case K => exact Kept.fin (by assumption) (by assumption)
  case a => (dsimp only [AllLt]; with_reducible assumption)
  all_goals first | with_reducible assumption | k_extra "lt"

theorem c_addchild {Tr TD R x dx C e1 e2 : Addr} {t0 tp tk t1 t2 t3 t4 t5 t6 t7 t8 t9 : Tok} {nd k kc : Nat} {xs cv : Array Value} {i : Int} {kd : Str} {nm ur lc vl pr v1 v2 v3 v4 v5 : Value} {news : List (Addr × Obj)}
    (B : Below A₀ base outer h₀) (F : Fr h₀ L s.heap m) (X : (KK w.params).In h₀) (N : News h₀ L s.heap news) (T : Top p loose mean mg mb h₀) (hk : cs.kind = .function) (hd : dp + 20 < 1000) (hu : un + 100 < 9900)
    (m1 : (Tr, instObj 365 TD) ∈ news) (m2 : (TD, dictOf [⟨PyData.keyHash w.params "rows", .str "rows" t0, .ref R⟩] nd) ∈ news) (m3 : (R, W.listOf xs k) ∈ news) (m4 : (x, instObj 176 dx) ∈ news) (m5 : (dx, rowD w.params t1 t2 t3 t4 t5 t6 t7 t8 t9 (.str kd tk) nm ur lc vl pr C e1 e2) ∈ news) (m6 : (C, W.listOf cv kc) ∈ news) (hne : @Ne Nat C R)
    (hz : xs.size ≤ 1000) (hz2 : cv.size ≤ 1000) (h0 : 0 ≤ i) (hv : xs[i.toNat]? = some (.ref x)) (hkd : kd = "root" ∨ kd = "element")
    (ret : ∀ (i' : Int) (ti t1' t2' t3' t4' t5' t6' t7' t8' t9' : Tok) (y dy c1 c2 c3 : Addr) (n' n'' : Nat) (h' : Heap) (t' : Nat), i' = (xs.size : Int) → Fr h₀ L h' m →
      News h₀ L h' [(c3, W.listOf #[] 0), (c2, W.listOf #[] 0), (c1, W.listOf #[] 0), (y, instObj 176 dy), (dy, rowD w.params t1' t2' t3' t4' t5' t6' t7' t8' t9' v1 v2 v3 v4 v5 (.int i tp) c1 c2 c3), (R, W.listOf (xs.push (.ref y)) n'), (C, W.listOf (cv.push (.int i' ti)) n'')] →
      Kept s.heap h' [R, C] → (∀ q ∈ news, @LT.lt Nat _ q.1 dy) → @LT.lt Nat _ dy y → @LT.lt Nat _ y c1 → @LT.lt Nat _ c1 c2 → @LT.lt Nat _ c2 c3 → Q (.int i' ti) { s with heap := h', toks := t' }) :
    wpAny (model prog w) (ktrTop dp un gd cn cs L a ccd cl outer) (call (.ref 222) [.ref Tr, .int i tp, v1, v2, v3, v4, v5]) Q E s := by
  have u1 := news_ne N m1 m3 inst_ne_list
  have u2 := news_ne N m2 m3 dict_ne_list
  have u3 := news_ne N m4 m3 inst_ne_list
  have u4 := news_ne N m5 m3 dict_ne_list
  have f1 := news_ne N m1 m6 inst_ne_list
  have f2 := news_ne N m2 m6 dict_ne_list
  have f3 := news_ne N m4 m6 inst_ne_list
  have f4 := news_ne N m5 m6 dict_ne_list
  refine addchild0 (rest := news.filter (fun q => decide (q.1 ≠ R ∧ q.1 ≠ C))) B F X T hk hd hu ?N u1 u2 u3 u4 hne f1 f2 f3 f4 ?o ?o2 hz hz2 h0 hv hkd ?r (t0 := t0) (nd := nd) (k := k) (kc := kc) (tk := tk) (nm := nm) (ur := ur) (lc := lc) (vl := vl) (pr := pr) (dx := dx) (cv := cv) (C := C) (e1 := e1) (e2 := e2) (t1 := t1) (t2 := t2) (t3 := t3) (t4 := t4) (t5 := t5) (t6 := t6) (t7 := t7) (t8 := t8) (t9 := t9)
  case N =>
    intro q hq
    simp only [List.mem_cons] at hq
    rcases hq with rfl | rfl | rfl | rfl | rfl | rfl | hq
    · exact N _ m1
    · exact N _ m2
    · exact N _ m3
    · exact N _ m4
    · exact N _ m5
    · exact N _ m6
    · exact N _ (List.mem_filter.mp hq).1
  case o => exact fun q hq => (of_decide_eq_true (List.mem_filter.mp hq).2).1
  case o2 => exact fun q hq => (of_decide_eq_true (List.mem_filter.mp hq).2).2
  case r =>
    intro i' ti t1 t2 t3 t4 t5 t6 t7 t8 t9 y dy c1 c2 c3 n' n'' h' t' hi F' N' K' al l3 l4 l5 l6
    have al := mem_find al
    have al' : ∀ q ∈ news, @LT.lt Nat _ q.1 dy := fun q hq => by
      by_cases e : q.1 = R
      · rw [e]; exact al _ (.tail _ (.tail _ (.head _)))
      · by_cases e' : q.1 = C
        · rw [e']; exact al _ (.tail _ (.tail _ (.tail _ (.tail _ (.tail _ (.head _))))))
        · exact al q (.tail _ (.tail _ (.tail _ (.tail _ (.tail _ (.tail _ (List.mem_filter.mpr ⟨hq, decide_eq_true ⟨e, e'⟩⟩)))))))
    refine ret i' ti t1 t2 t3 t4 t5 t6 t7 t8 t9 y dy c1 c2 c3 n' n'' h' t' hi F' ?n ?k al' l3 l4 l5 l6
    case n => exact News.subL N' (by k_subL)
    case k =>
      refine kept_of N K' (fun a ha => ?_) (fun q hq hn => ?_)
      · obtain ⟨z, hz, rfl⟩ := List.mem_map.mp ha
        simp only [List.mem_cons] at hz
        rcases hz with rfl | rfl | rfl | rfl | rfl | rfl | hz
        · exact ⟨_, m1⟩
        · exact ⟨_, m2⟩
        · exact ⟨_, m3⟩
        · exact ⟨_, m4⟩
        · exact ⟨_, m5⟩
        · exact ⟨_, m6⟩
        · exact ⟨z.2, (List.mem_filter.mp hz).1⟩
      · have n1 : q.1 ≠ R := fun e => hn (e ▸ .head _)
        have n2 : q.1 ≠ C := fun e => hn (e ▸ .tail _ (.head _))
        exact (N' q (.tail _ (.tail _ (.tail _ (.tail _ (.tail _ (.tail _ (.tail _ (.tail _ (.tail _ (.tail _ (.tail _ (List.mem_filter.mpr ⟨hq, decide_eq_true ⟨n1, n2⟩⟩))))))))))))).1

end
section
theorem regC714 : True := by
  w_top off
  k_with "my nil" => ((k_dflt (refine' iter_nil ?h ?F ?N ?m ?_; (case h => with_unfolding_all rfl); (case F => k_asm); (case N => k_asm); (case m => k_mem)); intro h9 tk9 F9 N9; (try k_sweep); (try dsimp only); (try k_fold)))
  k_with "pyIter ref m" => (((with_reducible show wpAny _ _ (pyIter (Value.ref _)) (fun it s₂ => LoopAtV _ _ _ _ _ _ _ _ _ it s₂) _ _); walk_at "my nil"))
  trivial
theorem setattr0 {Tr TD R x dx A g1 g2 : Addr} {t0 tp tk t1 t2 t3 t4 t5 t6 t7 t8 t9 : Tok} {nd k kc : Nat} {xs : Array Value} {i : Int} {nm ur lc vl pr v1 v2 v3 v4 : Value} {rest : List (Addr × Obj)}
    (B : Below A₀ base outer h₀) (F : Fr h₀ L s.heap m) (X : (KK w.params).In h₀) (T : Top p loose mean mg mb h₀) (hk : cs.kind = .function) (hd : dp + 20 < 1000) (hu : un + 100 < 9900)
    (N : News h₀ L s.heap ((Tr, instObj 365 TD) :: (TD, dictOf [⟨PyData.keyHash w.params "rows", .str "rows" t0, .ref R⟩] nd) :: (R, W.listOf xs k) :: (x, instObj 176 dx) :: (dx, rowD w.params t1 t2 t3 t4 t5 t6 t7 t8 t9 (.str "element" tk) nm ur lc vl pr g1 A g2) :: (A, W.listOf #[] kc) :: rest))
    (hn1 : @Ne Nat Tr R) (hn2 : @Ne Nat TD R) (hn3 : @Ne Nat x R) (hn4 : @Ne Nat dx R) (hn5 : @Ne Nat A R) (hn6 : @Ne Nat Tr A) (hn7 : @Ne Nat TD A) (hn8 : @Ne Nat x A) (hn9 : @Ne Nat dx A) (hof : ∀ q ∈ rest, q.1 ≠ R) (hof2 : ∀ q ∈ rest, q.1 ≠ A)
    (hz : xs.size ≤ 1000) (h0 : 0 ≤ i) (hv : xs[i.toNat]? = some (.ref x))
    (ret : ∀ (i' : Int) (ti tq t1' t2' t3' t4' t5' t6' t7' t8' t9' : Tok) (y dy c1 c2 c3 : Addr) (n' n'' : Nat) (h' : Heap) (t' : Nat), i' = (xs.size : Int) → Fr h₀ L h' m →
      News h₀ L h' ((c3, W.listOf #[] 0) :: (c2, W.listOf #[] 0) :: (c1, W.listOf #[] 0) :: (y, instObj 176 dy) :: (dy, rowD w.params t1' t2' t3' t4' t5' t6' t7' t8' t9' (.str "attribute" tq) v1 v2 v3 v4 (.int i tp) c1 c2 c3) :: (Tr, instObj 365 TD) :: (TD, dictOf [⟨PyData.keyHash w.params "rows", .str "rows" t0, .ref R⟩] nd) :: (R, W.listOf (xs.push (.ref y)) n') :: (x, instObj 176 dx) :: (dx, rowD w.params t1 t2 t3 t4 t5 t6 t7 t8 t9 (.str "element" tk) nm ur lc vl pr g1 A g2) :: (A, W.listOf #[.int i' ti] n'') :: rest) →
      Kept s.heap h' (((Tr, instObj 365 TD) :: (TD, dictOf [⟨PyData.keyHash w.params "rows", .str "rows" t0, .ref R⟩] nd) :: (R, W.listOf xs k) :: (x, instObj 176 dx) :: (dx, rowD w.params t1 t2 t3 t4 t5 t6 t7 t8 t9 (.str "element" tk) nm ur lc vl pr g1 A g2) :: (A, W.listOf #[] kc) :: rest).map (·.1)) →
      AllLt dy ((Tr, instObj 365 TD) :: (TD, dictOf [⟨PyData.keyHash w.params "rows", .str "rows" t0, .ref R⟩] nd) :: (R, W.listOf xs k) :: (x, instObj 176 dx) :: (dx, rowD w.params t1 t2 t3 t4 t5 t6 t7 t8 t9 (.str "element" tk) nm ur lc vl pr g1 A g2) :: (A, W.listOf #[] kc) :: rest) → @LT.lt Nat _ dy y → @LT.lt Nat _ y c1 → @LT.lt Nat _ c1 c2 → @LT.lt Nat _ c2 c3 → Q (.int i' ti) { s with heap := h', toks := t' }) :
    wpAny (model prog w) (ktrTop dp un gd cn cs L a ccd cl outer) (call (.ref 264) [.ref Tr, .int i tp, v1, v2, v3, v4]) Q E s := by
  refine wpAny_call ?_
  k_dflt ktr_enter
  k_steps
  refine' ret _ _ _ _ _ _ _ _ _ _ _ _ _ _ _ _ _ _ _ _ _ ?e ?F ?N ?K ?a ?b ?d ?e1 ?f
  case N => assumption
  case F => assumption
  case K => exact Kept.fin (by assumption) (by assumption)
  case a => first | (dsimp only [AllLt]; with_reducible assumption) | tbn_find | (dsimp only [AllLt]; refine ⟨by k_extra "ord", by k_extra "ord", by k_extra "ord", by k_extra "ord", by k_extra "ord", by k_extra "ord", by assumption⟩)
  all_goals first | with_reducible assumption | k_extra "ord"

theorem c_setattr {Tr TD R x dx A g1 g2 : Addr} {t0 tp tk t1 t2 t3 t4 t5 t6 t7 t8 t9 : Tok} {nd k kc : Nat} {xs : Array Value} {i : Int} {nm ur lc vl pr v1 v2 v3 v4 : Value} {news : List (Addr × Obj)}
    (B : Below A₀ base outer h₀) (F : Fr h₀ L s.heap m) (X : (KK w.params).In h₀) (N : News h₀ L s.heap news) (T : Top p loose mean mg mb h₀) (hk : cs.kind = .function) (hd : dp + 20 < 1000) (hu : un + 100 < 9900)
    (m1 : (Tr, instObj 365 TD) ∈ news) (m2 : (TD, dictOf [⟨PyData.keyHash w.params "rows", .str "rows" t0, .ref R⟩] nd) ∈ news) (m3 : (R, W.listOf xs k) ∈ news) (m4 : (x, instObj 176 dx) ∈ news) (m5 : (dx, rowD w.params t1 t2 t3 t4 t5 t6 t7 t8 t9 (.str "element" tk) nm ur lc vl pr g1 A g2) ∈ news) (m6 : (A, W.listOf #[] kc) ∈ news) (hne : @Ne Nat A R)
    (hz : xs.size ≤ 1000) (h0 : 0 ≤ i) (hv : xs[i.toNat]? = some (.ref x))
    (ret : ∀ (i' : Int) (ti tq t1' t2' t3' t4' t5' t6' t7' t8' t9' : Tok) (y dy c1 c2 c3 : Addr) (n' n'' : Nat) (h' : Heap) (t' : Nat), i' = (xs.size : Int) → Fr h₀ L h' m →
      News h₀ L h' [(c3, W.listOf #[] 0), (c2, W.listOf #[] 0), (c1, W.listOf #[] 0), (y, instObj 176 dy), (dy, rowD w.params t1' t2' t3' t4' t5' t6' t7' t8' t9' (.str "attribute" tq) v1 v2 v3 v4 (.int i tp) c1 c2 c3), (R, W.listOf (xs.push (.ref y)) n'), (A, W.listOf #[.int i' ti] n'')] →
      Kept s.heap h' [R, A] → (∀ q ∈ news, @LT.lt Nat _ q.1 dy) → @LT.lt Nat _ dy y → @LT.lt Nat _ y c1 → @LT.lt Nat _ c1 c2 → @LT.lt Nat _ c2 c3 → Q (.int i' ti) { s with heap := h', toks := t' }) :
    wpAny (model prog w) (ktrTop dp un gd cn cs L a ccd cl outer) (call (.ref 264) [.ref Tr, .int i tp, v1, v2, v3, v4]) Q E s := by
  have u1 := news_ne N m1 m3 inst_ne_list
  have u2 := news_ne N m2 m3 dict_ne_list
  have u3 := news_ne N m4 m3 inst_ne_list
  have u4 := news_ne N m5 m3 dict_ne_list
  have f1 := news_ne N m1 m6 inst_ne_list
  have f2 := news_ne N m2 m6 dict_ne_list
  have f3 := news_ne N m4 m6 inst_ne_list
  have f4 := news_ne N m5 m6 dict_ne_list
  refine setattr0 (rest := news.filter (fun q => decide (q.1 ≠ R ∧ q.1 ≠ A))) B F X T hk hd hu ?N u1 u2 u3 u4 hne f1 f2 f3 f4 ?o ?o2 hz h0 hv ?r (t0 := t0) (nd := nd) (k := k) (kc := kc) (tk := tk) (nm := nm) (ur := ur) (lc := lc) (vl := vl) (pr := pr) (dx := dx) (A := A) (g1 := g1) (g2 := g2) (t1 := t1) (t2 := t2) (t3 := t3) (t4 := t4) (t5 := t5) (t6 := t6) (t7 := t7) (t8 := t8) (t9 := t9)
  case N =>
    intro q hq
    simp only [List.mem_cons] at hq
    rcases hq with rfl | rfl | rfl | rfl | rfl | rfl | hq
    · exact N _ m1
    · exact N _ m2
    · exact N _ m3
    · exact N _ m4
    · exact N _ m5
    · exact N _ m6
    · exact N _ (List.mem_filter.mp hq).1
  case o => exact fun q hq => (of_decide_eq_true (List.mem_filter.mp hq).2).1
  case o2 => exact fun q hq => (of_decide_eq_true (List.mem_filter.mp hq).2).2
  case r =>
    intro i' ti tq t1 t2 t3 t4 t5 t6 t7 t8 t9 y dy c1 c2 c3 n' n'' h' t' hi F' N' K' al l3 l4 l5 l6
    have al := mem_find al
    have al' : ∀ q ∈ news, @LT.lt Nat _ q.1 dy := fun q hq => by
      by_cases e : q.1 = R
      · rw [e]; exact al _ (.tail _ (.tail _ (.head _)))
      · by_cases e' : q.1 = A
        · rw [e']; exact al _ (.tail _ (.tail _ (.tail _ (.tail _ (.tail _ (.head _))))))
        · exact al q (.tail _ (.tail _ (.tail _ (.tail _ (.tail _ (.tail _ (List.mem_filter.mpr ⟨hq, decide_eq_true ⟨e, e'⟩⟩)))))))
    refine ret i' ti tq t1 t2 t3 t4 t5 t6 t7 t8 t9 y dy c1 c2 c3 n' n'' h' t' hi F' ?n ?k al' l3 l4 l5 l6
    case n => exact News.subL N' (by k_subL)
    case k =>
      refine kept_of N K' (fun a ha => ?_) (fun q hq hn => ?_)
      · obtain ⟨z, hz, rfl⟩ := List.mem_map.mp ha
        simp only [List.mem_cons] at hz
        rcases hz with rfl | rfl | rfl | rfl | rfl | rfl | hz
        · exact ⟨_, m1⟩
        · exact ⟨_, m2⟩
        · exact ⟨_, m3⟩
        · exact ⟨_, m4⟩
        · exact ⟨_, m5⟩
        · exact ⟨_, m6⟩
        · exact ⟨z.2, (List.mem_filter.mp hz).1⟩
      · have n1 : q.1 ≠ R := fun e => hn (e ▸ .head _)
        have n2 : q.1 ≠ A := fun e => hn (e ▸ .tail _ (.head _))
        exact (N' q (.tail _ (.tail _ (.tail _ (.tail _ (.tail _ (.tail _ (.tail _ (.tail _ (.tail _ (.tail _ (.tail _ (List.mem_filter.mpr ⟨hq, decide_eq_true ⟨n1, n2⟩⟩))))))))))))).1

end
section
theorem regC815 : True := by
  w_top off
  trivial
theorem addns0 {Tr TD R x dx A g1 g2 : Addr} {t0 tp tk t1 t2 t3 t4 t5 t6 t7 t8 t9 : Tok} {nd k kc : Nat} {xs : Array Value} {i : Int} {nm ur lc vl pr v1 v2 : Value} {rest : List (Addr × Obj)}
    (B : Below A₀ base outer h₀) (F : Fr h₀ L s.heap m) (X : (KK w.params).In h₀) (T : Top p loose mean mg mb h₀) (hk : cs.kind = .function) (hd : dp + 20 < 1000) (hu : un + 100 < 9900)
    (N : News h₀ L s.heap ((Tr, instObj 365 TD) :: (TD, dictOf [⟨PyData.keyHash w.params "rows", .str "rows" t0, .ref R⟩] nd) :: (R, W.listOf xs k) :: (x, instObj 176 dx) :: (dx, rowD w.params t1 t2 t3 t4 t5 t6 t7 t8 t9 (.str "element" tk) nm ur lc vl pr g1 g2 A) :: (A, W.listOf #[] kc) :: rest))
    (hn1 : @Ne Nat Tr R) (hn2 : @Ne Nat TD R) (hn3 : @Ne Nat x R) (hn4 : @Ne Nat dx R) (hn5 : @Ne Nat A R) (hn6 : @Ne Nat Tr A) (hn7 : @Ne Nat TD A) (hn8 : @Ne Nat x A) (hn9 : @Ne Nat dx A) (hof : ∀ q ∈ rest, q.1 ≠ R) (hof2 : ∀ q ∈ rest, q.1 ≠ A)
    (hz : xs.size ≤ 1000) (h0 : 0 ≤ i) (hv : xs[i.toNat]? = some (.ref x))
    (ret : ∀ (i' : Int) (ti tq tz t1' t2' t3' t4' t5' t6' t7' t8' t9' : Tok) (y dy c1 c2 c3 : Addr) (n' n'' : Nat) (h' : Heap) (t' : Nat), i' = (xs.size : Int) → Fr h₀ L h' m →
      News h₀ L h' ((c3, W.listOf #[] 0) :: (c2, W.listOf #[] 0) :: (c1, W.listOf #[] 0) :: (y, instObj 176 dy) :: (dy, rowD w.params t1' t2' t3' t4' t5' t6' t7' t8' t9' (.str "namespace" tq) v1 (.str "" tz) v1 v2 (.int i tp) c1 c2 c3) :: (Tr, instObj 365 TD) :: (TD, dictOf [⟨PyData.keyHash w.params "rows", .str "rows" t0, .ref R⟩] nd) :: (R, W.listOf (xs.push (.ref y)) n') :: (x, instObj 176 dx) :: (dx, rowD w.params t1 t2 t3 t4 t5 t6 t7 t8 t9 (.str "element" tk) nm ur lc vl pr g1 g2 A) :: (A, W.listOf #[.int i' ti] n'') :: rest) →
      Kept s.heap h' (((Tr, instObj 365 TD) :: (TD, dictOf [⟨PyData.keyHash w.params "rows", .str "rows" t0, .ref R⟩] nd) :: (R, W.listOf xs k) :: (x, instObj 176 dx) :: (dx, rowD w.params t1 t2 t3 t4 t5 t6 t7 t8 t9 (.str "element" tk) nm ur lc vl pr g1 g2 A) :: (A, W.listOf #[] kc) :: rest).map (·.1)) →
      AllLt dy ((Tr, instObj 365 TD) :: (TD, dictOf [⟨PyData.keyHash w.params "rows", .str "rows" t0, .ref R⟩] nd) :: (R, W.listOf xs k) :: (x, instObj 176 dx) :: (dx, rowD w.params t1 t2 t3 t4 t5 t6 t7 t8 t9 (.str "element" tk) nm ur lc vl pr g1 g2 A) :: (A, W.listOf #[] kc) :: rest) → @LT.lt Nat _ dy y → @LT.lt Nat _ y c1 → @LT.lt Nat _ c1 c2 → @LT.lt Nat _ c2 c3 → Q (.int i' ti) { s with heap := h', toks := t' }) :
    wpAny (model prog w) (ktrTop dp un gd cn cs L a ccd cl outer) (call (.ref 271) [.ref Tr, .int i tp, v1, v2]) Q E s := by
  refine wpAny_call ?_
  k_dflt ktr_enter
  k_steps
  refine' ret _ _ _ _ _ _ _ _ _ _ _ _ _ _ _ _ _ _ _ _ _ _ ?e ?F ?N ?K ?a ?b ?d ?e1 ?f
  case N => assumption
  case F => assumption
  case K => exact Kept.fin (by assumption) (by assumption)
  case a => first | (dsimp only [AllLt]; with_reducible assumption) | tbn_find | (dsimp only [AllLt]; refine ⟨by k_extra "ord", by k_extra "ord", by k_extra "ord", by k_extra "ord", by k_extra "ord", by k_extra "ord", by assumption⟩)
  all_goals first | with_reducible assumption | k_extra "ord"

theorem c_addns {Tr TD R x dx A g1 g2 : Addr} {t0 tp tk t1 t2 t3 t4 t5 t6 t7 t8 t9 : Tok} {nd k kc : Nat} {xs : Array Value} {i : Int} {nm ur lc vl pr v1 v2 : Value} {news : List (Addr × Obj)}
    (B : Below A₀ base outer h₀) (F : Fr h₀ L s.heap m) (X : (KK w.params).In h₀) (N : News h₀ L s.heap news) (T : Top p loose mean mg mb h₀) (hk : cs.kind = .function) (hd : dp + 20 < 1000) (hu : un + 100 < 9900)
    (m1 : (Tr, instObj 365 TD) ∈ news) (m2 : (TD, dictOf [⟨PyData.keyHash w.params "rows", .str "rows" t0, .ref R⟩] nd) ∈ news) (m3 : (R, W.listOf xs k) ∈ news) (m4 : (x, instObj 176 dx) ∈ news) (m5 : (dx, rowD w.params t1 t2 t3 t4 t5 t6 t7 t8 t9 (.str "element" tk) nm ur lc vl pr g1 g2 A) ∈ news) (m6 : (A, W.listOf #[] kc) ∈ news) (hne : @Ne Nat A R)
    (hz : xs.size ≤ 1000) (h0 : 0 ≤ i) (hv : xs[i.toNat]? = some (.ref x))
    (ret : ∀ (i' : Int) (ti tq tz t1' t2' t3' t4' t5' t6' t7' t8' t9' : Tok) (y dy c1 c2 c3 : Addr) (n' n'' : Nat) (h' : Heap) (t' : Nat), i' = (xs.size : Int) → Fr h₀ L h' m →
      News h₀ L h' [(c3, W.listOf #[] 0), (c2, W.listOf #[] 0), (c1, W.listOf #[] 0), (y, instObj 176 dy), (dy, rowD w.params t1' t2' t3' t4' t5' t6' t7' t8' t9' (.str "namespace" tq) v1 (.str "" tz) v1 v2 (.int i tp) c1 c2 c3), (R, W.listOf (xs.push (.ref y)) n'), (A, W.listOf #[.int i' ti] n'')] →
      Kept s.heap h' [R, A] → (∀ q ∈ news, @LT.lt Nat _ q.1 dy) → @LT.lt Nat _ dy y → @LT.lt Nat _ y c1 → @LT.lt Nat _ c1 c2 → @LT.lt Nat _ c2 c3 → Q (.int i' ti) { s with heap := h', toks := t' }) :
    wpAny (model prog w) (ktrTop dp un gd cn cs L a ccd cl outer) (call (.ref 271) [.ref Tr, .int i tp, v1, v2]) Q E s := by
  have u1 := news_ne N m1 m3 inst_ne_list
  have u2 := news_ne N m2 m3 dict_ne_list
  have u3 := news_ne N m4 m3 inst_ne_list
  have u4 := news_ne N m5 m3 dict_ne_list
  have f1 := news_ne N m1 m6 inst_ne_list
  have f2 := news_ne N m2 m6 dict_ne_list
  have f3 := news_ne N m4 m6 inst_ne_list
  have f4 := news_ne N m5 m6 dict_ne_list
  refine addns0 (rest := news.filter (fun q => decide (q.1 ≠ R ∧ q.1 ≠ A))) B F X T hk hd hu ?N u1 u2 u3 u4 hne f1 f2 f3 f4 ?o ?o2 hz h0 hv ?r (t0 := t0) (nd := nd) (k := k) (kc := kc) (tk := tk) (nm := nm) (ur := ur) (lc := lc) (vl := vl) (pr := pr) (dx := dx) (A := A) (g1 := g1) (g2 := g2) (t1 := t1) (t2 := t2) (t3 := t3) (t4 := t4) (t5 := t5) (t6 := t6) (t7 := t7) (t8 := t8) (t9 := t9)
  case N =>
    intro q hq
    simp only [List.mem_cons] at hq
    rcases hq with rfl | rfl | rfl | rfl | rfl | rfl | hq
    · exact N _ m1
    · exact N _ m2
    · exact N _ m3
    · exact N _ m4
    · exact N _ m5
    · exact N _ m6
    · exact N _ (List.mem_filter.mp hq).1
  case o => exact fun q hq => (of_decide_eq_true (List.mem_filter.mp hq).2).1
  case o2 => exact fun q hq => (of_decide_eq_true (List.mem_filter.mp hq).2).2
  case r =>
    intro i' ti tq tz t1 t2 t3 t4 t5 t6 t7 t8 t9 y dy c1 c2 c3 n' n'' h' t' hi F' N' K' al l3 l4 l5 l6
    have al := mem_find al
    have al' : ∀ q ∈ news, @LT.lt Nat _ q.1 dy := fun q hq => by
      by_cases e : q.1 = R
      · rw [e]; exact al _ (.tail _ (.tail _ (.head _)))
      · by_cases e' : q.1 = A
        · rw [e']; exact al _ (.tail _ (.tail _ (.tail _ (.tail _ (.tail _ (.head _))))))
        · exact al q (.tail _ (.tail _ (.tail _ (.tail _ (.tail _ (.tail _ (List.mem_filter.mpr ⟨hq, decide_eq_true ⟨e, e'⟩⟩)))))))
    refine ret i' ti tq tz t1 t2 t3 t4 t5 t6 t7 t8 t9 y dy c1 c2 c3 n' n'' h' t' hi F' ?n ?k al' l3 l4 l5 l6
    case n => exact News.subL N' (by k_subL)
    case k =>
      refine kept_of N K' (fun a ha => ?_) (fun q hq hn => ?_)
      · obtain ⟨z, hz, rfl⟩ := List.mem_map.mp ha
        simp only [List.mem_cons] at hz
        rcases hz with rfl | rfl | rfl | rfl | rfl | rfl | hz
        · exact ⟨_, m1⟩
        · exact ⟨_, m2⟩
        · exact ⟨_, m3⟩
        · exact ⟨_, m4⟩
        · exact ⟨_, m5⟩
        · exact ⟨_, m6⟩
        · exact ⟨z.2, (List.mem_filter.mp hz).1⟩
      · have n1 : q.1 ≠ R := fun e => hn (e ▸ .head _)
        have n2 : q.1 ≠ A := fun e => hn (e ▸ .tail _ (.head _))
        exact (N' q (.tail _ (.tail _ (.tail _ (.tail _ (.tail _ (.tail _ (.tail _ (.tail _ (.tail _ (.tail _ (.tail _ (List.mem_filter.mpr ⟨hq, decide_eq_true ⟨n1, n2⟩⟩))))))))))))).1

end
section
theorem regC1116 : True := by
  w_top off
  k_with_none
  k_with "lt" => (first | with_reducible assumption | exact And.left (by k_extra "ca0") | exact And.right (by k_extra "ca1"))
  k_with "ca0" => (first | with_reducible assumption | exact And.right (by k_extra "ca1"))
  k_with "ca1" => (first | with_reducible assumption | exact And.right (by k_extra "ca2"))
  k_with "ca2" => (first | with_reducible assumption | exact And.right (by k_extra "ca3"))
  k_with "ca3" => (first | with_reducible assumption | exact And.right (by k_extra "ca4"))
  k_with "ca4" => (first | with_reducible assumption | exact And.right (by k_extra "ca5"))
  k_with "ca5" => (first | with_reducible assumption | exact And.right (by k_extra "ca6"))
  k_with "ca6" => (first | with_reducible assumption | exact And.right (by k_extra "ca7"))
  k_with "ca7" => (first | with_reducible assumption | exact And.right (by k_extra "ca8"))
  k_with "ca8" => (first | with_reducible assumption | exact And.right (by k_extra "ca9"))
  k_with "ca9" => (first | with_reducible assumption | exact And.right (by k_extra "ca10"))
  k_with "ca10" => (first | with_reducible assumption | exact And.right (by k_extra "ca11"))
  k_with "ca11" => (first | with_reducible assumption | exact And.right (by k_extra "ca12"))
  k_with "ca12" => (first | with_reducible assumption | exact And.right (by k_extra "ca13"))
  k_with "ca13" => (first | with_reducible assumption | exact And.right (by k_extra "ca14"))
  k_with "ca14" => (first | with_reducible assumption | exact And.right (by k_extra "ca15"))
  k_with "ca15" => (first | with_reducible assumption | exact And.right (by k_extra "ca16"))
  k_with "ca16" => (first | with_reducible assumption | exact And.right (by k_extra "ca17"))
  k_with "ca17" => (first | with_reducible assumption | exact And.right (by k_extra "ca18"))
  k_with "ca18" => (first | with_reducible assumption | exact And.right (by k_extra "ca19"))
  k_with "ca19" => (first | with_reducible assumption | exact And.right (by k_extra "ca20"))
  k_with "ca20" => (first | with_reducible assumption | exact And.right (by k_extra "ca21"))
  k_with "ca21" => (first | with_reducible assumption | exact And.right (by k_extra "ca22"))
  k_with "ca22" => (first | with_reducible assumption | exact And.right (by k_extra "ca23"))
  k_with "ca23" => (first | with_reducible assumption | exact And.right (by k_extra "ca24"))
  k_with "ca24" => (first | with_reducible assumption | exact And.right (by k_extra "ca25"))
  k_with "ca25" => (first | with_reducible assumption)
  k_with "tr0" => (first | with_reducible assumption | exact Nat.lt_trans (by with_reducible assumption) (by k_extra "tr1"))
  k_with "tr1" => (first | with_reducible assumption | exact Nat.lt_trans (by with_reducible assumption) (by k_extra "tr2"))
  k_with "tr2" => (first | with_reducible assumption | exact Nat.lt_trans (by with_reducible assumption) (by k_extra "tr3"))
  k_with "tr3" => (first | with_reducible assumption | exact Nat.lt_trans (by with_reducible assumption) (by k_extra "tr4"))
  k_with "tr4" => (first | with_reducible assumption | exact Nat.lt_trans (by with_reducible assumption) (by k_extra "tr5"))
  k_with "tr5" => (first | with_reducible assumption | exact Nat.lt_trans (by with_reducible assumption) (by k_extra "tr6"))
  k_with "tr6" => (first | with_reducible assumption | exact Nat.lt_trans (by with_reducible assumption) (by k_extra "tr7"))
  k_with "tr7" => (first | with_reducible assumption | exact Nat.lt_trans (by with_reducible assumption) (by k_extra "tr8"))
  k_with "tr8" => (first | with_reducible assumption | exact Nat.lt_trans (by with_reducible assumption) (by k_extra "tr9"))
  k_with "tr9" => (first | with_reducible assumption | exact Nat.lt_trans (by with_reducible assumption) (by k_extra "tr10"))
  k_with "tr10" => (first | with_reducible assumption | exact Nat.lt_trans (by with_reducible assumption) (by k_extra "tr11"))
  k_with "tr11" => (first | with_reducible assumption | exact Nat.lt_trans (by with_reducible assumption) (by k_extra "tr12"))
  k_with "tr12" => (first | with_reducible assumption | exact Nat.lt_trans (by with_reducible assumption) (by k_extra "tr13"))
  k_with "tr13" => (first | with_reducible assumption | exact Nat.lt_trans (by with_reducible assumption) (by k_extra "tr14"))
  k_with "tr14" => (first | with_reducible assumption | exact Nat.lt_trans (by with_reducible assumption) (by k_extra "tr15"))
  k_with "tr15" => (first | with_reducible assumption | exact Nat.lt_trans (by with_reducible assumption) (by k_extra "tr16"))
  k_with "tr16" => (first | with_reducible assumption | exact Nat.lt_trans (by with_reducible assumption) (by k_extra "tr17"))
  k_with "tr17" => (first | with_reducible assumption | exact Nat.lt_trans (by with_reducible assumption) (by k_extra "tr18"))
  k_with "tr18" => (first | with_reducible assumption | exact Nat.lt_trans (by with_reducible assumption) (by k_extra "tr19"))
  k_with "tr19" => (first | with_reducible assumption | exact Nat.lt_trans (by with_reducible assumption) (by k_extra "tr20"))
  k_with "tr20" => (first | with_reducible assumption | exact Nat.lt_trans (by with_reducible assumption) (by k_extra "tr21"))
  k_with "tr21" => (first | with_reducible assumption | exact Nat.lt_trans (by with_reducible assumption) (by k_extra "tr22"))
  k_with "tr22" => (first | with_reducible assumption | exact Nat.lt_trans (by with_reducible assumption) (by k_extra "tr23"))
  k_with "tr23" => (first | with_reducible assumption)
  k_with "up0" => (first | k_extra "tr0" | exact Nat.lt_trans (Nat.lt_add_one _) (by k_extra "up1"))
  k_with "up1" => (first | k_extra "tr0" | exact Nat.lt_trans (Nat.lt_add_one _) (by k_extra "up2"))
  k_with "up2" => (first | k_extra "tr0" | exact Nat.lt_trans (Nat.lt_add_one _) (by k_extra "up3"))
  k_with "up3" => (first | k_extra "tr0" | exact Nat.lt_trans (Nat.lt_add_one _) (by k_extra "up4"))
  k_with "up4" => (first | k_extra "tr0" | exact Nat.lt_trans (Nat.lt_add_one _) (by k_extra "up5"))
  k_with "up5" => (first | k_extra "tr0")
  k_with "up" => (first | exact Nat.lt_trans (Nat.lt_add_one _) (by k_extra "up0") | exact Nat.lt_trans (by with_reducible assumption) (Nat.lt_trans (Nat.lt_add_one _) (by k_extra "up0")))
  k_with "ord" => (first | k_extra "tr0" | exact And.intro (by k_extra "ord") (by k_extra "ord") | exact Nat.le_of_lt (by k_extra "tr0") | exact neA (by k_extra "tr0") | exact neB (by k_extra "tr0") | exact Nat.le_refl _ | k_extra "lt" | exact Nat.le_of_lt (by k_extra "lt") | exact neA (by k_extra "lt") | exact neB (by k_extra "lt") | omega)
  k_with "rm" => (first | exact room (by with_reducible assumption) (Nat.le_of_ble_eq_true rfl) | (simp only [Nat.add_assoc]; exact room (by with_reducible assumption) (Nat.le_of_ble_eq_true rfl)) | omega)
  k_with "sub" => (first | exact List.forall_mem_nil _ | (refine' subc ?sa ?sb; (case sa => k_mem); (case sb => k_extra "sub")) | (intro q hq; repeat (first | exact hq | refine List.mem_cons_of_mem _ ?_)))
  k_with "lt on" => (skip)
  k_with "k_ne" => (refine neN ?_; (try dsimp only); first | with_reducible assumption | exact neA (by k_extra "tr0") | exact neB (by k_extra "tr0") | exact neA (And.left (by k_extra "ca0")) | exact neB (And.left (by k_extra "ca0")) | exact neA (by k_extra "up") | exact neB (by k_extra "up") | exact neA (And.right (by k_extra "ca1")) | exact neB (And.right (by k_extra "ca1")) | omega)
  k_with "k_all" => (first | exact offn | (refine' offc ?a ?b; (case a => k_ne); (case b => k_all)))
  k_with "k_room" => (((try simp only [depth_mark, depth_under_make, depth_under_kw, depth_in1, depth_deeper, depth_caller]); (try dsimp only [ktrTop]); (simp only [recursionLimit]); k_extra "rm"))
  k_with "ktr_enter" => (first | (refine' code_defF ?k1 ?k2 ?k3 ?k4 ?k5 ?kA ?kF ?kK ?k6 ?k7 ?k8 ?k9 ?kB ?_ ?c2 ?c3 ?c4 ?c5; (case kA => exact rfl); (case kF => exact rfl); (case kK => first | exact rfl | assumption); (case k1 => k_asm); (case k2 => k_asm); (case k3 => k_asm); (case k4 => k_asm); (case k5 => k_asm); (case k6 => k_is); (case k7 => k_is); (case k8 => k_room); (case k9 => first | exact BindsTo.of_eq rfl | exact binds_K (by k_in) rfl (by k_is) rfl rfl rfl); (case c5 => decide); (case kB => exact locs rfl); (case c2 => exact rfl); (case c3 => exact rfl); (case c4 => exact rfl); k_whole; intro g' L' h' FG' F' N' B' X' T' K'; (try dsimp only); (try k_fold)) | (refine' code_defCF ?k1 ?k2 ?k3 ?k4 ?k5 ?kA ?kF ?kK ?k6 ?k7 ?k8 ?k9 ?kB ?kD ?_ ?c2 ?c3 ?c4; (case kA => exact rfl); (case kF => exact rfl); (case kK => first | exact rfl | assumption); (case k1 => k_asm); (case k2 => k_asm); (case k3 => k_asm); (case k4 => k_asm); (case k5 => k_asm); (case k6 => k_is); (case k7 => k_is); (case k8 => k_room); (case k9 => first | exact BindsTo.of_eq rfl | exact binds_K (by k_in) rfl (by k_is) rfl rfl rfl); (case kB => exact rfl); (case kD => decide +kernel); (case c2 => exact rfl); (case c3 => exact rfl); (case c4 => exact rfl); k_whole; intro g' L' h' tk' cells' FG' F' N' Y' B' X' T' l1 K'; (try k_lt l1); k_cells Y'; (try simp only [List.cons_append, List.nil_append] at N'); (try dsimp only); (try k_lift B'); (try k_fold)))
  k_with "ktr_rel" => ((refine' Kept.fin ?kkA ?kkB; (case kkA => assumption); (case kkB => assumption)))
  k_with "k_mem" => (first | exact List.Mem.head _ | ktr_member | (refine' List.mem_cons_of_mem _ ?_; k_mem))
  k_with "my side" => (first | with_reducible assumption | ((simp only [depth_deeper, units_deeper, depth_in1, units_in1, Around.mark_units]); (try dsimp only [ktrTop]); k_extra "rm") | k_extra "rm" | ((try dsimp only [ktrTop]); k_extra "rm") | (simp only [List.size_toArray, List.length_cons, List.length_nil]; omega))
  k_with "my sub" => ((refine' News.subL ?un ?us; (case un => k_asm); (case us => k_subL)))
  k_with "my stop" => ((with_reducible show wpAny _ _ (call (Value.ref 383) _ _) _ _ _))
  k_with "k_steps" => (repeat' (first | (k_unfold; (try dsimp only)) | (k_unmd; k_unfold; (try dsimp only)) | (k_end; kc_close) | ((fail_if_success walk_at "my stop"); walk1) | ((fail_if_success walk_at "my stop"); dsimp only; (fail_if_success walk_at "my stop"); walk1) | (leave1; walk_say "STEP leave1"; try dsimp only) | fail "no step"))
  k_with "call builtin:len m" => ((k_here; (with_reducible show wpAny _ _ (call (Value.builtin "len") [Value.ref _] _) _ _ _); k_dflt (first | (refine' len_push ?N ?m ?z ?_; (case N => k_asm); (case m => k_mem); (case z => walk_at "my side")) | (refine' len_any ?N ?m ?z ?_; (case N => k_asm); (case m => k_mem); (case z => walk_at "my size"))); (try dsimp only)))
  k_with "k_all" => (with_reducible assumption)
  k_with "my get" => (first | with_reducible assumption | exact push_get (by walk_at "my get"))
  k_with "my size" => (((try simp only [Array.size_push, List.size_toArray, List.length_cons, List.length_nil]); omega))
  k_with "subscriptTail m" => ((k_here; (with_reducible show wpAny _ _ (subscriptTail _ _ (Value.ref _) (Value.int _ _)) _ _ _); k_dflt (refine' item_at ?N ?m ?z ?v ?s ?_; (case N => k_asm); (case m => k_mem); (case z => omega); (case v => walk_at "my get"); (case s => walk_at "my size"); k_whole)))
  k_with "lcg_off" => (assumption)
  k_with "my turn" => ((with_unfolding_all first | (refine LCg.CompRest.succ ?_; intro v' I' oI' C' oC' D' m' h' tk' E' hv' hC' hx' F' N' off' ne'; (first | lcg_open hv' | (obtain ⟨t9', hv9'⟩ := hv'; subst hv9'))) | refine LCg.CompRest.zero ?_))
  k_with "CompRest m" => (walk_at "my turn")
  k_with "k_steps" => (repeat' (first | (k_unfold; (try dsimp only)) | (k_unmd; k_unfold; (try dsimp only)) | (k_end; kc_close) | ((fail_if_success walk_at "stop b"); walk1) | ((fail_if_success walk_at "stop b"); dsimp only; (fail_if_success walk_at "stop b"); walk1) | (leave1; walk_say "STEP leave1"; try dsimp only) | fail "no step"))
  k_with "stop b" => (((with_reducible show wpAny _ _ (pyIter (Value.ref _)) (fun it s₂ => LoopAtV _ _ _ _ _ _ _ _ _ it s₂) _ _)))
  k_with "k_steps" => (repeat' (first | (k_unfold; (try dsimp only)) | (k_unmd; k_unfold; (try dsimp only)) | (k_end; kc_close) | ((fail_if_success walk_at "stop C11"); walk1) | ((fail_if_success walk_at "stop C11"); dsimp only; (fail_if_success walk_at "stop C11"); walk1) | (leave1; walk_say "STEP leave1"; try dsimp only) | fail "no step"))
  k_with "stop C11" => (((with_reducible show wpAny _ _ (pyIter (Value.ref _)) (fun it s₂ => LoopAtV _ _ _ _ _ _ _ _ _ it s₂) _ _)))
  trivial
theorem News.pick {h₀ h : Heap} {L : Addr} {a b : Addr × Obj} {l : List (Addr × Obj)} (N : News h₀ L h (a :: b :: l)) : News h₀ L h (a :: l) := fun q hq => by
  rcases List.mem_cons.mp hq with rfl | hq
  · exact N _ (.head _)
  · exact N _ (.tail _ (.tail _ hq))
theorem pn (c : Int) (p : Prop) [Decidable p] : 0 ≤ (if -1 - c > c then -1 - c else c) * (if p then 1 else 0) := by
  have h : 0 ≤ (if -1 - c > c then -1 - c else c) := by split <;> omega
  by_cases hp : p
  · rw [if_pos hp, Int.mul_one]; exact h
  · rw [if_neg hp, Int.mul_zero]; exact Int.le_refl _
theorem c_pool {sc : Addr} {vs : List Value} {ns : List Int} {news : List (Addr × Obj)}
    (B : Below A₀ base outer h₀) (F : Fr h₀ L s.heap m) (X : (KK w.params).In h₀) (N : News h₀ L s.heap news) (T : Top p loose mean mg mb h₀) (hk : cs.kind = .function) (hd : dp + 10 < 1000) (hu : un + 200 < 9900)
    (hL : base.IsList sc vs.toArray) (hI : IntsAre vs ns) (hlen : ns.length ≤ 63)
    (ret : ∀ (S : Addr) (x y : Int) (tx ty : Tok) (n : Nat) (h' : Heap) (t' : Nat), 0 ≤ x → 0 ≤ y → y < 2147483648 → Fr h₀ L h' m → News h₀ L h' ((S, W.listOf #[.int x tx, .int y ty] n) :: news) → AllLt S news → Q (.ref S) { s with heap := h', toks := t' }) :
    wpAny (model prog w) (ktrTop dp un gd cn cs L a ccd cl outer) (call (.ref 376) [.ref sc]) Q E s := by
  have hlen2 := IntsAre.length hI
  cases ns with
  | nil =>
    have hvs : vs = [] := by
      cases vs with
      | nil => rfl
      | cons v r => simp at hlen2
    subst hvs
    refine wpAny_call ?_
    k_dflt ktr_enter
    rename Below _ _ _ _ => B9
    k_lift B9
    k_steps
    all_goals (
      rename News _ _ _ _ => N9
      rename Fr _ _ _ _ => F9
      (try dsimp only)
      refine' ret _ _ _ _ _ _ _ _ ?x0 ?y0 ?y2 F9 (News.pick N9) ?al
      case x0 => exact pn _ _
      case y0 => exact (fm _ _ (by decide)).1
      case y2 => exact Int.lt_trans (fm _ _ (by decide)).2 (by decide)
      case al => first | exact allLt_of (by assumption) | tbn_find)
  | cons n0 r =>
    refine wpAny_call ?_
    k_dflt ktr_enter
    rename Below _ _ _ _ => B9
    k_lift B9
    k_steps
    all_goals (
      rename News _ _ _ _ => N9
      rename Fr _ _ _ _ => F9
      (try dsimp only)
      refine' ret _ _ _ _ _ _ _ _ ?x0 ?y0 ?y2 F9 (News.pick N9) ?al
      case x0 => exact pn _ _
      case y0 => exact (fm _ _ (by decide)).1
      case y2 => exact Int.lt_trans (fm _ _ (by decide)).2 (by decide)
      case al => first | exact allLt_of (by assumption) | tbn_find)

end
section
theorem regW1117 : True := by
  w_top off
  k_with "k_steps" => (repeat' (first | (k_unfold; (try dsimp only)) | (k_unmd; k_unfold; (try dsimp only)) | (k_end; kc_close) | ((fail_if_success walk_at "stop W11"); walk1) | ((fail_if_success walk_at "stop W11"); dsimp only; (fail_if_success walk_at "stop W11"); walk1) | (leave1; walk_say "STEP leave1"; try dsimp only) | fail "no step"))
  k_with "stop W11" => (((with_reducible show wpAny _ _ (pyIter (Value.ref _)) (fun it s₂ => LoopAtV _ _ _ _ _ _ _ _ _ it s₂) _ _)))
  k_with "stop W11" => ((with_reducible show wpAny _ _ (call (Value.ref 376) _ _) _ _ _))
  trivial
theorem mapC {m : Str → Option Value} {a1 : Value} (h1 : m "script" = some a1) : m = fun y => if y = Str.ofString "script" then some a1 else m y := by
  funext y
  split
  · subst_vars; exact h1
  · rfl
theorem W11 {fa sc : Addr} {o1 o2 o3 o4 : Obj} {vc1 : Option Value} {vs : List Value} {ns : List Int} {ms : Str → Option Value} {rest : List Stmt} {QF : Flow → Shared → Prop} {EF : Value → Shared → Prop}
    (B : Below callerA h₀ [] h₀) (F : Fr h₀ L s.heap ms) (X : (KK w.params).In h₀) (T : Top p loose mean mg mb h₀)
    (N : News h₀ L s.heap [(L + 1 + 1 + 1 + 1, o4), (L + 1 + 1 + 1, o3), (L + 1 + 1, o2), (L + 1, o1), ((nat_lit 411), tabObj #[])])
    (e0 : ms "script" = some (.ref sc)) (d1 : o1.data = .cell vc1) (o0 : @LT.lt Nat _ 411 L) (hL : h₀.IsList sc vs.toArray) (hI : IntsAre vs ns) (hlen : ns.length ≤ 63)
    (ret : ∀ (m' : Str → Option Value) (sA tR tD rA : Addr) (o1' : Obj) (sx sy : Int) (tsx tsy t0 : Tok) (ns nd k : Nat) (h' : Heap) (t' : Nat), 0 ≤ sx → 0 ≤ sy → sy < 2147483648 → Fr h₀ L h' m' → m' "tree" = some (.ref tR) → o1'.data = .cell (some (.ref sA)) →
      @LT.lt Nat _ (L + 1 + 1 + 1 + 1) sA → @LT.lt Nat _ sA tD → @LT.lt Nat _ tD tR → @LT.lt Nat _ tR rA →
      News h₀ L h' ((rA, W.listOf #[] k) :: (tR, instObj 365 tD) :: (tD, dictOf [⟨PyData.keyHash w.params "rows", .str "rows" t0, .ref rA⟩] nd) :: (sA, W.listOf #[.int sx tsx, .int sy tsy] ns) :: [(L + 1 + 1 + 1 + 1, o4), (L + 1 + 1 + 1, o3), (L + 1 + 1, o2), (L + 1, o1'), ((nat_lit 411), tabObj #[])]) →
      wpAny (model prog w) (callerA.deeper (envOfC (Str.ofString "law") c29 L fa (.ref (nat_lit 413)))) (execs rest (envOfC (Str.ofString "law") c29 L fa (.ref (nat_lit 413)))) QF EF { s with heap := h', toks := t' }) :
    wpAny (model prog w) (callerA.deeper (envOfC (Str.ofString "law") c29 L fa (.ref (nat_lit 413)))) (execs (y0 :: rest) (envOfC (Str.ofString "law") c29 L fa (.ref (nat_lit 413)))) QF EF s := by
  rw [mapC e0] at F
  k_steps
  rename News _ _ _ _ => N9
  rename Fr _ _ _ _ => F9
  k_dflt (refine' c_pool B F9 X N9 T rfl ?hd ?hu hL hI hlen ?_)
  case hd => exact Nat.le_of_ble_eq_true rfl
  case hu => exact Nat.le_of_ble_eq_true rfl
  intro sA sx sy tsx tsy ns9 h9 t9 hx hy hy2 F8 N8 al
  simp only [AllLt, and_true] at al
  clear N9 F9
  k_steps
  rename News _ _ _ _ => N9
  rename Fr _ _ _ _ => F9
  (try dsimp only)
  refine' ret _ sA _ _ _ ?o1 _ _ _ _ _ _ _ _ _ _ hx hy hy2 F9 ?e ?d ?p1 ?p2 ?p3 ?p4 ?N
  case d => assumption
  case e => exact rfl
  case N => exact fun q hq => N9 q (by repeat (first | exact hq | refine List.mem_cons_of_mem _ ?_))
  case p1 => exact al.1
  case p2 => omega
  case p3 => omega
  case p4 => omega

end
section
theorem regC1418 : True := by
  w_top off
  k_with "my spl" => (first | exact spl_here | (refine' spl_cons ?h9; (case h9 => walk_at "my spl")))
  k_with "my abv" => (first | exact List.forall_mem_nil _ | (refine' abvc ?ab1 ?ab2; (case ab1 => (dsimp only; k_extra "ord")); (case ab2 => walk_at "my abv")) | (refine' List.forall_mem_cons.mpr ⟨?ab1, ?ab2⟩; (case ab1 => (dsimp only; k_extra "ord")); (case ab2 => walk_at "my abv")))
  k_with "my good" => ((refine' ⟨_, _, _, _, _, _, _, _, _, _, _, _, _, _, _, _, _, _, _, _, _, _, _, _, _, _, _, _, _, rfl, ?gh1, ?gh2, ?gh3, ?gh4, ?gh5, ?gh6, ?gh7, ?gh8⟩; (case gh1 => k_mem); (case gh2 => omega); (case gh3 => exact push_last (by with_reducible assumption)); (case gh4 => k_mem); (case gh5 => k_mem); (case gh6 => first | with_reducible assumption | decide +kernel); (case gh7 => first | with_reducible assumption | decide +kernel); (case gh8 => first | with_reducible assumption | decide +kernel)))
  k_with "k_steps" => (repeat' (first | (k_unfold; (try dsimp only)) | (k_unmd; k_unfold; (try dsimp only)) | (k_end; kc_close) | ((fail_if_success walk_at "stop C14"); walk1) | ((fail_if_success walk_at "stop C14"); dsimp only; (fail_if_success walk_at "stop C14"); walk1) | (leave1; walk_say "STEP leave1"; try dsimp only) | fail "no step"))
  k_with "stop C14" => (((with_reducible show wpAny _ _ (pyIter (Value.ref _)) (fun it s₂ => LoopAtV _ _ _ _ _ _ _ _ _ it s₂) _ _)))
  k_with "k_enter" => (ktr_enter)
  trivial
def CtxAt (P : Params) (cx : Addr) (i : Int) (ti : Tok) (news : List (Addr × Obj)) : Prop :=
  ∃ (cd : Addr) (u1 u2 u3 u4 u5 u6 u7 u8 u9 : Tok) (v1 v3 v4 v5 v6 v7 v8 v9 : Value), (cx, instObj 154 cd) ∈ news ∧ (cd, dictOf [⟨PyData.keyHash P "tree", .str "tree" u1, v1⟩, ⟨PyData.keyHash P "node", .str "node" u2, .int i ti⟩, ⟨PyData.keyHash P "position", .str "position" u3, v3⟩, ⟨PyData.keyHash P "size", .str "size" u4, v4⟩, ⟨PyData.keyHash P "variables", .str "variables" u5, v5⟩, ⟨PyData.keyHash P "names", .str "names" u6, v6⟩, ⟨PyData.keyHash P "calls", .str "calls" u7, v7⟩, ⟨PyData.keyHash P "current", .str "current" u8, v8⟩, ⟨PyData.keyHash P "ids", .str "ids" u9, v9⟩] 9) ∈ news
theorem c_ctx {tR : Addr} {i : Int} {ti : Tok} {news : List (Addr × Obj)}
    (B : Below A₀ base outer h₀) (F : Fr h₀ L s.heap m) (X : (KK w.params).In h₀) (N : News h₀ L s.heap news) (T : Top p loose mean mg mb h₀) (hk : cs.kind = .function) (hd : dp + 20 < 1000) (hu : un + 200 < 9900)
    (ret : ∀ (cx : Addr) (lo : Nat) (D full : List (Addr × Obj)) (h' : Heap) (tk : Nat), Fr h₀ L h' m → News h₀ L h' full → full = D ++ news → AllLt lo news → (∀ q ∈ D, @LE.le Nat _ lo q.1) → CtxAt w.params cx i ti D → Q (.ref cx) { s with heap := h', toks := tk }) :
    wpAny (model prog w) (ktrTop dp un gd cn cs L a ccd cl outer) (call (.ref 154) [.ref tR, .int i ti]) Q E s := by
  k_steps
  rename News _ _ _ _ => N9
  rename Fr _ _ _ _ => F9
  refine' ret _ _ _ _ _ _ F9 N9 ?sp ?al ?hD ?cx
  case sp => walk_at "my spl"
  case al => exact allLt_of (by assumption)
  case hD => walk_at "my abv"
  case cx =>
    refine' ⟨_, _, _, _, _, _, _, _, _, _, _, _, _, _, _, _, _, _, ?m1, ?m2⟩
    case m1 => k_mem
    case m2 => k_mem

end
section
theorem regG119 : True := by
  w_top off
  k_with "my stop" => ((with_reducible show wpAny _ _ (call (Value.ref 390) _ _) _ _ _))
  k_with "my get" => (first | with_reducible assumption | exact push_last (by with_reducible assumption) | exact push_get (by walk_at "my get"))
  k_with "my newrow" => (((rename News _ _ _ _ => N9); k_dflt (refine' c_newrow ?B ?F ?X ?N ?T ?hk ?hd ?hu ?m1 ?m2 ?m3 ?hz ?_; (case B => k_asm); (case F => k_asm); (case X => k_asm); (case N => exact N9); (case T => k_asm); (case hk => exact rfl); (case hd => walk_at "my side"); (case hu => walk_at "my side"); (case m1 => k_mem); (case m2 => k_mem); (case m3 => k_mem); (case hz => walk_at "my size")); (intro i9 ti9 ta9 tb9 tc9 td9 te9 tf9 tg9 th9 tj9 y9 dy9 ca9 cb9 cc9 n9 h9 t9 hi9 F9 M9 K9 al9 la9 lb9 lc9 ld9); (have N8 := News.grow (new := [_, _, _, _, _]) N9 (by k_upd) M9 K9); clear M9 K9; (try simp only [List.cons_append, List.nil_append] at N8); (k_lt al9); (try k_sweep); (try dsimp only); (try k_fold)))
  k_with "call ref m" => (((with_reducible show wpAny _ _ (call (Value.ref 201) [Value.ref _, _, _, _, _, _, _] _) _ _ _); walk_at "my newrow"))
  k_with "my addchild" => (((rename News _ _ _ _ => N9); k_dflt (refine' c_addchild ?B ?F ?X ?N ?T ?hk ?hd ?hu ?m1 ?m2 ?m3 ?m4 ?m5 ?m6 ?hne ?hz ?hz2 ?h0 ?hv ?hkd ?_; (case B => k_asm); (case F => k_asm); (case X => k_asm); (case N => exact N9); (case T => k_asm); (case hk => exact rfl); (case hd => walk_at "my side"); (case hu => walk_at "my side"); (case m1 => k_mem); (case m2 => k_mem); (case m3 => k_mem); (case h0 => omega); (case hv => walk_at "my get"); (case m4 => k_mem); (case m5 => k_mem); (case m6 => k_mem); (case hne => k_ne); (case hz => walk_at "my size"); (case hz2 => walk_at "my size"); (case hkd => first | exact .inl rfl | exact .inr rfl)); (intro i9 ti9 ta9 tb9 tc9 td9 te9 tf9 tg9 th9 tj9 y9 dy9 ca9 cb9 cc9 n9 nn9 h9 t9 hi9 F9 M9 K9 al9 la9 lb9 lc9 ld9); (have N8 := News.grow2 (new := [_, _, _, _, _]) N9 (by k_upd) (by k_upd) M9 K9); clear M9 K9; (try simp only [List.cons_append, List.nil_append] at N8); (k_lt al9); (try k_sweep); (try dsimp only); (try k_fold)))
  k_with "call ref m" => (((with_reducible show wpAny _ _ (call (Value.ref 222) [Value.ref _, _, _, _, _, _, _] _) _ _ _); walk_at "my addchild"))
  k_with "my nil" => ((k_dflt (refine' iter_nil ?h ?F ?N ?m ?_; (case h => with_unfolding_all rfl); (case F => k_asm); (case N => k_asm); (case m => k_mem)); intro h9 tk9 F9 N9; (try k_sweep); (try dsimp only); (try k_fold)))
  k_with "pyIter ref m" => (((with_reducible show wpAny _ _ (pyIter (Value.ref _)) (fun it s₂ => LoopAtV _ _ _ _ _ _ _ _ _ it s₂) _ _); walk_at "my nil"))
  k_with "my setattr" => (((rename News _ _ _ _ => N9); k_dflt (refine' c_setattr ?B ?F ?X ?N ?T ?hk ?hd ?hu ?m1 ?m2 ?m3 ?m4 ?m5 ?m6 ?hne ?hz ?h0 ?hv ?_; (case B => k_asm); (case F => k_asm); (case X => k_asm); (case N => exact N9); (case T => k_asm); (case hk => exact rfl); (case hd => walk_at "my side"); (case hu => walk_at "my side"); (case m1 => k_mem); (case m2 => k_mem); (case m3 => k_mem); (case h0 => omega); (case hv => walk_at "my get"); (case m4 => k_mem); (case m5 => k_mem); (case m6 => k_mem); (case hne => k_ne); (case hz => walk_at "my size")); (intro i9 ti9 tq9 ta9 tb9 tc9 td9 te9 tf9 tg9 th9 tj9 y9 dy9 ca9 cb9 cc9 n9 nn9 h9 t9 hi9 F9 M9 K9 al9 la9 lb9 lc9 ld9); (have N8 := News.grow2 (new := [_, _, _, _, _]) N9 (by k_upd) (by k_upd) M9 K9); clear M9 K9; (try simp only [List.cons_append, List.nil_append] at N8); (k_lt al9); (try k_sweep); (try dsimp only); (try k_fold)))
  k_with "call ref m" => (((with_reducible show wpAny _ _ (call (Value.ref 264) [Value.ref _, _, _, _, _, _] _) _ _ _); walk_at "my setattr"))
  k_with "subscriptTail Name Constant ref int m" => ((k_here; (with_reducible show wpAny _ _ (subscriptTail _ _ (Value.ref _) (Value.int _ _)) _ _ _); k_dflt (refine' item_tup ?N ?m ?a ?b ?c ?d ?_; (case N => k_asm); (case m => k_mem); (case a => decide); (case b => decide); (case c => rfl); (case d => rfl); k_whole)))
  k_with "my addns" => (((rename News _ _ _ _ => N9); k_dflt (refine' c_addns ?B ?F ?X ?N ?T ?hk ?hd ?hu ?m1 ?m2 ?m3 ?m4 ?m5 ?m6 ?hne ?hz ?h0 ?hv ?_; (case B => k_asm); (case F => k_asm); (case X => k_asm); (case N => exact N9); (case T => k_asm); (case hk => exact rfl); (case hd => walk_at "my side"); (case hu => walk_at "my side"); (case m1 => k_mem); (case m2 => k_mem); (case m3 => k_mem); (case h0 => omega); (case hv => walk_at "my get"); (case m4 => k_mem); (case m5 => k_mem); (case m6 => k_mem); (case hne => k_ne); (case hz => walk_at "my size")); (intro i9 ti9 tq9 tz9 ta9 tb9 tc9 td9 te9 tf9 tg9 th9 tj9 y9 dy9 ca9 cb9 cc9 n9 nn9 h9 t9 hi9 F9 M9 K9 al9 la9 lb9 lc9 ld9); (have N8 := News.grow2 (new := [_, _, _, _, _]) N9 (by k_upd) (by k_upd) M9 K9); clear M9 K9; (try simp only [List.cons_append, List.nil_append] at N8); (k_lt al9); (try k_sweep); (try dsimp only); (try k_fold)))
  k_with "call ref m" => (((with_reducible show wpAny _ _ (call (Value.ref 271) [Value.ref _, _, _, _] _) _ _ _); walk_at "my addns"))
  k_with "my one" => (((rename News _ _ _ _ => N9); k_dflt (refine' c_oneT ?B ?F ?X ?N ?T ?hk ?hd ?hu ?m1 ?m2 ?hlo ?hx ?hy ?hy2 ?hne ?hv ?hv2 ?hvs ?_; (case B => k_asm); (case F => k_asm); (case X => k_asm); (case N => exact N9); (case T => k_asm); (case hk => exact rfl); (case hd => walk_at "my side"); (case hu => walk_at "my side"); (case m1 => k_mem); (case m2 => k_mem); (case hlo => with_reducible assumption); (case hx => with_reducible assumption); (case hy => with_reducible assumption); (case hy2 => with_reducible assumption); (case hne => k_ne); (case hv => exact Nat.zero_lt_succ _); (case hv2 => walk_at "my size"); (case hvs => (first | refine all4 ?_ ?_ ?_ ?_ | refine all3 ?_ ?_ ?_) <;> exact ⟨_, _, _, _, _, _, _, rfl, by k_mem, by omega, by decide +kernel, by decide +kernel, by decide +kernel⟩)); (intro r9 nm9 lc9 ur9 ka9 kb9 kc9 x9 y9 tx9 ty9 n9 h9 t9 hl9 ok9 oj9 oi9 hx9 hy9 hz9 F9 M9 K9); (have N8 := News.grow (new := [_]) N9 (by k_upd) M9 K9); clear M9 K9; (try simp only [List.cons_append, List.nil_append] at N8); (try k_sweep); (try dsimp only); (try k_fold)))
  k_with "my oneS" => (((rename News _ _ _ _ => N9); k_dflt (refine' c_oneS ?B ?F ?X ?N ?T ?hk ?hd ?hu ?m1 ?m2 ?hx ?hy ?hy2 ?hne ?hv ?hv2 ?hvs ?_; (case B => k_asm); (case F => k_asm); (case X => k_asm); (case N => exact N9); (case T => k_asm); (case hk => exact rfl); (case hd => walk_at "my side"); (case hu => walk_at "my side"); (case m1 => k_mem); (case m2 => k_mem); (case hx => with_reducible assumption); (case hy => with_reducible assumption); (case hy2 => with_reducible assumption); (case hne => k_ne); (case hv => exact Nat.zero_lt_succ _); (case hv2 => walk_at "my size"); (case hvs => (first | refine all3 ?_ ?_ ?_ | refine all2 ?_ ?_) <;> exact ⟨_, _, rfl, by decide +kernel⟩)); (intro st9 sb9 x9 y9 tx9 ty9 n9 h9 t9 ok9 hx9 hy9 hz9 F9 M9 K9); (have N8 := news_upd1 N9 (by k_upd) M9 K9); clear M9 K9; (try k_sweep); (try dsimp only); (try k_fold)))
  k_with "call ref m" => (((with_reducible show wpAny _ _ (call (Value.ref 390) [Value.ref _, Value.ref _] _) _ _ _); first | walk_at "my one" | walk_at "my oneS"))
  k_with "call ref m" => (((first | (with_reducible show wpAny _ _ (call (Value.ref 229) _ _) _ _ _) | (with_reducible show wpAny _ _ (call (Value.ref 236) _ _) _ _ _) | (with_reducible show wpAny _ _ (call (Value.ref 243) _ _) _ _ _) | (with_reducible show wpAny _ _ (call (Value.ref 250) _ _) _ _ _)); k_dflt (refine wpAny_call ?_; ktr_enter)))
  k_with "my spl" => (first | exact spl_here | (refine' spl_cons ?h9; (case h9 => walk_at "my spl")))
  k_with "my abv" => (first | exact List.forall_mem_nil _ | (refine' abvc ?ab1 ?ab2; (case ab1 => (dsimp only; k_extra "ord")); (case ab2 => walk_at "my abv")) | (refine' List.forall_mem_cons.mpr ⟨?ab1, ?ab2⟩; (case ab1 => (dsimp only; k_extra "ord")); (case ab2 => walk_at "my abv")))
  k_with "my good" => ((refine' ⟨_, _, _, _, _, _, _, _, _, _, _, _, _, _, _, _, _, _, _, _, _, _, _, _, _, _, _, _, _, rfl, ?gh1, ?gh2, ?gh3, ?gh4, ?gh5, ?gh6, ?gh7, ?gh8⟩; (case gh1 => k_mem); (case gh2 => omega); (case gh3 => exact push_last (by with_reducible assumption)); (case gh4 => k_mem); (case gh5 => k_mem); (case gh6 => first | with_reducible assumption | decide +kernel); (case gh7 => first | with_reducible assumption | decide +kernel); (case gh8 => first | with_reducible assumption | decide +kernel)))
  k_with "k_steps" => (repeat' (first | (k_unfold; (try dsimp only)) | (k_unmd; k_unfold; (try dsimp only)) | (k_end; kc_close) | ((fail_if_success walk_at "stop G1"); walk1) | ((fail_if_success walk_at "stop G1"); dsimp only; (fail_if_success walk_at "stop G1"); walk1) | (leave1; walk_say "STEP leave1"; try dsimp only) | fail "no step"))
  k_with "stop G1" => (((with_reducible show wpAny _ _ (pyIter (Value.ref _)) (fun it s₂ => LoopAtV _ _ _ _ _ _ _ _ _ it s₂) _ _)))
  trivial
theorem G1 {sA tD tR rA fA iA x dx c1 c2 c3 : Addr} {it : Obj} {sx sy jv : Int} {tsx tsy t0 tk q1 q2 q3 q4 q5 q6 q7 q8 q9 jt : Tok} {ns nd k kf k1 k2 k3 : Nat} {xs fs v1 v2 v3 : Array Value} {nm ur lc vl pr : Value} {nr : List (Addr × Obj)} {ms : Str → Option Value} {rest : List Stmt} {QF : Flow → Shared → Prop} {EF : Value → Shared → Prop}
    (B : Below A₀ base outer h₀) (F : Fr h₀ L s.heap ms) (X : (KK w.params).In h₀) (T : Top p loose mean mg mb h₀) (hd : dp + 60 < 1000) (hu : un + 300 < 9900)
    (N : News h₀ L s.heap ((iA, it) :: (sA, W.listOf #[.int sx tsx, .int sy tsy] ns) :: (tR, instObj 365 tD) :: (tD, dictOf [⟨PyData.keyHash w.params "rows", .str "rows" t0, .ref rA⟩] nd) :: (rA, W.listOf xs k) :: (fA, W.listOf fs kf) :: (x, instObj 176 dx) :: (dx, rowD w.params q1 q2 q3 q4 q5 q6 q7 q8 q9 (.str "element" tk) nm ur lc vl pr c1 c2 c3) :: (c1, W.listOf v1 k1) :: (c2, W.listOf v2 k2) :: (c3, W.listOf v3 k3) :: nr))
    (e1 : ms "source" = some (.ref sA)) (e2 : ms "tree" = some (.ref tR)) (e3 : ms "top" = some (.int jv jt)) (e4 : ms "found" = some (.ref fA))
    (o1 : @LT.lt Nat _ sA tD) (o2 : @LT.lt Nat _ tD tR) (o3 : @LT.lt Nat _ tR rA) (o4 : @LT.lt Nat _ rA dx) (o5 : @LT.lt Nat _ dx x) (o6 : @LT.lt Nat _ x c1) (o7 : @LT.lt Nat _ c1 c2) (o8 : @LT.lt Nat _ c2 c3) (o9 : @LT.lt Nat _ c3 fA) (o10 : @LT.lt Nat _ fA iA) (lo : LoIs iA)
    (f1 : ∀ q ∈ nr, q.1 ≠ sA) (f2 : ∀ q ∈ nr, q.1 ≠ rA) (f3 : ∀ q ∈ nr, q.1 ≠ fA) (f4 : ∀ q ∈ nr, q.1 ≠ c1) (f5 : ∀ q ∈ nr, q.1 ≠ c2) (f6 : ∀ q ∈ nr, q.1 ≠ c3)
    (hx : 0 ≤ sx) (hy : 0 ≤ sy) (hy2 : sy < 2147483648) (hz : xs.size ≤ 500) (hz2 : v1.size ≤ 500) (hz3 : fs.size ≤ 500) (h0 : 0 ≤ jv) (hv : xs[jv.toNat]? = some (.ref x))
    (ret : ∀ (D1 D2 full full2 : List (Addr × Obj)) (i' sx' sy' : Int) (ti tsx' tsy' tk' r1 r2 r3 r4 r5 r6 r7 r8 r9 : Tok) (ns' k' kf' kc' : Nat) (u y dy c1' c2' c3' : Addr) (nm' ur' lc' vl' pr' : Value) (m' : Str → Option Value) (h' : Heap) (t' : Nat), i' = (xs.size : Int) → 0 ≤ sx' → 0 ≤ sy' → sy' < 2147483648 → Fr h₀ L h' m' →
      m' "source" = some (.ref sA) → m' "tree" = some (.ref tR) → m' "top" = some (.int jv jt) → m' "found" = some (.ref fA) → m' "node" = some (.int i' ti) →
      News h₀ L h' full → full = D1 ++ ((c3', W.listOf #[] 0) :: (c2', W.listOf #[] 0) :: (c1', W.listOf #[] 0) :: (y, instObj 176 dy) :: (dy, rowD w.params r1 r2 r3 r4 r5 r6 r7 r8 r9 (.str "element" tk') nm' ur' lc' vl' pr' c1' c2' c3') :: full2) →
      full2 = D2 ++ ((iA, it) :: (sA, W.listOf #[.int sx' tsx', .int sy' tsy'] ns') :: (tR, instObj 365 tD) :: (tD, dictOf [⟨PyData.keyHash w.params "rows", .str "rows" t0, .ref rA⟩] nd) :: (rA, W.listOf (xs.push (.ref y)) k') :: (fA, W.listOf (fs.push (.ref u)) kf') :: (x, instObj 176 dx) :: (dx, rowD w.params q1 q2 q3 q4 q5 q6 q7 q8 q9 (.str "element" tk) nm ur lc vl pr c1 c2 c3) :: (c1, W.listOf (v1.push (.int i' ti)) kc') :: (c2, W.listOf v2 k2) :: (c3, W.listOf v3 k3) :: nr) →
      (∀ q ∈ D1, @LT.lt Nat _ c3' q.1) → (∀ q ∈ D2, @LT.lt Nat _ iA q.1 ∧ @LT.lt Nat _ q.1 dy) → @LT.lt Nat _ iA dy → @LT.lt Nat _ dy y → @LT.lt Nat _ y c1' → @LT.lt Nat _ c1' c2' → @LT.lt Nat _ c2' c3' → (∀ q ∈ nr, @LT.lt Nat _ q.1 dy) → Good w.params (D1 ++ [(c3', W.listOf #[] 0), (c2', W.listOf #[] 0), (c1', W.listOf #[] 0), (y, instObj 176 dy), (dy, rowD w.params r1 r2 r3 r4 r5 r6 r7 r8 r9 (.str "element" tk') nm' ur' lc' vl' pr' c1' c2' c3')]) (xs.push (.ref y)) (.ref u) →
      wpAny (model prog w) (ktrTop dp un gd (Str.ofString "_law_rows") c26 L (nat_lit 397) (.ref 396) [] outer) (execs rest (envX (Str.ofString "_law_rows") c26 L (nat_lit 397) (.ref 396) [])) QF EF { s with heap := h', toks := t' }) :
    wpAny (model prog w) (ktrTop dp un gd (Str.ofString "_law_rows") c26 L (nat_lit 397) (.ref 396) [] outer) (execs (z0 :: z1 :: z2 :: rest) (envX (Str.ofString "_law_rows") c26 L (nat_lit 397) (.ref 396) [])) QF EF s := by
  rw [map4 e1 e2 e3 e4] at F
  k_steps
  rename News _ _ _ _ => N9
  rename Fr _ _ _ _ => F9
  dsimp only
  refine' ret _ _ _ _ _ _ _ _ _ _ _ _ _ _ _ _ _ _ _ _ _ _ _ _ _ _ _ _ _ _ _ _ _ _ _ _ _ _ ?hi ?x0 ?y0 ?y2 F9 ?a1 ?a2 ?a3 ?a4 ?a5 N9 ?sp ?sp2 ?d1 ?d2 ?p1 ?p2 ?p3 ?p4 ?p5 ?p6 ?g
  case sp => walk_at "my spl"
  case sp2 => walk_at "my spl"
  case hi => with_reducible assumption
  case x0 => with_reducible assumption
  case y0 => with_reducible assumption
  case y2 => with_reducible assumption
  case a1 => exact rfl
  case a2 => exact rfl
  case a3 => exact rfl
  case a4 => exact rfl
  case a5 => exact rfl
  case d1 => walk_at "my abv"
  case d2 => walk_at "my abv"
  case p1 => k_extra "ord"
  case p2 => k_extra "ord"
  case p3 => k_extra "ord"
  case p4 => k_extra "ord"
  case p5 => k_extra "ord"
  case p6 => exact mem_find (by tbn_find)
  case g =>
    simp only [List.cons_append, List.nil_append]
    walk_at "my good"

end
section
theorem regG220 : True := by
  w_top off
  k_with "k_steps" => (repeat' (first | (k_unfold; (try dsimp only)) | (k_unmd; k_unfold; (try dsimp only)) | (k_end; kc_close) | ((fail_if_success walk_at "stop G2"); walk1) | ((fail_if_success walk_at "stop G2"); dsimp only; (fail_if_success walk_at "stop G2"); walk1) | (leave1; walk_say "STEP leave1"; try dsimp only) | fail "no step"))
  k_with "stop G2" => (((with_reducible show wpAny _ _ (pyIter (Value.ref _)) (fun it s₂ => LoopAtV _ _ _ _ _ _ _ _ _ it s₂) _ _)))
  trivial
theorem G2 {sA tD tR rA fA iA x dx c1 c2 c3 : Addr} {it : Obj} {sx sy iv jv : Int} {tsx tsy t0 tk q1 q2 q3 q4 q5 q6 q7 q8 q9 tv jt : Tok} {ns nd k kf k1 k2 k3 : Nat} {xs fs v1 v3 : Array Value} {nm ur lc vl pr : Value} {nr : List (Addr × Obj)} {ms : Str → Option Value} {rest : List Stmt} {QF : Flow → Shared → Prop} {EF : Value → Shared → Prop}
    (B : Below A₀ base outer h₀) (F : Fr h₀ L s.heap ms) (X : (KK w.params).In h₀) (T : Top p loose mean mg mb h₀) (hd : dp + 60 < 1000) (hu : un + 300 < 9900)
    (N : News h₀ L s.heap ((iA, it) :: (sA, W.listOf #[.int sx tsx, .int sy tsy] ns) :: (tR, instObj 365 tD) :: (tD, dictOf [⟨PyData.keyHash w.params "rows", .str "rows" t0, .ref rA⟩] nd) :: (rA, W.listOf xs k) :: (fA, W.listOf fs kf) :: (x, instObj 176 dx) :: (dx, rowD w.params q1 q2 q3 q4 q5 q6 q7 q8 q9 (.str "element" tk) nm ur lc vl pr c1 c2 c3) :: (c1, W.listOf v1 k1) :: (c2, W.listOf #[] k2) :: (c3, W.listOf v3 k3) :: nr))
    (e1 : ms "source" = some (.ref sA)) (e2 : ms "tree" = some (.ref tR)) (e3 : ms "top" = some (.int jv jt)) (e4 : ms "found" = some (.ref fA)) (e5 : ms "node" = some (.int iv tv))
    (o1 : @LT.lt Nat _ sA tD) (o2 : @LT.lt Nat _ tD tR) (o3 : @LT.lt Nat _ tR rA) (o4 : @LT.lt Nat _ rA fA) (o5 : @LT.lt Nat _ fA iA) (o6 : @LT.lt Nat _ iA dx) (o7 : @LT.lt Nat _ dx x) (o8 : @LT.lt Nat _ x c1) (o9 : @LT.lt Nat _ c1 c2) (o10 : @LT.lt Nat _ c2 c3) (lo : LoIs c3)
    (f1 : ∀ q ∈ nr, q.1 ≠ sA) (f2 : ∀ q ∈ nr, q.1 ≠ rA) (f3 : ∀ q ∈ nr, q.1 ≠ fA) (f4 : ∀ q ∈ nr, q.1 ≠ c1) (f5 : ∀ q ∈ nr, q.1 ≠ c2) (f6 : ∀ q ∈ nr, q.1 ≠ c3)
    (hx : 0 ≤ sx) (hy : 0 ≤ sy) (hy2 : sy < 2147483648) (hz : xs.size ≤ 500) (hz2 : v1.size ≤ 500) (hz3 : fs.size ≤ 500) (h0 : 0 ≤ iv) (hv : xs[iv.toNat]? = some (.ref x))
    (ret : ∀ (D full : List (Addr × Obj)) (i' sx' sy' : Int) (ti tsx' tsy' : Tok) (ns' k' kf' kc' : Nat) (u y : Addr) (m' : Str → Option Value) (h' : Heap) (t' : Nat), i' = (xs.size : Int) → 0 ≤ sx' → 0 ≤ sy' → sy' < 2147483648 → Fr h₀ L h' m' →
      m' "source" = some (.ref sA) → m' "tree" = some (.ref tR) → m' "top" = some (.int jv jt) → m' "found" = some (.ref fA) → m' "node" = some (.int iv tv) → 
      News h₀ L h' full → full = D ++ ((iA, it) :: (sA, W.listOf #[.int sx' tsx', .int sy' tsy'] ns') :: (tR, instObj 365 tD) :: (tD, dictOf [⟨PyData.keyHash w.params "rows", .str "rows" t0, .ref rA⟩] nd) :: (rA, W.listOf (xs.push (.ref y)) k') :: (fA, W.listOf (fs.push (.ref u)) kf') :: (x, instObj 176 dx) :: (dx, rowD w.params q1 q2 q3 q4 q5 q6 q7 q8 q9 (.str "element" tk) nm ur lc vl pr c1 c2 c3) :: (c1, W.listOf v1 k1) :: (c2, W.listOf #[.int i' ti] kc') :: (c3, W.listOf v3 k3) :: nr) →
      (∀ q ∈ D, @LT.lt Nat _ c3 q.1) → Good w.params D (xs.push (.ref y)) (.ref u) →
      wpAny (model prog w) (ktrTop dp un gd (Str.ofString "_law_rows") c26 L (nat_lit 397) (.ref 396) [] outer) (execs rest (envX (Str.ofString "_law_rows") c26 L (nat_lit 397) (.ref 396) [])) QF EF { s with heap := h', toks := t' }) :
    wpAny (model prog w) (ktrTop dp un gd (Str.ofString "_law_rows") c26 L (nat_lit 397) (.ref 396) [] outer) (execs (z3 :: z4 :: rest) (envX (Str.ofString "_law_rows") c26 L (nat_lit 397) (.ref 396) [])) QF EF s := by
  rw [map5 e1 e2 e3 e4 e5] at F
  k_steps
  rename News _ _ _ _ => N9
  rename Fr _ _ _ _ => F9
  dsimp only
  refine' ret _ _ _ _ _ _ _ _ _ _ _ _ _ _ _ _ _ ?hi ?x0 ?y0 ?y2 F9 ?a1 ?a2 ?a3 ?a4 ?a5 N9 ?sp ?d ?g
  case sp => walk_at "my spl"
  case hi => with_reducible assumption
  case x0 => with_reducible assumption
  case y0 => with_reducible assumption
  case y2 => with_reducible assumption
  case a1 => exact rfl
  case a2 => exact rfl
  case a3 => exact rfl
  case a4 => exact rfl
  case a5 => exact rfl
  case d => walk_at "my abv"
  case g => walk_at "my good"

end
section
theorem regG321 : True := by
  w_top off
  k_with "k_steps" => (repeat' (first | (k_unfold; (try dsimp only)) | (k_unmd; k_unfold; (try dsimp only)) | (k_end; kc_close) | ((fail_if_success walk_at "stop G3"); walk1) | ((fail_if_success walk_at "stop G3"); dsimp only; (fail_if_success walk_at "stop G3"); walk1) | (leave1; walk_say "STEP leave1"; try dsimp only) | fail "no step"))
  k_with "stop G3" => (((with_reducible show wpAny _ _ (pyIter (Value.ref _)) (fun it s₂ => LoopAtV _ _ _ _ _ _ _ _ _ it s₂) _ _)))
  trivial
theorem G3 {sA tD tR rA fA iA x dx c1 c2 c3 : Addr} {it : Obj} {sx sy iv jv : Int} {tsx tsy t0 tk q1 q2 q3 q4 q5 q6 q7 q8 q9 tv jt : Tok} {ns nd k kf k1 k2 k3 : Nat} {xs fs v1 v2 v3 : Array Value} {nm ur lc vl pr : Value} {nr : List (Addr × Obj)} {ms : Str → Option Value} {rest : List Stmt} {QF : Flow → Shared → Prop} {EF : Value → Shared → Prop}
    (B : Below A₀ base outer h₀) (F : Fr h₀ L s.heap ms) (X : (KK w.params).In h₀) (T : Top p loose mean mg mb h₀) (hd : dp + 60 < 1000) (hu : un + 300 < 9900)
    (N : News h₀ L s.heap ((iA, it) :: (sA, W.listOf #[.int sx tsx, .int sy tsy] ns) :: (tR, instObj 365 tD) :: (tD, dictOf [⟨PyData.keyHash w.params "rows", .str "rows" t0, .ref rA⟩] nd) :: (rA, W.listOf xs k) :: (fA, W.listOf fs kf) :: (x, instObj 176 dx) :: (dx, rowD w.params q1 q2 q3 q4 q5 q6 q7 q8 q9 (.str "element" tk) nm ur lc vl pr c1 c2 c3) :: (c1, W.listOf v1 k1) :: (c2, W.listOf v2 k2) :: (c3, W.listOf v3 k3) :: nr))
    (e1 : ms "source" = some (.ref sA)) (e2 : ms "tree" = some (.ref tR)) (e3 : ms "top" = some (.int jv jt)) (e4 : ms "found" = some (.ref fA)) (e5 : ms "node" = some (.int iv tv))
    (o1 : @LT.lt Nat _ sA tD) (o2 : @LT.lt Nat _ tD tR) (o3 : @LT.lt Nat _ tR rA) (o4 : @LT.lt Nat _ rA fA) (o5 : @LT.lt Nat _ fA iA) (o6 : @LT.lt Nat _ iA dx) (o7 : @LT.lt Nat _ dx x) (o8 : @LT.lt Nat _ x c1) (o9 : @LT.lt Nat _ c1 c2) (o10 : @LT.lt Nat _ c2 c3) (lo : LoIs c3)
    (f1 : ∀ q ∈ nr, q.1 ≠ sA) (f2 : ∀ q ∈ nr, q.1 ≠ rA) (f3 : ∀ q ∈ nr, q.1 ≠ fA) (f4 : ∀ q ∈ nr, q.1 ≠ c1) (f5 : ∀ q ∈ nr, q.1 ≠ c2) (f6 : ∀ q ∈ nr, q.1 ≠ c3)
    (hx : 0 ≤ sx) (hy : 0 ≤ sy) (hy2 : sy < 2147483648) (hz : xs.size ≤ 500) (hz2 : v1.size ≤ 500) (hz3 : fs.size ≤ 500) (h0 : 0 ≤ iv) (hv : xs[iv.toNat]? = some (.ref x))
    (ret : ∀ (D full : List (Addr × Obj)) (i' sx' sy' : Int) (ti tsx' tsy' : Tok) (ns' k' kf' kc' : Nat) (u y : Addr) (m' : Str → Option Value) (h' : Heap) (t' : Nat), i' = (xs.size : Int) → 0 ≤ sx' → 0 ≤ sy' → sy' < 2147483648 → Fr h₀ L h' m' →
      m' "source" = some (.ref sA) → m' "tree" = some (.ref tR) → m' "top" = some (.int jv jt) → m' "found" = some (.ref fA) → m' "node" = some (.int iv tv) → 
      News h₀ L h' full → full = D ++ ((iA, it) :: (sA, W.listOf #[.int sx' tsx', .int sy' tsy'] ns') :: (tR, instObj 365 tD) :: (tD, dictOf [⟨PyData.keyHash w.params "rows", .str "rows" t0, .ref rA⟩] nd) :: (rA, W.listOf (xs.push (.ref y)) k') :: (fA, W.listOf (fs.push (.ref u)) kf') :: (x, instObj 176 dx) :: (dx, rowD w.params q1 q2 q3 q4 q5 q6 q7 q8 q9 (.str "element" tk) nm ur lc vl pr c1 c2 c3) :: (c1, W.listOf (v1.push (.int i' ti)) kc') :: (c2, W.listOf v2 k2) :: (c3, W.listOf v3 k3) :: nr) →
      (∀ q ∈ D, @LT.lt Nat _ c3 q.1) → Good w.params D (xs.push (.ref y)) (.ref u) →
      wpAny (model prog w) (ktrTop dp un gd (Str.ofString "_law_rows") c26 L (nat_lit 397) (.ref 396) [] outer) (execs rest (envX (Str.ofString "_law_rows") c26 L (nat_lit 397) (.ref 396) [])) QF EF { s with heap := h', toks := t' }) :
    wpAny (model prog w) (ktrTop dp un gd (Str.ofString "_law_rows") c26 L (nat_lit 397) (.ref 396) [] outer) (execs (z5 :: rest) (envX (Str.ofString "_law_rows") c26 L (nat_lit 397) (.ref 396) [])) QF EF s := by
  rw [map5 e1 e2 e3 e4 e5] at F
  k_steps
  rename News _ _ _ _ => N9
  rename Fr _ _ _ _ => F9
  dsimp only
  refine' ret _ _ _ _ _ _ _ _ _ _ _ _ _ _ _ _ _ ?hi ?x0 ?y0 ?y2 F9 ?a1 ?a2 ?a3 ?a4 ?a5 N9 ?sp ?d ?g
  case sp => walk_at "my spl"
  case hi => with_reducible assumption
  case x0 => with_reducible assumption
  case y0 => with_reducible assumption
  case y2 => with_reducible assumption
  case a1 => exact rfl
  case a2 => exact rfl
  case a3 => exact rfl
  case a4 => exact rfl
  case a5 => exact rfl
  case d => walk_at "my abv"
  case g => walk_at "my good"

end
section
theorem regG422 : True := by
  w_top off
  k_with "k_steps" => (repeat' (first | (k_unfold; (try dsimp only)) | (k_unmd; k_unfold; (try dsimp only)) | (k_end; kc_close) | ((fail_if_success walk_at "stop G4"); walk1) | ((fail_if_success walk_at "stop G4"); dsimp only; (fail_if_success walk_at "stop G4"); walk1) | (leave1; walk_say "STEP leave1"; try dsimp only) | fail "no step"))
  k_with "stop G4" => (((with_reducible show wpAny _ _ (pyIter (Value.ref _)) (fun it s₂ => LoopAtV _ _ _ _ _ _ _ _ _ it s₂) _ _)))
  trivial
theorem G4 {sA tD tR rA fA iA x dx c1 c2 c3 : Addr} {it : Obj} {sx sy iv jv : Int} {tsx tsy t0 tk q1 q2 q3 q4 q5 q6 q7 q8 q9 tv jt : Tok} {ns nd k kf k1 k2 k3 : Nat} {xs fs v1 v2 v3 : Array Value} {nm ur lc vl pr : Value} {nr : List (Addr × Obj)} {ms : Str → Option Value} {rest : List Stmt} {QF : Flow → Shared → Prop} {EF : Value → Shared → Prop}
    (B : Below A₀ base outer h₀) (F : Fr h₀ L s.heap ms) (X : (KK w.params).In h₀) (T : Top p loose mean mg mb h₀) (hd : dp + 60 < 1000) (hu : un + 300 < 9900)
    (N : News h₀ L s.heap ((iA, it) :: (sA, W.listOf #[.int sx tsx, .int sy tsy] ns) :: (tR, instObj 365 tD) :: (tD, dictOf [⟨PyData.keyHash w.params "rows", .str "rows" t0, .ref rA⟩] nd) :: (rA, W.listOf xs k) :: (fA, W.listOf fs kf) :: (x, instObj 176 dx) :: (dx, rowD w.params q1 q2 q3 q4 q5 q6 q7 q8 q9 (.str "element" tk) nm ur lc vl pr c1 c2 c3) :: (c1, W.listOf v1 k1) :: (c2, W.listOf v2 k2) :: (c3, W.listOf v3 k3) :: nr))
    (e1 : ms "source" = some (.ref sA)) (e2 : ms "tree" = some (.ref tR)) (e3 : ms "top" = some (.int jv jt)) (e4 : ms "found" = some (.ref fA)) (e5 : ms "node" = some (.int iv tv))
    (o1 : @LT.lt Nat _ sA tD) (o2 : @LT.lt Nat _ tD tR) (o3 : @LT.lt Nat _ tR rA) (o4 : @LT.lt Nat _ rA fA) (o5 : @LT.lt Nat _ fA iA) (o6 : @LT.lt Nat _ iA dx) (o7 : @LT.lt Nat _ dx x) (o8 : @LT.lt Nat _ x c1) (o9 : @LT.lt Nat _ c1 c2) (o10 : @LT.lt Nat _ c2 c3) (lo : LoIs c3)
    (f1 : ∀ q ∈ nr, q.1 ≠ sA) (f2 : ∀ q ∈ nr, q.1 ≠ rA) (f3 : ∀ q ∈ nr, q.1 ≠ fA) (f4 : ∀ q ∈ nr, q.1 ≠ c1) (f5 : ∀ q ∈ nr, q.1 ≠ c2) (f6 : ∀ q ∈ nr, q.1 ≠ c3)
    (hx : 0 ≤ sx) (hy : 0 ≤ sy) (hy2 : sy < 2147483648) (hz : xs.size ≤ 500) (hz2 : v1.size ≤ 500) (hz3 : fs.size ≤ 500) (h0 : 0 ≤ iv) (hv : xs[iv.toNat]? = some (.ref x))
    (ret : ∀ (D full : List (Addr × Obj)) (i' sx' sy' : Int) (ti tsx' tsy' : Tok) (ns' k' kf' kc' : Nat) (u y : Addr) (m' : Str → Option Value) (h' : Heap) (t' : Nat), i' = (xs.size : Int) → 0 ≤ sx' → 0 ≤ sy' → sy' < 2147483648 → Fr h₀ L h' m' →
      m' "source" = some (.ref sA) → m' "tree" = some (.ref tR) → m' "top" = some (.int jv jt) → m' "found" = some (.ref fA) → m' "node" = some (.int iv tv) → 
      News h₀ L h' full → full = D ++ ((iA, it) :: (sA, W.listOf #[.int sx' tsx', .int sy' tsy'] ns') :: (tR, instObj 365 tD) :: (tD, dictOf [⟨PyData.keyHash w.params "rows", .str "rows" t0, .ref rA⟩] nd) :: (rA, W.listOf (xs.push (.ref y)) k') :: (fA, W.listOf (fs.push (.ref u)) kf') :: (x, instObj 176 dx) :: (dx, rowD w.params q1 q2 q3 q4 q5 q6 q7 q8 q9 (.str "element" tk) nm ur lc vl pr c1 c2 c3) :: (c1, W.listOf (v1.push (.int i' ti)) kc') :: (c2, W.listOf v2 k2) :: (c3, W.listOf v3 k3) :: nr) →
      (∀ q ∈ D, @LT.lt Nat _ c3 q.1) → Good w.params D (xs.push (.ref y)) (.ref u) →
      wpAny (model prog w) (ktrTop dp un gd (Str.ofString "_law_rows") c26 L (nat_lit 397) (.ref 396) [] outer) (execs rest (envX (Str.ofString "_law_rows") c26 L (nat_lit 397) (.ref 396) [])) QF EF { s with heap := h', toks := t' }) :
    wpAny (model prog w) (ktrTop dp un gd (Str.ofString "_law_rows") c26 L (nat_lit 397) (.ref 396) [] outer) (execs (z6 :: rest) (envX (Str.ofString "_law_rows") c26 L (nat_lit 397) (.ref 396) [])) QF EF s := by
  rw [map5 e1 e2 e3 e4 e5] at F
  k_steps
  rename News _ _ _ _ => N9
  rename Fr _ _ _ _ => F9
  dsimp only
  refine' ret _ _ _ _ _ _ _ _ _ _ _ _ _ _ _ _ _ ?hi ?x0 ?y0 ?y2 F9 ?a1 ?a2 ?a3 ?a4 ?a5 N9 ?sp ?d ?g
  case sp => walk_at "my spl"
  case hi => with_reducible assumption
  case x0 => with_reducible assumption
  case y0 => with_reducible assumption
  case y2 => with_reducible assumption
  case a1 => exact rfl
  case a2 => exact rfl
  case a3 => exact rfl
  case a4 => exact rfl
  case a5 => exact rfl
  case d => walk_at "my abv"
  case g => walk_at "my good"

end
section
theorem regG523 : True := by
  w_top off
  k_with "k_steps" => (repeat' (first | (k_unfold; (try dsimp only)) | (k_unmd; k_unfold; (try dsimp only)) | (k_end; kc_close) | ((fail_if_success walk_at "stop G5"); walk1) | ((fail_if_success walk_at "stop G5"); dsimp only; (fail_if_success walk_at "stop G5"); walk1) | (leave1; walk_say "STEP leave1"; try dsimp only) | fail "no step"))
  k_with "stop G5" => (((with_reducible show wpAny _ _ (pyIter (Value.ref _)) (fun it s₂ => LoopAtV _ _ _ _ _ _ _ _ _ it s₂) _ _)))
  trivial
theorem G5 {sA tD tR rA fA iA x dx c1 c2 c3 : Addr} {it : Obj} {sx sy iv jv : Int} {tsx tsy t0 tk q1 q2 q3 q4 q5 q6 q7 q8 q9 tv jt : Tok} {ns nd k kf k1 k2 k3 : Nat} {xs fs v1 v2 v3 : Array Value} {nm ur lc vl pr : Value} {nr : List (Addr × Obj)} {ms : Str → Option Value} {rest : List Stmt} {QF : Flow → Shared → Prop} {EF : Value → Shared → Prop}
    (B : Below A₀ base outer h₀) (F : Fr h₀ L s.heap ms) (X : (KK w.params).In h₀) (T : Top p loose mean mg mb h₀) (hd : dp + 60 < 1000) (hu : un + 300 < 9900)
    (N : News h₀ L s.heap ((iA, it) :: (sA, W.listOf #[.int sx tsx, .int sy tsy] ns) :: (tR, instObj 365 tD) :: (tD, dictOf [⟨PyData.keyHash w.params "rows", .str "rows" t0, .ref rA⟩] nd) :: (rA, W.listOf xs k) :: (fA, W.listOf fs kf) :: (x, instObj 176 dx) :: (dx, rowD w.params q1 q2 q3 q4 q5 q6 q7 q8 q9 (.str "element" tk) nm ur lc vl pr c1 c2 c3) :: (c1, W.listOf v1 k1) :: (c2, W.listOf v2 k2) :: (c3, W.listOf v3 k3) :: nr))
    (e1 : ms "source" = some (.ref sA)) (e2 : ms "tree" = some (.ref tR)) (e3 : ms "top" = some (.int jv jt)) (e4 : ms "found" = some (.ref fA)) (e5 : ms "node" = some (.int iv tv))
    (o1 : @LT.lt Nat _ sA tD) (o2 : @LT.lt Nat _ tD tR) (o3 : @LT.lt Nat _ tR rA) (o4 : @LT.lt Nat _ rA fA) (o5 : @LT.lt Nat _ fA iA) (o6 : @LT.lt Nat _ iA dx) (o7 : @LT.lt Nat _ dx x) (o8 : @LT.lt Nat _ x c1) (o9 : @LT.lt Nat _ c1 c2) (o10 : @LT.lt Nat _ c2 c3) (lo : LoIs c3)
    (f1 : ∀ q ∈ nr, q.1 ≠ sA) (f2 : ∀ q ∈ nr, q.1 ≠ rA) (f3 : ∀ q ∈ nr, q.1 ≠ fA) (f4 : ∀ q ∈ nr, q.1 ≠ c1) (f5 : ∀ q ∈ nr, q.1 ≠ c2) (f6 : ∀ q ∈ nr, q.1 ≠ c3)
    (hx : 0 ≤ sx) (hy : 0 ≤ sy) (hy2 : sy < 2147483648) (hz : xs.size ≤ 500) (hz2 : v1.size ≤ 500) (hz3 : fs.size ≤ 500) (h0 : 0 ≤ iv) (hv : xs[iv.toNat]? = some (.ref x))
    (ret : ∀ (D full : List (Addr × Obj)) (i' sx' sy' : Int) (ti tsx' tsy' : Tok) (ns' k' kf' kc' : Nat) (u y : Addr) (m' : Str → Option Value) (h' : Heap) (t' : Nat), i' = (xs.size : Int) → 0 ≤ sx' → 0 ≤ sy' → sy' < 2147483648 → Fr h₀ L h' m' →
      m' "source" = some (.ref sA) → m' "tree" = some (.ref tR) → m' "top" = some (.int jv jt) → m' "found" = some (.ref fA) → m' "node" = some (.int iv tv) → 
      News h₀ L h' full → full = D ++ ((iA, it) :: (sA, W.listOf #[.int sx' tsx', .int sy' tsy'] ns') :: (tR, instObj 365 tD) :: (tD, dictOf [⟨PyData.keyHash w.params "rows", .str "rows" t0, .ref rA⟩] nd) :: (rA, W.listOf (xs.push (.ref y)) k') :: (fA, W.listOf (fs.push (.ref u)) kf') :: (x, instObj 176 dx) :: (dx, rowD w.params q1 q2 q3 q4 q5 q6 q7 q8 q9 (.str "element" tk) nm ur lc vl pr c1 c2 c3) :: (c1, W.listOf (v1.push (.int i' ti)) kc') :: (c2, W.listOf v2 k2) :: (c3, W.listOf v3 k3) :: nr) →
      (∀ q ∈ D, @LT.lt Nat _ c3 q.1) → Good w.params D (xs.push (.ref y)) (.ref u) →
      wpAny (model prog w) (ktrTop dp un gd (Str.ofString "_law_rows") c26 L (nat_lit 397) (.ref 396) [] outer) (execs rest (envX (Str.ofString "_law_rows") c26 L (nat_lit 397) (.ref 396) [])) QF EF { s with heap := h', toks := t' }) :
    wpAny (model prog w) (ktrTop dp un gd (Str.ofString "_law_rows") c26 L (nat_lit 397) (.ref 396) [] outer) (execs (z7 :: z8 :: rest) (envX (Str.ofString "_law_rows") c26 L (nat_lit 397) (.ref 396) [])) QF EF s := by
  rw [map5 e1 e2 e3 e4 e5] at F
  k_steps
  rename News _ _ _ _ => N9
  rename Fr _ _ _ _ => F9
  dsimp only
  refine' ret _ _ _ _ _ _ _ _ _ _ _ _ _ _ _ _ _ ?hi ?x0 ?y0 ?y2 F9 ?a1 ?a2 ?a3 ?a4 ?a5 N9 ?sp ?d ?g
  case sp => walk_at "my spl"
  case hi => with_reducible assumption
  case x0 => with_reducible assumption
  case y0 => with_reducible assumption
  case y2 => with_reducible assumption
  case a1 => exact rfl
  case a2 => exact rfl
  case a3 => exact rfl
  case a4 => exact rfl
  case a5 => exact rfl
  case d => walk_at "my abv"
  case g => walk_at "my good"

end
section
theorem regG624 : True := by
  w_top off
  k_with "k_steps" => (repeat' (first | (k_unfold; (try dsimp only)) | (k_unmd; k_unfold; (try dsimp only)) | (k_end; kc_close) | ((fail_if_success walk_at "stop G6"); walk1) | ((fail_if_success walk_at "stop G6"); dsimp only; (fail_if_success walk_at "stop G6"); walk1) | (leave1; walk_say "STEP leave1"; try dsimp only) | fail "no step"))
  k_with "stop G6" => (((with_reducible show wpAny _ _ (pyIter (Value.ref _)) (fun it s₂ => LoopAtV _ _ _ _ _ _ _ _ _ it s₂) _ _)))
  trivial
theorem G6 {sA tD tR rA fA iA x dx c1 c2 c3 : Addr} {it : Obj} {sx sy iv jv : Int} {tsx tsy t0 tk q1 q2 q3 q4 q5 q6 q7 q8 q9 tv jt : Tok} {ns nd k kf k1 k2 k3 : Nat} {xs fs v1 v2 : Array Value} {nm ur lc vl pr : Value} {nr : List (Addr × Obj)} {ms : Str → Option Value} {rest : List Stmt} {QF : Flow → Shared → Prop} {EF : Value → Shared → Prop}
    (B : Below A₀ base outer h₀) (F : Fr h₀ L s.heap ms) (X : (KK w.params).In h₀) (T : Top p loose mean mg mb h₀) (hd : dp + 60 < 1000) (hu : un + 300 < 9900)
    (N : News h₀ L s.heap ((iA, it) :: (sA, W.listOf #[.int sx tsx, .int sy tsy] ns) :: (tR, instObj 365 tD) :: (tD, dictOf [⟨PyData.keyHash w.params "rows", .str "rows" t0, .ref rA⟩] nd) :: (rA, W.listOf xs k) :: (fA, W.listOf fs kf) :: (x, instObj 176 dx) :: (dx, rowD w.params q1 q2 q3 q4 q5 q6 q7 q8 q9 (.str "element" tk) nm ur lc vl pr c1 c2 c3) :: (c1, W.listOf v1 k1) :: (c2, W.listOf v2 k2) :: (c3, W.listOf #[] k3) :: nr))
    (e1 : ms "source" = some (.ref sA)) (e2 : ms "tree" = some (.ref tR)) (e3 : ms "top" = some (.int jv jt)) (e4 : ms "found" = some (.ref fA)) (e5 : ms "node" = some (.int iv tv))
    (o1 : @LT.lt Nat _ sA tD) (o2 : @LT.lt Nat _ tD tR) (o3 : @LT.lt Nat _ tR rA) (o4 : @LT.lt Nat _ rA fA) (o5 : @LT.lt Nat _ fA iA) (o6 : @LT.lt Nat _ iA dx) (o7 : @LT.lt Nat _ dx x) (o8 : @LT.lt Nat _ x c1) (o9 : @LT.lt Nat _ c1 c2) (o10 : @LT.lt Nat _ c2 c3) (lo : LoIs c3)
    (f1 : ∀ q ∈ nr, q.1 ≠ sA) (f2 : ∀ q ∈ nr, q.1 ≠ rA) (f3 : ∀ q ∈ nr, q.1 ≠ fA) (f4 : ∀ q ∈ nr, q.1 ≠ c1) (f5 : ∀ q ∈ nr, q.1 ≠ c2) (f6 : ∀ q ∈ nr, q.1 ≠ c3)
    (hx : 0 ≤ sx) (hy : 0 ≤ sy) (hy2 : sy < 2147483648) (hz : xs.size ≤ 500) (hz2 : v1.size ≤ 500) (hz3 : fs.size ≤ 500) (h0 : 0 ≤ iv) (hv : xs[iv.toNat]? = some (.ref x))
    (ret : ∀ (D full : List (Addr × Obj)) (i' sx' sy' : Int) (ti tsx' tsy' : Tok) (ns' k' kf' kc' : Nat) (u y : Addr) (m' : Str → Option Value) (h' : Heap) (t' : Nat), i' = (xs.size : Int) → 0 ≤ sx' → 0 ≤ sy' → sy' < 2147483648 → Fr h₀ L h' m' →
      m' "source" = some (.ref sA) → m' "tree" = some (.ref tR) → m' "top" = some (.int jv jt) → m' "found" = some (.ref fA) → m' "node" = some (.int iv tv) → 
      News h₀ L h' full → full = D ++ ((iA, it) :: (sA, W.listOf #[.int sx' tsx', .int sy' tsy'] ns') :: (tR, instObj 365 tD) :: (tD, dictOf [⟨PyData.keyHash w.params "rows", .str "rows" t0, .ref rA⟩] nd) :: (rA, W.listOf (xs.push (.ref y)) k') :: (fA, W.listOf (fs.push (.ref u)) kf') :: (x, instObj 176 dx) :: (dx, rowD w.params q1 q2 q3 q4 q5 q6 q7 q8 q9 (.str "element" tk) nm ur lc vl pr c1 c2 c3) :: (c1, W.listOf v1 k1) :: (c2, W.listOf v2 k2) :: (c3, W.listOf #[.int i' ti] kc') :: nr) →
      (∀ q ∈ D, @LT.lt Nat _ c3 q.1) → Good w.params D (xs.push (.ref y)) (.ref u) →
      wpAny (model prog w) (ktrTop dp un gd (Str.ofString "_law_rows") c26 L (nat_lit 397) (.ref 396) [] outer) (execs rest (envX (Str.ofString "_law_rows") c26 L (nat_lit 397) (.ref 396) [])) QF EF { s with heap := h', toks := t' }) :
    wpAny (model prog w) (ktrTop dp un gd (Str.ofString "_law_rows") c26 L (nat_lit 397) (.ref 396) [] outer) (execs (z9 :: z10 :: rest) (envX (Str.ofString "_law_rows") c26 L (nat_lit 397) (.ref 396) [])) QF EF s := by
  rw [map5 e1 e2 e3 e4 e5] at F
  k_steps
  rename News _ _ _ _ => N9
  rename Fr _ _ _ _ => F9
  dsimp only
  refine' ret _ _ _ _ _ _ _ _ _ _ _ _ _ _ _ _ _ ?hi ?x0 ?y0 ?y2 F9 ?a1 ?a2 ?a3 ?a4 ?a5 N9 ?sp ?d ?g
  case sp => walk_at "my spl"
  case hi => with_reducible assumption
  case x0 => with_reducible assumption
  case y0 => with_reducible assumption
  case y2 => with_reducible assumption
  case a1 => exact rfl
  case a2 => exact rfl
  case a3 => exact rfl
  case a4 => exact rfl
  case a5 => exact rfl
  case d => walk_at "my abv"
  case g => walk_at "my good"

end
section
theorem regH25 : True := by
  w_top off
  k_with "k_steps" => (repeat' (first | (k_unfold; (try dsimp only)) | (k_unmd; k_unfold; (try dsimp only)) | (k_end; kc_close) | ((fail_if_success walk_at "stop H"); walk1) | ((fail_if_success walk_at "stop H"); dsimp only; (fail_if_success walk_at "stop H"); walk1) | (leave1; walk_say "STEP leave1"; try dsimp only) | fail "no step"))
  k_with "stop H" => (((with_reducible show wpAny _ _ (pyIter (Value.ref _)) (fun it s₂ => LoopAtV _ _ _ _ _ _ _ _ _ it s₂) _ _)))
  trivial
theorem H2 {iA : Addr} {it : Obj} {b : BC} {jv : Int} {jt : Tok} {e : EC} {nr0 gr0 : List (Addr × Obj)} {xs0 v1 v3 : Array Value} {n : Nat} {ms : Str → Option Value} {rest : List Stmt} {QF : Flow → Shared → Prop} {EF : Value → Shared → Prop}
    (B : Below A₀ base outer h₀) (X : (KK w.params).In h₀) (T : Top p loose mean mg mb h₀) (hd : dp + 60 < 1000) (hu : un + 300 < 9900) (O : NO iA b e nr0) (hn : n ≤ 400) (hv1 : v1.size ≤ 400)
    (S : NS w.params h₀ L s.heap ms iA it b jv jt e nr0 gr0 xs0 n v1 #[] v3)
    (ret : ∀ (m' : Str → Option Value) (h' : Heap) (t' : Nat) (v' : Array Value), NS w.params h₀ L h' m' iA it b jv jt e nr0 gr0 xs0 (n + 1) v1 v' v3 →
      wpAny (model prog w) (ktrTop dp un gd (Str.ofString "_law_rows") c26 L (nat_lit 397) (.ref 396) [] outer) (execs rest (envX (Str.ofString "_law_rows") c26 L (nat_lit 397) (.ref 396) [])) QF EF { s with heap := h', toks := t' }) :
    wpAny (model prog w) (ktrTop dp un gd (Str.ofString "_law_rows") c26 L (nat_lit 397) (.ref 396) [] outer) (execs (z3 :: z4 :: rest) (envX (Str.ofString "_law_rows") c26 L (nat_lit 397) (.ref 396) [])) QF EF s := by
  obtain ⟨sx, sy, tsx, tsy, ns, xs, k, fs, kf, k1, k2, k3, D0, F, e1, e2, e3, e4, e5, N, hD0, hx, hy, hy2, hn1, hn2, h0, hv, gd, hxs⟩ := S
  have ⟨o1, o2, o3, o4, o5, o6, o7, o8, o9, o10, f1, f2, f3, f4, f5, f6⟩ := O
  have z1 : ∀ q ∈ D0, @LT.lt Nat _ iA q.1 := fun q hq => (hD0 q hq).1
  refine G2 (tsx := tsx) (tsy := tsy) (t0 := b.t0) (ns := ns) (nd := b.nd) (k := k) (kf := kf) (k1 := k1) (k2 := k2) (k3 := k3) (nr := D0 ++ nr0) (it := it) (tk := e.tk) (q1 := e.q1) (q2 := e.q2) (q3 := e.q3) (q4 := e.q4) (q5 := e.q5) (q6 := e.q6) (q7 := e.q7) (q8 := e.q8) (q9 := e.q9) (nm := e.nm) (ur := e.ur) (lc := e.lc) (vl := e.vl) (pr := e.pr) B F X T hd hu N e1 e2 e3 e4 e5 o1 o2 o3 o4 o5 o6 o7 o8 o9 o10 trivial (offApp (offD z1 (by omega)) f1) (offApp (offD z1 (by omega)) f2) (offApp (offD z1 (by omega)) f3) (offApp (fun q hq => (hD0 q hq).2.1) f4) (offApp (fun q hq => (hD0 q hq).2.2.1) f5) (offApp (fun q hq => (hD0 q hq).2.2.2) f6) hx hy hy2 (by omega) (by omega) (by omega) h0 hv ?_
  intro D full i' sx' sy' ti tsx' tsy' ns' k' kf' kc' u y m' h' t' hi hx' hy' hy2' F' a1 a2 a3 a4 a5 N' hful hD hg
  subst hful
  refine ret m' h' t' _ (NS.next (u := u) (y := y) (D := D) O F' a1 a2 a3 a4 a5 N' hD hD0 hx' hy' hy2' hn1 hn2 h0 hv gd hxs hg)
theorem H3 {iA : Addr} {it : Obj} {b : BC} {jv : Int} {jt : Tok} {e : EC} {nr0 gr0 : List (Addr × Obj)} {xs0 v1 v2 v3 : Array Value} {n : Nat} {ms : Str → Option Value} {rest : List Stmt} {QF : Flow → Shared → Prop} {EF : Value → Shared → Prop}
    (B : Below A₀ base outer h₀) (X : (KK w.params).In h₀) (T : Top p loose mean mg mb h₀) (hd : dp + 60 < 1000) (hu : un + 300 < 9900) (O : NO iA b e nr0) (hn : n ≤ 400) (hv1 : v1.size ≤ 400)
    (S : NS w.params h₀ L s.heap ms iA it b jv jt e nr0 gr0 xs0 n v1 v2 v3)
    (ret : ∀ (m' : Str → Option Value) (h' : Heap) (t' : Nat) (v' : Array Value), v'.size = v1.size + 1 → NS w.params h₀ L h' m' iA it b jv jt e nr0 gr0 xs0 (n + 1) v' v2 v3 →
      wpAny (model prog w) (ktrTop dp un gd (Str.ofString "_law_rows") c26 L (nat_lit 397) (.ref 396) [] outer) (execs rest (envX (Str.ofString "_law_rows") c26 L (nat_lit 397) (.ref 396) [])) QF EF { s with heap := h', toks := t' }) :
    wpAny (model prog w) (ktrTop dp un gd (Str.ofString "_law_rows") c26 L (nat_lit 397) (.ref 396) [] outer) (execs (z5 :: rest) (envX (Str.ofString "_law_rows") c26 L (nat_lit 397) (.ref 396) [])) QF EF s := by
  obtain ⟨sx, sy, tsx, tsy, ns, xs, k, fs, kf, k1, k2, k3, D0, F, e1, e2, e3, e4, e5, N, hD0, hx, hy, hy2, hn1, hn2, h0, hv, gd, hxs⟩ := S
  have ⟨o1, o2, o3, o4, o5, o6, o7, o8, o9, o10, f1, f2, f3, f4, f5, f6⟩ := O
  have z1 : ∀ q ∈ D0, @LT.lt Nat _ iA q.1 := fun q hq => (hD0 q hq).1
  refine G3 (tsx := tsx) (tsy := tsy) (t0 := b.t0) (ns := ns) (nd := b.nd) (k := k) (kf := kf) (k1 := k1) (k2 := k2) (k3 := k3) (nr := D0 ++ nr0) (it := it) (tk := e.tk) (q1 := e.q1) (q2 := e.q2) (q3 := e.q3) (q4 := e.q4) (q5 := e.q5) (q6 := e.q6) (q7 := e.q7) (q8 := e.q8) (q9 := e.q9) (nm := e.nm) (ur := e.ur) (lc := e.lc) (vl := e.vl) (pr := e.pr) B F X T hd hu N e1 e2 e3 e4 e5 o1 o2 o3 o4 o5 o6 o7 o8 o9 o10 trivial (offApp (offD z1 (by omega)) f1) (offApp (offD z1 (by omega)) f2) (offApp (offD z1 (by omega)) f3) (offApp (fun q hq => (hD0 q hq).2.1) f4) (offApp (fun q hq => (hD0 q hq).2.2.1) f5) (offApp (fun q hq => (hD0 q hq).2.2.2) f6) hx hy hy2 (by omega) (by omega) (by omega) h0 hv ?_
  intro D full i' sx' sy' ti tsx' tsy' ns' k' kf' kc' u y m' h' t' hi hx' hy' hy2' F' a1 a2 a3 a4 a5 N' hful hD hg
  subst hful
  refine ret m' h' t' _ (Array.size_push _) (NS.next (u := u) (y := y) (D := D) O F' a1 a2 a3 a4 a5 N' hD hD0 hx' hy' hy2' hn1 hn2 h0 hv gd hxs hg)
theorem H4 {iA : Addr} {it : Obj} {b : BC} {jv : Int} {jt : Tok} {e : EC} {nr0 gr0 : List (Addr × Obj)} {xs0 v1 v2 v3 : Array Value} {n : Nat} {ms : Str → Option Value} {rest : List Stmt} {QF : Flow → Shared → Prop} {EF : Value → Shared → Prop}
    (B : Below A₀ base outer h₀) (X : (KK w.params).In h₀) (T : Top p loose mean mg mb h₀) (hd : dp + 60 < 1000) (hu : un + 300 < 9900) (O : NO iA b e nr0) (hn : n ≤ 400) (hv1 : v1.size ≤ 400)
    (S : NS w.params h₀ L s.heap ms iA it b jv jt e nr0 gr0 xs0 n v1 v2 v3)
    (ret : ∀ (m' : Str → Option Value) (h' : Heap) (t' : Nat) (v' : Array Value), v'.size = v1.size + 1 → NS w.params h₀ L h' m' iA it b jv jt e nr0 gr0 xs0 (n + 1) v' v2 v3 →
      wpAny (model prog w) (ktrTop dp un gd (Str.ofString "_law_rows") c26 L (nat_lit 397) (.ref 396) [] outer) (execs rest (envX (Str.ofString "_law_rows") c26 L (nat_lit 397) (.ref 396) [])) QF EF { s with heap := h', toks := t' }) :
    wpAny (model prog w) (ktrTop dp un gd (Str.ofString "_law_rows") c26 L (nat_lit 397) (.ref 396) [] outer) (execs (z6 :: rest) (envX (Str.ofString "_law_rows") c26 L (nat_lit 397) (.ref 396) [])) QF EF s := by
  obtain ⟨sx, sy, tsx, tsy, ns, xs, k, fs, kf, k1, k2, k3, D0, F, e1, e2, e3, e4, e5, N, hD0, hx, hy, hy2, hn1, hn2, h0, hv, gd, hxs⟩ := S
  have ⟨o1, o2, o3, o4, o5, o6, o7, o8, o9, o10, f1, f2, f3, f4, f5, f6⟩ := O
  have z1 : ∀ q ∈ D0, @LT.lt Nat _ iA q.1 := fun q hq => (hD0 q hq).1
  refine G4 (tsx := tsx) (tsy := tsy) (t0 := b.t0) (ns := ns) (nd := b.nd) (k := k) (kf := kf) (k1 := k1) (k2 := k2) (k3 := k3) (nr := D0 ++ nr0) (it := it) (tk := e.tk) (q1 := e.q1) (q2 := e.q2) (q3 := e.q3) (q4 := e.q4) (q5 := e.q5) (q6 := e.q6) (q7 := e.q7) (q8 := e.q8) (q9 := e.q9) (nm := e.nm) (ur := e.ur) (lc := e.lc) (vl := e.vl) (pr := e.pr) B F X T hd hu N e1 e2 e3 e4 e5 o1 o2 o3 o4 o5 o6 o7 o8 o9 o10 trivial (offApp (offD z1 (by omega)) f1) (offApp (offD z1 (by omega)) f2) (offApp (offD z1 (by omega)) f3) (offApp (fun q hq => (hD0 q hq).2.1) f4) (offApp (fun q hq => (hD0 q hq).2.2.1) f5) (offApp (fun q hq => (hD0 q hq).2.2.2) f6) hx hy hy2 (by omega) (by omega) (by omega) h0 hv ?_
  intro D full i' sx' sy' ti tsx' tsy' ns' k' kf' kc' u y m' h' t' hi hx' hy' hy2' F' a1 a2 a3 a4 a5 N' hful hD hg
  subst hful
  refine ret m' h' t' _ (Array.size_push _) (NS.next (u := u) (y := y) (D := D) O F' a1 a2 a3 a4 a5 N' hD hD0 hx' hy' hy2' hn1 hn2 h0 hv gd hxs hg)
theorem H5 {iA : Addr} {it : Obj} {b : BC} {jv : Int} {jt : Tok} {e : EC} {nr0 gr0 : List (Addr × Obj)} {xs0 v1 v2 v3 : Array Value} {n : Nat} {ms : Str → Option Value} {rest : List Stmt} {QF : Flow → Shared → Prop} {EF : Value → Shared → Prop}
    (B : Below A₀ base outer h₀) (X : (KK w.params).In h₀) (T : Top p loose mean mg mb h₀) (hd : dp + 60 < 1000) (hu : un + 300 < 9900) (O : NO iA b e nr0) (hn : n ≤ 400) (hv1 : v1.size ≤ 400)
    (S : NS w.params h₀ L s.heap ms iA it b jv jt e nr0 gr0 xs0 n v1 v2 v3)
    (ret : ∀ (m' : Str → Option Value) (h' : Heap) (t' : Nat) (v' : Array Value), v'.size = v1.size + 1 → NS w.params h₀ L h' m' iA it b jv jt e nr0 gr0 xs0 (n + 1) v' v2 v3 →
      wpAny (model prog w) (ktrTop dp un gd (Str.ofString "_law_rows") c26 L (nat_lit 397) (.ref 396) [] outer) (execs rest (envX (Str.ofString "_law_rows") c26 L (nat_lit 397) (.ref 396) [])) QF EF { s with heap := h', toks := t' }) :
    wpAny (model prog w) (ktrTop dp un gd (Str.ofString "_law_rows") c26 L (nat_lit 397) (.ref 396) [] outer) (execs (z7 :: z8 :: rest) (envX (Str.ofString "_law_rows") c26 L (nat_lit 397) (.ref 396) [])) QF EF s := by
  obtain ⟨sx, sy, tsx, tsy, ns, xs, k, fs, kf, k1, k2, k3, D0, F, e1, e2, e3, e4, e5, N, hD0, hx, hy, hy2, hn1, hn2, h0, hv, gd, hxs⟩ := S
  have ⟨o1, o2, o3, o4, o5, o6, o7, o8, o9, o10, f1, f2, f3, f4, f5, f6⟩ := O
  have z1 : ∀ q ∈ D0, @LT.lt Nat _ iA q.1 := fun q hq => (hD0 q hq).1
  refine G5 (tsx := tsx) (tsy := tsy) (t0 := b.t0) (ns := ns) (nd := b.nd) (k := k) (kf := kf) (k1 := k1) (k2 := k2) (k3 := k3) (nr := D0 ++ nr0) (it := it) (tk := e.tk) (q1 := e.q1) (q2 := e.q2) (q3 := e.q3) (q4 := e.q4) (q5 := e.q5) (q6 := e.q6) (q7 := e.q7) (q8 := e.q8) (q9 := e.q9) (nm := e.nm) (ur := e.ur) (lc := e.lc) (vl := e.vl) (pr := e.pr) B F X T hd hu N e1 e2 e3 e4 e5 o1 o2 o3 o4 o5 o6 o7 o8 o9 o10 trivial (offApp (offD z1 (by omega)) f1) (offApp (offD z1 (by omega)) f2) (offApp (offD z1 (by omega)) f3) (offApp (fun q hq => (hD0 q hq).2.1) f4) (offApp (fun q hq => (hD0 q hq).2.2.1) f5) (offApp (fun q hq => (hD0 q hq).2.2.2) f6) hx hy hy2 (by omega) (by omega) (by omega) h0 hv ?_
  intro D full i' sx' sy' ti tsx' tsy' ns' k' kf' kc' u y m' h' t' hi hx' hy' hy2' F' a1 a2 a3 a4 a5 N' hful hD hg
  subst hful
  refine ret m' h' t' _ (Array.size_push _) (NS.next (u := u) (y := y) (D := D) O F' a1 a2 a3 a4 a5 N' hD hD0 hx' hy' hy2' hn1 hn2 h0 hv gd hxs hg)
theorem H6 {iA : Addr} {it : Obj} {b : BC} {jv : Int} {jt : Tok} {e : EC} {nr0 gr0 : List (Addr × Obj)} {xs0 v1 v2 : Array Value} {n : Nat} {ms : Str → Option Value} {rest : List Stmt} {QF : Flow → Shared → Prop} {EF : Value → Shared → Prop}
    (B : Below A₀ base outer h₀) (X : (KK w.params).In h₀) (T : Top p loose mean mg mb h₀) (hd : dp + 60 < 1000) (hu : un + 300 < 9900) (O : NO iA b e nr0) (hn : n ≤ 400) (hv1 : v1.size ≤ 400)
    (S : NS w.params h₀ L s.heap ms iA it b jv jt e nr0 gr0 xs0 n v1 v2 #[])
    (ret : ∀ (m' : Str → Option Value) (h' : Heap) (t' : Nat) (v' : Array Value), NS w.params h₀ L h' m' iA it b jv jt e nr0 gr0 xs0 (n + 1) v1 v2 v' →
      wpAny (model prog w) (ktrTop dp un gd (Str.ofString "_law_rows") c26 L (nat_lit 397) (.ref 396) [] outer) (execs rest (envX (Str.ofString "_law_rows") c26 L (nat_lit 397) (.ref 396) [])) QF EF { s with heap := h', toks := t' }) :
    wpAny (model prog w) (ktrTop dp un gd (Str.ofString "_law_rows") c26 L (nat_lit 397) (.ref 396) [] outer) (execs (z9 :: z10 :: rest) (envX (Str.ofString "_law_rows") c26 L (nat_lit 397) (.ref 396) [])) QF EF s := by
  obtain ⟨sx, sy, tsx, tsy, ns, xs, k, fs, kf, k1, k2, k3, D0, F, e1, e2, e3, e4, e5, N, hD0, hx, hy, hy2, hn1, hn2, h0, hv, gd, hxs⟩ := S
  have ⟨o1, o2, o3, o4, o5, o6, o7, o8, o9, o10, f1, f2, f3, f4, f5, f6⟩ := O
  have z1 : ∀ q ∈ D0, @LT.lt Nat _ iA q.1 := fun q hq => (hD0 q hq).1
  refine G6 (tsx := tsx) (tsy := tsy) (t0 := b.t0) (ns := ns) (nd := b.nd) (k := k) (kf := kf) (k1 := k1) (k2 := k2) (k3 := k3) (nr := D0 ++ nr0) (it := it) (tk := e.tk) (q1 := e.q1) (q2 := e.q2) (q3 := e.q3) (q4 := e.q4) (q5 := e.q5) (q6 := e.q6) (q7 := e.q7) (q8 := e.q8) (q9 := e.q9) (nm := e.nm) (ur := e.ur) (lc := e.lc) (vl := e.vl) (pr := e.pr) B F X T hd hu N e1 e2 e3 e4 e5 o1 o2 o3 o4 o5 o6 o7 o8 o9 o10 trivial (offApp (offD z1 (by omega)) f1) (offApp (offD z1 (by omega)) f2) (offApp (offD z1 (by omega)) f3) (offApp (fun q hq => (hD0 q hq).2.1) f4) (offApp (fun q hq => (hD0 q hq).2.2.1) f5) (offApp (fun q hq => (hD0 q hq).2.2.2) f6) hx hy hy2 (by omega) (by omega) (by omega) h0 hv ?_
  intro D full i' sx' sy' ti tsx' tsy' ns' k' kf' kc' u y m' h' t' hi hx' hy' hy2' F' a1 a2 a3 a4 a5 N' hful hD hg
  subst hful
  refine ret m' h' t' _ (NS.next (u := u) (y := y) (D := D) O F' a1 a2 a3 a4 a5 N' hD hD0 hx' hy' hy2' hn1 hn2 h0 hv gd hxs hg)

end
section
theorem regTrn26 : True := by
  w_top off
  k_with "k_steps" => (repeat' (first | (k_unfold; (try dsimp only)) | (k_unmd; k_unfold; (try dsimp only)) | (k_end; kc_close) | ((fail_if_success walk_at "stop Trn"); walk1) | ((fail_if_success walk_at "stop Trn"); dsimp only; (fail_if_success walk_at "stop Trn"); walk1) | (leave1; walk_say "STEP leave1"; try dsimp only) | fail "no step"))
  k_with "stop Trn" => (((with_reducible show wpAny _ _ (pyIter (Value.ref _)) (fun it s₂ => LoopAtV _ _ _ _ _ _ _ _ _ it s₂) _ _)))
  trivial
def base5 (P : Params) (b : BC) (sx sy : Int) (tsx tsy : Tok) (ns : Nat) (xs : Array Value) (k : Nat) (fs : Array Value) (kf : Nat) : List (Addr × Obj) :=
  [(b.sA, W.listOf #[.int sx tsx, .int sy tsy] ns), (b.tR, instObj 365 b.tD), (b.tD, dictOf [⟨PyData.keyHash P "rows", .str "rows" b.t0, .ref b.rA⟩] b.nd), (b.rA, W.listOf xs k), (b.fA, W.listOf fs kf)]
def elem5 (P : Params) (e : EC) (v1 v2 v3 : Array Value) (k1 k2 k3 : Nat) : List (Addr × Obj) :=
  [(e.x, instObj 176 e.dx), (e.dx, rowD P e.q1 e.q2 e.q3 e.q4 e.q5 e.q6 e.q7 e.q8 e.q9 (.str "element" e.tk) e.nm e.ur e.lc e.vl e.pr e.c1 e.c2 e.c3), (e.c1, W.listOf v1 k1), (e.c2, W.listOf v2 k2), (e.c3, W.listOf v3 k3)]
theorem pre1_eq {P : Params} {b : BC} {e : EC} {sx sy : Int} {tsx tsy : Tok} {ns k kf k1 k2 k3 : Nat} {xs fs v1 v2 v3 : Array Value} : pre1 P b e sx sy tsx tsy ns xs k fs kf v1 v2 v3 k1 k2 k3 = base5 P b sx sy tsx tsy ns xs k fs kf ++ elem5 P e v1 v2 v3 k1 k2 k3 := rfl
theorem base5_nl {P : Params} {b : BC} {sx sy sx' sy' : Int} {tsx tsy tsx' tsy' : Tok} {ns ns' k k' kf kf' : Nat} {xs xs' fs fs' : Array Value} :
    ∀ q ∈ base5 P b sx sy tsx tsy ns xs k fs kf, NoL q → q ∈ base5 P b sx' sy' tsx' tsy' ns' xs' k' fs' kf' := by
  intro q hq hn
  simp only [base5, List.mem_cons, List.not_mem_nil, or_false] at hq ⊢
  rcases hq with h | h | h | h | h
  · exact absurd (congrArg Prod.snd h) (hn _ _)
  · exact .inr (.inl h)
  · exact .inr (.inr (.inl h))
  · exact absurd (congrArg Prod.snd h) (hn _ _)
  · exact absurd (congrArg Prod.snd h) (hn _ _)
theorem elem5_nl {P : Params} {e : EC} {k1 k2 k3 k1' k2' k3' : Nat} {v1 v2 v3 v1' v2' v3' : Array Value} :
    ∀ q ∈ elem5 P e v1 v2 v3 k1 k2 k3, NoL q → q ∈ elem5 P e v1' v2' v3' k1' k2' k3' := by
  intro q hq hn
  simp only [elem5, List.mem_cons, List.not_mem_nil, or_false] at hq ⊢
  rcases hq with h | h | h | h | h
  · exact .inl h
  · exact .inr (.inl h)
  · exact absurd (congrArg Prod.snd h) (hn _ _)
  · exact absurd (congrArg Prod.snd h) (hn _ _)
  · exact absurd (congrArg Prod.snd h) (hn _ _)
theorem elem5_adr {P : Params} {e : EC} {v1 v2 v3 : Array Value} {k1 k2 k3 : Nat} {p : Nat → Prop} (h1 : p e.x) (h2 : p e.dx) (h3 : p e.c1) (h4 : p e.c2) (h5 : p e.c3) : ∀ q ∈ elem5 P e v1 v2 v3 k1 k2 k3, p q.1 := by
  intro q hq
  simp only [elem5, List.mem_cons, List.not_mem_nil, or_false] at hq
  rcases hq with rfl | rfl | rfl | rfl | rfl <;> assumption
theorem base5_adr {P : Params} {b : BC} {sx sy : Int} {tsx tsy : Tok} {ns k kf : Nat} {xs fs : Array Value} {p : Nat → Prop} (h1 : p b.sA) (h2 : p b.tR) (h3 : p b.tD) (h4 : p b.rA) (h5 : p b.fA) : ∀ q ∈ base5 P b sx sy tsx tsy ns xs k fs kf, p q.1 := by
  intro q hq
  simp only [base5, List.mem_cons, List.not_mem_nil, or_false] at hq
  rcases hq with rfl | rfl | rfl | rfl | rfl <;> assumption
/-- the state between two turns -/
def JP (P : Params) (b : BC) (et : EC) (lo : Nat) (old : List (Addr × Obj)) (i : Nat) (m : Str → Option Value) (news : List (Addr × Obj)) : Prop :=
  ∃ (sx sy : Int) (tsx tsy : Tok) (ns : Nat) (xs : Array Value) (k : Nat) (fs : Array Value) (kf : Nat) (v1 : Array Value) (k1 k2 k3 : Nat) (new : List (Addr × Obj)),
    m "source" = some (.ref b.sA) ∧ m "tree" = some (.ref b.tR) ∧ m "top" = some (.int et.iv et.tv) ∧ m "found" = some (.ref b.fA) ∧
    news = pre1 P b et sx sy tsx tsy ns xs k fs kf v1 #[] #[] k1 k2 k3 ++ (new ++ old) ∧ 0 ≤ sx ∧ 0 ≤ sy ∧ sy < 2147483648 ∧ xs.size = 2 + 6 * i ∧ fs.size = 2 + 6 * i ∧ v1.size = i ∧
    xs[et.iv.toNat]? = some (.ref et.x) ∧ (∀ v ∈ fs, Good P (pre1 P b et sx sy tsx tsy ns xs k fs kf v1 #[] #[] k1 k2 k3 ++ new) xs v) ∧
    (∀ q ∈ new, @LE.le Nat _ lo q.1 ∧ @Ne Nat q.1 b.fA ∧ @Ne Nat q.1 et.c1 ∧ @Ne Nat q.1 et.c2 ∧ @Ne Nat q.1 et.c3)
structure JO (b : BC) (et : EC) (lo : Nat) (old : List (Addr × Obj)) : Prop where
  o1 : @LT.lt Nat _ b.sA b.tD
  o2 : @LT.lt Nat _ b.tD b.tR
  o3 : @LT.lt Nat _ b.tR b.rA
  o4 : @LT.lt Nat _ b.rA lo
  o4' : @LT.lt Nat _ lo et.dx
  o5 : @LT.lt Nat _ et.dx et.x
  o6 : @LT.lt Nat _ et.x et.c1
  o7 : @LT.lt Nat _ et.c1 et.c2
  o8 : @LT.lt Nat _ et.c2 et.c3
  o9 : @LT.lt Nat _ et.c3 b.fA
  f1 : ∀ q ∈ old, @Ne Nat q.1 b.sA
  f2 : ∀ q ∈ old, @Ne Nat q.1 b.rA
  f3 : ∀ q ∈ old, @LT.lt Nat _ q.1 lo
  h0 : 0 ≤ et.iv

theorem neOf {l : List (Addr × Obj)} {p : Nat → Prop} {a : Addr} (h : ∀ q ∈ l, p q.1) (k : ∀ n, p n → @Ne Nat n a) : ∀ q ∈ l, q.1 ≠ a := fun q hq => k _ (h q hq)

theorem rows_turn {iA : Addr} {it : Obj} {b : BC} {et : EC} {lo : Nat} {old news₁ : List (Addr × Obj)} {i : Nat} {v : Value} {m₁ : Str → Option Value} {QF : Flow → Shared → Prop} {EF : Value → Shared → Prop}
    (B : Below A₀ base outer h₀) (X : (KK w.params).In h₀) (T : Top p loose mean mg mb h₀) (hd : dp + 60 < 1000) (hu : un + 300 < 9900) (O : JO b et lo old) (hi : i ≤ 10) (hfi : @LT.lt Nat _ b.fA iA) (hoi : ∀ q ∈ old, @LT.lt Nat _ q.1 iA)
    (J : JP w.params b et lo old i m₁ news₁) (hI : ∀ q ∈ news₁, q.1 ≠ iA) (F : Fr h₀ L s.heap (fun y => if y = Str.ofString "turn" then some v else m₁ y)) (N : News h₀ L s.heap ((iA, it) :: news₁)) :
    wpAny (model prog w) (ktrTop dp un gd (Str.ofString "_law_rows") c26 L (nat_lit 397) (.ref 396) [] outer) (execs zB (envX (Str.ofString "_law_rows") c26 L (nat_lit 397) (.ref 396) [])) (TurnJ h₀ L (JP w.params b et lo old (i + 1)) iA it s QF) EF s := by
  obtain ⟨sx, sy, tsx, tsy, ns, xs, k, fs, kf, v1, k1, k2, k3, new, e1, e2, e3, e4, rfl, hx, hy, hy2, hn1, hn2, hn3, hv, gd, hnew⟩ := J
  have ⟨o1, o2, o3, o4, o4', o5, o6, o7, o8, o9, f1, f2, f3, h0⟩ := O
  have n1 : ∀ q ∈ new ++ old, q.1 ≠ b.sA := offApp (offLe (fun q hq => (hnew q hq).1) (by k_extra "ord")) f1
  have n2 : ∀ q ∈ new ++ old, q.1 ≠ b.rA := offApp (offLe (fun q hq => (hnew q hq).1) (by k_extra "ord")) f2
  have nold : ∀ a : Nat, lo ≤ a → ∀ q ∈ old, @Ne Nat q.1 a := fun a ha q hq => Nat.ne_of_lt (Nat.lt_of_lt_of_le (f3 q hq) ha)
  have n3 : ∀ q ∈ new ++ old, q.1 ≠ b.fA := offApp (fun q hq => (hnew q hq).2.1) (nold _ (by k_extra "ord"))
  have n4 : ∀ q ∈ new ++ old, q.1 ≠ et.c1 := offApp (fun q hq => (hnew q hq).2.2.1) (nold _ (by k_extra "ord"))
  have n5 : ∀ q ∈ new ++ old, q.1 ≠ et.c2 := offApp (fun q hq => (hnew q hq).2.2.2.1) (nold _ (by k_extra "ord"))
  have n6 : ∀ q ∈ new ++ old, q.1 ≠ et.c3 := offApp (fun q hq => (hnew q hq).2.2.2.2) (nold _ (by k_extra "ord"))
  refine G1 (ms := fun y => if y = Str.ofString "turn" then some v else m₁ y) (tsx := tsx) (tsy := tsy) (t0 := b.t0) (ns := ns) (nd := b.nd) (k := k) (kf := kf) (k1 := k1) (k2 := k2) (k3 := k3) (nr := new ++ old) (it := it) (tk := et.tk) (q1 := et.q1) (q2 := et.q2) (q3 := et.q3) (q4 := et.q4) (q5 := et.q5) (q6 := et.q6) (q7 := et.q7) (q8 := et.q8) (q9 := et.q9) (nm := et.nm) (ur := et.ur) (lc := et.lc) (vl := et.vl) (pr := et.pr) B F X T hd hu N e1 e2 e3 e4 o1 o2 o3 (by k_extra "ord") o5 o6 o7 o8 o9 hfi trivial n1 n2 n3 n4 n5 n6 hx hy hy2 (by omega) (by omega) (by omega) h0 hv ?_
  intro D1 D2 full full2 i' sx' sy' ti tsx' tsy' tk' r1 r2 r3 r4 r5 r6 r7 r8 r9 ns' k' kf' kc' u y dy c1' c2' c3' nm' ur' lc' vl' pr' m' h' t' hi' hx' hy' hy2' F' a1 a2 a3 a4 a5 N' hful hful2 hD1 hD2 p1 p2 p3 p4 p5 p6 hg
  subst hful2
  subst hful
  have hS : NS w.params h₀ L h' m' iA it b et.iv et.tv ⟨y, dy, c1', c2', c3', tk', ti, r1, r2, r3, r4, r5, r6, r7, r8, r9, i', nm', ur', lc', vl', pr'⟩ (elem5 w.params et (v1.push (.int i' ti)) #[] #[] kc' k2 k3 ++ (new ++ old)) (elem5 w.params et (v1.push (.int i' ti)) #[] #[] kc' k2 k3 ++ new) (xs.push (.ref y)) (2 + 6 * i + 1) #[] #[] #[] := by
    refine ⟨sx', sy', tsx', tsy', ns', xs.push (.ref y), k', fs.push (.ref u), kf', 0, 0, 0, D1 ++ D2, F', a1, a2, a3, a4, a5, fun q hq => N' q ?_, allApp (fun q hq => ?_) (fun q hq => ?_), hx', hy', hy2', ?_, ?_, ?_, push_last hi', goods_push gd (fun q hq hl => ?_) (hg.mono (fun q hq hl => ?_) fun _ _ e => e), fun _ _ e => e⟩
    · exact perm1 (B := base5 w.params b sx' sy' tsx' tsy' ns' (xs.push (.ref y)) k' (fs.push (.ref u)) kf') (E := elem5 w.params et (v1.push (.int i' ti)) #[] #[] kc' k2 k3) rev5 q hq
    · have h1 : @LT.lt Nat _ c3' q.1 := hD1 q hq
      exact ⟨by k_extra "ord", show @Ne Nat q.1 c1' by k_extra "ord", show @Ne Nat q.1 c2' by k_extra "ord", show @Ne Nat q.1 c3' by k_extra "ord"⟩
    · have h1 : @LT.lt Nat _ iA q.1 := (hD2 q hq).1
      have h2 : @LT.lt Nat _ q.1 dy := (hD2 q hq).2
      exact ⟨h1, show @Ne Nat q.1 c1' by k_extra "ord", show @Ne Nat q.1 c2' by k_extra "ord", show @Ne Nat q.1 c3' by k_extra "ord"⟩
    · rw [Array.size_push, hn1]
    · rw [Array.size_push, hn2]
    · show 0 ≤ i'
      omega
    · rw [pre1_eq] at hq ⊢
      exact perm3 (fun h => base5_nl q h hl) (fun h => elem5_nl q h hl) hq
    · rw [pre1_eq]
      exact perm2 ver5 q hq
  have hO : NO iA b ⟨y, dy, c1', c2', c3', tk', ti, r1, r2, r3, r4, r5, r6, r7, r8, r9, i', nm', ur', lc', vl', pr'⟩ (elem5 w.params et (v1.push (.int i' ti)) #[] #[] kc' k2 k3 ++ (new ++ old)) := by
    have q1 := elem5_adr (P := w.params) (e := et) (v1 := v1.push (.int i' ti)) (v2 := #[]) (v3 := #[]) (k1 := kc') (k2 := k2) (k3 := k3) (p := fun n => @LE.le Nat _ et.dx n ∧ @LT.lt Nat _ n iA) (by k_extra "ord") (by k_extra "ord") (by k_extra "ord") (by k_extra "ord") (by k_extra "ord")
    have q2 : ∀ a : Nat, @LE.le Nat _ dy a → ∀ q ∈ new ++ old, @Ne Nat q.1 a := fun a ha q hq => Nat.ne_of_lt (Nat.lt_of_lt_of_le (p6 q hq) ha)
    have q3 : ∀ a : Nat, @LT.lt Nat _ a et.dx → ∀ n : Nat, @LE.le Nat _ et.dx n ∧ @LT.lt Nat _ n iA → @Ne Nat n a := fun a ha n hn => Nat.ne_of_gt (Nat.lt_of_lt_of_le ha hn.1)
    have q4 : ∀ a : Nat, @LT.lt Nat _ iA a → ∀ n : Nat, @LE.le Nat _ et.dx n ∧ @LT.lt Nat _ n iA → @Ne Nat n a := fun a ha n hn => Nat.ne_of_lt (Nat.lt_trans hn.2 ha)
    refine ⟨o1, o2, o3, by k_extra "ord", hfi, p1, p2, p3, p4, p5, offApp (neOf (p := fun n => @LE.le Nat _ et.dx n ∧ @LT.lt Nat _ n iA) q1 (q3 _ (by k_extra "ord"))) n1, offApp (neOf (p := fun n => @LE.le Nat _ et.dx n ∧ @LT.lt Nat _ n iA) q1 (q3 _ (by k_extra "ord"))) n2, offApp (fun q hq => ?_) n3, offApp (neOf (p := fun n => @LE.le Nat _ et.dx n ∧ @LT.lt Nat _ n iA) q1 (q4 _ (by show @LT.lt Nat _ iA c1'; k_extra "ord"))) (q2 _ (by show @LE.le Nat _ dy c1'; k_extra "ord")), offApp (neOf (p := fun n => @LE.le Nat _ et.dx n ∧ @LT.lt Nat _ n iA) q1 (q4 _ (by show @LT.lt Nat _ iA c2'; k_extra "ord"))) (q2 _ (by show @LE.le Nat _ dy c2'; k_extra "ord")), offApp (neOf (p := fun n => @LE.le Nat _ et.dx n ∧ @LT.lt Nat _ n iA) q1 (q4 _ (by show @LT.lt Nat _ iA c3'; k_extra "ord"))) (q2 _ (by show @LE.le Nat _ dy c3'; k_extra "ord"))⟩
    exact elem5_adr (p := fun n => @Ne Nat n b.fA) (by k_extra "ord") (by k_extra "ord") (by k_extra "ord") (by k_extra "ord") (by k_extra "ord") q hq
  refine H2 B X T hd hu hO (by omega) (by simp) hS fun m2 h2 t2 w2 S2 => ?_
  refine H3 B X T hd hu hO (by omega) (by simp) S2 fun m3 h3 t3 w3 z3 S3 => ?_
  refine H4 B X T hd hu hO (by omega) (by simp [z3]) S3 fun m4 h4 t4 w4 z4 S4 => ?_
  refine H5 B X T hd hu hO (by omega) (by simp [z4, z3]) S4 fun m5 h5 t5 w5 z5 S5 => ?_
  refine H6 B X T hd hu hO (by omega) (by simp [z5, z4, z3]) S5 fun m6 h6 t6 w6 S6 => ?_
  refine wpAny_execs_nil ?_
  obtain ⟨sx, sy, tsx, tsy, ns, xs9, k, fs9, kf, l1, l2, l3, D, F, e1, e2, e3, e4, e5, N, hD, hx, hy, hy2, hm1, hm2, h0, hv9, gd, hxs⟩ := S6
  refine TurnEndJ.intro (s₁ := s) (pre1 w.params b et sx sy tsx tsy ns xs9 k fs9 kf (v1.push (.int i' ti)) #[] #[] kc' k2 k3 ++ ((elem5 w.params ⟨y, dy, c1', c2', c3', tk', ti, r1, r2, r3, r4, r5, r6, r7, r8, r9, i', nm', ur', lc', vl', pr'⟩ w5 w2 w6 l1 l2 l3 ++ (D ++ new)) ++ old)) F (fun q hq => N q ?_) ?_ ⟨sx, sy, tsx, tsy, ns, xs9, k, fs9, kf, v1.push (.int i' ti), kc', k2, k3, elem5 w.params ⟨y, dy, c1', c2', c3', tk', ti, r1, r2, r3, r4, r5, r6, r7, r8, r9, i', nm', ur', lc', vl', pr'⟩ w5 w2 w6 l1 l2 l3 ++ (D ++ new), e1, e2, e3, e4, rfl, hx, hy, hy2, ?_, ?_, ?_, ?_, ?_, ?_⟩
  · rw [pre1_eq] at hq ⊢
    exact perm4 q hq
  · have hIn : ∀ q ∈ new ++ old, q.1 ≠ iA := fun q hq => hI q (List.mem_append.mpr (.inr hq))
    have hIp : ∀ q ∈ base5 w.params b sx sy tsx tsy ns xs9 k fs9 kf, q.1 ≠ iA := base5_adr (p := fun n => @Ne Nat n iA) (by k_extra "ord") (by k_extra "ord") (by k_extra "ord") (by k_extra "ord") (by k_extra "ord")
    have hIe : ∀ q ∈ elem5 w.params et (v1.push (.int i' ti)) #[] #[] kc' k2 k3, q.1 ≠ iA := elem5_adr (p := fun n => @Ne Nat n iA) (by k_extra "ord") (by k_extra "ord") (by k_extra "ord") (by k_extra "ord") (by k_extra "ord")
    have hIe' : ∀ q ∈ elem5 w.params ⟨y, dy, c1', c2', c3', tk', ti, r1, r2, r3, r4, r5, r6, r7, r8, r9, i', nm', ur', lc', vl', pr'⟩ w5 w2 w6 l1 l2 l3, q.1 ≠ iA := elem5_adr (p := fun n => @Ne Nat n iA) (by show @Ne Nat y iA; k_extra "ord") (by show @Ne Nat dy iA; k_extra "ord") (by show @Ne Nat c1' iA; k_extra "ord") (by show @Ne Nat c2' iA; k_extra "ord") (by show @Ne Nat c3' iA; k_extra "ord")
    rw [pre1_eq]
    refine offApp (offApp hIp hIe) (offApp (offApp hIe' (offApp (fun q hq => Nat.ne_of_gt (hD q hq).1) fun q hq => hIn q (List.mem_append.mpr (.inl hq)))) fun q hq => hIn q (List.mem_append.mpr (.inr hq)))
  · omega
  · omega
  · rw [Array.size_push, hn3]
  · exact hxs _ _ (push_get hv)
  · refine fun v hv => (gd v hv).mono (fun q hq _ => ?_) fun _ _ e => e
    rw [pre1_eq] at hq ⊢
    exact perm5 q hq
  · refine allApp (elem5_adr (p := fun n => @LE.le Nat _ lo n ∧ @Ne Nat n b.fA ∧ @Ne Nat n et.c1 ∧ @Ne Nat n et.c2 ∧ @Ne Nat n et.c3) (by show @LE.le Nat _ lo y ∧ @Ne Nat y b.fA ∧ @Ne Nat y et.c1 ∧ @Ne Nat y et.c2 ∧ @Ne Nat y et.c3; k_extra "ord") (by show @LE.le Nat _ lo dy ∧ @Ne Nat dy b.fA ∧ @Ne Nat dy et.c1 ∧ @Ne Nat dy et.c2 ∧ @Ne Nat dy et.c3; k_extra "ord") (by show @LE.le Nat _ lo c1' ∧ @Ne Nat c1' b.fA ∧ @Ne Nat c1' et.c1 ∧ @Ne Nat c1' et.c2 ∧ @Ne Nat c1' et.c3; k_extra "ord") (by show @LE.le Nat _ lo c2' ∧ @Ne Nat c2' b.fA ∧ @Ne Nat c2' et.c1 ∧ @Ne Nat c2' et.c2 ∧ @Ne Nat c2' et.c3; k_extra "ord") (by show @LE.le Nat _ lo c3' ∧ @Ne Nat c3' b.fA ∧ @Ne Nat c3' et.c1 ∧ @Ne Nat c3' et.c2 ∧ @Ne Nat c3' et.c3; k_extra "ord")) (allApp (fun q hq => ?_) hnew)
    have h1 := (hD q hq).1
    refine ⟨?_, ?_, ?_, ?_, ?_⟩ <;> k_extra "ord"

end
section
theorem regLop27 : True := by
  w_top off
  k_with "k_steps" => (repeat' (first | (k_unfold; (try dsimp only)) | (k_unmd; k_unfold; (try dsimp only)) | (k_end; kc_close) | ((fail_if_success walk_at "stop Lop"); walk1) | ((fail_if_success walk_at "stop Lop"); dsimp only; (fail_if_success walk_at "stop Lop"); walk1) | (leave1; walk_say "STEP leave1"; try dsimp only) | fail "no step"))
  k_with "stop Lop" => (((with_reducible show wpAny _ _ (pyIter (Value.ref _)) (fun it s₂ => LoopAtV _ _ _ _ _ _ _ _ _ it s₂) _ _)))
  trivial
theorem tup_ne_inst {l : List Value} {C d : Addr} : tupO l ≠ instObj C d := fun h => by
  have := congrArg Obj.cls h
  cases this
theorem tup_ne_dict {l : List Value} {es : _} {n : Nat} : tupO l ≠ dictOf es n := fun h => by
  have := congrArg Obj.cls h
  injection this with e
  exact absurd e (by decide)
theorem inst_ne_dict {C d : Addr} {es : _} {n : Nat} : instObj C d ≠ dictOf es n := fun h => by
  have := congrArg Obj.cls h
  cases this
/-- what is good does not lean on the tree's own objects -/
theorem good_base {P : Params} {b : BC} {sx sy : Int} {tsx tsy : Tok} {ns k kf : Nat} {xs fs : Array Value} {l : List (Addr × Obj)} {ys : Array Value} {v : Value} (g : Good P (base5 P b sx sy tsx tsy ns xs k fs kf ++ l) ys v) : Good P l ys v := by
  obtain ⟨t, x, dx, c1, c2, c3, i, ti, a1, a2, a3, b1, b2, b3, t1, t2, t3, t4, t5, t6, t7, t8, t9, nm, lc, ur, kd, vl, pr, e, h1, h2, h3, h4, h5, ho⟩ := g
  have no : ∀ {q : Addr × Obj}, NoL q → (∀ d, q.2 ≠ instObj 365 d) → (∀ es n, es.length = 1 → q.2 ≠ dictOf es n) → q ∈ base5 P b sx sy tsx tsy ns xs k fs kf ++ l → q ∈ l := by
    intro q n1 n2 n3 hq
    rcases List.mem_append.mp hq with hq | hq
    · simp only [base5, List.mem_cons, List.not_mem_nil, or_false] at hq
      rcases hq with h | h | h | h | h
      · exact absurd (congrArg Prod.snd h) (n1 _ _)
      · exact absurd (congrArg Prod.snd h) (n2 _)
      · exact absurd (congrArg Prod.snd h) (n3 _ _ rfl)
      · exact absurd (congrArg Prod.snd h) (n1 _ _)
      · exact absurd (congrArg Prod.snd h) (n1 _ _)
    · exact hq
  refine ⟨t, x, dx, c1, c2, c3, i, ti, a1, a2, a3, b1, b2, b3, t1, t2, t3, t4, t5, t6, t7, t8, t9, nm, lc, ur, kd, vl, pr, e, no (fun ys k q => ?_) (fun _ => tup_ne_inst) (fun _ _ _ => tup_ne_dict) h1, h2, h3, no (fun ys k q => inst_ne_list q) (fun d q => ?_) (fun _ _ _ => inst_ne_dict) h4, no (fun ys k q => dict_ne_list q) (fun d q => inst_ne_dict q.symm) (fun es n hl q => ?_) h5, ho⟩
  · exact list_ne_tup q.symm
  · have := congrArg Obj.cls q
    injection this with e
    exact absurd e (by decide)
  · have := congrArg Obj.data q
    injection this with e
    have := congrArg Array.size e
    simp at this
    omega

theorem permLop {α : Type} {fA tt tr c3 c2 c1 xT dT r3 r2 r1 xR dR S Tr TD R : α} {old : List α} : ∀ q ∈ [S, Tr, TD, R, fA, xT, dT, c1, c2, c3] ++ ([tt, tr, r3, r2, r1, xR, dR] ++ old), q ∈ fA :: tt :: tr :: c3 :: c2 :: c1 :: xT :: dT :: r3 :: r2 :: r1 :: xR :: dR :: S :: Tr :: TD :: R :: old := by
  show ∀ q ∈ S :: Tr :: TD :: R :: fA :: xT :: dT :: c1 :: c2 :: c3 :: tt :: tr :: r3 :: r2 :: r1 :: xR :: dR :: old, _
  k_extra "sub"
theorem permEnd {α : Type} {fA S Tr TD R x d c1 c2 c3 : α} {new old : List α} : ∀ q ∈ fA :: S :: Tr :: TD :: R :: (([x, d, c1, c2, c3] ++ new) ++ old), q ∈ [S, Tr, TD, R, fA, x, d, c1, c2, c3] ++ (new ++ old) := by
  show ∀ q ∈ fA :: S :: Tr :: TD :: R :: x :: d :: c1 :: c2 :: c3 :: (new ++ old), q ∈ S :: Tr :: TD :: R :: fA :: x :: d :: c1 :: c2 :: c3 :: (new ++ old)
  k_extra "sub"
theorem rows_loop {S Tr TD R fA tt tr c1 c2 c3 xT dT r1 r2 r3 xR dR : Addr} {kk iT iR sx sy : Int} {t0 tkk tiT tiR a1 a2 a3 a4 a5 a6 b1 b2 b3 b4 b5 b6 tk_ tk' q1 q2 q3 q4 q5 q6 q7 q8 q9 u1 u2 u3 u4 u5 u6 u7 u8 u9 tsx tsy : Tok} {nd kf kr k ns n1 n2 n3 n4 n5 : Nat} {rv : Array Value} {vl pr vl' pr' : Value} {old : List (Addr × Obj)} {m₀ : Str → Option Value} {QF : Flow → Shared → Prop} {EF : Value → Shared → Prop}
    (B : Below A₀ base outer h₀) (F : Fr h₀ L s.heap m₀) (X : (KK w.params).In h₀) (T : Top p loose mean mg mb h₀) (hd : dp + 60 < 1000) (hu : un + 300 < 9900)
    (N : News h₀ L s.heap ((fA, W.listOf #[.ref tr, .ref tt] kf) :: (tt, tupO [.int iT tiT, .str "p:e" a1, .str "e" a2, .str "u:1" a3]) :: (tr, tupO [.int iR tiR, .str "" a4, .str "" a5, .str "" a6]) :: (c3, W.listOf #[] n3) :: (c2, W.listOf #[] n2) :: (c1, W.listOf #[] n1) :: (xT, instObj 176 dT) :: (dT, rowD w.params q1 q2 q3 q4 q5 q6 q7 q8 q9 (.str "element" tk_) (.str "p:e" b1) (.str "u:1" b2) (.str "e" b3) vl pr c1 c2 c3) ::
      (r3, W.listOf #[] n5) :: (r2, W.listOf #[] n4) :: (r1, W.listOf rv kr) :: (xR, instObj 176 dR) :: (dR, rowD w.params u1 u2 u3 u4 u5 u6 u7 u8 u9 (.str "root" tk') (.str "" b4) (.str "" b5) (.str "" b6) vl' pr' r1 r2 r3) ::
      (S, W.listOf #[.int sx tsx, .int sy tsy] ns) :: (Tr, instObj 365 TD) :: (TD, dictOf [⟨PyData.keyHash w.params "rows", .str "rows" t0, .ref R⟩] nd) :: (R, W.listOf ((#[].push (.ref xR)).push (.ref xT)) k) :: old))
    (e1 : m₀ "source" = some (.ref S)) (e2 : m₀ "tree" = some (.ref Tr)) (e3 : m₀ "top" = some (.int iT tiT)) (e4 : m₀ "found" = some (.ref fA))
    (hiR : iR = ((#[] : Array Value).size : Int)) (hiT : iT = (((#[] : Array Value).push (.ref xR)).size : Int)) (k0 : 0 ≤ kk) (k4 : kk < 4) (hx : 0 ≤ sx) (hy : 0 ≤ sy) (hy2 : sy < 2147483648)
    (o1 : @LT.lt Nat _ S TD) (o2 : @LT.lt Nat _ TD Tr) (o3 : @LT.lt Nat _ Tr R) (o4 : @LT.lt Nat _ R dR) (o5 : @LT.lt Nat _ dR xR) (o6 : @LT.lt Nat _ xR r1) (o7 : @LT.lt Nat _ r1 r2) (o8 : @LT.lt Nat _ r2 r3) (o9 : @LT.lt Nat _ r3 dT) (o10 : @LT.lt Nat _ dT xT) (o11 : @LT.lt Nat _ xT c1) (o12 : @LT.lt Nat _ c1 c2) (o13 : @LT.lt Nat _ c2 c3) (o14 : @LT.lt Nat _ c3 tr) (o15 : @LT.lt Nat _ tr tt) (o16 : @LT.lt Nat _ tt fA)
    (f1 : ∀ q ∈ old, @Ne Nat q.1 S) (f2 : ∀ q ∈ old, @Ne Nat q.1 R) (f3 : ∀ q ∈ old, @LT.lt Nat _ q.1 dR)
    (done : ∀ (m' : Str → Option Value) (sx sy : Int) (tsx tsy : Tok) (ns : Nat) (xs : Array Value) (k : Nat) (fs : Array Value) (kf : Nat) (nn : List (Addr × Obj)) (h' : Heap) (t' : Nat), 0 ≤ sx → 0 ≤ sy → sy < 2147483648 → m' "found" = some (.ref fA) → Fr h₀ L h' m' →
      News h₀ L h' ((fA, W.listOf fs kf) :: (S, W.listOf #[.int sx tsx, .int sy tsy] ns) :: (Tr, instObj 365 TD) :: (TD, dictOf [⟨PyData.keyHash w.params "rows", .str "rows" t0, .ref R⟩] nd) :: (R, W.listOf xs k) :: (nn ++ old)) →
      (∀ v ∈ fs, Good w.params nn xs v) → 2 ≤ fs.size → fs.size ≤ 20 → xs.size ≤ 20 → (∀ q ∈ nn, @LE.le Nat _ dR q.1 ∧ @Ne Nat q.1 fA) → QF .next { s with heap := h', toks := t' }) :
    wpAny (model prog w) (ktrTop dp un gd (Str.ofString "_law_rows") c26 L (nat_lit 397) (.ref 396) [] outer) (call (.type "range") [.int kk tkk]) (fun xv s₁ => wpAny (model prog w) (ktrTop dp un gd (Str.ofString "_law_rows") c26 L (nat_lit 397) (.ref 396) [] outer) (pyIter xv) (fun it s₂ => LoopAtV prog w (ktrTop dp un gd (Str.ofString "_law_rows") c26 L (nat_lit 397) (.ref 396) [] outer) h₀ (envX (Str.ofString "_law_rows") c26 L (nat_lit 397) (.ref 396) []) (Str.ofString "turn") zB QF EF it s₂) EF s₁) EF s := by
  refine range1_rows F N ?_
  intro h' tk9 t₁ u₁' v₁ hr F' N' hk'
  dsimp only
  have hJ0 : JP w.params ⟨S, Tr, TD, R, fA, t0, nd⟩ ⟨xT, dT, c1, c2, c3, tk_, tiT, q1, q2, q3, q4, q5, q6, q7, q8, q9, iT, .str "p:e" b1, .str "u:1" b2, .str "e" b3, vl, pr⟩ dR old 0 m₀
      (pre1 w.params ⟨S, Tr, TD, R, fA, t0, nd⟩ ⟨xT, dT, c1, c2, c3, tk_, tiT, q1, q2, q3, q4, q5, q6, q7, q8, q9, iT, .str "p:e" b1, .str "u:1" b2, .str "e" b3, vl, pr⟩ sx sy tsx tsy ns ((#[].push (.ref xR)).push (.ref xT)) k #[.ref tr, .ref tt] kf #[] #[] #[] n1 n2 n3 ++ ([(tt, tupO [.int iT tiT, .str "p:e" a1, .str "e" a2, .str "u:1" a3]), (tr, tupO [.int iR tiR, .str "" a4, .str "" a5, .str "" a6]), (r3, W.listOf #[] n5), (r2, W.listOf #[] n4), (r1, W.listOf rv kr), (xR, instObj 176 dR), (dR, rowD w.params u1 u2 u3 u4 u5 u6 u7 u8 u9 (.str "root" tk') (.str "" b4) (.str "" b5) (.str "" b6) vl' pr' r1 r2 r3)] ++ old)) := by
    refine ⟨sx, sy, tsx, tsy, ns, _, k, _, kf, #[], n1, n2, n3, _, e1, e2, e3, e4, rfl, hx, hy, hy2, rfl, rfl, rfl, ?_, ?_, ?_⟩
    · exact push_last hiT
    · refine all2 ?_ ?_
      · refine ⟨tr, xR, dR, r1, r2, r3, iR, tiR, a4, a5, a6, b4, b5, b6, u1, u2, u3, u4, u5, u6, u7, u8, u9, "", "", "", .str "root" tk', vl', pr', rfl, ?_, ?_, ?_, ?_, ?_, by decide +kernel, by decide +kernel, by decide +kernel⟩
        · exact memR (.tail _ (.head _))
        · exact hiR ▸ Int.le_refl _
        · exact push_get (push_last hiR)
        · exact memR (.tail _ (.tail _ (.tail _ (.tail _ (.tail _ (.head _))))))
        · exact memR (.tail _ (.tail _ (.tail _ (.tail _ (.tail _ (.tail _ (.head _)))))))
      · refine ⟨tt, xT, dT, c1, c2, c3, iT, tiT, a1, a2, a3, b1, b2, b3, q1, q2, q3, q4, q5, q6, q7, q8, q9, "p:e", "e", "u:1", .str "element" tk_, vl, pr, rfl, ?_, ?_, ?_, ?_, ?_, by decide +kernel, by decide +kernel, by decide +kernel⟩
        · exact memR (.head _)
        · exact hiT ▸ Int.natCast_nonneg _
        · exact push_last hiT
        · exact memL (.tail _ (.tail _ (.tail _ (.tail _ (.tail _ (.head _))))))
        · exact memL (.tail _ (.tail _ (.tail _ (.tail _ (.tail _ (.tail _ (.head _)))))))
    · have c : ∀ a : Nat, @LE.le Nat _ dR a ∧ @Ne Nat a fA ∧ @Ne Nat a c1 ∧ @Ne Nat a c2 ∧ @Ne Nat a c3 → @LE.le Nat _ dR a ∧ @Ne Nat a fA ∧ @Ne Nat a c1 ∧ @Ne Nat a c2 ∧ @Ne Nat a c3 := fun _ h => h
      exact List.forall_mem_cons.mpr ⟨c tt (by k_extra "ord"), List.forall_mem_cons.mpr ⟨c tr (by k_extra "ord"), List.forall_mem_cons.mpr ⟨c r3 (by k_extra "ord"), List.forall_mem_cons.mpr ⟨c r2 (by k_extra "ord"), List.forall_mem_cons.mpr ⟨c r1 (by k_extra "ord"), List.forall_mem_cons.mpr ⟨c xR (by k_extra "ord"), List.forall_mem_cons.mpr ⟨c dR (by k_extra "ord"), List.forall_mem_nil _⟩⟩⟩⟩⟩⟩⟩
  have hO : JO ⟨S, Tr, TD, R, fA, t0, nd⟩ ⟨xT, dT, c1, c2, c3, tk_, tiT, q1, q2, q3, q4, q5, q6, q7, q8, q9, iT, .str "p:e" b1, .str "u:1" b2, .str "e" b3, vl, pr⟩ dR old := ⟨o1, o2, o3, o4, by show @LT.lt Nat _ dR dT; k_extra "ord", o10, o11, o12, o13, by show @LT.lt Nat _ c3 fA; k_extra "ord", f1, f2, f3, hiT ▸ Int.natCast_nonneg _⟩
  refine iter_rangeJ (n := kk.toNat) (JP w.params ⟨S, Tr, TD, R, fA, t0, nd⟩ ⟨xT, dT, c1, c2, c3, tk_, tiT, q1, q2, q3, q4, q5, q6, q7, q8, q9, iT, .str "p:e" b1, .str "u:1" b2, .str "e" b3, vl, pr⟩ dR old) rfl hr ?_ ?_ F' (fun q hq => N' q ?_) hJ0 ?_ ?_
  · exact PySem.small_one (by decide) (by decide) (by omega) (by omega)
  · rw [PySem.rangeSize_one]
    split <;> omega
  · revert q hq
    exact permLop
  · intro i t m₁ news₁ I it h tk hi J hlt hne F N
    have hI : ∀ q ∈ old, @LT.lt Nat _ q.1 I := fun q hq => hlt q (List.mem_append.mpr (.inr (List.mem_append.mpr (.inr hq))))
    have hfi : @LT.lt Nat _ fA I := hlt (fA, W.listOf #[.ref tr, .ref tt] kf) (by simp [pre1])
    exact rows_turn B X T hd hu hO (by omega) hfi hI J hne F N
  · intro m₁ news₁ h tk J F N
    obtain ⟨sx, sy, tsx, tsy, ns, xs, k, fs, kf, v1, k1, k2, k3, new, e1, e2, e3, e4, rfl, hx, hy, hy2, hn1, hn2, hn3, hv, gd, hnew⟩ := J
    refine done m₁ sx sy tsx tsy ns xs k fs kf (elem5 w.params ⟨xT, dT, c1, c2, c3, tk_, tiT, q1, q2, q3, q4, q5, q6, q7, q8, q9, iT, .str "p:e" b1, .str "u:1" b2, .str "e" b3, vl, pr⟩ v1 #[] #[] k1 k2 k3 ++ new) h tk hx hy hy2 e4 F (fun q hq => N q ?_) (fun v hv => good_base (gd v hv)) (by omega) (by omega) (by omega) (allApp ?_ fun q hq => ⟨(hnew q hq).1, (hnew q hq).2.1⟩)
    · revert q hq
      exact permEnd
    · exact elem5_adr (p := fun n => @LE.le Nat _ dR n ∧ @Ne Nat n fA) (by dsimp only; k_extra "ord") (by dsimp only; k_extra "ord") (by dsimp only; k_extra "ord") (by dsimp only; k_extra "ord") (by dsimp only; k_extra "ord")

end
section
theorem regC928 : True := by
  w_top off
  k_with_none
  k_with "lt" => (first | with_reducible assumption | exact And.left (by k_extra "ca0") | exact And.right (by k_extra "ca1"))
  k_with "ca0" => (first | with_reducible assumption | exact And.right (by k_extra "ca1"))
  k_with "ca1" => (first | with_reducible assumption | exact And.right (by k_extra "ca2"))
  k_with "ca2" => (first | with_reducible assumption | exact And.right (by k_extra "ca3"))
  k_with "ca3" => (first | with_reducible assumption | exact And.right (by k_extra "ca4"))
  k_with "ca4" => (first | with_reducible assumption | exact And.right (by k_extra "ca5"))
  k_with "ca5" => (first | with_reducible assumption | exact And.right (by k_extra "ca6"))
  k_with "ca6" => (first | with_reducible assumption | exact And.right (by k_extra "ca7"))
  k_with "ca7" => (first | with_reducible assumption | exact And.right (by k_extra "ca8"))
  k_with "ca8" => (first | with_reducible assumption | exact And.right (by k_extra "ca9"))
  k_with "ca9" => (first | with_reducible assumption | exact And.right (by k_extra "ca10"))
  k_with "ca10" => (first | with_reducible assumption | exact And.right (by k_extra "ca11"))
  k_with "ca11" => (first | with_reducible assumption | exact And.right (by k_extra "ca12"))
  k_with "ca12" => (first | with_reducible assumption | exact And.right (by k_extra "ca13"))
  k_with "ca13" => (first | with_reducible assumption | exact And.right (by k_extra "ca14"))
  k_with "ca14" => (first | with_reducible assumption | exact And.right (by k_extra "ca15"))
  k_with "ca15" => (first | with_reducible assumption | exact And.right (by k_extra "ca16"))
  k_with "ca16" => (first | with_reducible assumption | exact And.right (by k_extra "ca17"))
  k_with "ca17" => (first | with_reducible assumption | exact And.right (by k_extra "ca18"))
  k_with "ca18" => (first | with_reducible assumption | exact And.right (by k_extra "ca19"))
  k_with "ca19" => (first | with_reducible assumption | exact And.right (by k_extra "ca20"))
  k_with "ca20" => (first | with_reducible assumption | exact And.right (by k_extra "ca21"))
  k_with "ca21" => (first | with_reducible assumption | exact And.right (by k_extra "ca22"))
  k_with "ca22" => (first | with_reducible assumption | exact And.right (by k_extra "ca23"))
  k_with "ca23" => (first | with_reducible assumption | exact And.right (by k_extra "ca24"))
  k_with "ca24" => (first | with_reducible assumption | exact And.right (by k_extra "ca25"))
  k_with "ca25" => (first | with_reducible assumption)
  k_with "tr0" => (first | with_reducible assumption | exact Nat.lt_trans (by with_reducible assumption) (by k_extra "tr1"))
  k_with "tr1" => (first | with_reducible assumption | exact Nat.lt_trans (by with_reducible assumption) (by k_extra "tr2"))
  k_with "tr2" => (first | with_reducible assumption | exact Nat.lt_trans (by with_reducible assumption) (by k_extra "tr3"))
  k_with "tr3" => (first | with_reducible assumption | exact Nat.lt_trans (by with_reducible assumption) (by k_extra "tr4"))
  k_with "tr4" => (first | with_reducible assumption | exact Nat.lt_trans (by with_reducible assumption) (by k_extra "tr5"))
  k_with "tr5" => (first | with_reducible assumption | exact Nat.lt_trans (by with_reducible assumption) (by k_extra "tr6"))
  k_with "tr6" => (first | with_reducible assumption | exact Nat.lt_trans (by with_reducible assumption) (by k_extra "tr7"))
  k_with "tr7" => (first | with_reducible assumption | exact Nat.lt_trans (by with_reducible assumption) (by k_extra "tr8"))
  k_with "tr8" => (first | with_reducible assumption | exact Nat.lt_trans (by with_reducible assumption) (by k_extra "tr9"))
  k_with "tr9" => (first | with_reducible assumption | exact Nat.lt_trans (by with_reducible assumption) (by k_extra "tr10"))
  k_with "tr10" => (first | with_reducible assumption | exact Nat.lt_trans (by with_reducible assumption) (by k_extra "tr11"))
  k_with "tr11" => (first | with_reducible assumption | exact Nat.lt_trans (by with_reducible assumption) (by k_extra "tr12"))
  k_with "tr12" => (first | with_reducible assumption | exact Nat.lt_trans (by with_reducible assumption) (by k_extra "tr13"))
  k_with "tr13" => (first | with_reducible assumption | exact Nat.lt_trans (by with_reducible assumption) (by k_extra "tr14"))
  k_with "tr14" => (first | with_reducible assumption | exact Nat.lt_trans (by with_reducible assumption) (by k_extra "tr15"))
  k_with "tr15" => (first | with_reducible assumption | exact Nat.lt_trans (by with_reducible assumption) (by k_extra "tr16"))
  k_with "tr16" => (first | with_reducible assumption | exact Nat.lt_trans (by with_reducible assumption) (by k_extra "tr17"))
  k_with "tr17" => (first | with_reducible assumption | exact Nat.lt_trans (by with_reducible assumption) (by k_extra "tr18"))
  k_with "tr18" => (first | with_reducible assumption | exact Nat.lt_trans (by with_reducible assumption) (by k_extra "tr19"))
  k_with "tr19" => (first | with_reducible assumption | exact Nat.lt_trans (by with_reducible assumption) (by k_extra "tr20"))
  k_with "tr20" => (first | with_reducible assumption | exact Nat.lt_trans (by with_reducible assumption) (by k_extra "tr21"))
  k_with "tr21" => (first | with_reducible assumption | exact Nat.lt_trans (by with_reducible assumption) (by k_extra "tr22"))
  k_with "tr22" => (first | with_reducible assumption | exact Nat.lt_trans (by with_reducible assumption) (by k_extra "tr23"))
  k_with "tr23" => (first | with_reducible assumption)
  k_with "up0" => (first | k_extra "tr0" | exact Nat.lt_trans (Nat.lt_add_one _) (by k_extra "up1"))
  k_with "up1" => (first | k_extra "tr0" | exact Nat.lt_trans (Nat.lt_add_one _) (by k_extra "up2"))
  k_with "up2" => (first | k_extra "tr0" | exact Nat.lt_trans (Nat.lt_add_one _) (by k_extra "up3"))
  k_with "up3" => (first | k_extra "tr0" | exact Nat.lt_trans (Nat.lt_add_one _) (by k_extra "up4"))
  k_with "up4" => (first | k_extra "tr0" | exact Nat.lt_trans (Nat.lt_add_one _) (by k_extra "up5"))
  k_with "up5" => (first | k_extra "tr0")
  k_with "up" => (first | exact Nat.lt_trans (Nat.lt_add_one _) (by k_extra "up0") | exact Nat.lt_trans (by with_reducible assumption) (Nat.lt_trans (Nat.lt_add_one _) (by k_extra "up0")))
  k_with "ord" => (first | k_extra "tr0" | exact And.intro (by k_extra "ord") (by k_extra "ord") | exact Nat.le_of_lt (by k_extra "tr0") | exact neA (by k_extra "tr0") | exact neB (by k_extra "tr0") | exact Nat.le_refl _ | k_extra "lt" | exact Nat.le_of_lt (by k_extra "lt") | exact neA (by k_extra "lt") | exact neB (by k_extra "lt") | omega)
  k_with "rm" => (first | exact room (by with_reducible assumption) (Nat.le_of_ble_eq_true rfl) | (simp only [Nat.add_assoc]; exact room (by with_reducible assumption) (Nat.le_of_ble_eq_true rfl)) | omega)
  k_with "sub" => (first | exact List.forall_mem_nil _ | (refine' subc ?sa ?sb; (case sa => k_mem); (case sb => k_extra "sub")) | (intro q hq; repeat (first | exact hq | refine List.mem_cons_of_mem _ ?_)))
  k_with "lt on" => (skip)
  k_with "k_ne" => (refine neN ?_; (try dsimp only); first | with_reducible assumption | exact neA (by k_extra "tr0") | exact neB (by k_extra "tr0") | exact neA (And.left (by k_extra "ca0")) | exact neB (And.left (by k_extra "ca0")) | exact neA (by k_extra "up") | exact neB (by k_extra "up") | exact neA (And.right (by k_extra "ca1")) | exact neB (And.right (by k_extra "ca1")) | omega)
  k_with "k_all" => (first | exact offn | (refine' offc ?a ?b; (case a => k_ne); (case b => k_all)))
  k_with "k_room" => (((try simp only [depth_mark, depth_under_make, depth_under_kw, depth_in1, depth_deeper, depth_caller]); (try dsimp only [ktrTop]); (simp only [recursionLimit]); k_extra "rm"))
  k_with "ktr_enter" => (first | (refine' code_defF ?k1 ?k2 ?k3 ?k4 ?k5 ?kA ?kF ?kK ?k6 ?k7 ?k8 ?k9 ?kB ?_ ?c2 ?c3 ?c4 ?c5; (case kA => exact rfl); (case kF => exact rfl); (case kK => first | exact rfl | assumption); (case k1 => k_asm); (case k2 => k_asm); (case k3 => k_asm); (case k4 => k_asm); (case k5 => k_asm); (case k6 => k_is); (case k7 => k_is); (case k8 => k_room); (case k9 => first | exact BindsTo.of_eq rfl | exact binds_K (by k_in) rfl (by k_is) rfl rfl rfl); (case c5 => decide); (case kB => exact locs rfl); (case c2 => exact rfl); (case c3 => exact rfl); (case c4 => exact rfl); k_whole; intro g' L' h' FG' F' N' B' X' T' K'; (try dsimp only); (try k_fold)) | (refine' code_defCF ?k1 ?k2 ?k3 ?k4 ?k5 ?kA ?kF ?kK ?k6 ?k7 ?k8 ?k9 ?kB ?kD ?_ ?c2 ?c3 ?c4; (case kA => exact rfl); (case kF => exact rfl); (case kK => first | exact rfl | assumption); (case k1 => k_asm); (case k2 => k_asm); (case k3 => k_asm); (case k4 => k_asm); (case k5 => k_asm); (case k6 => k_is); (case k7 => k_is); (case k8 => k_room); (case k9 => first | exact BindsTo.of_eq rfl | exact binds_K (by k_in) rfl (by k_is) rfl rfl rfl); (case kB => exact rfl); (case kD => decide +kernel); (case c2 => exact rfl); (case c3 => exact rfl); (case c4 => exact rfl); k_whole; intro g' L' h' tk' cells' FG' F' N' Y' B' X' T' l1 K'; (try k_lt l1); k_cells Y'; (try simp only [List.cons_append, List.nil_append] at N'); (try dsimp only); (try k_lift B'); (try k_fold)))
  k_with "ktr_rel" => ((refine' Kept.fin ?kkA ?kkB; (case kkA => assumption); (case kkB => assumption)))
  k_with "k_mem" => (first | exact List.Mem.head _ | ktr_member | (refine' List.mem_cons_of_mem _ ?_; k_mem))
  k_with "my side" => (first | with_reducible assumption | ((simp only [depth_deeper, units_deeper, depth_in1, units_in1, Around.mark_units]); (try dsimp only [ktrTop]); k_extra "rm") | k_extra "rm" | ((try dsimp only [ktrTop]); k_extra "rm") | (simp only [List.size_toArray, List.length_cons, List.length_nil]; omega))
  k_with "my sub" => ((refine' News.subL ?un ?us; (case un => k_asm); (case us => k_subL)))
  k_with "my stop" => ((with_reducible show wpAny _ _ (call (Value.ref 383) _ _) _ _ _))
  k_with "k_steps" => (repeat' (first | (k_unfold; (try dsimp only)) | (k_unmd; k_unfold; (try dsimp only)) | (k_end; kc_close) | ((fail_if_success walk_at "my stop"); walk1) | ((fail_if_success walk_at "my stop"); dsimp only; (fail_if_success walk_at "my stop"); walk1) | (leave1; walk_say "STEP leave1"; try dsimp only) | fail "no step"))
  k_with "call builtin:len m" => ((k_here; (with_reducible show wpAny _ _ (call (Value.builtin "len") [Value.ref _] _) _ _ _); k_dflt (first | (refine' len_push ?N ?m ?z ?_; (case N => k_asm); (case m => k_mem); (case z => walk_at "my side")) | (refine' len_any ?N ?m ?z ?_; (case N => k_asm); (case m => k_mem); (case z => walk_at "my size"))); (try dsimp only)))
  k_with "k_all" => (with_reducible assumption)
  k_with "my get" => (first | with_reducible assumption | exact push_get (by walk_at "my get"))
  k_with "my size" => (((try simp only [Array.size_push, List.size_toArray, List.length_cons, List.length_nil]); omega))
  k_with "subscriptTail m" => ((k_here; (with_reducible show wpAny _ _ (subscriptTail _ _ (Value.ref _) (Value.int _ _)) _ _ _); k_dflt (refine' item_at ?N ?m ?z ?v ?s ?_; (case N => k_asm); (case m => k_mem); (case z => omega); (case v => walk_at "my get"); (case s => walk_at "my size"); k_whole)))
  k_with "lcg_off" => (assumption)
  k_with "my turn" => ((with_unfolding_all first | (refine LCg.CompRest.succ ?_; intro v' I' oI' C' oC' D' m' h' tk' E' hv' hC' hx' F' N' off' ne'; (first | lcg_open hv' | (obtain ⟨t9', hv9'⟩ := hv'; subst hv9'))) | refine LCg.CompRest.zero ?_))
  k_with "CompRest m" => (walk_at "my turn")
  k_with "k_steps" => (repeat' (first | (k_unfold; (try dsimp only)) | (k_unmd; k_unfold; (try dsimp only)) | (k_end; kc_close) | ((fail_if_success walk_at "stop b"); walk1) | ((fail_if_success walk_at "stop b"); dsimp only; (fail_if_success walk_at "stop b"); walk1) | (leave1; walk_say "STEP leave1"; try dsimp only) | fail "no step"))
  k_with "stop b" => (((with_reducible show wpAny _ _ (pyIter (Value.ref _)) (fun it s₂ => LoopAtV _ _ _ _ _ _ _ _ _ it s₂) _ _)))
  k_with "my stop" => ((with_reducible show wpAny _ _ (call (Value.ref 390) _ _) _ _ _))
  k_with "my get" => (first | with_reducible assumption | exact push_last (by with_reducible assumption) | exact push_get (by walk_at "my get"))
  k_with "my take" => (((rename News _ _ _ _ => N9); k_dflt (refine' c_take ?B ?F ?X ?N ?T ?hk ?hd ?hu ?hx ?hy ?hy2 ?ht ?ht2 ?_; (case B => k_asm); (case F => k_asm); (case X => k_asm); (case N => (refine' News.subL N9 ?u; (case u => k_subL))); (case T => k_asm); (case hk => exact rfl); (case hd => walk_at "my side"); (case hu => walk_at "my side"); (case hx => walk_at "my side"); (case hy => walk_at "my side"); (case hy2 => walk_at "my side"); (case ht => walk_at "my side"); (case ht2 => walk_at "my side")); (intro k9 tk9 x9 y9 tx9 ty9 n9 h9 t9 hk9 hl9 hx9 hy9 hz9 F9 M9 K9); (have N8 := news_upd1 N9 (by k_upd) M9 K9); clear M9 K9; (try k_sweep); (try dsimp only); (try k_fold)))
  k_with "call ref m" => (((with_reducible show wpAny _ _ (call (Value.ref 383) [Value.ref _, Value.int _ _] _) _ _ _); walk_at "my take"))
  k_with "my newrow" => (((rename News _ _ _ _ => N9); k_dflt (refine' c_newrow ?B ?F ?X ?N ?T ?hk ?hd ?hu ?m1 ?m2 ?m3 ?hz ?_; (case B => k_asm); (case F => k_asm); (case X => k_asm); (case N => exact N9); (case T => k_asm); (case hk => exact rfl); (case hd => walk_at "my side"); (case hu => walk_at "my side"); (case m1 => k_mem); (case m2 => k_mem); (case m3 => k_mem); (case hz => walk_at "my size")); (intro i9 ti9 ta9 tb9 tc9 td9 te9 tf9 tg9 th9 tj9 y9 dy9 ca9 cb9 cc9 n9 h9 t9 hi9 F9 M9 K9 al9 la9 lb9 lc9 ld9); (have N8 := News.grow (new := [_, _, _, _, _]) N9 (by k_upd) M9 K9); clear M9 K9; (try simp only [List.cons_append, List.nil_append] at N8); (k_lt al9); (try k_sweep); (try dsimp only); (try k_fold)))
  k_with "call ref m" => (((with_reducible show wpAny _ _ (call (Value.ref 201) [Value.ref _, _, _, _, _, _, _] _) _ _ _); walk_at "my newrow"))
  k_with "my addchild" => (((rename News _ _ _ _ => N9); k_dflt (refine' c_addchild ?B ?F ?X ?N ?T ?hk ?hd ?hu ?m1 ?m2 ?m3 ?m4 ?m5 ?m6 ?hne ?hz ?hz2 ?h0 ?hv ?hkd ?_; (case B => k_asm); (case F => k_asm); (case X => k_asm); (case N => exact N9); (case T => k_asm); (case hk => exact rfl); (case hd => walk_at "my side"); (case hu => walk_at "my side"); (case m1 => k_mem); (case m2 => k_mem); (case m3 => k_mem); (case h0 => omega); (case hv => walk_at "my get"); (case m4 => k_mem); (case m5 => k_mem); (case m6 => k_mem); (case hne => k_ne); (case hz => walk_at "my size"); (case hz2 => walk_at "my size"); (case hkd => first | exact .inl rfl | exact .inr rfl)); (intro i9 ti9 ta9 tb9 tc9 td9 te9 tf9 tg9 th9 tj9 y9 dy9 ca9 cb9 cc9 n9 nn9 h9 t9 hi9 F9 M9 K9 al9 la9 lb9 lc9 ld9); (have N8 := News.grow2 (new := [_, _, _, _, _]) N9 (by k_upd) (by k_upd) M9 K9); clear M9 K9; (try simp only [List.cons_append, List.nil_append] at N8); (k_lt al9); (try k_sweep); (try dsimp only); (try k_fold)))
  k_with "call ref m" => (((with_reducible show wpAny _ _ (call (Value.ref 222) [Value.ref _, _, _, _, _, _, _] _) _ _ _); walk_at "my addchild"))
  k_with "my nil" => ((k_dflt (refine' iter_nil ?h ?F ?N ?m ?_; (case h => with_unfolding_all rfl); (case F => k_asm); (case N => k_asm); (case m => k_mem)); intro h9 tk9 F9 N9; (try k_sweep); (try dsimp only); (try k_fold)))
  k_with "pyIter ref m" => (((with_reducible show wpAny _ _ (pyIter (Value.ref _)) (fun it s₂ => LoopAtV _ _ _ _ _ _ _ _ _ it s₂) _ _); walk_at "my nil"))
  k_with "my setattr" => (((rename News _ _ _ _ => N9); k_dflt (refine' c_setattr ?B ?F ?X ?N ?T ?hk ?hd ?hu ?m1 ?m2 ?m3 ?m4 ?m5 ?m6 ?hne ?hz ?h0 ?hv ?_; (case B => k_asm); (case F => k_asm); (case X => k_asm); (case N => exact N9); (case T => k_asm); (case hk => exact rfl); (case hd => walk_at "my side"); (case hu => walk_at "my side"); (case m1 => k_mem); (case m2 => k_mem); (case m3 => k_mem); (case h0 => omega); (case hv => walk_at "my get"); (case m4 => k_mem); (case m5 => k_mem); (case m6 => k_mem); (case hne => k_ne); (case hz => walk_at "my size")); (intro i9 ti9 tq9 ta9 tb9 tc9 td9 te9 tf9 tg9 th9 tj9 y9 dy9 ca9 cb9 cc9 n9 nn9 h9 t9 hi9 F9 M9 K9 al9 la9 lb9 lc9 ld9); (have N8 := News.grow2 (new := [_, _, _, _, _]) N9 (by k_upd) (by k_upd) M9 K9); clear M9 K9; (try simp only [List.cons_append, List.nil_append] at N8); (k_lt al9); (try k_sweep); (try dsimp only); (try k_fold)))
  k_with "call ref m" => (((with_reducible show wpAny _ _ (call (Value.ref 264) [Value.ref _, _, _, _, _, _] _) _ _ _); walk_at "my setattr"))
  k_with "my addns" => (((rename News _ _ _ _ => N9); k_dflt (refine' c_addns ?B ?F ?X ?N ?T ?hk ?hd ?hu ?m1 ?m2 ?m3 ?m4 ?m5 ?m6 ?hne ?hz ?h0 ?hv ?_; (case B => k_asm); (case F => k_asm); (case X => k_asm); (case N => exact N9); (case T => k_asm); (case hk => exact rfl); (case hd => walk_at "my side"); (case hu => walk_at "my side"); (case m1 => k_mem); (case m2 => k_mem); (case m3 => k_mem); (case h0 => omega); (case hv => walk_at "my get"); (case m4 => k_mem); (case m5 => k_mem); (case m6 => k_mem); (case hne => k_ne); (case hz => walk_at "my size")); (intro i9 ti9 tq9 tz9 ta9 tb9 tc9 td9 te9 tf9 tg9 th9 tj9 y9 dy9 ca9 cb9 cc9 n9 nn9 h9 t9 hi9 F9 M9 K9 al9 la9 lb9 lc9 ld9); (have N8 := News.grow2 (new := [_, _, _, _, _]) N9 (by k_upd) (by k_upd) M9 K9); clear M9 K9; (try simp only [List.cons_append, List.nil_append] at N8); (k_lt al9); (try k_sweep); (try dsimp only); (try k_fold)))
  k_with "call ref m" => (((with_reducible show wpAny _ _ (call (Value.ref 271) [Value.ref _, _, _, _] _) _ _ _); walk_at "my addns"))
  k_with "k_steps" => (repeat' (first | (k_unfold; (try dsimp only)) | (k_unmd; k_unfold; (try dsimp only)) | (k_end; kc_close) | ((fail_if_success walk_at "stop C9"); walk1) | ((fail_if_success walk_at "stop C9"); dsimp only; (fail_if_success walk_at "stop C9"); walk1) | (leave1; walk_say "STEP leave1"; try dsimp only) | fail "no step"))
  k_with "stop C9" => (((with_reducible show wpAny _ _ (pyIter (Value.ref _)) (fun it s₂ => LoopAtV _ _ _ _ _ _ _ _ _ it s₂) _ _)))
  trivial
theorem offLt {l : List (Addr × Obj)} {d a : Nat} (h : AllLt d l) (k : d ≤ a) : ∀ q ∈ l, q.1 ≠ a := fun q hq e => by
  have h1 : @LT.lt Nat _ q.1 d := mem_find h q hq
  have h2 : @Eq Nat q.1 a := e
  omega
theorem regC929 : True := by
  k_with "k_all" => (first | with_reducible assumption | (refine' offLt ?kah ?kak; (case kah => tbn_find); (case kak => k_extra "ord")))
  k_with "stop C9" => (((with_reducible show wpAny _ _ (call (Value.type "range") _ _) _ _ _)))
  trivial
theorem map1 {m : Str → Option Value} {a1 : Value} (h1 : m "found" = some a1) : m = fun y => if y = Str.ofString "found" then some a1 else m y := by
  funext y
  split
  · subst_vars; exact h1
  · rfl
theorem c_rows {S Tr TD R : Addr} {x y : Int} {t0 tx ty : Tok} {n nd k : Nat} {old : List (Addr × Obj)}
    (B : Below A₀ base outer h₀) (F : Fr h₀ L s.heap m) (X : (KK w.params).In h₀) (T : Top p loose mean mg mb h₀) (hk : cs.kind = .function) (hd : dp + 70 < 1000) (hu : un + 350 < 9900)
    (N : News h₀ L s.heap ((S, W.listOf #[.int x tx, .int y ty] n) :: (Tr, instObj 365 TD) :: (TD, dictOf [⟨PyData.keyHash w.params "rows", .str "rows" t0, .ref R⟩] nd) :: (R, W.listOf #[] k) :: old))
    (hx : 0 ≤ x) (hy : 0 ≤ y) (hy2 : y < 2147483648) (o1 : @LT.lt Nat _ S TD) (o2 : @LT.lt Nat _ TD Tr) (o3 : @LT.lt Nat _ Tr R) (f1 : ∀ q ∈ old, q.1 ≠ S) (f2 : ∀ q ∈ old, q.1 ≠ R)
    (ret : ∀ (fA : Addr) (lo : Nat) (sx sy : Int) (tsx tsy : Tok) (ns : Nat) (xs : Array Value) (k : Nat) (fs : Array Value) (kf : Nat) (nn : List (Addr × Obj)) (h' : Heap) (t' : Nat), 0 ≤ sx → 0 ≤ sy → sy < 2147483648 → Fr h₀ L h' m →
      News h₀ L h' ((fA, W.listOf fs kf) :: (S, W.listOf #[.int sx tsx, .int sy tsy] ns) :: (Tr, instObj 365 TD) :: (TD, dictOf [⟨PyData.keyHash w.params "rows", .str "rows" t0, .ref R⟩] nd) :: (R, W.listOf xs k) :: (nn ++ old)) →
      (∀ v ∈ fs, Good w.params nn xs v) → 2 ≤ fs.size → fs.size ≤ 20 → xs.size ≤ 20 → @LT.lt Nat _ R lo → (∀ q ∈ old, @LT.lt Nat _ q.1 lo) → (∀ q ∈ nn, @LE.le Nat _ lo q.1 ∧ @Ne Nat q.1 fA) → @LE.le Nat _ lo fA → Q (.ref fA) { s with heap := h', toks := t' }) :
    wpAny (model prog w) (ktrTop dp un gd cn cs L a ccd cl outer) (call (.ref 397) [.ref S, .ref Tr]) Q E s := by
  refine wpAny_call ?_
  k_dflt ktr_enter
  k_steps
  rename News _ _ _ _ => N9
  rename Fr _ _ _ _ => F9
  k_dflt (refine' rows_loop ?B F9 ?X ?T ?hd ?hu N9 ?e1 ?e2 ?e3 ?e4 ?hiR ?hiT ?k0 ?k4 ?hx ?hy ?hy2 ?o1 ?o2 ?o3 ?o4 ?o5 ?o6 ?o7 ?o8 ?o9 ?o10 ?o11 ?o12 ?o13 ?o14 ?o15 ?o16 ?f1 ?f2 ?f3 ?done)
  case B => k_asm
  case X => k_asm
  case T => k_asm
  case hd => walk_at "my side"
  case hu => walk_at "my side"
  case e1 => exact rfl
  case e2 => exact rfl
  case e3 => exact rfl
  case e4 => exact rfl
  case hiR => with_reducible assumption
  case hiT => with_reducible assumption
  case k0 => with_reducible assumption
  case k4 => with_reducible assumption
  case hx => with_reducible assumption
  case hy => with_reducible assumption
  case hy2 => with_reducible assumption
  case f1 => exact f1
  case f2 => exact f2
  case f3 => exact mem_find (by tbn_find)
  case done =>
    intro m' sx sy tsx tsy ns xs kk fs kf nn h' t' hsx hsy hsy2 hm F8 N8 hg hf1 hf2 hxs hnn
    rw [map1 hm] at F8
    dsimp only
    k_steps
    rename News _ _ _ _ => N7
    rename Fr _ _ _ _ => F7
    refine' ret _ _ sx sy tsx tsy ns xs kk fs kf nn _ _ hsx hsy hsy2 F7 N7 hg hf1 hf2 hxs ?p1 ?p2 hnn ?p3
    case p1 => k_extra "ord"
    case p2 => exact mem_find (by tbn_find)
    case p3 => k_extra "ord"
  all_goals k_extra "ord"

end
section
theorem regW130 : True := by
  w_top off
  k_with_none
  k_with "lt" => (first | with_reducible assumption | exact And.left (by k_extra "ca0") | exact And.right (by k_extra "ca1"))
  k_with "ca0" => (first | with_reducible assumption | exact And.right (by k_extra "ca1"))
  k_with "ca1" => (first | with_reducible assumption | exact And.right (by k_extra "ca2"))
  k_with "ca2" => (first | with_reducible assumption | exact And.right (by k_extra "ca3"))
  k_with "ca3" => (first | with_reducible assumption | exact And.right (by k_extra "ca4"))
  k_with "ca4" => (first | with_reducible assumption | exact And.right (by k_extra "ca5"))
  k_with "ca5" => (first | with_reducible assumption | exact And.right (by k_extra "ca6"))
  k_with "ca6" => (first | with_reducible assumption | exact And.right (by k_extra "ca7"))
  k_with "ca7" => (first | with_reducible assumption | exact And.right (by k_extra "ca8"))
  k_with "ca8" => (first | with_reducible assumption | exact And.right (by k_extra "ca9"))
  k_with "ca9" => (first | with_reducible assumption | exact And.right (by k_extra "ca10"))
  k_with "ca10" => (first | with_reducible assumption | exact And.right (by k_extra "ca11"))
  k_with "ca11" => (first | with_reducible assumption | exact And.right (by k_extra "ca12"))
  k_with "ca12" => (first | with_reducible assumption | exact And.right (by k_extra "ca13"))
  k_with "ca13" => (first | with_reducible assumption | exact And.right (by k_extra "ca14"))
  k_with "ca14" => (first | with_reducible assumption | exact And.right (by k_extra "ca15"))
  k_with "ca15" => (first | with_reducible assumption | exact And.right (by k_extra "ca16"))
  k_with "ca16" => (first | with_reducible assumption | exact And.right (by k_extra "ca17"))
  k_with "ca17" => (first | with_reducible assumption | exact And.right (by k_extra "ca18"))
  k_with "ca18" => (first | with_reducible assumption | exact And.right (by k_extra "ca19"))
  k_with "ca19" => (first | with_reducible assumption | exact And.right (by k_extra "ca20"))
  k_with "ca20" => (first | with_reducible assumption | exact And.right (by k_extra "ca21"))
  k_with "ca21" => (first | with_reducible assumption | exact And.right (by k_extra "ca22"))
  k_with "ca22" => (first | with_reducible assumption | exact And.right (by k_extra "ca23"))
  k_with "ca23" => (first | with_reducible assumption | exact And.right (by k_extra "ca24"))
  k_with "ca24" => (first | with_reducible assumption | exact And.right (by k_extra "ca25"))
  k_with "ca25" => (first | with_reducible assumption)
  k_with "tr0" => (first | with_reducible assumption | exact Nat.lt_trans (by with_reducible assumption) (by k_extra "tr1"))
  k_with "tr1" => (first | with_reducible assumption | exact Nat.lt_trans (by with_reducible assumption) (by k_extra "tr2"))
  k_with "tr2" => (first | with_reducible assumption | exact Nat.lt_trans (by with_reducible assumption) (by k_extra "tr3"))
  k_with "tr3" => (first | with_reducible assumption | exact Nat.lt_trans (by with_reducible assumption) (by k_extra "tr4"))
  k_with "tr4" => (first | with_reducible assumption | exact Nat.lt_trans (by with_reducible assumption) (by k_extra "tr5"))
  k_with "tr5" => (first | with_reducible assumption | exact Nat.lt_trans (by with_reducible assumption) (by k_extra "tr6"))
  k_with "tr6" => (first | with_reducible assumption | exact Nat.lt_trans (by with_reducible assumption) (by k_extra "tr7"))
  k_with "tr7" => (first | with_reducible assumption | exact Nat.lt_trans (by with_reducible assumption) (by k_extra "tr8"))
  k_with "tr8" => (first | with_reducible assumption | exact Nat.lt_trans (by with_reducible assumption) (by k_extra "tr9"))
  k_with "tr9" => (first | with_reducible assumption | exact Nat.lt_trans (by with_reducible assumption) (by k_extra "tr10"))
  k_with "tr10" => (first | with_reducible assumption | exact Nat.lt_trans (by with_reducible assumption) (by k_extra "tr11"))
  k_with "tr11" => (first | with_reducible assumption | exact Nat.lt_trans (by with_reducible assumption) (by k_extra "tr12"))
  k_with "tr12" => (first | with_reducible assumption | exact Nat.lt_trans (by with_reducible assumption) (by k_extra "tr13"))
  k_with "tr13" => (first | with_reducible assumption | exact Nat.lt_trans (by with_reducible assumption) (by k_extra "tr14"))
  k_with "tr14" => (first | with_reducible assumption | exact Nat.lt_trans (by with_reducible assumption) (by k_extra "tr15"))
  k_with "tr15" => (first | with_reducible assumption | exact Nat.lt_trans (by with_reducible assumption) (by k_extra "tr16"))
  k_with "tr16" => (first | with_reducible assumption | exact Nat.lt_trans (by with_reducible assumption) (by k_extra "tr17"))
  k_with "tr17" => (first | with_reducible assumption | exact Nat.lt_trans (by with_reducible assumption) (by k_extra "tr18"))
  k_with "tr18" => (first | with_reducible assumption | exact Nat.lt_trans (by with_reducible assumption) (by k_extra "tr19"))
  k_with "tr19" => (first | with_reducible assumption | exact Nat.lt_trans (by with_reducible assumption) (by k_extra "tr20"))
  k_with "tr20" => (first | with_reducible assumption | exact Nat.lt_trans (by with_reducible assumption) (by k_extra "tr21"))
  k_with "tr21" => (first | with_reducible assumption | exact Nat.lt_trans (by with_reducible assumption) (by k_extra "tr22"))
  k_with "tr22" => (first | with_reducible assumption | exact Nat.lt_trans (by with_reducible assumption) (by k_extra "tr23"))
  k_with "tr23" => (first | with_reducible assumption)
  k_with "up0" => (first | k_extra "tr0" | exact Nat.lt_trans (Nat.lt_add_one _) (by k_extra "up1"))
  k_with "up1" => (first | k_extra "tr0" | exact Nat.lt_trans (Nat.lt_add_one _) (by k_extra "up2"))
  k_with "up2" => (first | k_extra "tr0" | exact Nat.lt_trans (Nat.lt_add_one _) (by k_extra "up3"))
  k_with "up3" => (first | k_extra "tr0" | exact Nat.lt_trans (Nat.lt_add_one _) (by k_extra "up4"))
  k_with "up4" => (first | k_extra "tr0" | exact Nat.lt_trans (Nat.lt_add_one _) (by k_extra "up5"))
  k_with "up5" => (first | k_extra "tr0")
  k_with "up" => (first | exact Nat.lt_trans (Nat.lt_add_one _) (by k_extra "up0") | exact Nat.lt_trans (by with_reducible assumption) (Nat.lt_trans (Nat.lt_add_one _) (by k_extra "up0")))
  k_with "ord" => (first | k_extra "tr0" | exact And.intro (by k_extra "ord") (by k_extra "ord") | exact Nat.le_of_lt (by k_extra "tr0") | exact neA (by k_extra "tr0") | exact neB (by k_extra "tr0") | exact Nat.le_refl _ | k_extra "lt" | exact Nat.le_of_lt (by k_extra "lt") | exact neA (by k_extra "lt") | exact neB (by k_extra "lt") | omega)
  k_with "rm" => (first | exact room (by with_reducible assumption) (Nat.le_of_ble_eq_true rfl) | (simp only [Nat.add_assoc]; exact room (by with_reducible assumption) (Nat.le_of_ble_eq_true rfl)) | omega)
  k_with "sub" => (first | exact List.forall_mem_nil _ | (refine' subc ?sa ?sb; (case sa => k_mem); (case sb => k_extra "sub")) | (intro q hq; repeat (first | exact hq | refine List.mem_cons_of_mem _ ?_)))
  k_with "lt on" => (skip)
  k_with "k_ne" => (refine neN ?_; (try dsimp only); first | with_reducible assumption | exact neA (by k_extra "tr0") | exact neB (by k_extra "tr0") | exact neA (And.left (by k_extra "ca0")) | exact neB (And.left (by k_extra "ca0")) | exact neA (by k_extra "up") | exact neB (by k_extra "up") | exact neA (And.right (by k_extra "ca1")) | exact neB (And.right (by k_extra "ca1")) | omega)
  k_with "k_all" => (first | exact offn | (refine' offc ?a ?b; (case a => k_ne); (case b => k_all)))
  k_with "k_room" => (((try simp only [depth_mark, depth_under_make, depth_under_kw, depth_in1, depth_deeper, depth_caller]); (try dsimp only [ktrTop]); (simp only [recursionLimit]); k_extra "rm"))
  k_with "ktr_enter" => (first | (refine' code_defF ?k1 ?k2 ?k3 ?k4 ?k5 ?kA ?kF ?kK ?k6 ?k7 ?k8 ?k9 ?kB ?_ ?c2 ?c3 ?c4 ?c5; (case kA => exact rfl); (case kF => exact rfl); (case kK => first | exact rfl | assumption); (case k1 => k_asm); (case k2 => k_asm); (case k3 => k_asm); (case k4 => k_asm); (case k5 => k_asm); (case k6 => k_is); (case k7 => k_is); (case k8 => k_room); (case k9 => first | exact BindsTo.of_eq rfl | exact binds_K (by k_in) rfl (by k_is) rfl rfl rfl); (case c5 => decide); (case kB => exact locs rfl); (case c2 => exact rfl); (case c3 => exact rfl); (case c4 => exact rfl); k_whole; intro g' L' h' FG' F' N' B' X' T' K'; (try dsimp only); (try k_fold)) | (refine' code_defCF ?k1 ?k2 ?k3 ?k4 ?k5 ?kA ?kF ?kK ?k6 ?k7 ?k8 ?k9 ?kB ?kD ?_ ?c2 ?c3 ?c4; (case kA => exact rfl); (case kF => exact rfl); (case kK => first | exact rfl | assumption); (case k1 => k_asm); (case k2 => k_asm); (case k3 => k_asm); (case k4 => k_asm); (case k5 => k_asm); (case k6 => k_is); (case k7 => k_is); (case k8 => k_room); (case k9 => first | exact BindsTo.of_eq rfl | exact binds_K (by k_in) rfl (by k_is) rfl rfl rfl); (case kB => exact rfl); (case kD => decide +kernel); (case c2 => exact rfl); (case c3 => exact rfl); (case c4 => exact rfl); k_whole; intro g' L' h' tk' cells' FG' F' N' Y' B' X' T' l1 K'; (try k_lt l1); k_cells Y'; (try simp only [List.cons_append, List.nil_append] at N'); (try dsimp only); (try k_lift B'); (try k_fold)))
  k_with "ktr_rel" => ((refine' Kept.fin ?kkA ?kkB; (case kkA => assumption); (case kkB => assumption)))
  k_with "k_mem" => (first | exact List.Mem.head _ | ktr_member | (refine' List.mem_cons_of_mem _ ?_; k_mem))
  k_with "my side" => (first | with_reducible assumption | ((simp only [depth_deeper, units_deeper, depth_in1, units_in1, Around.mark_units]); (try dsimp only [ktrTop]); k_extra "rm") | k_extra "rm" | ((try dsimp only [ktrTop]); k_extra "rm") | (simp only [List.size_toArray, List.length_cons, List.length_nil]; omega))
  k_with "my sub" => ((refine' News.subL ?un ?us; (case un => k_asm); (case us => k_subL)))
  k_with "my stop" => ((with_reducible show wpAny _ _ (call (Value.ref 383) _ _) _ _ _))
  k_with "k_steps" => (repeat' (first | (k_unfold; (try dsimp only)) | (k_unmd; k_unfold; (try dsimp only)) | (k_end; kc_close) | ((fail_if_success walk_at "my stop"); walk1) | ((fail_if_success walk_at "my stop"); dsimp only; (fail_if_success walk_at "my stop"); walk1) | (leave1; walk_say "STEP leave1"; try dsimp only) | fail "no step"))
  k_with "call builtin:len m" => ((k_here; (with_reducible show wpAny _ _ (call (Value.builtin "len") [Value.ref _] _) _ _ _); k_dflt (first | (refine' len_push ?N ?m ?z ?_; (case N => k_asm); (case m => k_mem); (case z => walk_at "my side")) | (refine' len_any ?N ?m ?z ?_; (case N => k_asm); (case m => k_mem); (case z => walk_at "my size"))); (try dsimp only)))
  k_with "k_all" => (with_reducible assumption)
  k_with "my get" => (first | with_reducible assumption | exact push_get (by walk_at "my get"))
  k_with "my size" => (((try simp only [Array.size_push, List.size_toArray, List.length_cons, List.length_nil]); omega))
  k_with "subscriptTail m" => ((k_here; (with_reducible show wpAny _ _ (subscriptTail _ _ (Value.ref _) (Value.int _ _)) _ _ _); k_dflt (refine' item_at ?N ?m ?z ?v ?s ?_; (case N => k_asm); (case m => k_mem); (case z => omega); (case v => walk_at "my get"); (case s => walk_at "my size"); k_whole)))
  k_with "lcg_off" => (assumption)
  k_with "my turn" => ((with_unfolding_all first | (refine LCg.CompRest.succ ?_; intro v' I' oI' C' oC' D' m' h' tk' E' hv' hC' hx' F' N' off' ne'; (first | lcg_open hv' | (obtain ⟨t9', hv9'⟩ := hv'; subst hv9'))) | refine LCg.CompRest.zero ?_))
  k_with "CompRest m" => (walk_at "my turn")
  k_with "k_steps" => (repeat' (first | (k_unfold; (try dsimp only)) | (k_unmd; k_unfold; (try dsimp only)) | (k_end; kc_close) | ((fail_if_success walk_at "stop b"); walk1) | ((fail_if_success walk_at "stop b"); dsimp only; (fail_if_success walk_at "stop b"); walk1) | (leave1; walk_say "STEP leave1"; try dsimp only) | fail "no step"))
  k_with "stop b" => (((with_reducible show wpAny _ _ (pyIter (Value.ref _)) (fun it s₂ => LoopAtV _ _ _ _ _ _ _ _ _ it s₂) _ _)))
  k_with "k_steps" => (repeat' (first | (k_unfold; (try dsimp only)) | (k_unmd; k_unfold; (try dsimp only)) | (k_end; kc_close) | ((fail_if_success walk_at "stop W1"); walk1) | ((fail_if_success walk_at "stop W1"); dsimp only; (fail_if_success walk_at "stop W1"); walk1) | (leave1; walk_say "STEP leave1"; try dsimp only) | fail "no step"))
  k_with "stop W1" => (((with_reducible show wpAny _ _ (pyIter (Value.ref _)) (fun it s₂ => LoopAtV _ _ _ _ _ _ _ _ _ it s₂) _ _)))
  k_with "stop W1" => (((with_reducible show wpAny _ _ (call (Value.ref 397) _ _) _ _ _)))
  trivial
theorem W1 {fa sA tD tR rA : Addr} {o1 o2 o3 o4 : Obj} {vc2 : Option Value} {sx sy : Int} {tsx tsy t0 : Tok} {ns nd k : Nat} {ms : Str → Option Value} {rest : List Stmt} {QF : Flow → Shared → Prop} {EF : Value → Shared → Prop}
    (B : Below callerA h₀ [] h₀) (F : Fr h₀ L s.heap ms) (X : (KK w.params).In h₀) (T : Top p loose mean mg mb h₀)
    (N : News h₀ L s.heap [(rA, W.listOf #[] k), (tR, instObj 365 tD), (tD, dictOf [⟨PyData.keyHash w.params "rows", .str "rows" t0, .ref rA⟩] nd), (sA, W.listOf #[.int sx tsx, .int sy tsy] ns), (L + 1 + 1 + 1 + 1, o4), (L + 1 + 1 + 1, o3), (L + 1 + 1, o2), (L + 1, o1), ((nat_lit 411), tabObj #[])])
    (e1 : ms "tree" = some (.ref tR)) (d1 : o1.data = .cell (some (.ref sA))) (d2 : o2.data = .cell vc2)
    (o0 : @LT.lt Nat _ 411 L) (o1' : @LT.lt Nat _ (L + 1 + 1 + 1 + 1) sA) (o2' : @LT.lt Nat _ sA tD) (o3' : @LT.lt Nat _ tD tR) (o4' : @LT.lt Nat _ tR rA) (hx : 0 ≤ sx) (hy : 0 ≤ sy) (hy2 : sy < 2147483648)
    (ret : ∀ (fA : Addr) (lo : Nat) (sx sy : Int) (tsx tsy : Tok) (ns : Nat) (xs : Array Value) (k : Nat) (fs : Array Value) (kf : Nat) (nn : List (Addr × Obj)) (o2' : Obj) (m' : Str → Option Value) (h' : Heap) (t' : Nat), 0 ≤ sx → 0 ≤ sy → sy < 2147483648 → Fr h₀ L h' m' → m' "tree" = some (.ref tR) →
      News h₀ L h' ((fA, W.listOf fs kf) :: (sA, W.listOf #[.int sx tsx, .int sy tsy] ns) :: (tR, instObj 365 tD) :: (tD, dictOf [⟨PyData.keyHash w.params "rows", .str "rows" t0, .ref rA⟩] nd) :: (rA, W.listOf xs k) :: (L + 1 + 1 + 1 + 1, o4) :: (L + 1 + 1 + 1, o3) :: (L + 1 + 1, o2') :: (L + 1, o1) :: ((nat_lit 411), tabObj #[]) :: nn) →
      o2'.data = .cell (some (.ref fA)) → (∀ v ∈ fs, Good w.params nn xs v) → 2 ≤ fs.size → fs.size ≤ 20 → xs.size ≤ 20 → @LT.lt Nat _ rA lo → (∀ q ∈ nn, @LE.le Nat _ lo q.1 ∧ @Ne Nat q.1 fA) → @LE.le Nat _ lo fA →
      wpAny (model prog w) (callerA.deeper (envOfC (Str.ofString "law") c29 L fa (.ref (nat_lit 413)))) (execs rest (envOfC (Str.ofString "law") c29 L fa (.ref (nat_lit 413)))) QF EF { s with heap := h', toks := t' }) :
    wpAny (model prog w) (callerA.deeper (envOfC (Str.ofString "law") c29 L fa (.ref (nat_lit 413)))) (execs (y1 :: rest) (envOfC (Str.ofString "law") c29 L fa (.ref (nat_lit 413)))) QF EF s := by
  rw [mapT e1] at F
  k_steps
  rename News _ _ _ _ => N9
  rename Fr _ _ _ _ => F9
  have N1 : News h₀ L s.heap ((sA, W.listOf #[.int sx tsx, .int sy tsy] ns) :: (tR, instObj 365 tD) :: (tD, dictOf [⟨PyData.keyHash w.params "rows", .str "rows" t0, .ref rA⟩] nd) :: (rA, W.listOf #[] k) :: [(L + 1 + 1 + 1 + 1, o4), (L + 1 + 1 + 1, o3), (L + 1 + 1, o2), (L + 1, o1), ((nat_lit 411), tabObj #[])]) := fun q hq => N9 q (by
    simp only [List.mem_cons, List.not_mem_nil, or_false] at hq ⊢
    rcases hq with h | h | h | h | h | h | h | h | h <;> simp only [h, eq_self, true_or, or_true])
  k_dflt (refine' c_rows (old := [(L + 1 + 1 + 1 + 1, o4), (L + 1 + 1 + 1, o3), (L + 1 + 1, o2), (L + 1, o1), ((nat_lit 411), tabObj #[])]) B F9 X T rfl ?hd ?hu N1 hx hy hy2 o2' o3' o4' ?f1 ?f2 ?ret)
  case hd => exact Nat.le_of_ble_eq_true rfl
  case hu => exact Nat.le_of_ble_eq_true rfl
  case f1 =>
    intro q hq
    simp only [List.mem_cons, List.not_mem_nil, or_false] at hq
    rcases hq with rfl | rfl | rfl | rfl | rfl <;> k_ne
  case f2 =>
    intro q hq
    simp only [List.mem_cons, List.not_mem_nil, or_false] at hq
    rcases hq with rfl | rfl | rfl | rfl | rfl <;> k_ne
  intro fA lo sx9 sy9 tsx9 tsy9 ns9 xs9 k9 fs9 kf9 nn h9 t9 hx9 hy9 hy29 F8 N8 hg hf1 hf2 hxs hlo hold hnn hlofA
  have N7 : News h₀ L h9 ((fA, W.listOf fs9 kf9) :: (sA, W.listOf #[.int sx9 tsx9, .int sy9 tsy9] ns9) :: (tR, instObj 365 tD) :: (tD, dictOf [⟨PyData.keyHash w.params "rows", .str "rows" t0, .ref rA⟩] nd) :: (rA, W.listOf xs9 k9) :: (L + 1 + 1 + 1 + 1, o4) :: (L + 1 + 1 + 1, o3) :: (L + 1 + 1, o2) :: (L + 1, o1) :: ((nat_lit 411), tabObj #[]) :: nn) := fun q hq => N8 q (by
    simp only [List.mem_cons, List.mem_append, List.not_mem_nil, or_false] at hq ⊢
    rcases hq with h | h | h | h | h | h | h | h | h | h | h <;> simp only [h, eq_self, true_or, or_true])
  have hL2 : @LT.lt Nat _ (L + 1 + 1) lo := by omega
  have hnn2 : ∀ q ∈ nn, q.1 ≠ L + 1 + 1 := fun q hq e => by
    have h1 := (hnn q hq).1
    have h2 : @Eq Nat q.1 (L + 1 + 1) := e
    omega
  clear N9 F9 N8 hold N1
  k_steps
  rename News _ _ _ _ => N6
  rename Fr _ _ _ _ => F6
  dsimp only
  exact ret fA lo sx9 sy9 tsx9 tsy9 ns9 xs9 k9 fs9 kf9 nn _ _ _ _ hx9 hy9 hy29 F6 rfl N6 (by assumption) hg hf1 hf2 hxs hlo hnn hlofA

end
section
theorem regX331 : True := by
  w_top off
  k_with "my units" => (((try simp only [depth_deeper, units_deeper, depth_in1, units_in1, Around.mark_units]); (try dsimp only [ktrTop]); (simp only [cLine]); omega))
  k_with "compareOp Eq ref ref m" => ((k_here; (with_reducible show wpAny _ _ (compareOp CmpOp.Eq (Value.ref _) (Value.ref _)) _ _ _); k_dflt (first | refine ke_eq_ints (by is_list) (by is_list) (by l_ints) (by l_ints) (by walk_at "my units") ?_ | refine eq_dataH (by ke_read) (by ke_read) (by ke_shaped) (by ke_shaped) (by walk_at "my units") ?_); ke_norm))
  k_with "compareOp NotEq ref ref m" => ((k_here; (with_reducible show wpAny _ _ (compareOp CmpOp.NotEq (Value.ref _) (Value.ref _)) _ _ _); k_dflt (first | refine ke_ne_ints (by is_list) (by is_list) (by l_ints) (by l_ints) (by walk_at "my units") ?_ | refine ne_dataH (by ke_read) (by ke_read) (by ke_shaped) (by ke_shaped) (by walk_at "my units") ?_); ke_norm))
  k_with "k_steps" => (repeat' (first | (k_unfold; (try dsimp only)) | (k_unmd; k_unfold; (try dsimp only)) | (k_end; kc_close) | ((fail_if_success walk_at "stop X3"); walk1) | ((fail_if_success walk_at "stop X3"); dsimp only; (fail_if_success walk_at "stop X3"); walk1) | (leave1; walk_say "STEP leave1"; try dsimp only) | fail "no step"))
  k_with "stop X3" => (((with_reducible show wpAny _ _ (pyIter (Value.ref _)) (fun it s₂ => LoopAtV _ _ _ _ _ _ _ _ _ it s₂) _ _)))
  trivial
theorem x_setattr {e : Addr} {fl : Array Value} {sl : Array (Option Value)} {v : Value} {QU : Unit → Shared → Prop} {A : Around} (X : (KK w.params).In s.heap) (he : s.heap.get? e = some ⟨.ref (nat_lit 63), none, .fields fl, sl⟩)
    (hq : ∀ (h' : Heap) (dx : Addr) (tk : Nat), h'.get? e = some ⟨.ref (nat_lit 63), some dx, .fields fl, sl⟩ → s.heap.get? dx = none → (∀ b o, b ≠ e → s.heap.get? b = some o → h'.get? b = some o) → QU () { s with heap := h', toks := tk }) :
    wpAny (model prog w) A (setAttr (.ref e) "message" v) QU E s := by
  have I : InstAt s.heap e ⟨.ref (nat_lit 63), none, .fields fl, sl⟩ (nat_lit 63) none := ⟨he, rfl, rfl, trivial⟩
  refine set_plain X I (by k_is) ?_
  have SF := PySem.F.store_object
  have sub : Looks (model prog w) s.heap (isInstance (.ref e) (.type "object")) true := I.type.andThen (looks_mroIn X (C := nat_lit 63) (by k_is))
  refine codeAny_call_builtin SF.slot.plain SF.entry (@check_slot (model prog w) _ _ { s with toks := s.toks + 1 } "object.__setattr__" "object" "__setattr__" (.ref e) [.str "message" s.toks, v] [] _ SF.kind SF.split sub (SF.args (.ref e) (.str "message" s.toks) v) ?_)
  have hc : clsIn (KK w.params) (nat_lit 63) = some ⟨"PathFault", [.ref (nat_lit 38)], [.ref (nat_lit 63), .ref (nat_lit 38), .type "Exception", .type "BaseException", .type "object"], (nat_lit 62), "PathFault", true, [], [], false, none, false⟩ := by k_is
  have hm : Looks (model prog w) s.heap (mroOf (.ref (nat_lit 63))) [.ref (nat_lit 63), .ref (nat_lit 38), .type "Exception", .type "BaseException", .type "object"] := (looks_clsIn X hc).andThen .now
  have hn : findIn (KK w.params) (.ref (nat_lit 63)) "message" = some none := by k_is
  rw [osa_eq, refuse_eq]
  refine wpAny_bind (wpAny_bind (I.type _ _ _ _ (fun _ _ e => e) (wpAny_bind (hm _ _ _ _ (fun _ _ e => e) ?_))))
  rw [refuseLoop_ref, refuseLoop_ref, PySem.F.store_Exception.passes]
  refine wpAny_pure (wpAny_bind (I.type _ _ _ _ (fun _ _ e => e) (wpAny_bind ((looks_findIn X hn)  _ _ _ _ (fun _ _ e => e) (wpAny_bind (wpAny_pure ?_))))))
  refine wpAny_bind (wpAny_pure (wpAny_bind (wpAny_bind (wpAny_loadPart he (wpAny_bind ((looks_clsIn X hc)  _ _ _ _ (fun _ _ e => e) ?_))))))
  rw [if_neg (by decide)]
  dsimp only
  rw [if_neg (by simp [typeHasDict])]
  have he₁ : (s.heap.push { cls := .type "dict", data := .dict #[] }).get? e = some ⟨.ref (nat_lit 63), none, .fields fl, sl⟩ := Heap.get?_push_of_some _ he
  have hes : e ≠ s.heap.objs.size := Nat.ne_of_lt (Heap.lt_size he)
  refine wpAny_bind (wpAny_alloc' ?_)
  refine wpAny_bind (wpAny_update' he₁ ?_)
  refine wpAny_pure ?_
  have hgd : ((s.heap.push { cls := .type "dict", data := .dict #[] }).update e fun o => { cls := o.cls, dict := some s.heap.objs.size, data := o.data, slots := o.slots }).get? s.heap.objs.size
      = some { cls := .type "dict", data := .dict #[] } := (Heap.get?_update_ne _ _ _ _ hes.symm).trans (Heap.get?_push_at rfl rfl)
  have hnd : ((s.heap.push { cls := .type "dict", data := .dict #[] }).update e fun o => { cls := o.cls, dict := some s.heap.objs.size, data := o.data, slots := o.slots }).Ns s.heap.objs.size (fun _ => none) :=
    ⟨_, #[], _, hgd, rfl, fun e he => absurd he (by simp), fun _ => rfl⟩
  show wpAny _ _ (Builtin.ObjectAttr.storeInDict s.heap.objs.size (.str "message" s.toks) "message" v) _ _ _
  unfold Builtin.ObjectAttr.storeInDict Builtin.ObjectAttr.newKeyGuard
  refine wpAny_bind (wpAny_pure (wpAny_bind (wpAny_nsSet1 (Heap.Ns1.of_empty hnd) fun h' hn' hs => ?_)))
  obtain ⟨oD, esD, epD, hoD, hdD, hcD⟩ := hn'.count (Within.cons "message" v Within.nil)
  refine wpAny_bind (wpAny_lookBehind hoD (by rw [hdD]; exact pastItsLine_dict (Nat.le_trans hcD (by rw [List.length_cons, List.length_nil, sizeLine_eq]; omega))) ?_)
  refine wpAny_pure ?_
  refine hq h' s.heap.objs.size _ ?_ (Heap.get?_none_of_le (Nat.le_refl _)) (fun b ob hbx hb => ?_)
  · refine (hs.2 e hes).trans (Heap.get?_update_self _ he₁ rfl)
  · exact (hs.2 b (Nat.ne_of_lt (Heap.lt_size hb))).trans ((Heap.get?_update_ne _ _ _ _ (by first | exact hbx | exact Ne.symm hbx)).trans (Heap.get?_push_of_some _ hb))
abbrev xbm : List Value := [.ref (nat_lit 38), .type "Exception", .type "BaseException", .type "object"]
theorem xU : Under xbm := ⟨by decide, by decide, by decide, by decide⟩
abbrev xC : Obj := excClassObj "PathFault" "PathFault" (nat_lit 63) (nat_lit 62) [.ref (nat_lit 38)] xbm true [] [] false none none (some (.ref (nat_lit 54))) none (some (.str "PathFault" 241)) (some (.str "PathFault" 249)) (some (.bool true)) "Exception.__new__"
theorem xhC {h : Heap} (X : (KK w.params).In h) : h.get? (nat_lit 63) = some xC := X _ _ (by k_is)
theorem x_check_init {A : Around} {h : Heap} {g : Array GenState} {d : Drawn} {t : Nat} {os : OsState} {M : Model} {e : Addr} {oe : Obj} {rest : List Value} {QU : Unit → Shared → Prop}
    (hC : h.get? (nat_lit 63) = some xC) (he : h.get? e = some oe) (hcls : oe.cls = .ref (nat_lit 63)) (hq : QU () ⟨h, g, d, t, os⟩) :
    wpAny M A (checkBuiltinCall "Exception.__init__" ⟨.ref e :: rest, []⟩) QU E ⟨h, g, d, t, os⟩ := by
  have hcB : (Value.ref (nat_lit 63) :: xbm).contains (.type "Exception") = true := by decide
  have hshort := PySem.F.excBase_Exception.noStar
  simp only [checkBuiltinCall, PySem.F.excBase_Exception.initKind, PySem.F.excBase_Exception.initSplit, PySem.F.excBase_Exception.initRow]
  repeat (first | (with_reducible refine wpAny_loadPart_at he ?_; rw [hcls]) | with_reducible refine wpAny_loadPart_at hC ?_ | (with_reducible refine wpAny_isSubtype_exc hC ?_; rw [hcB]) | wp_step)
  refine wpAny_onRaise ?_
  rw [show ∀ (a b : String) (n : Nat), Bind.check ⟨.positional, "*", "Exception", .self, [⟨"args", .varPos, false⟩]⟩ a b n (List.map (fun x => x.fst) ({ pos := Value.ref e :: rest } : Args).kw) = pure () from
    fun a b n => check_star_args _ _ _ _ _ _]
  exact wpAny_pure hq
theorem x_binit {A : Around} {e t0 : Addr} {v : Value} (X : (KK w.params).In s.heap) (he : s.heap.get? e = some ⟨.ref (nat_lit 63), none, .fields #[.ref t0, .none, .none, .none, .bool false, .none], #[]⟩)
    (h : ∀ h', h'.get? e = some ⟨.ref (nat_lit 63), none, .fields #[.ref s.heap.objs.size, .none, .none, .none, .bool false, .none], #[]⟩ → h'.get? s.heap.objs.size = some (tupO [v]) → (∀ b o, b ≠ e → s.heap.get? b = some o → h'.get? b = some o) → Q .none { s with heap := h' }) :
    wpAny (model prog w) A (call (.builtin "Exception.__init__") [.ref e, v]) Q E s := by
  obtain ⟨hp, g, d, t, os⟩ := s
  have hes : e ≠ hp.objs.size := Nat.ne_of_lt (Heap.lt_size he)
  refine wpAny_call (codeAny_call_builtin PySem.F.excBase_Exception.init.plain PySem.F.excBase_Exception.initEntry (x_check_init (xhC X) he rfl ?_))
  wp_walk
  refine h _ ?_ ?_ ?_
  · rw [Heap.get?_update_self _ (Heap.get?_push_of_some _ he) rfl]
    rfl
  · rw [Heap.get?_update_other _ _ hes]
    exact Heap.get?_push_size _ rfl
  · intro b o hb ho
    rw [Heap.get?_update_other _ _ (Ne.symm hb)]
    exact Heap.get?_push_of_some _ ho

end
section
theorem regX432 : True := by
  w_top off
  k_with "k_steps" => (repeat' (first | (k_unfold; (try dsimp only)) | (k_unmd; k_unfold; (try dsimp only)) | (k_end; kc_close) | ((fail_if_success walk_at "stop X4"); walk1) | ((fail_if_success walk_at "stop X4"); dsimp only; (fail_if_success walk_at "stop X4"); walk1) | (leave1; walk_say "STEP leave1"; try dsimp only) | fail "no step"))
  k_with "stop X4" => (((with_reducible show wpAny _ _ (pyIter (Value.ref _)) (fun it s₂ => LoopAtV _ _ _ _ _ _ _ _ _ it s₂) _ _)))
  trivial
abbrev xo (d : Option Addr) (t : Addr) : Obj := ⟨.ref (nat_lit 63), d, .fields #[.ref t, .none, .none, .none, .bool false, .none], #[]⟩
theorem fr_at {h h' : Heap} {e : Addr} {o : Obj} {rest : List (Addr × Obj)} (F : Fr h₀ L h m) (N : News h₀ L h ((e, o) :: rest)) (k : ∀ b o, b ≠ e → h.get? b = some o → h'.get? b = some o) : Fr h₀ L h' m :=
  ⟨let ⟨oL, es, ep, e1, r⟩ := F.ns; ⟨oL, es, ep, k _ _ (fun q => (N _ (.head _)).2.1 q.symm) e1, r⟩, fun b ob hb => k b ob (fun q => by
    have := (N _ (.head _)).2.2
    rw [show (e, o).1 = b from q.symm] at this
    rw [this] at hb; cases hb) (F.keep b ob hb), F.above⟩
theorem news_at {h h' : Heap} {e : Addr} {o o' : Obj} {rest : List (Addr × Obj)} (N : News h₀ L h ((e, o) :: rest)) (off : ∀ q ∈ rest, q.1 ≠ e) (k : ∀ b o, b ≠ e → h.get? b = some o → h'.get? b = some o) (he : h'.get? e = some o') : News h₀ L h' ((e, o') :: rest) := fun q hq => by
  rcases List.mem_cons.mp hq with rfl | hq
  · exact ⟨he, (N _ (.head _)).2⟩
  · exact ⟨k _ _ (off q hq) (N q (.tail _ hq)).1, (N q (.tail _ hq)).2⟩
theorem news_plus {h h' : Heap} {e t : Addr} {o ot : Obj} {rest : List (Addr × Obj)} (F : Fr h₀ L h m) (N : News h₀ L h' ((e, o) :: rest)) (hn : h.get? t = none) (ht : h'.get? t = some ot) : News h₀ L h' ((e, o) :: (t, ot) :: rest) := fun q hq => by
  rcases List.mem_cons.mp hq with rfl | hq
  · exact N _ (.head _)
  rcases List.mem_cons.mp hq with rfl | hq
  · refine ⟨ht, fun q => ?_, ?_⟩
    · obtain ⟨oL, _, _, e1, _⟩ := F.ns
      rw [show L = t from q.symm, hn] at e1; cases e1
    · cases hq : h₀.get? t with
      | none => rfl
      | some ob => have := F.keep _ _ hq; rw [hn] at this; cases this
  · exact N q (.tail _ hq)
theorem meta_Exc : typeOf (.type "Exception") = pure (.type "type") := by first | rfl | kernel_rfl
theorem regX433 : True := by
  k_with "getMethod type:Exception m" => ((k_here; refine' method_type ?F ?X ?m (by decide +kernel) ?e ?h ?_; (case F => k_asm); (case X => k_asm); (case m => exact meta_Exc); (case e => k_dflt k_is); (case h => k_handed)))
  trivial
theorem c_minit {e t : Addr} {msg : Str} {tm : Tok} {rest : List (Addr × Obj)}
    (B : Below A₀ base outer h₀) (F : Fr h₀ L s.heap m) (X : (KK w.params).In h₀) (T : Top p loose mean mg mb h₀) (hk : cs.kind = .function) (hd : dp + 10 < 1000) (hu : un + 200 < 9900)
    (N : News h₀ L s.heap ((e, xo none t) :: rest)) (off : ∀ q ∈ rest, q.1 ≠ e)
    (ret : ∀ (t' dx : Addr) (h' : Heap) (tk : Nat), Fr h₀ L h' m → News h₀ L h' ((e, xo (some dx) t') :: (t', tupO [.str msg tm]) :: rest) → (∀ q ∈ rest, q.1 ≠ t') → Q .none { s with heap := h', toks := tk }) :
    wpAny (model prog w) (ktrTop dp un gd cn cs L a ccd cl outer) (call (.ref 35) [.ref e, .str msg tm]) Q E s := by
  refine wpAny_call ?_
  k_dflt ktr_enter
  k_steps
  rename News _ _ _ _ => N9
  rename Fr _ _ _ _ => F9
  have X9 := X.keeps (F.keep)
  have hlt : ∀ q ∈ rest, @LT.lt Nat _ q.1 _ := fun q hq => Heap.lt_size (N9 q (.tail _ hq)).1
  refine x_binit (t0 := t) (Frag.In.keeps (by k_asm) F9.keep) (N9 _ (.head _)).1 ?_
  intro h1 a1 a2 a3
  dsimp only at a1 a2 a3 ⊢
  have N8 := news_plus F9 (news_at N9 off a3 a1) (Heap.get?_none_of_le (Nat.le_refl _)) a2
  have F8 := fr_at F9 N9 a3
  clear a1 a2
  k_steps
  rename News _ _ _ _ => N7
  rename Fr _ _ _ _ => F7
  refine x_setattr (Frag.In.keeps (by k_asm) F7.keep) (N7 _ (.head _)).1 ?_
  intro h2 dx tk2 b1 b2 b3
  dsimp only at b1 b2 b3 ⊢
  have N6 := news_at N7 (fun q hq => (List.mem_cons.mp hq).elim (fun z => by
    subst z
    exact fun z => Nat.ne_of_lt (Heap.lt_size (N9 _ (.head _)).1) z.symm) (off q)) b3 b1
  have F6 := fr_at F7 N7 b3
  clear b1 b2 b3 N9 N7 F7 F9
  k_steps
  rename News _ _ _ _ => N5
  rename Fr _ _ _ _ => F5
  exact ret _ _ _ _ F5 N5 fun q hq => Nat.ne_of_lt (hlt q hq)

end
section
theorem regX534 : True := by
  w_top off
  k_with "k_steps" => (repeat' (first | (k_unfold; (try dsimp only)) | (k_unmd; k_unfold; (try dsimp only)) | (k_end; kc_close) | ((fail_if_success walk_at "stop X5"); walk1) | ((fail_if_success walk_at "stop X5"); dsimp only; (fail_if_success walk_at "stop X5"); walk1) | (leave1; walk_say "STEP leave1"; try dsimp only) | fail "no step"))
  k_with "stop X5" => (((with_reducible show wpAny _ _ (pyIter (Value.ref _)) (fun it s₂ => LoopAtV _ _ _ _ _ _ _ _ _ it s₂) _ _)))
  trivial
def RaisableX (E : Value → Shared → Prop) (v : Value) (s₁ : Shared) : Prop :=
  ∃ e od t, v = .ref e ∧ s₁.heap.get? (nat_lit 63) = some xC ∧ s₁.heap.get? e = some (xo od t) ∧ E (.ref e) s₁
theorem x_Raise {A : Around} {ex : PySem.Expr} {pos : Pos} {env : Env} {QF : Flow → Shared → Prop} (hh : A.handled = none)
    (h : wpAny (model prog w) A (eval ex env) (RaisableX E) E s)
    (he : exec (.Raise (some ex) none pos) env = (do standAt pos; raiseStmt env (some (do let v ← eval ex env; standAt pos; pure v)) none) := by rfl) :
    wpAny (model prog w) A (exec (.Raise (some ex) none pos) env) QF E s := by
  have hcB : (Value.ref (nat_lit 63) :: xbm).contains (.type "BaseException") = true := by decide
  rw [he]
  refine wpAny_bind (wpAny_standAt ?_)
  unfold raiseStmt
  dsimp only
  refine wpAny_bind (wpAny_bind (wpAny_mono h (fun v s₁ h₁ => wpAny_bind (wpAny_standAt (wpAny_pure ?_))) fun _ _ e => e))
  obtain ⟨e, od, t, rfl, hC, he, hE⟩ := h₁
  obtain ⟨hp, g, d, tk, os⟩ := s₁
  repeat (first | with_reducible refine wpAny_loadPart_at he ?_ | with_reducible refine wpAny_loadPart_at hC ?_ | (with_reducible refine wpAny_isSubtype_exc hC ?_; rw [hcB]) | wp_step)
  exact wpAny_raiseNew_none hh hE
theorem fr_keeps {h h' : Heap} (F : Fr h₀ L h m) (k : ∀ b o, h.get? b = some o → h'.get? b = some o) : Fr h₀ L h' m :=
  ⟨let ⟨oL, es, ep, e1, r⟩ := F.ns; ⟨oL, es, ep, k _ _ e1, r⟩, fun b ob hb => k b ob (F.keep b ob hb), F.above⟩
theorem news_fresh {h h' : Heap} {t : Addr} {ot : Obj} {rest : List (Addr × Obj)} (F : Fr h₀ L h m) (N : News h₀ L h' rest) (hn : h.get? t = none) (ht : h'.get? t = some ot) : News h₀ L h' ((t, ot) :: rest) := fun q hq => by
  rcases List.mem_cons.mp hq with rfl | hq
  · refine ⟨ht, fun q => ?_, ?_⟩
    · obtain ⟨oL, _, _, e1, _⟩ := F.ns
      rw [show L = t from q.symm, hn] at e1; cases e1
    · cases hq : h₀.get? t with
      | none => rfl
      | some ob => have := F.keep _ _ hq; rw [hn] at this; cases this
  · exact N q hq
theorem c_fault {msg : Str} {tm : Tok} {news : List (Addr × Obj)}
    (B : Below A₀ base outer h₀) (F : Fr h₀ L s.heap m) (X : (KK w.params).In h₀) (T : Top p loose mean mg mb h₀) (hk : cs.kind = .function) (hd : dp + 20 < 1000) (hu : un + 250 < 9900) (N : News h₀ L s.heap news)
    (ret : ∀ (e t dx : Addr) (h' : Heap) (tk : Nat), Fr h₀ L h' m → News h₀ L h' ((e, xo (some dx) t) :: (t, tupO [.str msg tm]) :: news) → (∀ q ∈ news, q.1 ≠ e) → (∀ q ∈ news, q.1 ≠ t) → Q (.ref e) { s with heap := h', toks := tk }) :
    wpAny (model prog w) (ktrTop dp un gd cn cs L a ccd cl outer) (call (.ref (nat_lit 63)) [.str msg tm]) Q E s := by
  have X9 := Frag.In.keeps X F.keep
  obtain ⟨hp, g, d, tk, os⟩ := s
  refine x_call xU X9 (xhC X9) (fI := nat_lit 35) (by k_is) (by k_is) fun h' e hm => ?_
  obtain ⟨t, he, htn, ht⟩ := hm.there
  have F1 : Fr h₀ L h' m := fr_keeps F hm.keeps
  have N1 : News h₀ L h' ((e, xo none t) :: news) := news_fresh F (fun q hq => ⟨hm.keeps _ _ (N q hq).1, (N q hq).2⟩) hm.new he
  have off : ∀ q ∈ news, q.1 ≠ e := fun q hq z => by
    have h1 := (N q hq).1
    have h2 := hm.new
    rw [z] at h1
    rw [h1] at h2; cases h2
  refine c_minit (tm := tm) B F1 X T hk ?hd ?hu N1 off ?_
  case hd => show dp + 1 + 10 < 1000; omega
  case hu => show un + 1 + 200 < 9900; omega
  intro t' dx h2 tk2 F2 N2 off2
  exact ⟨rfl, ret e t' dx h2 tk2 F2 N2 off off2⟩

/-- the exception behind it all flies: the ledger stands -/
abbrev RX (base G : Heap) (l : List Env) (e t : Addr) (vs : List Value) (news : List (Addr × Obj)) (h : Heap) : Prop := RaisedS base G l e (.ref (nat_lit 63)) t vs news h
theorem kts_memX {env : Env} {L b : Addr} {outer : List Env} (hf : env.frame = some L) (hm : b ∈ (env :: outer).filterMap (·.frame)) : b = L ∨ b ∈ outer.filterMap (·.frame) := by
  obtain ⟨env', he, hf'⟩ := List.mem_filterMap.mp hm
  rcases List.mem_cons.mp he with rfl | he
  · exact .inl (Option.some.inj (hf'.symm.trans hf))
  · exact .inr (List.mem_filterMap.mpr ⟨env', he, hf'⟩)
section
variable {M : Model} {A : Around} {s' : Shared} {g g₂ h : Heap} {e t : Addr} {od : Option Addr} {vs : List Value} {env : Env} {QU : Unit → Shared → Prop} {news : List (Addr × Obj)} {EE : Value → Shared → Prop}
theorem leave_X (K : Below A base outer g) (hf : env.frame = some L) (hk : env.scope.kind = .function) (F : Fr g L s'.heap m) (N : News g L s'.heap ((e, xo od t) :: (t, tupO vs) :: news)) (offe : ∀ q ∈ news, q.1 ≠ e) (offt : ∀ q ∈ news, q.1 ≠ t)
    (hQ : ∀ h', RX base g outer e t vs news h' → g.UpToSlots h' → QU () { s' with heap := h' }) :
    wpAny M (A.deeper env) (leaving env (.ref e)) QU EE s' := by
  have K' := pushX K F hf hk
  have hin : ∀ env' ∈ (env :: outer), ∀ b, env'.frame = some b → b ∈ (env :: outer).filterMap (·.frame) := fun env' he b hb => List.mem_filterMap.mpr ⟨env', he, hb⟩
  -- the ground: what stands but the frames, the exception and its tuple
  have nfr : ∀ q ∈ ((e, xo od t) :: (t, tupO vs) :: news), q.1 ∉ (env :: outer).filterMap (·.frame) := fun q hq hm => by
    obtain ⟨env', he, hf'⟩ := List.mem_filterMap.mp hm
    rcases List.mem_cons.mp he with rfl | he
    · exact (N q hq).2.1 (Option.some.inj (hf'.symm.trans hf))
    · obtain ⟨o, ho, _⟩ := (K.frames.mem (List.mem_filterMap.mpr ⟨env', he, hf'⟩)).2
      rw [(N q hq).2.2] at ho; cases ho
  have gone : ∀ q ∈ ((e, xo od t) :: (t, tupO vs) :: news), base.get? q.1 = none := fun q hq => fresh_of_stays K.stays (N q hq).2.2
  let as := e :: t :: (env :: outer).filterMap (·.frame)
  have st : base.StaysIn (hideAll s'.heap as) := fun b o q => hideAll_get _ (K'.stays b o q) fun hm => by
    rcases List.mem_cons.mp hm with z | hm
    · rw [z, gone _ (.head _)] at q; cases q
    rcases List.mem_cons.mp hm with z | hm
    · rw [z, gone _ (.tail _ (.head _))] at q; cases q
    · rw [(K'.frames.mem hm).1] at q; cases q
  have sg : ∀ b o, g.get? b = some o → b ∉ outer.filterMap (·.frame) → (hideAll s'.heap as).get? b = some o := fun b o q nm => hideAll_get _ (F.keep b o q) fun hm => by
    rcases List.mem_cons.mp hm with z | hm
    · rw [z, (N _ (.head _)).2.2] at q; cases q
    rcases List.mem_cons.mp hm with z | hm
    · rw [z, (N _ (.tail _ (.head _))).2.2] at q; cases q
    rcases kts_memX hf hm with z | z
    · rw [z, kts_self F] at q
      cases q
    · exact nm z
  have hl : ∀ q ∈ news, (hideAll s'.heap as).get? q.1 = some q.2 ∧ g.get? q.1 = none ∧ base.get? q.1 = none := fun q hq => by
    refine ⟨hideAll_get _ (N q (.tail _ (.tail _ hq))).1 fun hm => ?_, (N q (.tail _ (.tail _ hq))).2.2, gone q (.tail _ (.tail _ hq))⟩
    rcases List.mem_cons.mp hm with z | hm
    · exact offe q hq z
    rcases List.mem_cons.mp hm with z | hm
    · exact offt q hq z
    · exact nfr q (.tail _ (.tail _ hq)) hm
  have hfun : s'.heap.FunFrames (hideAll s'.heap as) (env :: outer) := funFrames_hide K'.frames fun env' he b hb => List.mem_cons_of_mem _ (List.mem_cons_of_mem _ (hin env' he b hb))
  have he' := (N _ (.head _)).1
  refine wpAny_leaving_firstW (a0 := .ref t) (Around.frames_deeper K.stack) hfun hf he' (fun b o q => of_hideAll _ q) (hideAll_none _ (.head _)) rfl rfl rfl fun h' hL => ?_
  obtain ⟨k1, ⟨_, _, k2⟩, k3, k4⟩ := hL
  refine hQ h' ⟨⟨_, st, sg, hl, ⟨k1, hideAll_none _ (.head _), k2, k3⟩, hideAll_none _ (.tail _ (.head _))⟩, ?_⟩ ((Heap.UpToSlots.of_keeps F.keep).trans k4)
  exact Heap.TupAt.of_slots ⟨_, _, (N _ (.tail _ (.head _))).1, rfl, rfl⟩ k4
theorem leave_onX (K : Below A base outer g) (hf : env.frame = some L) (F : Fr g L g₂ m) (R : RX base g₂ (env :: outer) e t vs news s'.heap) (hsm : g₂.UpToSlots s'.heap)
    (hQ : ∀ h', RX base g outer e t vs news h' → g.UpToSlots h' → QU () { s' with heap := h' }) :
    wpAny M (A.deeper env) (leaving env (.ref e)) QU EE s' := by
  obtain ⟨⟨B, hB, hBG, hl, hfl, hnew⟩, htup⟩ := R
  exact wpAny_leaves_onW (Around.frames_deeper K.stack) hf hfl fun h' x1 x2 =>
    hQ h' ⟨⟨B, hB, fun b o q nm => hBG b o (F.keep b o q) (fun hm => by
      rcases kts_memX hf hm with z | z
      · rw [z, kts_self F] at q
        cases q
      · exact nm z), fun q hq => ⟨(hl q hq).1, kts_none F.keep (hl q hq).2.1, (hl q hq).2.2⟩, x1, hnew⟩, htup.of_slots x2⟩ ((Heap.UpToSlots.of_keeps F.keep).trans (hsm.trans x2))
end

end
section
theorem regX635 : True := by
  w_top off
  k_with "k_steps" => (repeat' (first | (k_unfold; (try dsimp only)) | (k_unmd; k_unfold; (try dsimp only)) | (k_end; kc_close) | ((fail_if_success walk_at "stop X6"); walk1) | ((fail_if_success walk_at "stop X6"); dsimp only; (fail_if_success walk_at "stop X6"); walk1) | (leave1; walk_say "STEP leave1"; try dsimp only) | fail "no step"))
  k_with "stop X6" => (((with_reducible show wpAny _ _ (pyIter (Value.ref _)) (fun it s₂ => LoopAtV _ _ _ _ _ _ _ _ _ it s₂) _ _)))
  k_with "exec Raise some none m" => ((k_here; k_dflt (refine' x_Raise rfl ?_)))
  k_with "stop X6" => (((with_reducible show wpAny _ _ (call (Value.ref 63) _ _) _ _ _)))
  trivial
def NotL (news : List (Addr × Obj)) (v : Value) : Prop := (∃ tk, v = .str "" tk) ∨ (∃ tk, v = .str "x" tk) ∨ (∃ b, v = .bool b) ∨ (∃ t i j a b, v = .ref t ∧ (t, tupO [.int i a, .int j b]) ∈ news)
theorem c_nodesR {v : Value} {news : List (Addr × Obj)}
    (B : Below A₀ base outer h₀) (F : Fr h₀ L s.heap m) (X : (KK w.params).In h₀) (T : Top p loose mean mg mb h₀) (hk : cs.kind = .function) (hd : dp + 30 < 1000) (hu : un + 350 < 9900) (N : News h₀ L s.heap news) (hv : NotL news v)
    (xr : ∀ (e t : Addr) (vs : List Value) (g h' : Heap) (tk : Nat), Fr h₀ L g m → RX base g (envX cn cs L a ccd cl :: outer) e t vs news h' → g.UpToSlots h' → E (.ref e) { s with heap := h', toks := tk }) :
    wpAny (model prog w) (ktrTop dp un gd cn cs L a ccd cl outer) (call (.ref 94) [v]) Q E s := by
  rcases hv with ⟨tk, rfl⟩ | ⟨tk, rfl⟩ | ⟨b, rfl⟩ | ⟨t0, i0, j0, a0, b0, rfl, hm⟩
  all_goals (
    refine wpAny_call ?_
    k_dflt ktr_enter
    rename Fr h₀ L _ m => FG
    k_steps
    rename News _ _ _ _ => N9
    rename Fr _ _ _ _ => F9
    rename Below _ _ _ _ => B9
    rename Frag.In _ _ => X9
    k_dflt (refine' c_fault B9 F9 X9 ?T ?hk ?hd ?hu N9 ?_)
    case T => k_asm
    case hk => exact rfl
    case hd => walk_at "my side"
    case hu => walk_at "my side"
    intro e t dx h' tk' F8 N8 offe offt
    refine ⟨e, some dx, t, rfl, xhC (Frag.In.keeps X9 F8.keep), (N8 _ (.head _)).1, ?_⟩
    k_unfold
    refine leave_X (L := _) (m := _) (outer := _ :: _) B9 rfl rfl F8 N8 offe offt ?_
    intro h2 R U
    exact xr e t _ _ h2 _ FG R U)

theorem item_one {A : Around} {value slice : PySem.Expr} {l : Addr} {x : Value} {u : Tok} {n : Nat} {news : List (Addr × Obj)} (N : News h₀ L s.heap news) (hl : (l, W.listOf #[x] n) ∈ news) (h : Q x s)
    (hs : subscripted slice false (.ref l) (.int 0 u) = operate [.ref l, .int 0 u] (getItem (.ref l) (.int 0 u)) := by with_unfolding_all rfl) :
    wpAny (model prog w) A (subscriptTail value slice (.ref l) (.int 0 u)) Q E s := item_at N hl (by decide) rfl (by simp) h hs

theorem NotL.cons {a : Addr × Obj} {l : List (Addr × Obj)} {v : Value} (h : NotL l v) : NotL (a :: l) v := by
  rcases h with h | h | h | ⟨t0, i0, j0, a0, b0, rfl, hm⟩
  · exact .inl h
  · exact .inr (.inl h)
  · exact .inr (.inr (.inl h))
  · exact .inr (.inr (.inr ⟨t0, i0, j0, a0, b0, rfl, .tail _ hm⟩))

end
section
theorem regC1536 : True := by
  w_top off
  k_with "k_steps" => (repeat' (first | (k_unfold; (try dsimp only)) | (k_unmd; k_unfold; (try dsimp only)) | (k_end; kc_close) | ((fail_if_success walk_at "stop C15"); walk1) | ((fail_if_success walk_at "stop C15"); dsimp only; (fail_if_success walk_at "stop C15"); walk1) | (leave1; walk_say "STEP leave1"; try dsimp only) | fail "no step"))
  k_with "stop C15" => (((with_reducible show wpAny _ _ (pyIter (Value.ref _)) (fun it s₂ => LoopAtV _ _ _ _ _ _ _ _ _ it s₂) _ _)))
  trivial
theorem CtxAt.mono {P : Params} {cx : Addr} {i : Int} {ti : Tok} {l l' : List (Addr × Obj)} (c : CtxAt P cx i ti l) (k : ∀ q ∈ l, q ∈ l') : CtxAt P cx i ti l' := by
  obtain ⟨cd, u1, u2, u3, u4, u5, u6, u7, u8, u9, v1, v3, v4, v5, v6, v7, v8, v9, m1, m2⟩ := c
  exact ⟨cd, u1, u2, u3, u4, u5, u6, u7, u8, u9, v1, v3, v4, v5, v6, v7, v8, v9, k _ m1, k _ m2⟩
theorem c_told0 {cx la : Addr} {i : Int} {ti : Tok} {n : Nat} {news : List (Addr × Obj)}
    (B : Below A₀ base outer h₀) (F : Fr h₀ L s.heap m) (X : (KK w.params).In h₀) (T : Top p loose mean mg mb h₀) (hk : cs.kind = .function) (hd : dp + 40 < 1000) (hu : un + 400 < 9900) (N : News h₀ L s.heap news) (hl : (la, W.listOf #[] n) ∈ news) (hc : CtxAt w.params cx i ti news)
    (ret : ∀ (h' : Heap) (tk : Nat), Fr h₀ L h' m → News h₀ L h' news → Q (.int i ti) { s with heap := h', toks := tk }) :
    wpAny (model prog w) (ktrTop dp un gd cn cs L a ccd cl outer) (call (.ref 108) [.ref la, .ref cx]) Q E s := by
  obtain ⟨cd, u1, u2, u3, u4, u5, u6, u7, u8, u9, v1, v3, v4, v5, v6, v7, v8, v9, m1, m2⟩ := hc
  refine wpAny_call ?_
  k_dflt ktr_enter
  k_steps
  rename News _ _ _ _ => N9
  rename Fr _ _ _ _ => F9
  exact ret _ _ F9 (fun q hq => N9 q (.tail _ hq))

end
section
theorem regC1937 : True := by
  w_top off
  k_with "k_steps" => (repeat' (first | (k_unfold; (try dsimp only)) | (k_unmd; k_unfold; (try dsimp only)) | (k_end; kc_close) | ((fail_if_success walk_at "stop C19"); walk1) | ((fail_if_success walk_at "stop C19"); dsimp only; (fail_if_success walk_at "stop C19"); walk1) | (leave1; walk_say "STEP leave1"; try dsimp only) | fail "no step"))
  k_with "stop C19" => (((with_reducible show wpAny _ _ (pyIter (Value.ref _)) (fun it s₂ => LoopAtV _ _ _ _ _ _ _ _ _ it s₂) _ _)))
  trivial
theorem News.hsub {h : Heap} {t : Addr} {o : Obj} {l news : List (Addr × Obj)} (N : News h₀ L h ((t, o) :: l)) (k : ∀ q ∈ news, q ∈ l) : News h₀ L h ((t, o) :: news) := fun q hq => by
  rcases List.mem_cons.mp hq with rfl | hq
  · exact N _ (.head _)
  · exact N q (.tail _ (k q hq))
theorem c_num0 {tk : Tok} {news : List (Addr × Obj)}
    (B : Below A₀ base outer h₀) (F : Fr h₀ L s.heap m) (X : (KK w.params).In h₀) (T : Top p loose mean mg mb h₀) (hk : cs.kind = .function) (hd : dp + 40 < 1000) (hu : un + 400 < 9900) (N : News h₀ L s.heap news)
    (ret : ∀ (t : Addr) (ta tb : Tok) (h' : Heap) (tk : Nat), Fr h₀ L h' m → News h₀ L h' ((t, tupO [.int 0 ta, .int 1 tb]) :: news) → Q (.ref t) { s with heap := h', toks := tk }) :
    wpAny (model prog w) (ktrTop dp un gd cn cs L a ccd cl outer) (call (.ref 87) [.int 0 tk]) Q E s := by
  refine wpAny_call ?_
  k_dflt ktr_enter
  k_steps
  rename News _ _ _ _ => N9
  rename Fr _ _ _ _ => F9
  exact ret _ _ _ _ _ F9 (News.hsub N9 (fun q hq => by repeat (first | exact hq | refine List.mem_cons_of_mem _ ?_)))
theorem c_num1 {tk : Tok} {news : List (Addr × Obj)}
    (B : Below A₀ base outer h₀) (F : Fr h₀ L s.heap m) (X : (KK w.params).In h₀) (T : Top p loose mean mg mb h₀) (hk : cs.kind = .function) (hd : dp + 40 < 1000) (hu : un + 400 < 9900) (N : News h₀ L s.heap news)
    (ret : ∀ (t : Addr) (ta tb : Tok) (h' : Heap) (tk : Nat), Fr h₀ L h' m → News h₀ L h' ((t, tupO [.int 1 ta, .int 1 tb]) :: news) → Q (.ref t) { s with heap := h', toks := tk }) :
    wpAny (model prog w) (ktrTop dp un gd cn cs L a ccd cl outer) (call (.ref 87) [.int 1 tk]) Q E s := by
  refine wpAny_call ?_
  k_dflt ktr_enter
  k_steps
  rename News _ _ _ _ => N9
  rename Fr _ _ _ _ => F9
  exact ret _ _ _ _ _ F9 (News.hsub N9 (fun q hq => by repeat (first | exact hq | refine List.mem_cons_of_mem _ ?_)))
theorem c_num2 {tk : Tok} {news : List (Addr × Obj)}
    (B : Below A₀ base outer h₀) (F : Fr h₀ L s.heap m) (X : (KK w.params).In h₀) (T : Top p loose mean mg mb h₀) (hk : cs.kind = .function) (hd : dp + 40 < 1000) (hu : un + 400 < 9900) (N : News h₀ L s.heap news)
    (ret : ∀ (t : Addr) (ta tb : Tok) (h' : Heap) (tk : Nat), Fr h₀ L h' m → News h₀ L h' ((t, tupO [.int 2 ta, .int 1 tb]) :: news) → Q (.ref t) { s with heap := h', toks := tk }) :
    wpAny (model prog w) (ktrTop dp un gd cn cs L a ccd cl outer) (call (.ref 87) [.int 2 tk]) Q E s := by
  refine wpAny_call ?_
  k_dflt ktr_enter
  k_steps
  rename News _ _ _ _ => N9
  rename Fr _ _ _ _ => F9
  exact ret _ _ _ _ _ F9 (News.hsub N9 (fun q hq => by repeat (first | exact hq | refine List.mem_cons_of_mem _ ?_)))
theorem c_num3 {tk : Tok} {news : List (Addr × Obj)}
    (B : Below A₀ base outer h₀) (F : Fr h₀ L s.heap m) (X : (KK w.params).In h₀) (T : Top p loose mean mg mb h₀) (hk : cs.kind = .function) (hd : dp + 40 < 1000) (hu : un + 400 < 9900) (N : News h₀ L s.heap news)
    (ret : ∀ (t : Addr) (ta tb : Tok) (h' : Heap) (tk : Nat), Fr h₀ L h' m → News h₀ L h' ((t, tupO [.int 3 ta, .int 1 tb]) :: news) → Q (.ref t) { s with heap := h', toks := tk }) :
    wpAny (model prog w) (ktrTop dp un gd cn cs L a ccd cl outer) (call (.ref 87) [.int 3 tk]) Q E s := by
  refine wpAny_call ?_
  k_dflt ktr_enter
  k_steps
  rename News _ _ _ _ => N9
  rename Fr _ _ _ _ => F9
  exact ret _ _ _ _ _ F9 (News.hsub N9 (fun q hq => by repeat (first | exact hq | refine List.mem_cons_of_mem _ ?_)))
theorem c_num4 {tk : Tok} {news : List (Addr × Obj)}
    (B : Below A₀ base outer h₀) (F : Fr h₀ L s.heap m) (X : (KK w.params).In h₀) (T : Top p loose mean mg mb h₀) (hk : cs.kind = .function) (hd : dp + 40 < 1000) (hu : un + 400 < 9900) (N : News h₀ L s.heap news)
    (ret : ∀ (t : Addr) (ta tb : Tok) (h' : Heap) (tk : Nat), Fr h₀ L h' m → News h₀ L h' ((t, tupO [.int 4 ta, .int 1 tb]) :: news) → Q (.ref t) { s with heap := h', toks := tk }) :
    wpAny (model prog w) (ktrTop dp un gd cn cs L a ccd cl outer) (call (.ref 87) [.int 4 tk]) Q E s := by
  refine wpAny_call ?_
  k_dflt ktr_enter
  k_steps
  rename News _ _ _ _ => N9
  rename Fr _ _ _ _ => F9
  exact ret _ _ _ _ _ F9 (News.hsub N9 (fun q hq => by repeat (first | exact hq | refine List.mem_cons_of_mem _ ?_)))
theorem c_num {i : Int} {tk : Tok} {news : List (Addr × Obj)} (h0 : 0 ≤ i) (h4 : i ≤ 4)
    (B : Below A₀ base outer h₀) (F : Fr h₀ L s.heap m) (X : (KK w.params).In h₀) (T : Top p loose mean mg mb h₀) (hk : cs.kind = .function) (hd : dp + 40 < 1000) (hu : un + 400 < 9900) (N : News h₀ L s.heap news)
    (ret : ∀ (t : Addr) (ta tb : Tok) (h' : Heap) (tk : Nat), Fr h₀ L h' m → News h₀ L h' ((t, tupO [.int i ta, .int 1 tb]) :: news) → Q (.ref t) { s with heap := h', toks := tk }) :
    wpAny (model prog w) (ktrTop dp un gd cn cs L a ccd cl outer) (call (.ref 87) [.int i tk]) Q E s := by
  have h : i = 0 ∨ i = 1 ∨ i = 2 ∨ i = 3 ∨ i = 4 := by omega
  rcases h with rfl | rfl | rfl | rfl | rfl
  · exact c_num0 B F X T hk hd hu N ret
  · exact c_num1 B F X T hk hd hu N ret
  · exact c_num2 B F X T hk hd hu N ret
  · exact c_num3 B F X T hk hd hu N ret
  · exact c_num4 B F X T hk hd hu N ret

end
section
theorem regC2238 : True := by
  w_top off
  k_with "k_steps" => (repeat' (first | (k_unfold; (try dsimp only)) | (k_unmd; k_unfold; (try dsimp only)) | (k_end; kc_close) | ((fail_if_success walk_at "stop C22"); walk1) | ((fail_if_success walk_at "stop C22"); dsimp only; (fail_if_success walk_at "stop C22"); walk1) | (leave1; walk_say "STEP leave1"; try dsimp only) | fail "no step"))
  k_with "stop C22" => (((with_reducible show wpAny _ _ (pyIter (Value.ref _)) (fun it s₂ => LoopAtV _ _ _ _ _ _ _ _ _ it s₂) _ _)))
  trivial
theorem c_npN {Tr TD : Addr} {nd : Nat} {t0 : Tok} {R : Addr} {part : Value}
    (B : Below A₀ base outer h₀) (F : Fr h₀ L s.heap m) (X : (KK w.params).In h₀) (T : Top p loose mean mg mb h₀) (hk : cs.kind = .function) (hd : dp + 15 < 1000) (hu : un + 80 < 9900)
    (N : News h₀ L s.heap [(Tr, instObj 365 TD)])
    (ret : ∀ (b : Tok) (h' : Heap) (t' : Nat), Fr h₀ L h' m → Kept s.heap h' [] → Q (.str "" b) { s with heap := h', toks := t' }) :
    wpAny (model prog w) (ktrTop dp un gd cn cs L a ccd cl outer) (call (.ref 115) [part, .none, .ref Tr]) Q E s := by
  refine wpAny_call ?_
  k_dflt ktr_enter
  k_steps
  refine ret _ _ _ (by assumption) ?_
  rename News _ _ _ _ => N9
  exact Kept.all (l := [_]) (Kept.fin (by assumption) (by assumption)) N N9
theorem regC2239 : True := by
  k_with "call ref m" => (((with_reducible show wpAny _ _ (call (Value.ref 115) [_, Value.none, _] _) _ _ _); k_dflt ((rename News _ _ _ _ => N9); k_dflt (refine' c_npN ?B ?F ?X ?T ?hk ?hd ?hu ?N ?_; (case B => k_asm); (case F => k_asm); (case X => k_asm); (case T => k_asm); (case hk => exact rfl); (case hd => walk_at "my side"); (case hu => walk_at "my side"); (case N => (refine' News.subL N9 ?u; (case u => k_subL)))); (intro b9 h9 t9 F9 K9); (have N8 := News.stay N9 K9); (try k_sweep); clear K9; (try dsimp only); (try k_fold))))
  trivial
theorem c_partsN {Tr TD : Addr} {news : List (Addr × Obj)}
    (B : Below A₀ base outer h₀) (F : Fr h₀ L s.heap m) (X : (KK w.params).In h₀) (T : Top p loose mean mg mb h₀) (hk : cs.kind = .function) (hd : dp + 20 < 1000) (hu : un + 100 < 9900)
    (N : News h₀ L s.heap [(Tr, instObj 365 TD)])
    (ret : ∀ (l : Addr) (n9 : Nat) (b1 b2 b3 : Tok) (h' : Heap) (t' : Nat), Fr h₀ L h' m → News h₀ L h' [(l, W.listOf #[.str "" b1, .str "" b2, .str "" b3] n9)] → Kept s.heap h' [] → Q (.ref l) { s with heap := h', toks := t' }) :
    wpAny (model prog w) (ktrTop dp un gd cn cs L a ccd cl outer) (call (.ref 409) [.ref Tr, .none]) Q E s := by
  refine wpAny_call ?_
  k_dflt ktr_enter
  k_steps
  rename News _ _ _ _ => N9
  refine' ret _ _ _ _ _ _ _ (by assumption) ?N ?K
  case N => exact News.subL N9 (by k_subL)
  case K => exact Kept.all (l := [_]) (Kept.fin (by assumption) (by assumption)) N (News.subL N9 (by k_subL))

end
section
theorem regW540 : True := by
  w_top off
  k_with "subscriptTail Name Constant ref int m" => ((k_here; (with_reducible show wpAny _ _ (subscriptTail _ _ (Value.ref _) (Value.int _ _)) _ _ _); k_dflt (refine' item_tup ?N ?m ?a ?b ?c ?d ?_; (case N => k_asm); (case m => k_mem); (case a => decide); (case b => decide); (case c => rfl); (case d => rfl); k_whole)))
  k_with "k_steps" => (repeat' (first | (k_unfold; (try dsimp only)) | (k_unmd; k_unfold; (try dsimp only)) | (k_end; kc_close) | ((fail_if_success walk_at "stop W5"); walk1) | ((fail_if_success walk_at "stop W5"); dsimp only; (fail_if_success walk_at "stop W5"); walk1) | (leave1; walk_say "STEP leave1"; try dsimp only) | fail "no step"))
  k_with "stop W5" => (((with_reducible show wpAny _ _ (pyIter (Value.ref _)) (fun it s₂ => LoopAtV _ _ _ _ _ _ _ _ _ it s₂) _ _)))
  k_with "stop W5" => (((with_reducible show LCg.CompSrc _ _ _ _ _ _ _ _ _ _ _ _ _ _)))
  trivial
theorem mapS {m : Str → Option Value} {a1 a2 a3 : Value} (h1 : m "tree" = some a1) (h2 : m "here" = some a2) (h3 : m "some" = some a3) : m = fun y => if y = Str.ofString "tree" then some a1 else if y = Str.ofString "here" then some a2 else if y = Str.ofString "some" then some a3 else m y := by
  funext y
  split
  · subst_vars; exact h1
  · split
    · subst_vars; exact h2
    · split
      · subst_vars; exact h3
      · rfl
theorem W5 {fa sA tD tR rA fA : Addr} {lo : Nat} {o1 o2 o3 o4 : Obj} {sx sy : Int} {tsx tsy t0 : Tok} {ns nd k kf : Nat} {xs fs : Array Value} {nn dn : List (Addr × Obj)} {ms : Str → Option Value} {rest : List Stmt} {QF : Flow → Shared → Prop} {EF : Value → Shared → Prop}
    {t D : Addr} {ys : List Value} {is : List Int} (B : Below callerA h₀ [] h₀) (F : Fr h₀ L s.heap ms) (X : (KK w.params).In h₀) (T : Top p loose mean mg mb h₀)
    (N : News h₀ L s.heap ((D, LCg.lst ys) :: ((fA, W.listOf fs kf) :: (sA, W.listOf #[.int sx tsx, .int sy tsy] ns) :: (tR, instObj 365 tD) :: (tD, dictOf [⟨PyData.keyHash w.params "rows", .str "rows" t0, .ref rA⟩] nd) :: (rA, W.listOf xs k) :: (L + 1 + 1 + 1 + 1, o4) :: (L + 1 + 1 + 1, o3) :: (L + 1 + 1, o2) :: (L + 1, o1) :: ((nat_lit 411), tabObj #[]) :: dn)))
    (e1 : ms "tree" = some (.ref tR)) (e2 : ms "here" = some (.ref t)) (e3 : ms "some" = some (.ref D)) (hl : ys.length ≤ 4) (hh : Heads w.params dn xs is ys)
    (ret : ∀ (m' : Str → Option Value) (D2 : Addr) (zs : List Value) (h' : Heap) (t' : Nat), IntsAre zs is → Fr h₀ L h' m' → m' "tree" = some (.ref tR) → m' "here" = some (.ref t) → m' "some" = some (.ref D) → m' "nodes" = some (.ref D2) →
      News h₀ L h' ((D2, LCg.lst zs) :: (D, LCg.lst ys) :: ((fA, W.listOf fs kf) :: (sA, W.listOf #[.int sx tsx, .int sy tsy] ns) :: (tR, instObj 365 tD) :: (tD, dictOf [⟨PyData.keyHash w.params "rows", .str "rows" t0, .ref rA⟩] nd) :: (rA, W.listOf xs k) :: (L + 1 + 1 + 1 + 1, o4) :: (L + 1 + 1 + 1, o3) :: (L + 1 + 1, o2) :: (L + 1, o1) :: ((nat_lit 411), tabObj #[]) :: dn)) → LCg.Off1 D2 ((D, LCg.lst ys) :: ((fA, W.listOf fs kf) :: (sA, W.listOf #[.int sx tsx, .int sy tsy] ns) :: (tR, instObj 365 tD) :: (tD, dictOf [⟨PyData.keyHash w.params "rows", .str "rows" t0, .ref rA⟩] nd) :: (rA, W.listOf xs k) :: (L + 1 + 1 + 1 + 1, o4) :: (L + 1 + 1 + 1, o3) :: (L + 1 + 1, o2) :: (L + 1, o1) :: ((nat_lit 411), tabObj #[]) :: dn)) →
      wpAny (model prog w) (callerA.deeper (envOfC (Str.ofString "law") c29 L fa (.ref (nat_lit 413)))) (execs rest (envOfC (Str.ofString "law") c29 L fa (.ref (nat_lit 413)))) QF EF { s with heap := h', toks := t' }) :
    wpAny (model prog w) (callerA.deeper (envOfC (Str.ofString "law") c29 L fa (.ref (nat_lit 413)))) (execs (y6 :: rest) (envOfC (Str.ofString "law") c29 L fa (.ref (nat_lit 413)))) QF EF s := by
  rw [mapS e1 e2 e3] at F
  delta y6
  refine wpAny_execs_cons ?_
  k_dflt (refine LCg.Assign_ListComp_U (F₀ := by k_asm) (by rfl) (by with_unfolding_all rfl) (by with_unfolding_all rfl) (by decide) (by rfl) (by decide) (by rfl) (by rfl) (by rfl) ?_)
  k_steps
  rename News _ _ _ _ => N9
  rename Fr _ _ _ _ => F9
  k_dflt (refine LCg.CompSrc.ledger (by rfl) F9 N9 (.head _) (by rw [PySem.sizeLine_eq, List.size_toArray]; omega) ?_)
  intro g'
  have hlen := hh.len
  refine comp_ind (fun zs nw => nw = (D, LCg.lst ys) :: ((fA, W.listOf fs kf) :: (sA, W.listOf #[.int sx tsx, .int sy tsy] ns) :: (tR, instObj 365 tD) :: (tD, dictOf [⟨PyData.keyHash w.params "rows", .str "rows" t0, .ref rA⟩] nd) :: (rA, W.listOf xs k) :: (L + 1 + 1 + 1 + 1, o4) :: (L + 1 + 1 + 1, o3) :: (L + 1 + 1, o2) :: (L + 1, o1) :: ((nat_lit 411), tabObj #[]) :: dn) ∧ IntsAre zs (is.take zs.length)) ⟨rfl, by simp only [List.length_nil, List.take_zero]; exact .nil⟩ ?turn ?fin
  case fin =>
    intro zs nw hz hJ
    obtain ⟨rfl, hI⟩ := hJ
    rw [List.size_toArray] at hz
    rw [hz, ← hlen, List.take_length] at hI
    intro D2 h tk F' N' off
    exact ret _ D2 zs h tk hI F' rfl rfl rfl rfl N' off
  case turn =>
    intro i v zs nw I oI C oC D' m₂ h tk E' hi hz hP hJ hC hx F' N' off ne
    obtain ⟨rfl, hI⟩ := hJ
    obtain ⟨ii, hii, t9, x, dx, c1, c2, c3, ti, a1, a2, a3, b1, b2, b3, t1, t2, t3, t4, t5, t6, t7, t8, tt, nm, lc, ur, kd, vl, pr, rfl, g1, g2, g3, g4, g5, k1, k2, k3⟩ := hh.at i v (by simpa using hP)
    clear N9 F9
    k_steps
    refine LCg.CompEnd.intro F' N' _ (fun p hp => hp) off (.inr ⟨_, .head _, rfl, _, rfl⟩) ⟨rfl, ?_⟩
    rw [List.length_append, List.length_singleton, List.take_add_one, hz, hii]
    rw [hz] at hI
    simpa using IntsAre.append hI (.cons ii ti .nil)

end
section
theorem regX741 : True := by
  w_top off
  k_with "compareOp Eq ref ref m" => ((k_here; (with_reducible show wpAny _ _ (compareOp CmpOp.Eq (Value.ref _) (Value.ref _)) _ _ _); k_dflt (refine' eq_len ?N ?a ?b ?c ?hu ?_; (case N => k_asm); (case a => k_mem); (case b => k_mem); (case c => simp; done); (case hu => walk_at "my units2"); k_whole)))
  k_with "compareOp NotEq ref ref m" => ((k_here; (with_reducible show wpAny _ _ (compareOp CmpOp.NotEq (Value.ref _) (Value.ref _)) _ _ _); k_dflt (refine' ne_len ?N ?a ?b ?c ?hu ?_; (case N => k_asm); (case a => k_mem); (case b => k_mem); (case c => simp; done); (case hu => walk_at "my units2"); k_whole)))
  k_with "subscriptTail Name Constant ref int m" => ((k_here; (with_reducible show wpAny _ _ (subscriptTail _ _ (Value.ref _) (Value.int 0 _)) _ _ _); k_dflt (refine' item_hd ?N ?m ?_; (case N => k_asm); (case m => k_mem); k_whole)))
  k_with "my units2" => (first | exact Nat.le_of_ble_eq_true rfl | walk_at "my units")
  k_with "subscriptTail Name Constant ref int m" => ((k_here; (with_reducible show wpAny _ _ (subscriptTail _ _ (Value.ref _) (Value.int _ _)) _ _ _); k_dflt (refine' item_tup ?N ?m ?a ?b ?c ?d ?_; (case N => k_asm); (case m => k_mem); (case a => decide); (case b => decide); (case c => rfl); (case d => rfl); k_whole)))
  k_with "subscriptTail Name Constant ref int m" => ((k_here; (with_reducible show wpAny _ _ (subscriptTail _ _ (Value.ref _) (Value.int 0 _)) _ _ _); k_dflt (refine' item_one ?N ?m ?_; (case N => k_asm); (case m => k_mem); k_whole)))
  k_with "my nodesR" => (((rename News _ _ _ _ => N9); k_dflt (refine' c_nodesR ?B ?F ?X ?T ?hk ?hd ?hu ?N ?hv ?_; (case B => k_asm); (case F => k_asm); (case X => k_asm); (case N => exact N9); (case T => k_asm); (case hk => exact rfl); (case hd => walk_at "my side"); (case hu => walk_at "my side"); (case hv => first | with_reducible assumption | exact NotL.cons (by with_reducible assumption))); (intro e9 t9 vs9 g9 h9 tk9 Fg9 R9 U9)))
  k_with "call ref m" => (((with_reducible show wpAny _ _ (call (Value.ref 94) [_] _) _ _ _); walk_at "my nodesR"))
  k_with "k_steps" => (repeat' (first | (k_unfold; (try dsimp only)) | (k_unmd; k_unfold; (try dsimp only)) | (k_end; kc_close) | ((fail_if_success walk_at "stop X7"); walk1) | ((fail_if_success walk_at "stop X7"); dsimp only; (fail_if_success walk_at "stop X7"); walk1) | (leave1; walk_say "STEP leave1"; try dsimp only) | fail "no step"))
  k_with "stop X7" => (((with_reducible show wpAny _ _ (pyIter (Value.ref _)) (fun it s₂ => LoopAtV _ _ _ _ _ _ _ _ _ it s₂) _ _)))
  trivial
theorem c_countR {v : Value} {news : List (Addr × Obj)}
    (B : Below A₀ base outer h₀) (F : Fr h₀ L s.heap m) (X : (KK w.params).In h₀) (T : Top p loose mean mg mb h₀) (hk : cs.kind = .function) (hd : dp + 40 < 1000) (hu : un + 400 < 9900) (N : News h₀ L s.heap news) (hv : NotL news v)
    (xr : ∀ (e t : Addr) (vs : List Value) (g h' : Heap) (tk : Nat), Fr h₀ L g m → RX base g (envX cn cs L a ccd cl :: outer) e t vs news h' → g.UpToSlots h' → E (.ref e) { s with heap := h', toks := tk }) :
    wpAny (model prog w) (ktrTop dp un gd cn cs L a ccd cl outer) (call (.ref 101) [v]) Q E s := by
  refine wpAny_call ?_
  k_dflt ktr_enter
  rename Fr h₀ L _ m => FG
  rename Below _ _ _ _ => B9
  k_steps
  rename RX _ _ _ _ _ _ _ _ => R9
  rename Heap.UpToSlots _ _ => U9
  rename Fr _ _ _ _ => F9
  (try k_unfold)
  refine leave_onX B9 rfl F9 R9 U9 ?_
  intro h2 R U
  exact xr _ _ _ _ h2 _ FG R U
theorem c_toldR {v cx : Value} {la : Addr} {n : Nat} {news : List (Addr × Obj)}
    (B : Below A₀ base outer h₀) (F : Fr h₀ L s.heap m) (X : (KK w.params).In h₀) (T : Top p loose mean mg mb h₀) (hk : cs.kind = .function) (hd : dp + 40 < 1000) (hu : un + 400 < 9900) (N : News h₀ L s.heap news) (hv : NotL news v) (hl : (la, W.listOf #[v] n) ∈ news)
    (xr : ∀ (e t : Addr) (vs : List Value) (g h' : Heap) (tk : Nat) (lz : Addr), Fr h₀ L g m → RX base g (envX cn cs L a ccd cl :: outer) e t vs ((lz, W.listOf #[] 0) :: news) h' → g.UpToSlots h' → E (.ref e) { s with heap := h', toks := tk }) :
    wpAny (model prog w) (ktrTop dp un gd cn cs L a ccd cl outer) (call (.ref 108) [.ref la, cx]) Q E s := by
  have hv0 := hv
  rcases hv with ⟨tk, rfl⟩ | ⟨tk, rfl⟩ | ⟨b, rfl⟩ | ⟨t0, i0, j0, a0, b0, rfl, hm⟩
  all_goals (
    refine wpAny_call ?_
    k_dflt ktr_enter
    rename Fr h₀ L _ m => FG
    rename Below _ _ _ _ => B9
    k_steps
    rename RX _ _ _ _ _ _ _ _ => R9
    rename Heap.UpToSlots _ _ => U9
    rename Fr _ _ _ _ => F9
    (try k_unfold)
    refine leave_onX B9 rfl F9 R9 U9 ?_
    intro h2 R U
    exact xr _ _ _ _ h2 _ _ FG R U)

end
section
theorem regX842 : True := by
  w_top off
  k_with "k_steps" => (repeat' (first | (k_unfold; (try dsimp only)) | (k_unmd; k_unfold; (try dsimp only)) | (k_end; kc_close) | ((fail_if_success walk_at "stop X8"); walk1) | ((fail_if_success walk_at "stop X8"); dsimp only; (fail_if_success walk_at "stop X8"); walk1) | (leave1; walk_say "STEP leave1"; try dsimp only) | fail "no step"))
  k_with "stop X8" => (((with_reducible show wpAny _ _ (pyIter (Value.ref _)) (fun it s₂ => LoopAtV _ _ _ _ _ _ _ _ _ it s₂) _ _)))
  trivial
theorem NotL.mono {l l' : List (Addr × Obj)} {v : Value} (h : NotL l v) (sub : ∀ q ∈ l, q ∈ l') : NotL l' v := by
  rcases h with h | h | h | ⟨t, i, j, a, b, e, hm⟩
  · exact .inl h
  · exact .inr (.inl h)
  · exact .inr (.inr (.inl h))
  · exact .inr (.inr (.inr ⟨t, i, j, a, b, e, sub _ hm⟩))
theorem code_defFS {env : Env} {A : Around} {R : Result → Shared → Prop} {K : Frag} {news : List (Addr × Obj)} {name qual : Str} {params : Arguments} {body : List Stmt} {scope : Scope} {dV kV doc pm cdv ct oc : Value} {an od : Option Addr} {osl : Array (Option Value)} {f : Addr} {args : Args} {binds : List (Str × Value)}
    (B : Below A₀ base [] h₀) (F : Fr h₀ L s.heap m) (X₀ : K.In h₀) (N : News h₀ L s.heap news) (T : Top p loose mean mg mb h₀) (hA : A.frames = some [env]) (hf : env.frame = some L) (hke : env.scope.kind = .function)
    (ho : K.lookup f = some ⟨oc, od, .func (fnOf name qual params body scope dV kV doc pm an cdv ct), osl⟩) (hcd : codeIn K cdv qual = true) (hroom : A.depth < recursionLimit)
    (hbind : BindsTo s (fnOf name qual params body scope dV kV doc pm an cdv ct) args binds) (hloc : ∀ y ∈ binds, scope.names.lookup y.1 = some .local)
    (h : ∀ g L' h₁, Fr h₀ L g m → Fr g L' h₁ (fun y => binds.reverse.lookup y) → News g L' h₁ news → Below A base [env] g → K.In g → Top p loose mean mg mb g → KtsDicts ([env].filterMap (·.frame)) g →
      wpAny (model prog w) (A.deeper (envOf qual scope L' f cdv)) (execs body (envOf qual scope L' f cdv))
        (fun fl s' => LeaveS0 ([env].filterMap (·.frame)) h₀ L m g R (match fl with | .ret v => v | _ => .none) s')
        (fun e s' => wpAny (model prog w) (A.deeper (envOf qual scope L' f cdv)) (leaving (envOf qual scope L' f cdv) e) (fun _ s'' => R (.error e) s'') (fun e' s'' => R (.error e') s'') s')
        { s with heap := h₁, toks := s.toks + binds.length })
    (hco : scope.isCoroutine = false) (hgen : scope.isGenerator = false) (hk : scope.kind = .function)
    (hcell : ∀ x ∈ scope.names, x.2 ≠ .cell) : codeAny (model prog w) A (.call (.ref f) args) R s := by
  obtain ⟨FG, BG, st, _⟩ := groundX (R := R) B F N hA hf hke
  obtain ⟨oL, es, ep, hLg, hLd, hLr⟩ := FG.ns
  refine codeAny_call_def (fd := fnOf name qual params body scope dV kV doc pm an cdv ct) (body := body) (binds := binds) hroom ((X₀.keeps F.keep) _ _ ho) rfl (T.nolimit.keeps F.keep) (codeRec_of (X₀.keeps F.keep) hcd) rfl hbind hcell hloc (fun h₁ hns hk₁ => ?_) hco hgen hk
  have inL : ∀ b ∈ [env].filterMap (·.frame), b = L := fun b hb => by
    obtain ⟨env', he, hf'⟩ := List.mem_filterMap.mp hb
    rw [List.mem_singleton.mp he, hf] at hf'
    exact (Option.some.inj hf').symm
  have nL₀ : h₀.get? L = none := kts_self F
  have nw : News (hideAll s.heap (news.map (·.1))) s.heap.objs.size h₁ news :=
    fun r hr => ⟨hk₁ _ _ (N r hr).1, Nat.ne_of_lt (Heap.lt_size (N r hr).1), hideAll_none _ (List.mem_map_of_mem hr)⟩
  refine wpAny_mono (h _ s.heap.objs.size h₁ FG ⟨hns, fun b o e => hk₁ b o (of_hideAll _ e), Nat.le_of_eq (hideAll_size _ _)⟩ nw BG (X₀.keeps st) (T.keeps st) (fun b hb => inL b hb ▸ ⟨oL, es, ep, hLg, hLd⟩)) (fun fl s' hl => ?_) fun _ _ y => y
  obtain ⟨g', L', m', news', T', F', N', k⟩ := hl
  obtain ⟨sl, hs⟩ := T'.up hLg
  refine k ⟨⟨_, es, ep, F'.keep _ _ hs, hLd, hLr⟩, fun b o e => F'.keep b o (T'.other b o (st b o e) fun q => ?_), F.above⟩ fun r hr => ⟨(N' r hr).1, fun q => ?_, ?_⟩
  · rw [inL b q, nL₀] at e; cases e
  · have z := (N' r hr).2.2
    rw [q, hs] at z; cases z
  · cases q : h₀.get? r.1 with
    | none => rfl
    | some o =>
      obtain ⟨sl', hs'⟩ := T'.up (st _ _ q)
      have z := (N' r hr).2.2
      rw [hs'] at z; cases z

end
section
theorem regC2343 : True := by
  w_top off
  k_with "k_steps" => (repeat' (first | (k_unfold; (try dsimp only)) | (k_unmd; k_unfold; (try dsimp only)) | (k_end; kc_close) | ((fail_if_success walk_at "stop C23"); walk1) | ((fail_if_success walk_at "stop C23"); dsimp only; (fail_if_success walk_at "stop C23"); walk1) | (leave1; walk_say "STEP leave1"; try dsimp only) | fail "no step"))
  k_with "stop C23" => (((with_reducible show wpAny _ _ (pyIter (Value.ref _)) (fun it s₂ => LoopAtV _ _ _ _ _ _ _ _ _ it s₂) _ _)))
  trivial
theorem c_one6 {S l d e : Addr} {x y : Int} {tx ty u1 u2 v1 v2 v3 v4 : Tok} {n k : Nat} {news : List (Addr × Obj)}
    (B : Below A₀ base outer h₀) (F : Fr h₀ L s.heap m) (X : (KK w.params).In h₀) (N : News h₀ L s.heap ((l, W.listOf #[.str "" u1, .str "x" u2, .ref d, .ref e, .bool true, .bool false] k) :: (e, tupO [.int 0 v1, .int 0 v2]) :: (d, tupO [.int 1 v3, .int 1 v4]) :: news)) (T : Top p loose mean mg mb h₀) (hk : cs.kind = .function) (hd : dp + 10 < 1000) (hu : un + 60 < 9900)
    (mS : (S, W.listOf #[.int x tx, .int y ty] n) ∈ news)
    (hx : 0 ≤ x) (hy : 0 ≤ y) (hy2 : y < 2147483648) (hne : @Ne Nat S l)
    (ret : ∀ (v : Value) (x' y' : Int) (tx' ty' : Tok) (n' : Nat) (h' : Heap) (t' : Nat), NotL [(e, tupO [.int 0 v1, .int 0 v2]), (d, tupO [.int 1 v3, .int 1 v4])] v → Fr h₀ L h' m → News h₀ L h' [(S, W.listOf #[.int x' tx', .int y' ty'] n')] → Kept s.heap h' [S] → Q v { s with heap := h', toks := t' }) :
    wpAny (model prog w) (ktrTop dp un gd cn cs L a ccd cl outer) (call (.ref 390) [.ref S, .ref l]) Q E s := by
  refine c_one (tx := tx) (ty := ty) (n := n) (k := k) (vs := #[.str "" u1, .str "x" u2, .ref d, .ref e, .bool true, .bool false]) B F X (fun q hq => ?_) T hk hd hu hx hy hy2 hne (by simp) (by simp) ?r
  · rcases List.mem_cons.mp hq with rfl | hq
    · exact N _ (.tail _ (.tail _ (.tail _ mS)))
    · rw [List.mem_singleton.mp hq]; exact N _ (.head _)
  case r =>
    intro v x' y' tx' ty' n' h' t' hm hx' hy' hy2' F' N' K'
    refine ret v x' y' tx' ty' n' h' t' ?_ F' N' K'
    simp only [List.mem_toArray, List.mem_cons, List.not_mem_nil, or_false] at hm
    rcases hm with rfl | rfl | rfl | rfl | rfl | rfl
    · exact .inl ⟨_, rfl⟩
    · exact .inr (.inl ⟨_, rfl⟩)
    · exact .inr (.inr (.inr ⟨_, _, _, _, _, rfl, .tail _ (.head _)⟩))
    · exact .inr (.inr (.inr ⟨_, _, _, _, _, rfl, .head _⟩))
    · exact .inr (.inr (.inl ⟨_, rfl⟩))
    · exact .inr (.inr (.inl ⟨_, rfl⟩))

end
section
theorem regW9a44 : True := by
  w_top off
  k_with "k_steps" => (repeat' (first | (k_unfold; (try dsimp only)) | (k_unmd; k_unfold; (try dsimp only)) | (k_end; kc_close) | ((fail_if_success walk_at "stop W9a"); walk1) | ((fail_if_success walk_at "stop W9a"); dsimp only; (fail_if_success walk_at "stop W9a"); walk1) | (leave1; walk_say "STEP leave1"; try dsimp only) | fail "no step"))
  k_with "stop W9a" => (((with_reducible show wpAny _ _ (pyIter (Value.ref _)) (fun it s₂ => LoopAtV _ _ _ _ _ _ _ _ _ it s₂) _ _)))
  k_with "stop W9a" => ((with_reducible show wpAny _ _ (call (Value.ref 390) _ _) _ _ _))
  trivial
theorem W9a {fa sA tD tR rA fA : Addr} {lo : Nat} {o1 o2 o3 o4 : Obj} {sx sy : Int} {tsx tsy t0 : Tok} {ns nd k kf : Nat} {xs fs : Array Value} {nn dn : List (Addr × Obj)} {ms : Str → Option Value} {rest : List Stmt} {QF : Flow → Shared → Prop} {EF : Value → Shared → Prop}
    (B : Below callerA h₀ [] h₀) (F : Fr h₀ L s.heap ms) (X : (KK w.params).In h₀) (T : Top p loose mean mg mb h₀)
    (N : News h₀ L s.heap ((fA, W.listOf fs kf) :: (sA, W.listOf #[.int sx tsx, .int sy tsy] ns) :: (tR, instObj 365 tD) :: (tD, dictOf [⟨PyData.keyHash w.params "rows", .str "rows" t0, .ref rA⟩] nd) :: (rA, W.listOf xs k) :: (L + 1 + 1 + 1 + 1, o4) :: (L + 1 + 1 + 1, o3) :: (L + 1 + 1, o2) :: (L + 1, o1) :: ((nat_lit 411), tabObj #[]) :: dn))
    (o0 : @LT.lt Nat _ 411 L) (p1 : @LT.lt Nat _ (L + 1 + 1 + 1 + 1) sA) (p2 : @LT.lt Nat _ sA tD) (p3 : @LT.lt Nat _ tD tR) (p4 : @LT.lt Nat _ tR rA) (p5 : @LT.lt Nat _ rA fA) (f1 : ∀ q ∈ dn, q.1 ≠ sA) (f2 : ∀ q ∈ dn, q.1 ≠ (L + 1 + 1 + 1 + 1)) (f3 : ∀ q ∈ dn, q.1 ≠ (L + 1 + 1 + 1)) (f4 : ∀ q ∈ dn, q.1 ≠ 411) (d1 : o1.data = .cell (some (.ref sA))) (hx : 0 ≤ sx) (hy : 0 ≤ sy) (hy2 : sy < 2147483648) {vc4 : Option Value} (d4 : o4.data = .cell vc4)
    (ret : ∀ (m' : Str → Option Value) (v : Value) (o4' : Obj) (D : List (Addr × Obj)) (h' : Heap) (t' : Nat), Fr h₀ L h' m' →
      News h₀ L h' ((L + 1 + 1 + 1 + 1, o4') :: (L + 1 + 1 + 1, o3) :: ((nat_lit 411), tabObj #[]) :: D) → o4'.data = .cell (some v) → NotL D v → (∀ q ∈ D, q.1 ≠ (nat_lit 411)) →
      wpAny (model prog w) (callerA.deeper (envOfC (Str.ofString "law") c29 L fa (.ref (nat_lit 413)))) (execs rest (envOfC (Str.ofString "law") c29 L fa (.ref (nat_lit 413)))) QF EF { s with heap := h', toks := t' }) :
    wpAny (model prog w) (callerA.deeper (envOfC (Str.ofString "law") c29 L fa (.ref (nat_lit 413)))) (execs (y10 :: rest) (envOfC (Str.ofString "law") c29 L fa (.ref (nat_lit 413)))) QF EF s := by
  k_steps
  rename News _ _ _ _ => N9
  rename Fr _ _ _ _ => F9
  k_dflt (refine' c_one6 B F9 X N9 T rfl ?hd ?hu ?mS hx hy hy2 ?hne ?_)
  case hd => exact Nat.le_of_ble_eq_true rfl
  case hu => exact Nat.le_of_ble_eq_true rfl
  case mS => k_mem
  case hne => omega
  intro v x' y' tx' ty' n' h' t' hN F8 M8 K8
  have N8 := news_upd1 N9 (by k_upd) M8 K8
  clear M8 K8 N9 F9
  k_steps
  rename News _ _ _ _ => N9
  rename Fr _ _ _ _ => F9
  (try dsimp only)
  refine ret _ v ?o4 _ _ _ F9 ?N9 ?d9 hN ?o9
  case d9 => assumption
  case N9 => exact fun q hq => N9 q (by
    rcases List.mem_cons.mp hq with rfl | hq
    · k_mem
    rcases List.mem_cons.mp hq with rfl | hq
    · k_mem
    rcases List.mem_cons.mp hq with rfl | hq
    · k_mem
    rcases List.mem_cons.mp hq with rfl | hq
    · k_mem
    rw [List.mem_singleton.mp hq]
    k_mem)
  case o9 =>
    intro q hq
    rcases List.mem_cons.mp hq with rfl | hq
    · (show @Ne Nat _ 411); omega
    rw [List.mem_singleton.mp hq]
    (show @Ne Nat _ 411); omega

end
section
theorem regW9b45 : True := by
  w_top off
  k_with "k_steps" => (repeat' (first | (k_unfold; (try dsimp only)) | (k_unmd; k_unfold; (try dsimp only)) | (k_end; kc_close) | ((fail_if_success walk_at "stop W9b"); walk1) | ((fail_if_success walk_at "stop W9b"); dsimp only; (fail_if_success walk_at "stop W9b"); walk1) | (leave1; walk_say "STEP leave1"; try dsimp only) | fail "no step"))
  k_with "stop W9b" => (((with_reducible show wpAny _ _ (pyIter (Value.ref _)) (fun it s₂ => LoopAtV _ _ _ _ _ _ _ _ _ it s₂) _ _)))
  k_with "stop W9b" => (first | (with_reducible show wpAny _ _ (call (Value.ref 404) _ _) _ _ _) | (with_reducible show wpAny _ _ (call (Value.ref 101) _ _) _ _ _) | (with_reducible show wpAny _ _ (call (Value.ref 108) _ _) _ _ _))
  trivial
theorem W9b {fa cx : Addr} {o3 o4 : Obj} {v : Value} {D : List (Addr × Obj)} {ms : Str → Option Value} {QF : Flow → Shared → Prop} {EF : Value → Shared → Prop}
    (B : Below callerA h₀ [] h₀) (F : Fr h₀ L s.heap ms) (X : (KK w.params).In h₀) (T : Top p loose mean mg mb h₀) (Ch : CodeHd h₀ 413 411)
    (N : News h₀ L s.heap ((L + 1 + 1 + 1 + 1, o4) :: (L + 1 + 1 + 1, o3) :: ((nat_lit 411), tabObj #[]) :: D))
    (o0 : @LT.lt Nat _ 411 L) (d3 : o3.data = .cell (some (.ref cx))) (d4 : o4.data = .cell (some v)) (hN : NotL D v) (f4 : ∀ q ∈ D, q.1 ≠ (nat_lit 411))
    (ret : ∀ (m' : Str → Option Value) (tk : Nat) (h' : Heap) (ps : Array Value), Fr h₀ L h' m' → News h₀ L h' [((nat_lit 411), tabObj ps)] → QF (.ret (.bool true)) { s with heap := h', toks := tk }) :
    wpAny (model prog w) (callerA.deeper (envOfC (Str.ofString "law") c29 L fa (.ref (nat_lit 413)))) (execs [y11] (envOfC (Str.ofString "law") c29 L fa (.ref (nat_lit 413)))) QF EF s := by
  k_steps
  refine wpAny_call ?_
  k_dflt (refine' code_defFS ?k1 ?k2 ?k3 ?k4 ?k5 ?kA ?kF ?kK ?k6 ?k7 ?k8 ?k9 ?kB ?_ ?c2 ?c3 ?c4 ?c5; (case kA => exact rfl); (case kF => exact rfl); (case kK => exact rfl); (case k1 => k_asm); (case k2 => k_asm); (case k3 => k_asm); (case k4 => k_asm); (case k5 => k_asm); (case k6 => k_is); (case k7 => k_is); (case k8 => exact Nat.le_of_ble_eq_true rfl); (case k9 => first | exact BindsTo.of_eq rfl | exact binds_K (by k_in) rfl (by k_is) rfl rfl rfl); (case c5 => decide); (case kB => exact locs rfl); (case c2 => exact rfl); (case c3 => exact rfl); (case c4 => exact rfl); k_whole; intro g' L' h' FG' F' N' B' X' T' D'; (try dsimp only); (try k_fold))
  k_steps
  rename News _ _ _ _ => N9
  rename Fr _ _ _ _ => F9
  rename Below _ _ _ _ => B9
  k_dflt (refine' c_countR B9 F9 ?X ?T rfl ?hd ?hu N9 ?hv ?_)
  case X => k_asm
  case T => k_asm
  case hd => exact Nat.le_of_ble_eq_true rfl
  case hu => exact Nat.le_of_ble_eq_true rfl
  case hv => exact hN.mono (fun q hq => by repeat (first | exact hq | refine List.mem_cons_of_mem _ ?_))
  intro e2 t2 vs2 g2 h2 tk2 F2 R2 U2
  clear N9
  (try k_unfold)
  refine leave_onX B9 rfl F2 R2 U2 ?_
  intro h3 R3 U3
  (try k_unfold)
  k_steps
  refine wpAny_call ?_
  k_dflt (refine' code_defFS ?k1 ?k2 ?k3 ?k4 ?k5 ?kA ?kF ?kK ?k6 ?k7 ?k8 ?k9 ?kB ?_ ?c2 ?c3 ?c4 ?c5; (case kA => exact rfl); (case kF => exact rfl); (case kK => exact rfl); (case k1 => k_asm); (case k2 => k_asm); (case k3 => k_asm); (case k4 => k_asm); (case k5 => k_asm); (case k6 => k_is); (case k7 => k_is); (case k8 => exact Nat.le_of_ble_eq_true rfl); (case k9 => first | exact BindsTo.of_eq rfl | exact binds_K (by k_in) rfl (by k_is) rfl rfl rfl); (case c5 => decide); (case kB => exact locs rfl); (case c2 => exact rfl); (case c3 => exact rfl); (case c4 => exact rfl); k_whole; intro g' L' h' FG' F' N' B' X' T' D'; (try dsimp only); (try k_fold))
  k_steps
  rename News _ _ _ _ => N9
  rename Fr _ _ _ _ => F9
  rename Below _ _ _ _ => B9
  k_dflt (refine' c_toldR B9 F9 ?X ?T rfl ?hd ?hu N9 ?hv (.head _) ?_)
  case X => k_asm
  case T => k_asm
  case hd => exact Nat.le_of_ble_eq_true rfl
  case hu => exact Nat.le_of_ble_eq_true rfl
  case hv => exact hN.mono (fun q hq => by repeat (first | exact hq | refine List.mem_cons_of_mem _ ?_))
  intro e3 t3 vs3 g3 h4 tk3 lz F3 R4 U4
  clear N9
  (try k_unfold)
  refine leave_onX B9 rfl F3 R4 U4 ?_
  intro h5 R5 U5
  (try k_unfold)
  k_steps
  rename News _ _ _ _ => N9
  rename Fr _ _ _ _ => F9
  refine' ret _ _ _ ?ps F9 (fun q hq => List.mem_singleton.mp hq ▸ N9 _ ?m)
  case m => k_mem

end
section
theorem regW446 : True := by
  w_top off
  k_with_none
  k_with "lt" => (first | with_reducible assumption | exact And.left (by k_extra "ca0") | exact And.right (by k_extra "ca1"))
  k_with "ca0" => (first | with_reducible assumption | exact And.right (by k_extra "ca1"))
  k_with "ca1" => (first | with_reducible assumption | exact And.right (by k_extra "ca2"))
  k_with "ca2" => (first | with_reducible assumption | exact And.right (by k_extra "ca3"))
  k_with "ca3" => (first | with_reducible assumption | exact And.right (by k_extra "ca4"))
  k_with "ca4" => (first | with_reducible assumption | exact And.right (by k_extra "ca5"))
  k_with "ca5" => (first | with_reducible assumption | exact And.right (by k_extra "ca6"))
  k_with "ca6" => (first | with_reducible assumption | exact And.right (by k_extra "ca7"))
  k_with "ca7" => (first | with_reducible assumption | exact And.right (by k_extra "ca8"))
  k_with "ca8" => (first | with_reducible assumption | exact And.right (by k_extra "ca9"))
  k_with "ca9" => (first | with_reducible assumption | exact And.right (by k_extra "ca10"))
  k_with "ca10" => (first | with_reducible assumption | exact And.right (by k_extra "ca11"))
  k_with "ca11" => (first | with_reducible assumption | exact And.right (by k_extra "ca12"))
  k_with "ca12" => (first | with_reducible assumption | exact And.right (by k_extra "ca13"))
  k_with "ca13" => (first | with_reducible assumption | exact And.right (by k_extra "ca14"))
  k_with "ca14" => (first | with_reducible assumption | exact And.right (by k_extra "ca15"))
  k_with "ca15" => (first | with_reducible assumption | exact And.right (by k_extra "ca16"))
  k_with "ca16" => (first | with_reducible assumption | exact And.right (by k_extra "ca17"))
  k_with "ca17" => (first | with_reducible assumption | exact And.right (by k_extra "ca18"))
  k_with "ca18" => (first | with_reducible assumption | exact And.right (by k_extra "ca19"))
  k_with "ca19" => (first | with_reducible assumption | exact And.right (by k_extra "ca20"))
  k_with "ca20" => (first | with_reducible assumption | exact And.right (by k_extra "ca21"))
  k_with "ca21" => (first | with_reducible assumption | exact And.right (by k_extra "ca22"))
  k_with "ca22" => (first | with_reducible assumption | exact And.right (by k_extra "ca23"))
  k_with "ca23" => (first | with_reducible assumption | exact And.right (by k_extra "ca24"))
  k_with "ca24" => (first | with_reducible assumption | exact And.right (by k_extra "ca25"))
  k_with "ca25" => (first | with_reducible assumption)
  k_with "tr0" => (first | with_reducible assumption | exact Nat.lt_trans (by with_reducible assumption) (by k_extra "tr1"))
  k_with "tr1" => (first | with_reducible assumption | exact Nat.lt_trans (by with_reducible assumption) (by k_extra "tr2"))
  k_with "tr2" => (first | with_reducible assumption | exact Nat.lt_trans (by with_reducible assumption) (by k_extra "tr3"))
  k_with "tr3" => (first | with_reducible assumption | exact Nat.lt_trans (by with_reducible assumption) (by k_extra "tr4"))
  k_with "tr4" => (first | with_reducible assumption | exact Nat.lt_trans (by with_reducible assumption) (by k_extra "tr5"))
  k_with "tr5" => (first | with_reducible assumption | exact Nat.lt_trans (by with_reducible assumption) (by k_extra "tr6"))
  k_with "tr6" => (first | with_reducible assumption | exact Nat.lt_trans (by with_reducible assumption) (by k_extra "tr7"))
  k_with "tr7" => (first | with_reducible assumption | exact Nat.lt_trans (by with_reducible assumption) (by k_extra "tr8"))
  k_with "tr8" => (first | with_reducible assumption | exact Nat.lt_trans (by with_reducible assumption) (by k_extra "tr9"))
  k_with "tr9" => (first | with_reducible assumption | exact Nat.lt_trans (by with_reducible assumption) (by k_extra "tr10"))
  k_with "tr10" => (first | with_reducible assumption | exact Nat.lt_trans (by with_reducible assumption) (by k_extra "tr11"))
  k_with "tr11" => (first | with_reducible assumption | exact Nat.lt_trans (by with_reducible assumption) (by k_extra "tr12"))
  k_with "tr12" => (first | with_reducible assumption | exact Nat.lt_trans (by with_reducible assumption) (by k_extra "tr13"))
  k_with "tr13" => (first | with_reducible assumption | exact Nat.lt_trans (by with_reducible assumption) (by k_extra "tr14"))
  k_with "tr14" => (first | with_reducible assumption | exact Nat.lt_trans (by with_reducible assumption) (by k_extra "tr15"))
  k_with "tr15" => (first | with_reducible assumption | exact Nat.lt_trans (by with_reducible assumption) (by k_extra "tr16"))
  k_with "tr16" => (first | with_reducible assumption | exact Nat.lt_trans (by with_reducible assumption) (by k_extra "tr17"))
  k_with "tr17" => (first | with_reducible assumption | exact Nat.lt_trans (by with_reducible assumption) (by k_extra "tr18"))
  k_with "tr18" => (first | with_reducible assumption | exact Nat.lt_trans (by with_reducible assumption) (by k_extra "tr19"))
  k_with "tr19" => (first | with_reducible assumption | exact Nat.lt_trans (by with_reducible assumption) (by k_extra "tr20"))
  k_with "tr20" => (first | with_reducible assumption | exact Nat.lt_trans (by with_reducible assumption) (by k_extra "tr21"))
  k_with "tr21" => (first | with_reducible assumption | exact Nat.lt_trans (by with_reducible assumption) (by k_extra "tr22"))
  k_with "tr22" => (first | with_reducible assumption | exact Nat.lt_trans (by with_reducible assumption) (by k_extra "tr23"))
  k_with "tr23" => (first | with_reducible assumption)
  k_with "up0" => (first | k_extra "tr0" | exact Nat.lt_trans (Nat.lt_add_one _) (by k_extra "up1"))
  k_with "up1" => (first | k_extra "tr0" | exact Nat.lt_trans (Nat.lt_add_one _) (by k_extra "up2"))
  k_with "up2" => (first | k_extra "tr0" | exact Nat.lt_trans (Nat.lt_add_one _) (by k_extra "up3"))
  k_with "up3" => (first | k_extra "tr0" | exact Nat.lt_trans (Nat.lt_add_one _) (by k_extra "up4"))
  k_with "up4" => (first | k_extra "tr0" | exact Nat.lt_trans (Nat.lt_add_one _) (by k_extra "up5"))
  k_with "up5" => (first | k_extra "tr0")
  k_with "up" => (first | exact Nat.lt_trans (Nat.lt_add_one _) (by k_extra "up0") | exact Nat.lt_trans (by with_reducible assumption) (Nat.lt_trans (Nat.lt_add_one _) (by k_extra "up0")))
  k_with "ord" => (first | k_extra "tr0" | exact And.intro (by k_extra "ord") (by k_extra "ord") | exact Nat.le_of_lt (by k_extra "tr0") | exact neA (by k_extra "tr0") | exact neB (by k_extra "tr0") | exact Nat.le_refl _ | k_extra "lt" | exact Nat.le_of_lt (by k_extra "lt") | exact neA (by k_extra "lt") | exact neB (by k_extra "lt") | omega)
  k_with "rm" => (first | exact room (by with_reducible assumption) (Nat.le_of_ble_eq_true rfl) | (simp only [Nat.add_assoc]; exact room (by with_reducible assumption) (Nat.le_of_ble_eq_true rfl)) | omega)
  k_with "sub" => (first | exact List.forall_mem_nil _ | (refine' subc ?sa ?sb; (case sa => k_mem); (case sb => k_extra "sub")) | (intro q hq; repeat (first | exact hq | refine List.mem_cons_of_mem _ ?_)))
  k_with "lt on" => (skip)
  k_with "k_ne" => (refine neN ?_; (try dsimp only); first | with_reducible assumption | exact neA (by k_extra "tr0") | exact neB (by k_extra "tr0") | exact neA (And.left (by k_extra "ca0")) | exact neB (And.left (by k_extra "ca0")) | exact neA (by k_extra "up") | exact neB (by k_extra "up") | exact neA (And.right (by k_extra "ca1")) | exact neB (And.right (by k_extra "ca1")) | omega)
  k_with "k_all" => (first | exact offn | (refine' offc ?a ?b; (case a => k_ne); (case b => k_all)))
  k_with "k_room" => (((try simp only [depth_mark, depth_under_make, depth_under_kw, depth_in1, depth_deeper, depth_caller]); (try dsimp only [ktrTop]); (simp only [recursionLimit]); k_extra "rm"))
  k_with "ktr_enter" => (first | (refine' code_defF ?k1 ?k2 ?k3 ?k4 ?k5 ?kA ?kF ?kK ?k6 ?k7 ?k8 ?k9 ?kB ?_ ?c2 ?c3 ?c4 ?c5; (case kA => exact rfl); (case kF => exact rfl); (case kK => first | exact rfl | assumption); (case k1 => k_asm); (case k2 => k_asm); (case k3 => k_asm); (case k4 => k_asm); (case k5 => k_asm); (case k6 => k_is); (case k7 => k_is); (case k8 => k_room); (case k9 => first | exact BindsTo.of_eq rfl | exact binds_K (by k_in) rfl (by k_is) rfl rfl rfl); (case c5 => decide); (case kB => exact locs rfl); (case c2 => exact rfl); (case c3 => exact rfl); (case c4 => exact rfl); k_whole; intro g' L' h' FG' F' N' B' X' T' K'; (try dsimp only); (try k_fold)) | (refine' code_defCF ?k1 ?k2 ?k3 ?k4 ?k5 ?kA ?kF ?kK ?k6 ?k7 ?k8 ?k9 ?kB ?kD ?_ ?c2 ?c3 ?c4; (case kA => exact rfl); (case kF => exact rfl); (case kK => first | exact rfl | assumption); (case k1 => k_asm); (case k2 => k_asm); (case k3 => k_asm); (case k4 => k_asm); (case k5 => k_asm); (case k6 => k_is); (case k7 => k_is); (case k8 => k_room); (case k9 => first | exact BindsTo.of_eq rfl | exact binds_K (by k_in) rfl (by k_is) rfl rfl rfl); (case kB => exact rfl); (case kD => decide +kernel); (case c2 => exact rfl); (case c3 => exact rfl); (case c4 => exact rfl); k_whole; intro g' L' h' tk' cells' FG' F' N' Y' B' X' T' l1 K'; (try k_lt l1); k_cells Y'; (try simp only [List.cons_append, List.nil_append] at N'); (try dsimp only); (try k_lift B'); (try k_fold)))
  k_with "ktr_rel" => ((refine' Kept.fin ?kkA ?kkB; (case kkA => assumption); (case kkB => assumption)))
  k_with "k_mem" => (first | exact List.Mem.head _ | ktr_member | (refine' List.mem_cons_of_mem _ ?_; k_mem))
  k_with "my side" => (first | with_reducible assumption | ((simp only [depth_deeper, units_deeper, depth_in1, units_in1, Around.mark_units]); (try dsimp only [ktrTop]); k_extra "rm") | k_extra "rm" | ((try dsimp only [ktrTop]); k_extra "rm") | (simp only [List.size_toArray, List.length_cons, List.length_nil]; omega))
  k_with "my sub" => ((refine' News.subL ?un ?us; (case un => k_asm); (case us => k_subL)))
  k_with "my stop" => ((with_reducible show wpAny _ _ (call (Value.ref 383) _ _) _ _ _))
  k_with "k_steps" => (repeat' (first | (k_unfold; (try dsimp only)) | (k_unmd; k_unfold; (try dsimp only)) | (k_end; kc_close) | ((fail_if_success walk_at "my stop"); walk1) | ((fail_if_success walk_at "my stop"); dsimp only; (fail_if_success walk_at "my stop"); walk1) | (leave1; walk_say "STEP leave1"; try dsimp only) | fail "no step"))
  k_with "call builtin:len m" => ((k_here; (with_reducible show wpAny _ _ (call (Value.builtin "len") [Value.ref _] _) _ _ _); k_dflt (first | (refine' len_push ?N ?m ?z ?_; (case N => k_asm); (case m => k_mem); (case z => walk_at "my side")) | (refine' len_any ?N ?m ?z ?_; (case N => k_asm); (case m => k_mem); (case z => walk_at "my size"))); (try dsimp only)))
  k_with "k_all" => (with_reducible assumption)
  k_with "my get" => (first | with_reducible assumption | exact push_get (by walk_at "my get"))
  k_with "my size" => (((try simp only [Array.size_push, List.size_toArray, List.length_cons, List.length_nil]); omega))
  k_with "subscriptTail m" => ((k_here; (with_reducible show wpAny _ _ (subscriptTail _ _ (Value.ref _) (Value.int _ _)) _ _ _); k_dflt (refine' item_at ?N ?m ?z ?v ?s ?_; (case N => k_asm); (case m => k_mem); (case z => omega); (case v => walk_at "my get"); (case s => walk_at "my size"); k_whole)))
  k_with "lcg_off" => (assumption)
  k_with "my turn" => ((with_unfolding_all first | (refine LCg.CompRest.succ ?_; intro v' I' oI' C' oC' D' m' h' tk' E' hv' hC' hx' F' N' off' ne'; (first | lcg_open hv' | (obtain ⟨t9', hv9'⟩ := hv'; subst hv9'))) | refine LCg.CompRest.zero ?_))
  k_with "CompRest m" => (walk_at "my turn")
  k_with "k_steps" => (repeat' (first | (k_unfold; (try dsimp only)) | (k_unmd; k_unfold; (try dsimp only)) | (k_end; kc_close) | ((fail_if_success walk_at "stop b"); walk1) | ((fail_if_success walk_at "stop b"); dsimp only; (fail_if_success walk_at "stop b"); walk1) | (leave1; walk_say "STEP leave1"; try dsimp only) | fail "no step"))
  k_with "stop b" => (((with_reducible show wpAny _ _ (pyIter (Value.ref _)) (fun it s₂ => LoopAtV _ _ _ _ _ _ _ _ _ it s₂) _ _)))
  k_with "my units" => (((try simp only [depth_deeper, units_deeper, depth_in1, units_in1, Around.mark_units]); (try dsimp only [ktrTop]); (simp only [cLine]); omega))
  k_with "compareOp Eq ref ref m" => ((k_here; (with_reducible show wpAny _ _ (compareOp CmpOp.Eq (Value.ref _) (Value.ref _)) _ _ _); k_dflt (first | refine ke_eq_ints (by is_list) (by is_list) (by l_ints) (by l_ints) (by walk_at "my units") ?_ | refine eq_dataH (by ke_read) (by ke_read) (by ke_shaped) (by ke_shaped) (by walk_at "my units") ?_); ke_norm))
  k_with "compareOp NotEq ref ref m" => ((k_here; (with_reducible show wpAny _ _ (compareOp CmpOp.NotEq (Value.ref _) (Value.ref _)) _ _ _); k_dflt (first | refine ke_ne_ints (by is_list) (by is_list) (by l_ints) (by l_ints) (by walk_at "my units") ?_ | refine ne_dataH (by ke_read) (by ke_read) (by ke_shaped) (by ke_shaped) (by walk_at "my units") ?_); ke_norm))
  k_with "subscriptTail Name Constant ref int m" => ((k_here; (with_reducible show wpAny _ _ (subscriptTail _ _ (Value.ref _) (Value.int _ _)) _ _ _); k_dflt (refine' item_tup ?N ?m ?a ?b ?c ?d ?_; (case N => k_asm); (case m => k_mem); (case a => decide); (case b => decide); (case c => rfl); (case d => rfl); k_whole)))
  k_with "my take" => (((rename News _ _ _ _ => N9); k_dflt (refine' c_take ?B ?F ?X ?N ?T ?hk ?hd ?hu ?hx ?hy ?hy2 ?ht ?ht2 ?_; (case B => k_asm); (case F => k_asm); (case X => k_asm); (case N => (refine' News.subL N9 ?u; (case u => k_subL))); (case T => k_asm); (case hk => exact rfl); (case hd => first | exact Nat.le_of_ble_eq_true rfl | walk_at "my side"); (case hu => first | exact Nat.le_of_ble_eq_true rfl | walk_at "my side"); (case hx => walk_at "my side"); (case hy => walk_at "my side"); (case hy2 => walk_at "my side"); (case ht => walk_at "my side"); (case ht2 => walk_at "my side")); (intro k9 tk9 x9 y9 tx9 ty9 n9 h9 t9 hk9 hl9 hx9 hy9 hz9 F9 M9 K9); (have N8 := news_upd1 N9 (by k_upd) M9 K9); clear M9 K9; (try k_sweep); (try dsimp only); (try k_fold)))
  k_with "call ref m" => (((with_reducible show wpAny _ _ (call (Value.ref 383) [Value.ref _, Value.int _ _] _) _ _ _); k_dflt (walk_at "my take")))
  k_with "my oneV" => (((rename News _ _ _ _ => N9); k_dflt (refine' c_oneV ?B ?F ?X ?N ?T ?hk ?hd ?hu ?m1 ?m2 ?hx ?hy ?hy2 ?hne ?hv ?hv2 ?hg ?_; (case B => k_asm); (case F => k_asm); (case X => k_asm); (case N => exact N9); (case T => k_asm); (case hk => exact rfl); (case hd => first | exact Nat.le_of_ble_eq_true rfl | walk_at "my side"); (case hu => first | exact Nat.le_of_ble_eq_true rfl | walk_at "my side"); (case m1 => k_mem); (case hg => with_reducible assumption); (case m2 => k_mem); (case hx => with_reducible assumption); (case hy => with_reducible assumption); (case hy2 => with_reducible assumption); (case hne => k_ne); (case hv => with_reducible assumption); (case hv2 => with_reducible assumption)); (intro v9 sx9 sy9 tx9 ty9 n9 h9 t9 gv9 hx9 hy9 hz9 F9 M9 K9); (have N8 := news_upd1 N9 (by k_upd) M9 K9); clear M9 K9; (try k_sweep); (try dsimp only); (try k_fold)))
  k_with "call ref m" => (((with_reducible show wpAny _ _ (call (Value.ref 390) [Value.ref _, Value.ref _] _) _ _ _); k_dflt (walk_at "my oneV")))
  k_with "k_steps" => (repeat' (first | (k_unfold; (try dsimp only)) | (k_unmd; k_unfold; (try dsimp only)) | (k_end; kc_close) | ((fail_if_success walk_at "stop W4"); walk1) | ((fail_if_success walk_at "stop W4"); dsimp only; (fail_if_success walk_at "stop W4"); walk1) | (leave1; walk_say "STEP leave1"; try dsimp only) | fail "no step"))
  k_with "stop W4" => (((with_reducible show wpAny _ _ (pyIter (Value.ref _)) (fun it s₂ => LoopAtV _ _ _ _ _ _ _ _ _ it s₂) _ _)))
  k_with "stop W4" => (((with_reducible show LCg.CompSrc _ _ _ _ _ _ _ _ _ _ _ _ _ _)))
  trivial
theorem W4 {fa sA tD tR rA fA : Addr} {lo : Nat} {o1 o2 o3 o4 : Obj} {sx sy : Int} {tsx tsy t0 : Tok} {ns nd k kf : Nat} {xs fs : Array Value} {nn dn : List (Addr × Obj)} {ms : Str → Option Value} {rest : List Stmt} {QF : Flow → Shared → Prop} {EF : Value → Shared → Prop}
    {t : Addr} (B : Below callerA h₀ [] h₀) (F : Fr h₀ L s.heap ms) (X : (KK w.params).In h₀) (T : Top p loose mean mg mb h₀)
    (N : News h₀ L s.heap ((fA, W.listOf fs kf) :: (sA, W.listOf #[.int sx tsx, .int sy tsy] ns) :: (tR, instObj 365 tD) :: (tD, dictOf [⟨PyData.keyHash w.params "rows", .str "rows" t0, .ref rA⟩] nd) :: (rA, W.listOf xs k) :: (L + 1 + 1 + 1 + 1, o4) :: (L + 1 + 1 + 1, o3) :: (L + 1 + 1, o2) :: (L + 1, o1) :: ((nat_lit 411), tabObj #[]) :: dn))
    (e1 : ms "tree" = some (.ref tR)) (e2 : ms "here" = some (.ref t)) (o0 : @LT.lt Nat _ 411 L) (p1 : @LT.lt Nat _ (L + 1 + 1 + 1 + 1) sA) (p2 : @LT.lt Nat _ sA tD) (p3 : @LT.lt Nat _ tD tR) (p4 : @LT.lt Nat _ tR rA) (p5 : @LT.lt Nat _ rA fA) (f1 : ∀ q ∈ dn, q.1 ≠ sA) (f2 : ∀ q ∈ dn, q.1 ≠ (L + 1 + 1 + 1 + 1)) (f3 : ∀ q ∈ dn, q.1 ≠ (L + 1 + 1 + 1)) (f4 : ∀ q ∈ dn, q.1 ≠ 411) (d1 : o1.data = .cell (some (.ref sA))) (d2 : o2.data = .cell (some (.ref fA))) (hg : ∀ v ∈ fs, Good w.params dn xs v) (hf1 : 2 ≤ fs.size) (hf2 : fs.size ≤ 20) (hxs : xs.size ≤ 20) (hx : 0 ≤ sx) (hy : 0 ≤ sy) (hy2 : sy < 2147483648)
    (ret : ∀ (m' : Str → Option Value) (D : Addr) (ys : List Value) (sx' sy' : Int) (tsx' tsy' : Tok) (ns' : Nat) (h' : Heap) (t' : Nat), 0 ≤ sx' → 0 ≤ sy' → sy' < 2147483648 → ys.length ≤ 4 → (∀ y ∈ ys, Good w.params dn xs y) → Fr h₀ L h' m' → m' "tree" = some (.ref tR) → m' "here" = some (.ref t) → m' "some" = some (.ref D) →
      News h₀ L h' ((D, LCg.lst ys) :: ((fA, W.listOf fs kf) :: (sA, W.listOf #[.int sx' tsx', .int sy' tsy'] ns') :: (tR, instObj 365 tD) :: (tD, dictOf [⟨PyData.keyHash w.params "rows", .str "rows" t0, .ref rA⟩] nd) :: (rA, W.listOf xs k) :: (L + 1 + 1 + 1 + 1, o4) :: (L + 1 + 1 + 1, o3) :: (L + 1 + 1, o2) :: (L + 1, o1) :: ((nat_lit 411), tabObj #[]) :: dn)) → LCg.Off1 D ((fA, W.listOf fs kf) :: (sA, W.listOf #[.int sx' tsx', .int sy' tsy'] ns') :: (tR, instObj 365 tD) :: (tD, dictOf [⟨PyData.keyHash w.params "rows", .str "rows" t0, .ref rA⟩] nd) :: (rA, W.listOf xs k) :: (L + 1 + 1 + 1 + 1, o4) :: (L + 1 + 1 + 1, o3) :: (L + 1 + 1, o2) :: (L + 1, o1) :: ((nat_lit 411), tabObj #[]) :: dn) →
      wpAny (model prog w) (callerA.deeper (envOfC (Str.ofString "law") c29 L fa (.ref (nat_lit 413)))) (execs rest (envOfC (Str.ofString "law") c29 L fa (.ref (nat_lit 413)))) QF EF { s with heap := h', toks := t' }) :
    wpAny (model prog w) (callerA.deeper (envOfC (Str.ofString "law") c29 L fa (.ref (nat_lit 413)))) (execs (y5 :: rest) (envOfC (Str.ofString "law") c29 L fa (.ref (nat_lit 413)))) QF EF s := by
  rw [mapH e1 e2] at F
  delta y5
  refine wpAny_execs_cons ?_
  k_dflt (refine LCg.Assign_ListComp_U (F₀ := by k_asm) (by rfl) (by with_unfolding_all rfl) (by with_unfolding_all rfl) (by decide) (by rfl) (by decide) (by rfl) (by rfl) (by rfl) ?_)
  k_steps
  rename News _ _ _ _ => N9
  rename Fr _ _ _ _ => F9
  rename IsRange _ _ _ _ _ _ _ _ => R9
  k_dflt (refine LCg.CompSrc.range (by rfl) F9 N9 R9 (by exact PySem.small_one (by omega) (by omega) (by omega) (by omega)) (by exact rangeSize_nat _ _) (by rw [PySem.sizeLine_eq]; omega) ?_)
  intro g'
  refine comp_ind (fun ys nw => ∃ (a b : Int) (ta tb : Tok) (n : Nat), 0 ≤ a ∧ 0 ≤ b ∧ b < 2147483648 ∧ nw = (fA, W.listOf fs kf) :: (sA, W.listOf #[.int a ta, .int b tb] n) :: (tR, instObj 365 tD) :: (tD, dictOf [⟨PyData.keyHash w.params "rows", .str "rows" t0, .ref rA⟩] nd) :: (rA, W.listOf xs k) :: (L + 1 + 1 + 1 + 1, o4) :: (L + 1 + 1 + 1, o3) :: (L + 1 + 1, o2) :: (L + 1, o1) :: ((nat_lit 411), tabObj #[]) :: dn ∧ ∀ y ∈ ys, Good w.params dn xs y) ⟨_, _, _, _, _, by with_reducible assumption, by with_reducible assumption, by with_reducible assumption, rfl, fun _ h => nomatch h⟩ ?turn ?fin
  case fin =>
    intro ys nw hl hJ
    obtain ⟨a, b, ta, tb, n, ha, hb, hb2, rfl, hall⟩ := hJ
    intro D h tk F' N' off
    exact ret _ D ys a b ta tb n h tk ha hb hb2 (by omega) hall F' rfl rfl rfl N' off
  case turn =>
    intro i v ys nw I oI C oC D m₂ h tk E' hi hl hP hJ hC hx F' N' off ne
    obtain ⟨a, b, ta, tb, n, ha, hb, hb2, rfl, hall⟩ := hJ
    have off2 := off
    dsimp only [LCg.Off3] at off2
    have nI : @Ne Nat I sA := Ne.symm off2.2.1.1
    have nC : @Ne Nat C sA := Ne.symm off2.2.1.2.1
    have nD : @Ne Nat D sA := Ne.symm off2.2.1.2.2
    clear off2
    clear N9 F9
    k_steps
    rename News _ _ _ _ => N7
    rename Fr _ _ _ _ => F7
    rename Good _ _ _ _ => gv
    refine LCg.CompEnd.intro F7 N7 _ (fun p hp => hp) ?off trivial ⟨_, _, _, _, _, by with_reducible assumption, by with_reducible assumption, by with_reducible assumption, rfl, ?all⟩
    case off =>
      dsimp only [LCg.Off3] at off ⊢
      exact off
    case all =>
      intro y hy
      rcases List.mem_append.mp hy with h | h
      · exact hall y h
      · rw [List.mem_singleton.mp h]; exact gv

end
section
theorem regW347 : True := by
  w_top off
  k_with "my oneG" => (((rename News _ _ _ _ => N9); k_dflt (refine' c_oneG ?B ?F ?X ?N ?T ?hk ?hd ?hu ?m1 ?m2 ?hx ?hy ?hy2 ?hne ?hv ?hv2 ?hg ?_; (case B => k_asm); (case F => k_asm); (case X => k_asm); (case N => exact N9); (case T => k_asm); (case hk => exact rfl); (case hd => first | exact Nat.le_of_ble_eq_true rfl | walk_at "my side"); (case hu => first | exact Nat.le_of_ble_eq_true rfl | walk_at "my side"); (case m1 => k_mem); (case hg => with_reducible assumption); (case m2 => k_mem); (case hx => with_reducible assumption); (case hy => with_reducible assumption); (case hy2 => with_reducible assumption); (case hne => k_ne); (case hv => with_reducible assumption); (case hv2 => with_reducible assumption)); (intro r9 x9 dx9 ca9 cb9 cc9 i9 ti9 aa9 ab9 ac9 ba9 bb9 bc9 ta9 tb9 tc9 td9 te9 tf9 tg9 th9 tj9 nm9 lc9 ur9 kd9 vl9 pr9 sx9 sy9 tx9 ty9 n9 h9 t9 ga9 gb9 gc9 gd9 ge9 oa9 ob9 oc9 hx9 hy9 hz9 F9 M9 K9); (have N8 := news_upd1 N9 (by k_upd) M9 K9); clear M9 K9; (try k_sweep); (try dsimp only); (try k_fold)))
  k_with "call ref m" => (((with_reducible show wpAny _ _ (call (Value.ref 390) [Value.ref _, Value.ref _] _) _ _ _); k_dflt (walk_at "my oneG")))
  k_with "k_steps" => (repeat' (first | (k_unfold; (try dsimp only)) | (k_unmd; k_unfold; (try dsimp only)) | (k_end; kc_close) | ((fail_if_success walk_at "stop W3"); walk1) | ((fail_if_success walk_at "stop W3"); dsimp only; (fail_if_success walk_at "stop W3"); walk1) | (leave1; walk_say "STEP leave1"; try dsimp only) | fail "no step"))
  k_with "stop W3" => (((with_reducible show wpAny _ _ (pyIter (Value.ref _)) (fun it s₂ => LoopAtV _ _ _ _ _ _ _ _ _ it s₂) _ _)))
  trivial
theorem News.mid10 {h : Heap} {a1 a2 a3 a4 a5 a6 a7 a8 a9 a10 : Addr × Obj} {D tail : List (Addr × Obj)} (N : News h₀ L h (D ++ (a1 :: a2 :: a3 :: a4 :: a5 :: a6 :: a7 :: a8 :: a9 :: a10 :: tail))) : News h₀ L h (a1 :: a2 :: a3 :: a4 :: a5 :: a6 :: a7 :: a8 :: a9 :: a10 :: (D ++ tail)) := fun q hq => N q (by
  simp only [List.mem_cons, List.mem_append] at hq ⊢
  rcases hq with h | h | h | h | h | h | h | h | h | h | h | h <;> simp only [h, eq_self, true_or, or_true])
theorem regW348 : True := by
  k_with "stop W3" => (((with_reducible show wpAny _ _ (call (Value.ref 154) _ _) _ _ _)))
  trivial
theorem W3 {fa sA tD tR rA fA : Addr} {lo : Nat} {o1 o2 o3 o4 : Obj} {sx sy : Int} {tsx tsy t0 : Tok} {ns nd k kf : Nat} {xs fs : Array Value} {nn dn : List (Addr × Obj)} {ms : Str → Option Value} {rest : List Stmt} {QF : Flow → Shared → Prop} {EF : Value → Shared → Prop}
    {vc3 : Option Value} (B : Below callerA h₀ [] h₀) (F : Fr h₀ L s.heap ms) (X : (KK w.params).In h₀) (T : Top p loose mean mg mb h₀)
    (N : News h₀ L s.heap ((fA, W.listOf fs kf) :: (sA, W.listOf #[.int sx tsx, .int sy tsy] ns) :: (tR, instObj 365 tD) :: (tD, dictOf [⟨PyData.keyHash w.params "rows", .str "rows" t0, .ref rA⟩] nd) :: (rA, W.listOf xs k) :: (L + 1 + 1 + 1 + 1, o4) :: (L + 1 + 1 + 1, o3) :: (L + 1 + 1, o2) :: (L + 1, o1) :: ((nat_lit 411), tabObj #[]) :: dn))
    (e1 : ms "tree" = some (.ref tR)) (o0 : @LT.lt Nat _ 411 L) (p1 : @LT.lt Nat _ (L + 1 + 1 + 1 + 1) sA) (p2 : @LT.lt Nat _ sA tD) (p3 : @LT.lt Nat _ tD tR) (p4 : @LT.lt Nat _ tR rA) (p5 : @LT.lt Nat _ rA fA) (f1 : ∀ q ∈ dn, q.1 ≠ sA) (f2 : ∀ q ∈ dn, q.1 ≠ (L + 1 + 1 + 1 + 1)) (f3 : ∀ q ∈ dn, q.1 ≠ (L + 1 + 1 + 1)) (f4 : ∀ q ∈ dn, q.1 ≠ 411) (d1 : o1.data = .cell (some (.ref sA))) (d2 : o2.data = .cell (some (.ref fA))) (hg : ∀ v ∈ fs, Good w.params dn xs v) (hf1 : 2 ≤ fs.size) (hf2 : fs.size ≤ 20) (hxs : xs.size ≤ 20) (hx : 0 ≤ sx) (hy : 0 ≤ sy) (hy2 : sy < 2147483648) (d3 : o3.data = .cell vc3)
    (ret : ∀ (m' : Str → Option Value) (t cx : Addr) (i sx' sy' : Int) (ti a1 a2 a3 tsx' tsy' : Tok) (nm lc ur : Str) (ns' : Nat) (o3' : Obj) (D : List (Addr × Obj)) (h' : Heap) (t' : Nat), 0 ≤ sx' → 0 ≤ sy' → sy' < 2147483648 → Fr h₀ L h' m' → m' "tree" = some (.ref tR) → m' "here" = some (.ref t) → (t, tupO [.int i ti, .str nm a1, .str lc a2, .str ur a3]) ∈ dn →
      News h₀ L h' ((fA, W.listOf fs kf) :: (sA, W.listOf #[.int sx' tsx', .int sy' tsy'] ns') :: (tR, instObj 365 tD) :: (tD, dictOf [⟨PyData.keyHash w.params "rows", .str "rows" t0, .ref rA⟩] nd) :: (rA, W.listOf xs k) :: (L + 1 + 1 + 1 + 1, o4) :: (L + 1 + 1 + 1, o3') :: (L + 1 + 1, o2) :: (L + 1, o1) :: ((nat_lit 411), tabObj #[]) :: (D ++ dn)) → o3'.data = .cell (some (.ref cx)) → CtxAt w.params cx i ti D → (∀ q ∈ D, @LT.lt Nat _ fA q.1) →
      wpAny (model prog w) (callerA.deeper (envOfC (Str.ofString "law") c29 L fa (.ref (nat_lit 413)))) (execs rest (envOfC (Str.ofString "law") c29 L fa (.ref (nat_lit 413)))) QF EF { s with heap := h', toks := t' }) :
    wpAny (model prog w) (callerA.deeper (envOfC (Str.ofString "law") c29 L fa (.ref (nat_lit 413)))) (execs (y3 :: y4 :: rest) (envOfC (Str.ofString "law") c29 L fa (.ref (nat_lit 413)))) QF EF s := by
  rw [mapT e1] at F
  k_steps
  rename News _ _ _ _ => N9
  rename Fr _ _ _ _ => F9
  rename (_, tupO _) ∈ dn => ga9
  k_dflt (refine' c_ctx B F9 X N9 T rfl ?hd ?hu ?_)
  case hd => exact Nat.le_of_ble_eq_true rfl
  case hu => exact Nat.le_of_ble_eq_true rfl
  intro cx lo D full h9 t9 F8 M9 sp al hD hc
  subst sp
  have N8 := News.mid10 M9
  simp only [AllLt, and_true] at al
  have g3 : ∀ q ∈ D ++ dn, q.1 ≠ L + 1 + 1 + 1 := offApp (offLe hD (by omega)) f3
  have gD : ∀ q ∈ D, @LT.lt Nat _ fA q.1 := fun q hq => Nat.lt_of_lt_of_le al.1 (hD q hq)
  clear N9 F9 M9 al hD
  k_steps
  rename News _ _ _ _ => N6
  rename Fr _ _ _ _ => F6
  (try dsimp only)
  exact ret _ _ _ _ _ _ _ _ _ _ _ _ _ _ _ _ _ _ _ _ (by with_reducible assumption) (by with_reducible assumption) (by with_reducible assumption) F6 rfl rfl ga9 N6 (by assumption) hc gD

end
section
theorem regC2049 : True := by
  w_top off
  k_with_none
  k_with "lt" => (first | with_reducible assumption | exact And.left (by k_extra "ca0") | exact And.right (by k_extra "ca1"))
  k_with "ca0" => (first | with_reducible assumption | exact And.right (by k_extra "ca1"))
  k_with "ca1" => (first | with_reducible assumption | exact And.right (by k_extra "ca2"))
  k_with "ca2" => (first | with_reducible assumption | exact And.right (by k_extra "ca3"))
  k_with "ca3" => (first | with_reducible assumption | exact And.right (by k_extra "ca4"))
  k_with "ca4" => (first | with_reducible assumption | exact And.right (by k_extra "ca5"))
  k_with "ca5" => (first | with_reducible assumption | exact And.right (by k_extra "ca6"))
  k_with "ca6" => (first | with_reducible assumption | exact And.right (by k_extra "ca7"))
  k_with "ca7" => (first | with_reducible assumption | exact And.right (by k_extra "ca8"))
  k_with "ca8" => (first | with_reducible assumption | exact And.right (by k_extra "ca9"))
  k_with "ca9" => (first | with_reducible assumption | exact And.right (by k_extra "ca10"))
  k_with "ca10" => (first | with_reducible assumption | exact And.right (by k_extra "ca11"))
  k_with "ca11" => (first | with_reducible assumption | exact And.right (by k_extra "ca12"))
  k_with "ca12" => (first | with_reducible assumption | exact And.right (by k_extra "ca13"))
  k_with "ca13" => (first | with_reducible assumption | exact And.right (by k_extra "ca14"))
  k_with "ca14" => (first | with_reducible assumption | exact And.right (by k_extra "ca15"))
  k_with "ca15" => (first | with_reducible assumption | exact And.right (by k_extra "ca16"))
  k_with "ca16" => (first | with_reducible assumption | exact And.right (by k_extra "ca17"))
  k_with "ca17" => (first | with_reducible assumption | exact And.right (by k_extra "ca18"))
  k_with "ca18" => (first | with_reducible assumption | exact And.right (by k_extra "ca19"))
  k_with "ca19" => (first | with_reducible assumption | exact And.right (by k_extra "ca20"))
  k_with "ca20" => (first | with_reducible assumption | exact And.right (by k_extra "ca21"))
  k_with "ca21" => (first | with_reducible assumption | exact And.right (by k_extra "ca22"))
  k_with "ca22" => (first | with_reducible assumption | exact And.right (by k_extra "ca23"))
  k_with "ca23" => (first | with_reducible assumption | exact And.right (by k_extra "ca24"))
  k_with "ca24" => (first | with_reducible assumption | exact And.right (by k_extra "ca25"))
  k_with "ca25" => (first | with_reducible assumption)
  k_with "tr0" => (first | with_reducible assumption | exact Nat.lt_trans (by with_reducible assumption) (by k_extra "tr1"))
  k_with "tr1" => (first | with_reducible assumption | exact Nat.lt_trans (by with_reducible assumption) (by k_extra "tr2"))
  k_with "tr2" => (first | with_reducible assumption | exact Nat.lt_trans (by with_reducible assumption) (by k_extra "tr3"))
  k_with "tr3" => (first | with_reducible assumption | exact Nat.lt_trans (by with_reducible assumption) (by k_extra "tr4"))
  k_with "tr4" => (first | with_reducible assumption | exact Nat.lt_trans (by with_reducible assumption) (by k_extra "tr5"))
  k_with "tr5" => (first | with_reducible assumption | exact Nat.lt_trans (by with_reducible assumption) (by k_extra "tr6"))
  k_with "tr6" => (first | with_reducible assumption | exact Nat.lt_trans (by with_reducible assumption) (by k_extra "tr7"))
  k_with "tr7" => (first | with_reducible assumption | exact Nat.lt_trans (by with_reducible assumption) (by k_extra "tr8"))
  k_with "tr8" => (first | with_reducible assumption | exact Nat.lt_trans (by with_reducible assumption) (by k_extra "tr9"))
  k_with "tr9" => (first | with_reducible assumption | exact Nat.lt_trans (by with_reducible assumption) (by k_extra "tr10"))
  k_with "tr10" => (first | with_reducible assumption | exact Nat.lt_trans (by with_reducible assumption) (by k_extra "tr11"))
  k_with "tr11" => (first | with_reducible assumption | exact Nat.lt_trans (by with_reducible assumption) (by k_extra "tr12"))
  k_with "tr12" => (first | with_reducible assumption | exact Nat.lt_trans (by with_reducible assumption) (by k_extra "tr13"))
  k_with "tr13" => (first | with_reducible assumption | exact Nat.lt_trans (by with_reducible assumption) (by k_extra "tr14"))
  k_with "tr14" => (first | with_reducible assumption | exact Nat.lt_trans (by with_reducible assumption) (by k_extra "tr15"))
  k_with "tr15" => (first | with_reducible assumption | exact Nat.lt_trans (by with_reducible assumption) (by k_extra "tr16"))
  k_with "tr16" => (first | with_reducible assumption | exact Nat.lt_trans (by with_reducible assumption) (by k_extra "tr17"))
  k_with "tr17" => (first | with_reducible assumption | exact Nat.lt_trans (by with_reducible assumption) (by k_extra "tr18"))
  k_with "tr18" => (first | with_reducible assumption | exact Nat.lt_trans (by with_reducible assumption) (by k_extra "tr19"))
  k_with "tr19" => (first | with_reducible assumption | exact Nat.lt_trans (by with_reducible assumption) (by k_extra "tr20"))
  k_with "tr20" => (first | with_reducible assumption | exact Nat.lt_trans (by with_reducible assumption) (by k_extra "tr21"))
  k_with "tr21" => (first | with_reducible assumption | exact Nat.lt_trans (by with_reducible assumption) (by k_extra "tr22"))
  k_with "tr22" => (first | with_reducible assumption | exact Nat.lt_trans (by with_reducible assumption) (by k_extra "tr23"))
  k_with "tr23" => (first | with_reducible assumption)
  k_with "up0" => (first | k_extra "tr0" | exact Nat.lt_trans (Nat.lt_add_one _) (by k_extra "up1"))
  k_with "up1" => (first | k_extra "tr0" | exact Nat.lt_trans (Nat.lt_add_one _) (by k_extra "up2"))
  k_with "up2" => (first | k_extra "tr0" | exact Nat.lt_trans (Nat.lt_add_one _) (by k_extra "up3"))
  k_with "up3" => (first | k_extra "tr0" | exact Nat.lt_trans (Nat.lt_add_one _) (by k_extra "up4"))
  k_with "up4" => (first | k_extra "tr0" | exact Nat.lt_trans (Nat.lt_add_one _) (by k_extra "up5"))
  k_with "up5" => (first | k_extra "tr0")
  k_with "up" => (first | exact Nat.lt_trans (Nat.lt_add_one _) (by k_extra "up0") | exact Nat.lt_trans (by with_reducible assumption) (Nat.lt_trans (Nat.lt_add_one _) (by k_extra "up0")))
  k_with "ord" => (first | k_extra "tr0" | exact And.intro (by k_extra "ord") (by k_extra "ord") | exact Nat.le_of_lt (by k_extra "tr0") | exact neA (by k_extra "tr0") | exact neB (by k_extra "tr0") | exact Nat.le_refl _ | k_extra "lt" | exact Nat.le_of_lt (by k_extra "lt") | exact neA (by k_extra "lt") | exact neB (by k_extra "lt") | omega)
  k_with "rm" => (first | exact room (by with_reducible assumption) (Nat.le_of_ble_eq_true rfl) | (simp only [Nat.add_assoc]; exact room (by with_reducible assumption) (Nat.le_of_ble_eq_true rfl)) | omega)
  k_with "sub" => (first | exact List.forall_mem_nil _ | (refine' subc ?sa ?sb; (case sa => k_mem); (case sb => k_extra "sub")) | (intro q hq; repeat (first | exact hq | refine List.mem_cons_of_mem _ ?_)))
  k_with "lt on" => (skip)
  k_with "k_ne" => (refine neN ?_; (try dsimp only); first | with_reducible assumption | exact neA (by k_extra "tr0") | exact neB (by k_extra "tr0") | exact neA (And.left (by k_extra "ca0")) | exact neB (And.left (by k_extra "ca0")) | exact neA (by k_extra "up") | exact neB (by k_extra "up") | exact neA (And.right (by k_extra "ca1")) | exact neB (And.right (by k_extra "ca1")) | omega)
  k_with "k_all" => (first | exact offn | (refine' offc ?a ?b; (case a => k_ne); (case b => k_all)))
  k_with "k_room" => (((try simp only [depth_mark, depth_under_make, depth_under_kw, depth_in1, depth_deeper, depth_caller]); (try dsimp only [ktrTop]); (simp only [recursionLimit]); k_extra "rm"))
  k_with "ktr_enter" => (first | (refine' code_defF ?k1 ?k2 ?k3 ?k4 ?k5 ?kA ?kF ?kK ?k6 ?k7 ?k8 ?k9 ?kB ?_ ?c2 ?c3 ?c4 ?c5; (case kA => exact rfl); (case kF => exact rfl); (case kK => first | exact rfl | assumption); (case k1 => k_asm); (case k2 => k_asm); (case k3 => k_asm); (case k4 => k_asm); (case k5 => k_asm); (case k6 => k_is); (case k7 => k_is); (case k8 => k_room); (case k9 => first | exact BindsTo.of_eq rfl | exact binds_K (by k_in) rfl (by k_is) rfl rfl rfl); (case c5 => decide); (case kB => exact locs rfl); (case c2 => exact rfl); (case c3 => exact rfl); (case c4 => exact rfl); k_whole; intro g' L' h' FG' F' N' B' X' T' K'; (try dsimp only); (try k_fold)) | (refine' code_defCF ?k1 ?k2 ?k3 ?k4 ?k5 ?kA ?kF ?kK ?k6 ?k7 ?k8 ?k9 ?kB ?kD ?_ ?c2 ?c3 ?c4; (case kA => exact rfl); (case kF => exact rfl); (case kK => first | exact rfl | assumption); (case k1 => k_asm); (case k2 => k_asm); (case k3 => k_asm); (case k4 => k_asm); (case k5 => k_asm); (case k6 => k_is); (case k7 => k_is); (case k8 => k_room); (case k9 => first | exact BindsTo.of_eq rfl | exact binds_K (by k_in) rfl (by k_is) rfl rfl rfl); (case kB => exact rfl); (case kD => decide +kernel); (case c2 => exact rfl); (case c3 => exact rfl); (case c4 => exact rfl); k_whole; intro g' L' h' tk' cells' FG' F' N' Y' B' X' T' l1 K'; (try k_lt l1); k_cells Y'; (try simp only [List.cons_append, List.nil_append] at N'); (try dsimp only); (try k_lift B'); (try k_fold)))
  k_with "ktr_rel" => ((refine' Kept.fin ?kkA ?kkB; (case kkA => assumption); (case kkB => assumption)))
  k_with "k_mem" => (first | exact List.Mem.head _ | ktr_member | (refine' List.mem_cons_of_mem _ ?_; k_mem))
  k_with "my side" => (first | with_reducible assumption | ((simp only [depth_deeper, units_deeper, depth_in1, units_in1, Around.mark_units]); (try dsimp only [ktrTop]); k_extra "rm") | k_extra "rm" | ((try dsimp only [ktrTop]); k_extra "rm") | (simp only [List.size_toArray, List.length_cons, List.length_nil]; omega))
  k_with "my sub" => ((refine' News.subL ?un ?us; (case un => k_asm); (case us => k_subL)))
  k_with "my stop" => ((with_reducible show wpAny _ _ (call (Value.ref 383) _ _) _ _ _))
  k_with "k_steps" => (repeat' (first | (k_unfold; (try dsimp only)) | (k_unmd; k_unfold; (try dsimp only)) | (k_end; kc_close) | ((fail_if_success walk_at "my stop"); walk1) | ((fail_if_success walk_at "my stop"); dsimp only; (fail_if_success walk_at "my stop"); walk1) | (leave1; walk_say "STEP leave1"; try dsimp only) | fail "no step"))
  k_with "call builtin:len m" => ((k_here; (with_reducible show wpAny _ _ (call (Value.builtin "len") [Value.ref _] _) _ _ _); k_dflt (first | (refine' len_push ?N ?m ?z ?_; (case N => k_asm); (case m => k_mem); (case z => walk_at "my side")) | (refine' len_any ?N ?m ?z ?_; (case N => k_asm); (case m => k_mem); (case z => walk_at "my size"))); (try dsimp only)))
  k_with "k_all" => (with_reducible assumption)
  k_with "my get" => (first | with_reducible assumption | exact push_get (by walk_at "my get"))
  k_with "my size" => (((try simp only [Array.size_push, List.size_toArray, List.length_cons, List.length_nil]); omega))
  k_with "subscriptTail m" => ((k_here; (with_reducible show wpAny _ _ (subscriptTail _ _ (Value.ref _) (Value.int _ _)) _ _ _); k_dflt (refine' item_at ?N ?m ?z ?v ?s ?_; (case N => k_asm); (case m => k_mem); (case z => omega); (case v => walk_at "my get"); (case s => walk_at "my size"); k_whole)))
  k_with "lcg_off" => (assumption)
  k_with "my turn" => ((with_unfolding_all first | (refine LCg.CompRest.succ ?_; intro v' I' oI' C' oC' D' m' h' tk' E' hv' hC' hx' F' N' off' ne'; (first | lcg_open hv' | (obtain ⟨t9', hv9'⟩ := hv'; subst hv9'))) | refine LCg.CompRest.zero ?_))
  k_with "CompRest m" => (walk_at "my turn")
  k_with "k_steps" => (repeat' (first | (k_unfold; (try dsimp only)) | (k_unmd; k_unfold; (try dsimp only)) | (k_end; kc_close) | ((fail_if_success walk_at "stop b"); walk1) | ((fail_if_success walk_at "stop b"); dsimp only; (fail_if_success walk_at "stop b"); walk1) | (leave1; walk_say "STEP leave1"; try dsimp only) | fail "no step"))
  k_with "stop b" => (((with_reducible show wpAny _ _ (pyIter (Value.ref _)) (fun it s₂ => LoopAtV _ _ _ _ _ _ _ _ _ it s₂) _ _)))
  k_with "my units" => (((try simp only [depth_deeper, units_deeper, depth_in1, units_in1, Around.mark_units]); (try dsimp only [ktrTop]); (simp only [cLine]); omega))
  k_with "compareOp Eq ref ref m" => ((k_here; (with_reducible show wpAny _ _ (compareOp CmpOp.Eq (Value.ref _) (Value.ref _)) _ _ _); k_dflt (first | refine ke_eq_ints (by is_list) (by is_list) (by l_ints) (by l_ints) (by walk_at "my units") ?_ | refine eq_dataH (by ke_read) (by ke_read) (by ke_shaped) (by ke_shaped) (by walk_at "my units") ?_); ke_norm))
  k_with "compareOp NotEq ref ref m" => ((k_here; (with_reducible show wpAny _ _ (compareOp CmpOp.NotEq (Value.ref _) (Value.ref _)) _ _ _); k_dflt (first | refine ke_ne_ints (by is_list) (by is_list) (by l_ints) (by l_ints) (by walk_at "my units") ?_ | refine ne_dataH (by ke_read) (by ke_read) (by ke_shaped) (by ke_shaped) (by walk_at "my units") ?_); ke_norm))
  k_with "stop b" => (((with_reducible show wpAny _ _ (call (Value.ref 87) _ _) _ _ _)))
  k_with "k_steps" => (repeat' (first | (k_unfold; (try dsimp only)) | (k_unmd; k_unfold; (try dsimp only)) | (k_end; kc_close) | ((fail_if_success walk_at "stop C20"); walk1) | ((fail_if_success walk_at "stop C20"); dsimp only; (fail_if_success walk_at "stop C20"); walk1) | (leave1; walk_say "STEP leave1"; try dsimp only) | fail "no step"))
  k_with "stop C20" => (((with_reducible show wpAny _ _ (pyIter (Value.ref _)) (fun it s₂ => LoopAtV _ _ _ _ _ _ _ _ _ it s₂) _ _)))
  k_with "stop C20" => (((with_reducible show wpAny _ _ (call (Value.ref 87) _ _) _ _ _)))
  trivial
theorem c_counted {D : Addr} {zs : List Value} {k : Nat} {news : List (Addr × Obj)} (hz : zs.length ≤ 4)
    (B : Below A₀ base outer h₀) (F : Fr h₀ L s.heap m) (X : (KK w.params).In h₀) (T : Top p loose mean mg mb h₀) (hk : cs.kind = .function) (hd : dp + 60 < 1000) (hu : un + 500 < 9900) (N : News h₀ L s.heap news) (hD : (D, W.listOf zs.toArray k) ∈ news)
    (ret : ∀ (t : Addr) (ta tb : Tok) (h' : Heap) (tk : Nat), Fr h₀ L h' m → News h₀ L h' ((t, tupO [.int (zs.length : Int) ta, .int 1 tb]) :: news) → Q (.ref t) { s with heap := h', toks := tk }) :
    wpAny (model prog w) (ktrTop dp un gd cn cs L a ccd cl outer) (call (.ref 101) [.ref D]) Q E s := by
  refine wpAny_call ?_
  k_dflt ktr_enter
  k_steps
  rename News _ _ _ _ => N9
  rename Fr _ _ _ _ => F9
  rw [List.size_toArray]
  k_dflt (refine' c_num (by omega) (by omega) ?B F9 ?X ?T ?hk ?hd ?hu N9 ?_)
  case B => k_asm
  case X => k_asm
  case T => k_asm
  case hk => exact rfl
  case hd => walk_at "my side"
  case hu => walk_at "my side"
  intro t ta tb h' tk' F8 N8
  clear N9 F9
  k_steps
  rename News _ _ _ _ => N7
  rename Fr _ _ _ _ => F7
  exact ret _ _ _ _ _ F7 N7

end
section
theorem regC1850 : True := by
  w_top off
  k_with "compareOp Eq ref ref m" => ((k_here; (with_reducible show wpAny _ _ (compareOp CmpOp.Eq (Value.ref _) (Value.ref _)) _ _ _); k_dflt (refine' eq_len ?N ?a ?b ?c ?hu ?_; (case N => k_asm); (case a => k_mem); (case b => k_mem); (case c => simp; done); (case hu => walk_at "my units2"); k_whole)))
  k_with "compareOp NotEq ref ref m" => ((k_here; (with_reducible show wpAny _ _ (compareOp CmpOp.NotEq (Value.ref _) (Value.ref _)) _ _ _); k_dflt (refine' ne_len ?N ?a ?b ?c ?hu ?_; (case N => k_asm); (case a => k_mem); (case b => k_mem); (case c => simp; done); (case hu => walk_at "my units2"); k_whole)))
  k_with "subscriptTail Name Constant ref int m" => ((k_here; (with_reducible show wpAny _ _ (subscriptTail _ _ (Value.ref _) (Value.int 0 _)) _ _ _); k_dflt (refine' item_hd ?N ?m ?_; (case N => k_asm); (case m => k_mem); k_whole)))
  k_with "my units2" => (first | exact Nat.le_of_ble_eq_true rfl | walk_at "my units")
  k_with "k_steps" => (repeat' (first | (k_unfold; (try dsimp only)) | (k_unmd; k_unfold; (try dsimp only)) | (k_end; kc_close) | ((fail_if_success walk_at "stop C18"); walk1) | ((fail_if_success walk_at "stop C18"); dsimp only; (fail_if_success walk_at "stop C18"); walk1) | (leave1; walk_say "STEP leave1"; try dsimp only) | fail "no step"))
  k_with "stop C18" => (((with_reducible show wpAny _ _ (pyIter (Value.ref _)) (fun it s₂ => LoopAtV _ _ _ _ _ _ _ _ _ it s₂) _ _)))
  trivial
theorem c_toldN1 {cx x : Value} {la D : Addr} {r : List Value} {n k : Nat} {news : List (Addr × Obj)}
    (B : Below A₀ base outer h₀) (F : Fr h₀ L s.heap m) (X : (KK w.params).In h₀) (T : Top p loose mean mg mb h₀) (hk : cs.kind = .function) (hd : dp + 40 < 1000) (hu : un + 400 < 9900) (N : News h₀ L s.heap news) (hl : (la, W.listOf [.ref D].toArray n) ∈ news) (hD : (D, W.listOf (x :: r).toArray k) ∈ news)
    (ret : ∀ (h' : Heap) (tk : Nat), Fr h₀ L h' m → News h₀ L h' news → Q x { s with heap := h', toks := tk }) :
    wpAny (model prog w) (ktrTop dp un gd cn cs L a ccd cl outer) (call (.ref 108) [.ref la, cx]) Q E s := by
  refine wpAny_call ?_
  k_dflt ktr_enter
  k_steps
  rename News _ _ _ _ => N9
  rename Fr _ _ _ _ => F9
  exact ret _ _ F9 (fun q hq => N9 q (by repeat (first | exact hq | refine List.mem_cons_of_mem _ ?_)))
theorem c_toldN0 {cx : Value} {la D : Addr} {n k : Nat} {news : List (Addr × Obj)}
    (B : Below A₀ base outer h₀) (F : Fr h₀ L s.heap m) (X : (KK w.params).In h₀) (T : Top p loose mean mg mb h₀) (hk : cs.kind = .function) (hd : dp + 40 < 1000) (hu : un + 400 < 9900) (N : News h₀ L s.heap news) (hl : (la, W.listOf [.ref D].toArray n) ∈ news) (hD : (D, W.listOf [].toArray k) ∈ news)
    (ret : ∀ (h' : Heap) (tk : Nat), Fr h₀ L h' m → News h₀ L h' news → Q .none { s with heap := h', toks := tk }) :
    wpAny (model prog w) (ktrTop dp un gd cn cs L a ccd cl outer) (call (.ref 108) [.ref la, cx]) Q E s := by
  refine wpAny_call ?_
  k_dflt ktr_enter
  k_steps
  rename News _ _ _ _ => N9
  rename Fr _ _ _ _ => F9
  exact ret _ _ F9 (fun q hq => N9 q (by repeat (first | exact hq | refine List.mem_cons_of_mem _ ?_)))

end
section
theorem regW651 : True := by
  w_top off
  k_with "subscriptTail Name Constant ref int m" => ((k_here; (with_reducible show wpAny _ _ (subscriptTail _ _ (Value.ref _) (Value.int _ _)) _ _ _); k_dflt (refine' item_tup ?N ?m ?a ?b ?c ?d ?_; (case N => k_asm); (case m => k_mem); (case a => decide); (case b => decide); (case c => rfl); (case d => rfl); k_whole)))
  k_with "compareOp Eq ref ref m" => ((k_here; (with_reducible show wpAny _ _ (compareOp CmpOp.Eq (Value.ref _) (Value.ref _)) _ _ _); k_dflt (refine' eq_len ?N ?a ?b ?c ?hu ?_; (case N => k_asm); (case a => k_mem); (case b => k_mem); (case c => simp; done); (case hu => walk_at "my units2"); k_whole)))
  k_with "compareOp NotEq ref ref m" => ((k_here; (with_reducible show wpAny _ _ (compareOp CmpOp.NotEq (Value.ref _) (Value.ref _)) _ _ _); k_dflt (refine' ne_len ?N ?a ?b ?c ?hu ?_; (case N => k_asm); (case a => k_mem); (case b => k_mem); (case c => simp; done); (case hu => walk_at "my units2"); k_whole)))
  k_with "subscriptTail Name Constant ref int m" => ((k_here; (with_reducible show wpAny _ _ (subscriptTail _ _ (Value.ref _) (Value.int 0 _)) _ _ _); k_dflt (refine' item_hd ?N ?m ?_; (case N => k_asm); (case m => k_mem); k_whole)))
  k_with "my units2" => (first | exact Nat.le_of_ble_eq_true rfl | walk_at "my units")
  k_with "k_steps" => (repeat' (first | (k_unfold; (try dsimp only)) | (k_unmd; k_unfold; (try dsimp only)) | (k_end; kc_close) | ((fail_if_success walk_at "stop W6"); walk1) | ((fail_if_success walk_at "stop W6"); dsimp only; (fail_if_success walk_at "stop W6"); walk1) | (leave1; walk_say "STEP leave1"; try dsimp only) | fail "no step"))
  k_with "stop W6" => (((with_reducible show wpAny _ _ (pyIter (Value.ref _)) (fun it s₂ => LoopAtV _ _ _ _ _ _ _ _ _ it s₂) _ _)))
  trivial
theorem mapN {m : Str → Option Value} {a1 a2 a3 a4 : Value} (h1 : m "tree" = some a1) (h2 : m "here" = some a2) (h3 : m "some" = some a3) (h4 : m "nodes" = some a4) : m = fun y => if y = Str.ofString "tree" then some a1 else if y = Str.ofString "here" then some a2 else if y = Str.ofString "some" then some a3 else if y = Str.ofString "nodes" then some a4 else m y := by
  funext y
  split
  · subst_vars; exact h1
  · split
    · subst_vars; exact h2
    · split
      · subst_vars; exact h3
      · split
        · subst_vars; exact h4
        · rfl
theorem W6c {fa sA tD tR rA fA : Addr} {lo : Nat} {o1 o2 o3 o4 : Obj} {sx sy : Int} {tsx tsy t0 : Tok} {ns nd k kf : Nat} {xs fs : Array Value} {nn dn : List (Addr × Obj)} {ms : Str → Option Value} {rest : List Stmt} {QF : Flow → Shared → Prop} {EF : Value → Shared → Prop}
    {t D D2 td : Addr} {r zs : List Value} (B : Below callerA h₀ [] h₀) (F : Fr h₀ L s.heap ms) (X : (KK w.params).In h₀) (T : Top p loose mean mg mb h₀)
    (N : News h₀ L s.heap ((D2, LCg.lst zs) :: (D, LCg.lst (.ref td :: r)) :: ((fA, W.listOf fs kf) :: (sA, W.listOf #[.int sx tsx, .int sy tsy] ns) :: (tR, instObj 365 tD) :: (tD, dictOf [⟨PyData.keyHash w.params "rows", .str "rows" t0, .ref rA⟩] nd) :: (rA, W.listOf xs k) :: (L + 1 + 1 + 1 + 1, o4) :: (L + 1 + 1 + 1, o3) :: (L + 1 + 1, o2) :: (L + 1, o1) :: ((nat_lit 411), tabObj #[]) :: dn)))
    (e1 : ms "tree" = some (.ref tR)) (e2 : ms "here" = some (.ref t)) (e3 : ms "some" = some (.ref D)) (e4 : ms "nodes" = some (.ref D2))
    (ret : ∀ (m' : Str → Option Value) (h' : Heap) (t' : Nat), Fr h₀ L h' m' → m' "tree" = some (.ref tR) → m' "here" = some (.ref t) → m' "some" = some (.ref D) → m' "nodes" = some (.ref D2) → m' "due" = some (.ref td) →
      News h₀ L h' ((D2, LCg.lst zs) :: (D, LCg.lst (.ref td :: r)) :: ((fA, W.listOf fs kf) :: (sA, W.listOf #[.int sx tsx, .int sy tsy] ns) :: (tR, instObj 365 tD) :: (tD, dictOf [⟨PyData.keyHash w.params "rows", .str "rows" t0, .ref rA⟩] nd) :: (rA, W.listOf xs k) :: (L + 1 + 1 + 1 + 1, o4) :: (L + 1 + 1 + 1, o3) :: (L + 1 + 1, o2) :: (L + 1, o1) :: ((nat_lit 411), tabObj #[]) :: dn)) →
      wpAny (model prog w) (callerA.deeper (envOfC (Str.ofString "law") c29 L fa (.ref (nat_lit 413)))) (execs rest (envOfC (Str.ofString "law") c29 L fa (.ref (nat_lit 413)))) QF EF { s with heap := h', toks := t' }) :
    wpAny (model prog w) (callerA.deeper (envOfC (Str.ofString "law") c29 L fa (.ref (nat_lit 413)))) (execs (y7 :: rest) (envOfC (Str.ofString "law") c29 L fa (.ref (nat_lit 413)))) QF EF s := by
  rw [mapN e1 e2 e3 e4] at F
  k_steps
  rename News _ _ _ _ => N9
  rename Fr _ _ _ _ => F9
  (try dsimp only)
  exact ret _ _ _ F9 rfl rfl rfl rfl rfl (fun q hq => N9 q (by repeat (first | exact hq | refine List.mem_cons_of_mem _ ?_)))
theorem W6n {fa sA tD tR rA fA : Addr} {lo : Nat} {o1 o2 o3 o4 : Obj} {sx sy : Int} {tsx tsy t0 : Tok} {ns nd k kf : Nat} {xs fs : Array Value} {nn dn : List (Addr × Obj)} {ms : Str → Option Value} {rest : List Stmt} {QF : Flow → Shared → Prop} {EF : Value → Shared → Prop}
    {t D D2 : Addr} {zs : List Value} (B : Below callerA h₀ [] h₀) (F : Fr h₀ L s.heap ms) (X : (KK w.params).In h₀) (T : Top p loose mean mg mb h₀)
    (N : News h₀ L s.heap ((D2, LCg.lst zs) :: (D, LCg.lst []) :: ((fA, W.listOf fs kf) :: (sA, W.listOf #[.int sx tsx, .int sy tsy] ns) :: (tR, instObj 365 tD) :: (tD, dictOf [⟨PyData.keyHash w.params "rows", .str "rows" t0, .ref rA⟩] nd) :: (rA, W.listOf xs k) :: (L + 1 + 1 + 1 + 1, o4) :: (L + 1 + 1 + 1, o3) :: (L + 1 + 1, o2) :: (L + 1, o1) :: ((nat_lit 411), tabObj #[]) :: dn)))
    (e1 : ms "tree" = some (.ref tR)) (e2 : ms "here" = some (.ref t)) (e3 : ms "some" = some (.ref D)) (e4 : ms "nodes" = some (.ref D2))
    (ret : ∀ (m' : Str → Option Value) (td : Addr) (a1 a2 a3 : Tok) (h' : Heap) (t' : Nat), Fr h₀ L h' m' → m' "tree" = some (.ref tR) → m' "here" = some (.ref t) → m' "some" = some (.ref D) → m' "nodes" = some (.ref D2) → m' "due" = some (.ref td) →
      News h₀ L h' ((td, tupO [.none, .str "" a1, .str "" a2, .str "" a3]) :: (D2, LCg.lst zs) :: (D, LCg.lst []) :: ((fA, W.listOf fs kf) :: (sA, W.listOf #[.int sx tsx, .int sy tsy] ns) :: (tR, instObj 365 tD) :: (tD, dictOf [⟨PyData.keyHash w.params "rows", .str "rows" t0, .ref rA⟩] nd) :: (rA, W.listOf xs k) :: (L + 1 + 1 + 1 + 1, o4) :: (L + 1 + 1 + 1, o3) :: (L + 1 + 1, o2) :: (L + 1, o1) :: ((nat_lit 411), tabObj #[]) :: dn)) →
      wpAny (model prog w) (callerA.deeper (envOfC (Str.ofString "law") c29 L fa (.ref (nat_lit 413)))) (execs rest (envOfC (Str.ofString "law") c29 L fa (.ref (nat_lit 413)))) QF EF { s with heap := h', toks := t' }) :
    wpAny (model prog w) (callerA.deeper (envOfC (Str.ofString "law") c29 L fa (.ref (nat_lit 413)))) (execs (y7 :: rest) (envOfC (Str.ofString "law") c29 L fa (.ref (nat_lit 413)))) QF EF s := by
  rw [mapN e1 e2 e3 e4] at F
  k_steps
  rename News _ _ _ _ => N9
  rename Fr _ _ _ _ => F9
  (try dsimp only)
  exact ret _ _ _ _ _ _ _ F9 rfl rfl rfl rfl rfl (News.hsub N9 (fun q hq => by repeat (first | exact hq | refine List.mem_cons_of_mem _ ?_)))

end
section
theorem regW752 : True := by
  w_top off
  k_with "subscriptTail Name Constant ref int m" => ((k_here; (with_reducible show wpAny _ _ (subscriptTail _ _ (Value.ref _) (Value.int _ _)) _ _ _); k_dflt (refine' item_tup ?N ?m ?a ?b ?c ?d ?_; (case N => k_asm); (case m => k_mem); (case a => decide); (case b => decide); (case c => rfl); (case d => rfl); k_whole)))
  k_with "compareOp NotEq int int m" => (with_reducible refine ne_self ?_)
  k_with "k_steps" => (repeat' (first | (k_unfold; (try dsimp only)) | (k_unmd; k_unfold; (try dsimp only)) | (k_end; kc_close) | ((fail_if_success walk_at "stop W7"); walk1) | ((fail_if_success walk_at "stop W7"); dsimp only; (fail_if_success walk_at "stop W7"); walk1) | (leave1; walk_say "STEP leave1"; try dsimp only) | fail "no step"))
  k_with "stop W7" => (((with_reducible show wpAny _ _ (pyIter (Value.ref _)) (fun it s₂ => LoopAtV _ _ _ _ _ _ _ _ _ it s₂) _ _)))
  k_with "stop W7" => (first | (with_reducible show LCg.CompSrc _ _ _ _ _ _ _ _ _ _ _ _ _ _) | (with_reducible show wpAny _ _ (call (Value.ref 108) _ _) _ _ _) | (with_reducible show wpAny _ _ (eval (PySem.Expr.ListComp _ _ _ _) _) _ _ _))
  trivial
theorem W7c {fa sA tD tR rA fA : Addr} {lo : Nat} {o1 o2 o3 o4 : Obj} {sx sy : Int} {tsx tsy t0 : Tok} {ns nd k kf : Nat} {xs fs : Array Value} {nn dn : List (Addr × Obj)} {ms : Str → Option Value} {rest : List Stmt} {QF : Flow → Shared → Prop} {EF : Value → Shared → Prop}
    {t D D2 td cx : Addr} {r zr : List Value} {i i2 : Int} {ti a1 a2 a3 tj b1 b2 b3 tz : Tok} {nm lc ur nm2 lc2 ur2 : Str} {is : List Int} (B : Below callerA h₀ [] h₀) (F : Fr h₀ L s.heap ms) (X : (KK w.params).In h₀) (T : Top p loose mean mg mb h₀)
    (N : News h₀ L s.heap ((D2, LCg.lst (.int i2 tz :: zr)) :: (D, LCg.lst (.ref td :: r)) :: ((fA, W.listOf fs kf) :: (sA, W.listOf #[.int sx tsx, .int sy tsy] ns) :: (tR, instObj 365 tD) :: (tD, dictOf [⟨PyData.keyHash w.params "rows", .str "rows" t0, .ref rA⟩] nd) :: (rA, W.listOf xs k) :: (L + 1 + 1 + 1 + 1, o4) :: (L + 1 + 1 + 1, o3) :: (L + 1 + 1, o2) :: (L + 1, o1) :: ((nat_lit 411), tabObj #[]) :: dn)))
    (e1 : ms "tree" = some (.ref tR)) (e2 : ms "here" = some (.ref t)) (e3 : ms "some" = some (.ref D)) (e4 : ms "nodes" = some (.ref D2)) (e5 : ms "due" = some (.ref td))
    (g1 : (t, tupO [.int i ti, .str nm a1, .str lc a2, .str ur a3]) ∈ dn) (g2 : (td, tupO [.int i2 tj, .str nm2 b1, .str lc2 b2, .str ur2 b3]) ∈ dn) (hc : CtxAt w.params cx i ti dn) (d3 : o3.data = .cell (some (.ref cx))) (hl : (Value.ref td :: r).length ≤ 4) (hh : Heads w.params dn xs is (.ref td :: r)) (hz : Keep (IntsAre (.int i2 tz :: zr) is))
    (ret : ∀ (m' : Str → Option Value) (h' : Heap) (t' : Nat), Fr h₀ L h' m' → m' "tree" = some (.ref tR) → m' "some" = some (.ref D) → m' "nodes" = some (.ref D2) → m' "due" = some (.ref td) →
      News h₀ L h' ((D2, LCg.lst (.int i2 tz :: zr)) :: (D, LCg.lst (.ref td :: r)) :: ((fA, W.listOf fs kf) :: (sA, W.listOf #[.int sx tsx, .int sy tsy] ns) :: (tR, instObj 365 tD) :: (tD, dictOf [⟨PyData.keyHash w.params "rows", .str "rows" t0, .ref rA⟩] nd) :: (rA, W.listOf xs k) :: (L + 1 + 1 + 1 + 1, o4) :: (L + 1 + 1 + 1, o3) :: (L + 1 + 1, o2) :: (L + 1, o1) :: ((nat_lit 411), tabObj #[]) :: dn)) →
      wpAny (model prog w) (callerA.deeper (envOfC (Str.ofString "law") c29 L fa (.ref (nat_lit 413)))) (execs rest (envOfC (Str.ofString "law") c29 L fa (.ref (nat_lit 413)))) QF EF { s with heap := h', toks := t' }) :
    wpAny (model prog w) (callerA.deeper (envOfC (Str.ofString "law") c29 L fa (.ref (nat_lit 413)))) (execs (y8 :: rest) (envOfC (Str.ofString "law") c29 L fa (.ref (nat_lit 413)))) QF EF s := by
  rw [mapD e1 e2 e3 e4 e5] at F
  k_steps
  rename News _ _ _ _ => N9
  rename Fr _ _ _ _ => F9
  k_dflt (refine' c_told0 B F9 X T rfl ?hd ?hu N9 (.head _) (hc.mono (fun q hq => by repeat (first | exact hq | refine List.mem_cons_of_mem _ ?_))) ?_)
  case hd => exact Nat.le_of_ble_eq_true rfl
  case hu => exact Nat.le_of_ble_eq_true rfl
  intro h1 k1 F1 N1
  have N2 : News h₀ L h1 ((D2, LCg.lst (.int i2 tz :: zr)) :: (D, LCg.lst (.ref td :: r)) :: ((fA, W.listOf fs kf) :: (sA, W.listOf #[.int sx tsx, .int sy tsy] ns) :: (tR, instObj 365 tD) :: (tD, dictOf [⟨PyData.keyHash w.params "rows", .str "rows" t0, .ref rA⟩] nd) :: (rA, W.listOf xs k) :: (L + 1 + 1 + 1 + 1, o4) :: (L + 1 + 1 + 1, o3) :: (L + 1 + 1, o2) :: (L + 1, o1) :: ((nat_lit 411), tabObj #[]) :: dn)) := fun q hq => N1 q (.tail _ hq)
  clear N9 F9 N1
  k_steps
  rename News _ _ _ _ => N9
  rename Fr _ _ _ _ => F9
  k_dflt (refine' c_toldN1 B F9 X T rfl ?hd ?hu N9 (.head _) (.tail _ (.head _)) ?_)
  case hd => exact Nat.le_of_ble_eq_true rfl
  case hu => exact Nat.le_of_ble_eq_true rfl
  intro h2 k2 F2 N3
  have N4 : News h₀ L h2 ((D2, LCg.lst (.int i2 tz :: zr)) :: (D, LCg.lst (.ref td :: r)) :: ((fA, W.listOf fs kf) :: (sA, W.listOf #[.int sx tsx, .int sy tsy] ns) :: (tR, instObj 365 tD) :: (tD, dictOf [⟨PyData.keyHash w.params "rows", .str "rows" t0, .ref rA⟩] nd) :: (rA, W.listOf xs k) :: (L + 1 + 1 + 1 + 1, o4) :: (L + 1 + 1 + 1, o3) :: (L + 1 + 1, o2) :: (L + 1, o1) :: ((nat_lit 411), tabObj #[]) :: dn)) := fun q hq => N3 q (.tail _ hq)
  clear N9 F9 N3
  k_steps
  k_dflt (refine LCg.ListComp_U (F₀ := by k_asm) (by with_unfolding_all rfl) (by decide) (by rfl) (by decide) (by rfl) ?_)
  k_steps
  rename News _ _ _ _ => N9
  rename Fr _ _ _ _ => F9
  k_dflt (refine LCg.CompSrc.ledger (by rfl) F9 N9 (.tail _ (.head _)) (by rw [PySem.sizeLine_eq, List.size_toArray]; omega) ?_)
  intro g'
  have hlen := hh.len
  refine comp_ind (fun zs nw => nw = (D2, LCg.lst (.int i2 tz :: zr)) :: (D, LCg.lst (.ref td :: r)) :: ((fA, W.listOf fs kf) :: (sA, W.listOf #[.int sx tsx, .int sy tsy] ns) :: (tR, instObj 365 tD) :: (tD, dictOf [⟨PyData.keyHash w.params "rows", .str "rows" t0, .ref rA⟩] nd) :: (rA, W.listOf xs k) :: (L + 1 + 1 + 1 + 1, o4) :: (L + 1 + 1 + 1, o3) :: (L + 1 + 1, o2) :: (L + 1, o1) :: ((nat_lit 411), tabObj #[]) :: dn) ∧ IntsAre zs (is.take zs.length)) ⟨rfl, by simp only [List.length_nil, List.take_zero]; exact .nil⟩ ?turn ?fin
  case turn =>
    intro i v zs nw I oI C oC D' m₂ h tk E' hi hzl hP hJ hC hx F' N' off ne
    obtain ⟨rfl, hI⟩ := hJ
    obtain ⟨ii, hii, t9, x, dx, c1, c2, c3, ti, a1, a2, a3, b1, b2, b3, t1, t2, t3, t4, t5, t6, t7, t8, tt, nm, lc, ur, kd, vl, pr, rfl, g1, g2, g3, g4, g5, k1, k2, k3⟩ := hh.at i v (by simpa using hP)
    clear N9 F9
    k_steps
    refine LCg.CompEnd.intro F' N' _ (fun p hp => hp) off (.inr ⟨_, .tail _ (.head _), rfl, _, rfl⟩) ⟨rfl, ?_⟩
    rw [List.length_append, List.length_singleton, List.take_add_one, hzl, hii]
    rw [hzl] at hI
    simpa using IntsAre.append hI (.cons ii ti .nil)
  case fin =>
    intro zs nw hzl hJ
    obtain ⟨rfl, hI⟩ := hJ
    rw [List.size_toArray] at hzl
    rw [hzl, ← hlen, List.take_length] at hI
    have hz' : IntsAre (.int i2 tz :: zr) is := hz
    clear N9 F9
    intro D3 h tk F' N' off
    have hu : callerA.units + 3 + 64 < cLine := Nat.le_of_ble_eq_true rfl
    k_dflt (refine ke_ne_ints (xs := .int i2 tz :: zr) (ys := zs) ⟨_, (N' _ (.tail _ (.head _))).1, rfl, _, rfl⟩ ⟨_, (N' _ (.head _)).1, rfl, _, rfl⟩ hz' hI hu ?_)
    simp only [decide_true, Bool.not_true]
    k_steps
    rename News _ _ _ _ => N9
    rename Fr _ _ _ _ => F9
    (try dsimp only)
    exact ret _ _ _ F9 rfl rfl rfl rfl (fun q hq => N9 q (by repeat (first | exact hq | refine List.mem_cons_of_mem _ ?_)))

end
section
theorem regW7n53 : True := by
  w_top off
  k_with "k_steps" => (repeat' (first | (k_unfold; (try dsimp only)) | (k_unmd; k_unfold; (try dsimp only)) | (k_end; kc_close) | ((fail_if_success walk_at "stop W7n"); walk1) | ((fail_if_success walk_at "stop W7n"); dsimp only; (fail_if_success walk_at "stop W7n"); walk1) | (leave1; walk_say "STEP leave1"; try dsimp only) | fail "no step"))
  k_with "stop W7n" => (((with_reducible show wpAny _ _ (pyIter (Value.ref _)) (fun it s₂ => LoopAtV _ _ _ _ _ _ _ _ _ it s₂) _ _)))
  k_with "stop W7n" => (first | (with_reducible show LCg.CompSrc _ _ _ _ _ _ _ _ _ _ _ _ _ _) | (with_reducible show wpAny _ _ (call (Value.ref 108) _ _) _ _ _) | (with_reducible show wpAny _ _ (eval (PySem.Expr.ListComp _ _ _ _) _) _ _ _))
  trivial
theorem W7n {fa sA tD tR rA fA : Addr} {lo : Nat} {o1 o2 o3 o4 : Obj} {sx sy : Int} {tsx tsy t0 : Tok} {ns nd k kf : Nat} {xs fs : Array Value} {nn dn : List (Addr × Obj)} {ms : Str → Option Value} {rest : List Stmt} {QF : Flow → Shared → Prop} {EF : Value → Shared → Prop}
    {t D D2 td cx : Addr} {i : Int} {ti a1 a2 a3 b1 b2 b3 : Tok} {nm lc ur : Str} (B : Below callerA h₀ [] h₀) (F : Fr h₀ L s.heap ms) (X : (KK w.params).In h₀) (T : Top p loose mean mg mb h₀)
    (N : News h₀ L s.heap ((td, tupO [.none, .str "" b1, .str "" b2, .str "" b3]) :: (D2, LCg.lst []) :: (D, LCg.lst []) :: ((fA, W.listOf fs kf) :: (sA, W.listOf #[.int sx tsx, .int sy tsy] ns) :: (tR, instObj 365 tD) :: (tD, dictOf [⟨PyData.keyHash w.params "rows", .str "rows" t0, .ref rA⟩] nd) :: (rA, W.listOf xs k) :: (L + 1 + 1 + 1 + 1, o4) :: (L + 1 + 1 + 1, o3) :: (L + 1 + 1, o2) :: (L + 1, o1) :: ((nat_lit 411), tabObj #[]) :: dn)))
    (e1 : ms "tree" = some (.ref tR)) (e2 : ms "here" = some (.ref t)) (e3 : ms "some" = some (.ref D)) (e4 : ms "nodes" = some (.ref D2)) (e5 : ms "due" = some (.ref td))
    (g1 : (t, tupO [.int i ti, .str nm a1, .str lc a2, .str ur a3]) ∈ dn) (hc : CtxAt w.params cx i ti dn) (d3 : o3.data = .cell (some (.ref cx)))
    (ret : ∀ (m' : Str → Option Value) (h' : Heap) (t' : Nat), Fr h₀ L h' m' → m' "tree" = some (.ref tR) → m' "some" = some (.ref D) → m' "nodes" = some (.ref D2) → m' "due" = some (.ref td) →
      News h₀ L h' ((td, tupO [.none, .str "" b1, .str "" b2, .str "" b3]) :: (D2, LCg.lst []) :: (D, LCg.lst []) :: ((fA, W.listOf fs kf) :: (sA, W.listOf #[.int sx tsx, .int sy tsy] ns) :: (tR, instObj 365 tD) :: (tD, dictOf [⟨PyData.keyHash w.params "rows", .str "rows" t0, .ref rA⟩] nd) :: (rA, W.listOf xs k) :: (L + 1 + 1 + 1 + 1, o4) :: (L + 1 + 1 + 1, o3) :: (L + 1 + 1, o2) :: (L + 1, o1) :: ((nat_lit 411), tabObj #[]) :: dn)) →
      wpAny (model prog w) (callerA.deeper (envOfC (Str.ofString "law") c29 L fa (.ref (nat_lit 413)))) (execs rest (envOfC (Str.ofString "law") c29 L fa (.ref (nat_lit 413)))) QF EF { s with heap := h', toks := t' }) :
    wpAny (model prog w) (callerA.deeper (envOfC (Str.ofString "law") c29 L fa (.ref (nat_lit 413)))) (execs (y8 :: rest) (envOfC (Str.ofString "law") c29 L fa (.ref (nat_lit 413)))) QF EF s := by
  rw [mapD e1 e2 e3 e4 e5] at F
  k_steps
  rename News _ _ _ _ => N9
  rename Fr _ _ _ _ => F9
  k_dflt (refine' c_told0 B F9 X T rfl ?hd ?hu N9 (.head _) (hc.mono (fun q hq => by repeat (first | exact hq | refine List.mem_cons_of_mem _ ?_))) ?_)
  case hd => exact Nat.le_of_ble_eq_true rfl
  case hu => exact Nat.le_of_ble_eq_true rfl
  intro h1 k1 F1 N1
  have N2 : News h₀ L h1 ((td, tupO [.none, .str "" b1, .str "" b2, .str "" b3]) :: (D2, LCg.lst []) :: (D, LCg.lst []) :: ((fA, W.listOf fs kf) :: (sA, W.listOf #[.int sx tsx, .int sy tsy] ns) :: (tR, instObj 365 tD) :: (tD, dictOf [⟨PyData.keyHash w.params "rows", .str "rows" t0, .ref rA⟩] nd) :: (rA, W.listOf xs k) :: (L + 1 + 1 + 1 + 1, o4) :: (L + 1 + 1 + 1, o3) :: (L + 1 + 1, o2) :: (L + 1, o1) :: ((nat_lit 411), tabObj #[]) :: dn)) := fun q hq => N1 q (.tail _ hq)
  clear N9 F9 N1
  k_steps
  rename News _ _ _ _ => N9
  rename Fr _ _ _ _ => F9
  k_dflt (refine' c_toldN0 B F9 X T rfl ?hd ?hu N9 (.head _) (.tail _ (.tail _ (.head _))) ?_)
  case hd => exact Nat.le_of_ble_eq_true rfl
  case hu => exact Nat.le_of_ble_eq_true rfl
  intro h2 k2 F2 N3
  have N4 : News h₀ L h2 ((td, tupO [.none, .str "" b1, .str "" b2, .str "" b3]) :: (D2, LCg.lst []) :: (D, LCg.lst []) :: ((fA, W.listOf fs kf) :: (sA, W.listOf #[.int sx tsx, .int sy tsy] ns) :: (tR, instObj 365 tD) :: (tD, dictOf [⟨PyData.keyHash w.params "rows", .str "rows" t0, .ref rA⟩] nd) :: (rA, W.listOf xs k) :: (L + 1 + 1 + 1 + 1, o4) :: (L + 1 + 1 + 1, o3) :: (L + 1 + 1, o2) :: (L + 1, o1) :: ((nat_lit 411), tabObj #[]) :: dn)) := fun q hq => N3 q (.tail _ hq)
  clear N9 F9 N3
  k_steps
  k_dflt (refine LCg.ListComp_U (F₀ := by k_asm) (by with_unfolding_all rfl) (by decide) (by rfl) (by decide) (by rfl) ?_)
  k_steps
  rename News _ _ _ _ => N9
  rename Fr _ _ _ _ => F9
  k_dflt (refine LCg.CompSrc.ledger (by rfl) F9 N9 (.tail _ (.tail _ (.head _))) (by rw [PySem.sizeLine_eq, List.size_toArray]; exact Nat.le_of_ble_eq_true rfl) ?_)
  intro g'
  refine comp_ind (fun zs nw => nw = (td, tupO [.none, .str "" b1, .str "" b2, .str "" b3]) :: (D2, LCg.lst []) :: (D, LCg.lst []) :: ((fA, W.listOf fs kf) :: (sA, W.listOf #[.int sx tsx, .int sy tsy] ns) :: (tR, instObj 365 tD) :: (tD, dictOf [⟨PyData.keyHash w.params "rows", .str "rows" t0, .ref rA⟩] nd) :: (rA, W.listOf xs k) :: (L + 1 + 1 + 1 + 1, o4) :: (L + 1 + 1 + 1, o3) :: (L + 1 + 1, o2) :: (L + 1, o1) :: ((nat_lit 411), tabObj #[]) :: dn)) rfl ?turn ?fin
  case turn =>
    intro i v zs nw I oI C oC D' m₂ h tk E' hi
    exact absurd hi (Nat.not_lt_zero _)
  case fin =>
    intro zs nw hzl hJ
    subst hJ
    obtain rfl := List.eq_nil_of_length_eq_zero hzl
    clear N9 F9
    intro D3 h tk F' N' off
    have hu : callerA.units + 3 + 64 < cLine := Nat.le_of_ble_eq_true rfl
    k_dflt (refine ke_ne_ints (xs := []) (ys := []) ⟨_, (N' _ (.tail _ (.tail _ (.head _)))).1, rfl, _, rfl⟩ ⟨_, (N' _ (.head _)).1, rfl, _, rfl⟩ .nil .nil hu ?_)
    simp only [decide_true, Bool.not_true]
    k_steps
    rename News _ _ _ _ => N9
    rename Fr _ _ _ _ => F9
    (try dsimp only)
    exact ret _ _ _ F9 rfl rfl rfl rfl (fun q hq => N9 q (by repeat (first | exact hq | refine List.mem_cons_of_mem _ ?_)))

end
section
theorem regW254 : True := by
  w_top off
  k_with "my parts" => (((rename News _ _ _ _ => N9); k_dflt (refine' c_parts ?B ?F ?X ?T ?hk ?hd ?hu ?N ?hz ?h0 ?hv ?_; (case B => k_asm); (case F => k_asm); (case X => k_asm); (case T => k_asm); (case hk => exact rfl); (case hd => first | exact Nat.le_of_ble_eq_true rfl | walk_at "my side"); (case hu => first | exact Nat.le_of_ble_eq_true rfl | walk_at "my side"); (case hv => with_reducible assumption); (case N => (refine' News.subL N9 ?u; (case u => k_subL))); (case hz => walk_at "my size"); (case h0 => with_reducible assumption)); (intro l9 n9 b9 c9 d9 h9 t9 F9 M9 K9); (have N8 := News.both M9 (News.stay N9 K9)); (try simp only [List.cons_append, List.nil_append] at N8); clear M9 K9; (try k_sweep); (try dsimp only); (try k_fold)))
  k_with "call ref m" => (((with_reducible show wpAny _ _ (call (Value.ref 409) [Value.ref _, Value.int _ _] _) _ _ _); k_dflt (walk_at "my parts")))
  k_with "subscriptTail Name Slice ref ref m" => ((k_here; (with_reducible show wpAny _ _ (subscriptTail _ (PySem.Expr.Slice _ none none _) (Value.ref _) (Value.ref _)) _ _ _); k_dflt (refine' tslice ?F ?N ?m ?_; (case F => k_asm); (case N => k_asm); (case m => k_mem); k_whole; intro D9 h9 F9 N9 l9; (try k_lt l9); (try k_sweep))))
  k_with "call type:list m" => ((k_here; (with_reducible show wpAny _ _ (call (Value.type _) [Value.ref _]) _ _ _); k_dflt (refine' tlist ?F ?N ?m ?z ?_; (case F => k_asm); (case N => k_asm); (case m => k_mem); (case z => exact Nat.le_of_ble_eq_true rfl); k_whole; intro D9 c9 h9 F9 N9 l9; (try k_lt l9); (try k_sweep))))
  k_with "my units2" => (first | exact Nat.le_of_ble_eq_true rfl | walk_at "my units")
  k_with "compareOp NotEq ref ref m" => ((k_here; (with_reducible show wpAny _ _ (compareOp CmpOp.NotEq (Value.ref _) (Value.ref _)) _ _ _); k_dflt (refine' ne_str3 ?N ?a ?b ?k1 ?k2 ?k3 ?hu ?_; (case N => k_asm); (case a => k_mem); (case b => k_mem); (case k1 => first | assumption | decide +kernel); (case k2 => first | assumption | decide +kernel); (case k3 => first | assumption | decide +kernel); (case hu => walk_at "my units2"); k_whole)))
  k_with "k_steps" => (repeat' (first | (k_unfold; (try dsimp only)) | (k_unmd; k_unfold; (try dsimp only)) | (k_end; kc_close) | ((fail_if_success walk_at "stop W2"); walk1) | ((fail_if_success walk_at "stop W2"); dsimp only; (fail_if_success walk_at "stop W2"); walk1) | (leave1; walk_say "STEP leave1"; try dsimp only) | fail "no step"))
  k_with "stop W2" => (((with_reducible show wpAny _ _ (pyIter (Value.ref _)) (fun it s₂ => LoopAtV _ _ _ _ _ _ _ _ _ it s₂) _ _)))
  trivial
theorem W2 {fa sA tD tR rA fA : Addr} {lo : Nat} {o1 o2 o3 o4 : Obj} {sx sy : Int} {tsx tsy t0 : Tok} {ns nd k kf : Nat} {xs fs : Array Value} {nn : List (Addr × Obj)} {ms : Str → Option Value} {rest : List Stmt} {QF : Flow → Shared → Prop} {EF : Value → Shared → Prop}
    (B : Below callerA h₀ [] h₀) (F : Fr h₀ L s.heap ms) (X : (KK w.params).In h₀) (T : Top p loose mean mg mb h₀)
    (N : News h₀ L s.heap ((fA, W.listOf fs kf) :: (sA, W.listOf #[.int sx tsx, .int sy tsy] ns) :: (tR, instObj 365 tD) :: (tD, dictOf [⟨PyData.keyHash w.params "rows", .str "rows" t0, .ref rA⟩] nd) :: (rA, W.listOf xs k) :: (L + 1 + 1 + 1 + 1, o4) :: (L + 1 + 1 + 1, o3) :: (L + 1 + 1, o2) :: (L + 1, o1) :: ((nat_lit 411), tabObj #[]) :: nn))
    (e1 : ms "tree" = some (.ref tR)) (d1 : o1.data = .cell (some (.ref sA))) (d2 : o2.data = .cell (some (.ref fA))) (hg : ∀ v ∈ fs, Good w.params nn xs v) (hE : PassesOwn (model prog w) (callerA.deeper (envOfC (Str.ofString "law") c29 L fa (.ref (nat_lit 413)))) (envOfC (Str.ofString "law") c29 L fa (.ref (nat_lit 413))) EF) (hfs : fs.size ≤ 20) (hxs : xs.size ≤ 20)
    (ret : ∀ (m' : Str → Option Value) (h' : Heap) (t' : Nat), Fr h₀ L h' m' → m' "tree" = some (.ref tR) → News h₀ L h' ((fA, W.listOf fs kf) :: (sA, W.listOf #[.int sx tsx, .int sy tsy] ns) :: (tR, instObj 365 tD) :: (tD, dictOf [⟨PyData.keyHash w.params "rows", .str "rows" t0, .ref rA⟩] nd) :: (rA, W.listOf xs k) :: (L + 1 + 1 + 1 + 1, o4) :: (L + 1 + 1 + 1, o3) :: (L + 1 + 1, o2) :: (L + 1, o1) :: ((nat_lit 411), tabObj #[]) :: nn) →
      wpAny (model prog w) (callerA.deeper (envOfC (Str.ofString "law") c29 L fa (.ref (nat_lit 413)))) (execs rest (envOfC (Str.ofString "law") c29 L fa (.ref (nat_lit 413)))) QF EF { s with heap := h', toks := t' }) :
    wpAny (model prog w) (callerA.deeper (envOfC (Str.ofString "law") c29 L fa (.ref (nat_lit 413)))) (execs (y2 :: rest) (envOfC (Str.ofString "law") c29 L fa (.ref (nat_lit 413)))) QF EF s := by
  rw [mapT e1] at F
  delta y2
  refine wpAny_execs_cons ?_
  refine For_invVF (hE := hE) F rfl rfl ?_
  clear hE
  k_steps
  rename News _ _ _ _ => N9
  rename Fr _ _ _ _ => F9
  refine iter_listJ (m₀ := _) (fun _ m n => m "tree" = some (.ref tR) ∧ n = (fA, W.listOf fs kf) :: (sA, W.listOf #[.int sx tsx, .int sy tsy] ns) :: (tR, instObj 365 tD) :: (tD, dictOf [⟨PyData.keyHash w.params "rows", .str "rows" t0, .ref rA⟩] nd) :: (rA, W.listOf xs k) :: (L + 1 + 1 + 1 + 1, o4) :: (L + 1 + 1 + 1, o3) :: (L + 1 + 1, o2) :: (L + 1, o1) :: ((nat_lit 411), tabObj #[]) :: nn) (by with_unfolding_all rfl) F9 N9 (by k_mem) ⟨by first | rfl | with_unfolding_all rfl, rfl⟩ (fun i m₁ n₁ hJ => by rw [hJ.2]; k_mem) ?turn ?done
  case done =>
    intro m₁ n₁ h tk hJ F' N'
    obtain ⟨hm, rfl⟩ := hJ
    exact ret m₁ h tk F' hm N'
  case turn =>
    intro i v m₁ n₁ I it h tk hv hJ hlt hne F' N'
    obtain ⟨hm, rfl⟩ := hJ
    obtain ⟨t, x, dx, c1, c2, c3, ii, ti, a1, a2, a3, b1, b2, b3, t1, t2, t3, t4, t5, t6, t7, t8, t9, nm, lc, ur, kd, vl, pr, rfl, g1, g2, g3, g4, g5, k1, k2, k3⟩ := hg v (Array.mem_of_getElem? hv)
    clear N9 F9 hlt
    rw [mapT hm] at F'
    k_steps
    rename News _ _ _ _ => N6
    rename Fr _ _ _ _ => F6
    refine TurnEndJ.intro _ F6 (fun q hq => N6 q (by repeat (first | exact hq | refine List.mem_cons_of_mem _ ?_))) hne ⟨?_, rfl⟩
    exact rfl

end
section
theorem regW8c55 : True := by
  w_top off
  k_with "k_steps" => (repeat' (first | (k_unfold; (try dsimp only)) | (k_unmd; k_unfold; (try dsimp only)) | (k_end; kc_close) | ((fail_if_success walk_at "stop W8c"); walk1) | ((fail_if_success walk_at "stop W8c"); dsimp only; (fail_if_success walk_at "stop W8c"); walk1) | (leave1; walk_say "STEP leave1"; try dsimp only) | fail "no step"))
  k_with "stop W8c" => (((with_reducible show wpAny _ _ (pyIter (Value.ref _)) (fun it s₂ => LoopAtV _ _ _ _ _ _ _ _ _ it s₂) _ _)))
  k_with "stop W8c" => (first | (with_reducible show wpAny _ _ (compareOp CmpOp.NotEq (Value.ref _) (Value.ref _)) _ _ _) | (with_reducible show wpAny _ _ (call (Value.builtin "len") _ _) _ _ _) | (with_reducible show wpAny _ _ (call (Value.ref 101) _ _) _ _ _) | (with_reducible show wpAny _ _ (call (Value.ref 108) _ _) _ _ _))
  trivial
theorem W8c {fa sA tD tR rA fA : Addr} {lo : Nat} {o1 o2 o3 o4 : Obj} {sx sy : Int} {tsx tsy t0 : Tok} {ns nd k kf : Nat} {xs fs : Array Value} {nn dn : List (Addr × Obj)} {ms : Str → Option Value} {rest : List Stmt} {QF : Flow → Shared → Prop} {EF : Value → Shared → Prop}
    {D D2 td cx x dx c1 c2 c3 : Addr} {r zr : List Value} {i2 : Int} {tj b1 b2 b3 tz u1 u2 u3 t1 t2 t3 t4 t5 t6 t7 t8 t9 : Tok} {nm2 lc2 ur2 : Str} {kd vl pr : Value} (B : Below callerA h₀ [] h₀) (F : Fr h₀ L s.heap ms) (X : (KK w.params).In h₀) (T : Top p loose mean mg mb h₀)
    (N : News h₀ L s.heap ((D2, LCg.lst (.int i2 tz :: zr)) :: (D, LCg.lst (.ref td :: r)) :: ((fA, W.listOf fs kf) :: (sA, W.listOf #[.int sx tsx, .int sy tsy] ns) :: (tR, instObj 365 tD) :: (tD, dictOf [⟨PyData.keyHash w.params "rows", .str "rows" t0, .ref rA⟩] nd) :: (rA, W.listOf xs k) :: (L + 1 + 1 + 1 + 1, o4) :: (L + 1 + 1 + 1, o3) :: (L + 1 + 1, o2) :: (L + 1, o1) :: ((nat_lit 411), tabObj #[]) :: dn)))
    (e1 : ms "tree" = some (.ref tR)) (e3 : ms "some" = some (.ref D)) (e4 : ms "nodes" = some (.ref D2)) (e5 : ms "due" = some (.ref td))
    (g2 : (td, tupO [.int i2 tj, .str nm2 b1, .str lc2 b2, .str ur2 b3]) ∈ dn) (g3 : 0 ≤ i2) (g4 : xs[i2.toNat]? = some (.ref x)) (g5 : (x, instObj 176 dx) ∈ dn) (g6 : (dx, rowD w.params t1 t2 t3 t4 t5 t6 t7 t8 t9 kd (.str nm2 u1) (.str ur2 u2) (.str lc2 u3) vl pr c1 c2 c3) ∈ dn) (k1 : PyData.strOk nm2 = true) (k2 : PyData.strOk lc2 = true) (k3 : PyData.strOk ur2 = true)
    (hxs : xs.size ≤ 20) (d3 : o3.data = .cell (some (.ref cx))) (hl : r.length ≤ 3) (hlen : zr.length = r.length)
    (ret : ∀ (m' : Str → Option Value) (h' : Heap) (t' : Nat), Fr h₀ L h' m' → m' "tree" = some (.ref tR) →
      News h₀ L h' ((fA, W.listOf fs kf) :: (sA, W.listOf #[.int sx tsx, .int sy tsy] ns) :: (tR, instObj 365 tD) :: (tD, dictOf [⟨PyData.keyHash w.params "rows", .str "rows" t0, .ref rA⟩] nd) :: (rA, W.listOf xs k) :: (L + 1 + 1 + 1 + 1, o4) :: (L + 1 + 1 + 1, o3) :: (L + 1 + 1, o2) :: (L + 1, o1) :: ((nat_lit 411), tabObj #[]) :: dn) →
      wpAny (model prog w) (callerA.deeper (envOfC (Str.ofString "law") c29 L fa (.ref (nat_lit 413)))) (execs rest (envOfC (Str.ofString "law") c29 L fa (.ref (nat_lit 413)))) QF EF { s with heap := h', toks := t' }) :
    wpAny (model prog w) (callerA.deeper (envOfC (Str.ofString "law") c29 L fa (.ref (nat_lit 413)))) (execs (y9 :: rest) (envOfC (Str.ofString "law") c29 L fa (.ref (nat_lit 413)))) QF EF s := by
  rw [mapE e1 e3 e4 e5] at F
  k_steps
  rename News _ _ _ _ => N9
  rename Fr _ _ _ _ => F9
  k_dflt (refine' c_toldN1 B F9 X T rfl ?hd ?hu N9 (.head _) (.tail _ (.head _)) ?_)
  case hd => exact Nat.le_of_ble_eq_true rfl
  case hu => exact Nat.le_of_ble_eq_true rfl
  intro h2 k2' F2 N3
  have N4 : News h₀ L h2 ((D2, LCg.lst (.int i2 tz :: zr)) :: (D, LCg.lst (.ref td :: r)) :: ((fA, W.listOf fs kf) :: (sA, W.listOf #[.int sx tsx, .int sy tsy] ns) :: (tR, instObj 365 tD) :: (tD, dictOf [⟨PyData.keyHash w.params "rows", .str "rows" t0, .ref rA⟩] nd) :: (rA, W.listOf xs k) :: (L + 1 + 1 + 1 + 1, o4) :: (L + 1 + 1 + 1, o3) :: (L + 1 + 1, o2) :: (L + 1, o1) :: ((nat_lit 411), tabObj #[]) :: dn)) := fun q hq => N3 q (.tail _ hq)
  clear N9 F9 N3
  k_steps
  rename News _ _ _ _ => N9
  k_dflt (refine' ne_str3 N9 (by k_mem) (by k_mem) k1 k2 k3 (Nat.le_of_ble_eq_true rfl) ?_)
  k_steps
  rename News _ _ _ _ => N9
  rename Fr _ _ _ _ => F9
  k_dflt (refine' c_counted (D := D2) (zs := .int i2 tz :: zr) (by simp only [List.length_cons]; omega) B F9 X T rfl ?hd ?hu N9 (by k_mem) ?_)
  case hd => exact Nat.le_of_ble_eq_true rfl
  case hu => exact Nat.le_of_ble_eq_true rfl
  intro tc ta tb h5 k5 F5 N5
  have hlen2 : ((Value.int i2 tz :: zr).length : Int) = ((Value.ref td :: r).toArray.size : Int) := by rw [List.size_toArray, List.length_cons, List.length_cons, hlen]
  rw [hlen2] at N5
  clear N9 F9 hlen2
  k_steps
  rename News _ _ _ _ => N9
  k_dflt (refine' len_any (items := (Value.ref td :: r).toArray) N9 (by k_mem) (by rw [List.size_toArray, List.length_cons]; omega) ?_)
  k_steps
  rename News _ _ _ _ => N9
  k_dflt (refine' ne_tup2 N9 (by k_mem) (by k_mem) (Nat.le_of_ble_eq_true rfl) ?_)
  k_steps
  rename News _ _ _ _ => N9
  rename Fr _ _ _ _ => F9
  (try dsimp only)
  exact ret _ _ _ F9 rfl (fun q hq => N9 q (by repeat (first | exact hq | refine List.mem_cons_of_mem _ ?_)))

end
section
theorem regW8n56 : True := by
  w_top off
  k_with "k_steps" => (repeat' (first | (k_unfold; (try dsimp only)) | (k_unmd; k_unfold; (try dsimp only)) | (k_end; kc_close) | ((fail_if_success walk_at "stop W8n"); walk1) | ((fail_if_success walk_at "stop W8n"); dsimp only; (fail_if_success walk_at "stop W8n"); walk1) | (leave1; walk_say "STEP leave1"; try dsimp only) | fail "no step"))
  k_with "stop W8n" => (((with_reducible show wpAny _ _ (pyIter (Value.ref _)) (fun it s₂ => LoopAtV _ _ _ _ _ _ _ _ _ it s₂) _ _)))
  k_with "stop W8n" => (first | (with_reducible show wpAny _ _ (call (Value.ref 409) _ _) _ _ _) | (with_reducible show wpAny _ _ (compareOp CmpOp.NotEq (Value.ref _) (Value.ref _)) _ _ _) | (with_reducible show wpAny _ _ (call (Value.builtin "len") _ _) _ _ _) | (with_reducible show wpAny _ _ (call (Value.ref 101) _ _) _ _ _) | (with_reducible show wpAny _ _ (call (Value.ref 108) _ _) _ _ _))
  trivial
theorem W8n {fa sA tD tR rA fA : Addr} {lo : Nat} {o1 o2 o3 o4 : Obj} {sx sy : Int} {tsx tsy t0 : Tok} {ns nd k kf : Nat} {xs fs : Array Value} {nn dn : List (Addr × Obj)} {ms : Str → Option Value} {rest : List Stmt} {QF : Flow → Shared → Prop} {EF : Value → Shared → Prop}
    {D D2 td cx : Addr} {b1 b2 b3 : Tok} (B : Below callerA h₀ [] h₀) (F : Fr h₀ L s.heap ms) (X : (KK w.params).In h₀) (T : Top p loose mean mg mb h₀)
    (N : News h₀ L s.heap ((td, tupO [.none, .str "" b1, .str "" b2, .str "" b3]) :: (D2, LCg.lst []) :: (D, LCg.lst []) :: ((fA, W.listOf fs kf) :: (sA, W.listOf #[.int sx tsx, .int sy tsy] ns) :: (tR, instObj 365 tD) :: (tD, dictOf [⟨PyData.keyHash w.params "rows", .str "rows" t0, .ref rA⟩] nd) :: (rA, W.listOf xs k) :: (L + 1 + 1 + 1 + 1, o4) :: (L + 1 + 1 + 1, o3) :: (L + 1 + 1, o2) :: (L + 1, o1) :: ((nat_lit 411), tabObj #[]) :: dn)))
    (e1 : ms "tree" = some (.ref tR)) (e3 : ms "some" = some (.ref D)) (e4 : ms "nodes" = some (.ref D2)) (e5 : ms "due" = some (.ref td))
    (d3 : o3.data = .cell (some (.ref cx)))
    (ret : ∀ (m' : Str → Option Value) (h' : Heap) (t' : Nat), Fr h₀ L h' m' → m' "tree" = some (.ref tR) →
      News h₀ L h' ((fA, W.listOf fs kf) :: (sA, W.listOf #[.int sx tsx, .int sy tsy] ns) :: (tR, instObj 365 tD) :: (tD, dictOf [⟨PyData.keyHash w.params "rows", .str "rows" t0, .ref rA⟩] nd) :: (rA, W.listOf xs k) :: (L + 1 + 1 + 1 + 1, o4) :: (L + 1 + 1 + 1, o3) :: (L + 1 + 1, o2) :: (L + 1, o1) :: ((nat_lit 411), tabObj #[]) :: dn) →
      wpAny (model prog w) (callerA.deeper (envOfC (Str.ofString "law") c29 L fa (.ref (nat_lit 413)))) (execs rest (envOfC (Str.ofString "law") c29 L fa (.ref (nat_lit 413)))) QF EF { s with heap := h', toks := t' }) :
    wpAny (model prog w) (callerA.deeper (envOfC (Str.ofString "law") c29 L fa (.ref (nat_lit 413)))) (execs (y9 :: rest) (envOfC (Str.ofString "law") c29 L fa (.ref (nat_lit 413)))) QF EF s := by
  rw [mapE e1 e3 e4 e5] at F
  k_steps
  rename News _ _ _ _ => N9
  rename Fr _ _ _ _ => F9
  k_dflt (refine' c_toldN0 B F9 X T rfl ?hd ?hu N9 (.head _) (.tail _ (.tail _ (.head _))) ?_)
  case hd => exact Nat.le_of_ble_eq_true rfl
  case hu => exact Nat.le_of_ble_eq_true rfl
  intro h2 k2' F2 N3
  have N4 : News h₀ L h2 ((td, tupO [.none, .str "" b1, .str "" b2, .str "" b3]) :: (D2, LCg.lst []) :: (D, LCg.lst []) :: ((fA, W.listOf fs kf) :: (sA, W.listOf #[.int sx tsx, .int sy tsy] ns) :: (tR, instObj 365 tD) :: (tD, dictOf [⟨PyData.keyHash w.params "rows", .str "rows" t0, .ref rA⟩] nd) :: (rA, W.listOf xs k) :: (L + 1 + 1 + 1 + 1, o4) :: (L + 1 + 1 + 1, o3) :: (L + 1 + 1, o2) :: (L + 1, o1) :: ((nat_lit 411), tabObj #[]) :: dn)) := fun q hq => N3 q (.tail _ hq)
  clear N9 F9 N3
  k_steps
  rename News _ _ _ _ => N9
  rename Fr _ _ _ _ => F9
  k_dflt (refine' c_partsN (news := []) B F9 X T rfl ?hd ?hu (News.subL N9 ?u) ?_)
  case hd => exact Nat.le_of_ble_eq_true rfl
  case hu => exact Nat.le_of_ble_eq_true rfl
  case u => k_subL
  intro l9 n9 b9 c9 d9 h9 t9 F8 M9 K9
  have N8 := News.both M9 (News.stay N9 K9)
  simp only [List.cons_append, List.nil_append] at N8
  clear M9 K9 N9 F9
  k_steps
  rename News _ _ _ _ => N9
  k_dflt (refine' ne_str3 N9 (by k_mem) (by k_mem) (by decide +kernel) (by decide +kernel) (by decide +kernel) (Nat.le_of_ble_eq_true rfl) ?_)
  k_steps
  rename News _ _ _ _ => N9
  rename Fr _ _ _ _ => F9
  k_dflt (refine' c_counted (D := D2) (zs := []) (Nat.zero_le _) B F9 X T rfl ?hd ?hu N9 (by k_mem) ?_)
  case hd => exact Nat.le_of_ble_eq_true rfl
  case hu => exact Nat.le_of_ble_eq_true rfl
  intro tc ta tb h5 k5 F5 N5
  have hlen2 : (([] : List Value).length : Int) = (([] : List Value).toArray.size : Int) := rfl
  rw [hlen2] at N5
  clear N9 F9 hlen2
  k_steps
  rename News _ _ _ _ => N9
  k_dflt (refine' len_any (items := ([] : List Value).toArray) N9 (by k_mem) (Nat.le_of_ble_eq_true rfl) ?_)
  k_steps
  rename News _ _ _ _ => N9
  k_dflt (refine' ne_tup2 N9 (by k_mem) (by k_mem) (Nat.le_of_ble_eq_true rfl) ?_)
  k_steps
  rename News _ _ _ _ => N9
  rename Fr _ _ _ _ => F9
  (try dsimp only)
  exact ret _ _ _ F9 rfl (fun q hq => N9 q (by repeat (first | exact hq | refine List.mem_cons_of_mem _ ?_)))

end
section
theorem offLtW {l : List (Addr × Obj)} {a f : Nat} (h : ∀ q ∈ l, @LT.lt Nat _ f q.1) (hl : a < f) : ∀ q ∈ l, q.1 ≠ a := fun q hq e => Nat.lt_irrefl a (Nat.lt_trans hl ((show @Eq Nat q.1 a from e) ▸ h q hq))
theorem W10 {fa sA tD tR rA : Addr} {o1 o2 o3 o4 : Obj} {vc2 vc3 vc4 : Option Value} {sx sy : Int} {tsx tsy t0 : Tok} {ns nd k : Nat} {ms : Str → Option Value} {QF : Flow → Shared → Prop} {EF : Value → Shared → Prop}
    (B : Below callerA h₀ [] h₀) (F : Fr h₀ L s.heap ms) (X : (KK w.params).In h₀) (T : Top p loose mean mg mb h₀) (Ch : CodeHd h₀ 413 411)
    (N : News h₀ L s.heap [(rA, W.listOf #[] k), (tR, instObj 365 tD), (tD, dictOf [⟨PyData.keyHash w.params "rows", .str "rows" t0, .ref rA⟩] nd), (sA, W.listOf #[.int sx tsx, .int sy tsy] ns), (L + 1 + 1 + 1 + 1, o4), (L + 1 + 1 + 1, o3), (L + 1 + 1, o2), (L + 1, o1), ((nat_lit 411), tabObj #[])])
    (e1 : ms "tree" = some (.ref tR)) (d1 : o1.data = .cell (some (.ref sA))) (d2 : o2.data = .cell vc2) (d3 : o3.data = .cell vc3) (d4 : o4.data = .cell vc4)
    (o0 : @LT.lt Nat _ 411 L) (p1 : @LT.lt Nat _ (L + 1 + 1 + 1 + 1) sA) (p2 : @LT.lt Nat _ sA tD) (p3 : @LT.lt Nat _ tD tR) (p4 : @LT.lt Nat _ tR rA) (hx : 0 ≤ sx) (hy : 0 ≤ sy) (hy2 : sy < 2147483648)
    (hE : PassesOwn (model prog w) (callerA.deeper (envOfC (Str.ofString "law") c29 L fa (.ref (nat_lit 413)))) (envOfC (Str.ofString "law") c29 L fa (.ref (nat_lit 413))) EF)
    (ret : ∀ (m' : Str → Option Value) (tk : Nat) (h' : Heap) (ps : Array Value), Fr h₀ L h' m' → News h₀ L h' [((nat_lit 411), tabObj ps)] → QF (.ret (.bool true)) { s with heap := h', toks := tk }) :
    wpAny (model prog w) (callerA.deeper (envOfC (Str.ofString "law") c29 L fa (.ref (nat_lit 413)))) (execs [y1, y2, y3, y4, y5, y6, y7, y8, y9, y10, y11] (envOfC (Str.ofString "law") c29 L fa (.ref (nat_lit 413)))) QF EF s := by
  refine W1 B F X T N e1 d1 d2 o0 p1 p2 p3 p4 hx hy hy2 ?_
  intro fA lo sx1 sy1 tsx1 tsy1 ns1 xs k1 fs kf dn o2' m1 h1 t1 hx1 hy1 hz1 F1 e1 N1 d2 hg hf1 hf2 hxs hlo hdn hfa
  have q0 : ∀ a : Nat, a < rA → ∀ q ∈ dn, q.1 ≠ a := fun a ha => offLe (fun q hq => (hdn q hq).1) (Nat.lt_trans ha hlo)
  have p14 : @LT.lt Nat _ sA rA := Nat.lt_trans p2 (Nat.lt_trans p3 p4)
  have p5 : @LT.lt Nat _ rA fA := Nat.lt_of_lt_of_le hlo hfa
  have u4 : @LT.lt Nat _ (L + 1 + 1 + 1 + 1) rA := Nat.lt_trans p1 p14
  have u3 : @LT.lt Nat _ (L + 1 + 1 + 1) rA := Nat.lt_trans (Nat.lt_succ_self _) u4
  have u0 : @LT.lt Nat _ 411 rA := Nat.lt_trans o0 (Nat.lt_trans (Nat.lt_add_of_pos_right (Nat.succ_pos 3)) u4)
  refine W2 (lo := 0) B F1 X T N1 e1 d1 d2 hg hE hf2 hxs ?_
  intro m2 h2 t2 F2 e2 N2
  refine W3 (lo := 0) (nn := []) B F2 X T N2 e2 o0 p1 p2 p3 p4 p5 (q0 _ p14) (q0 _ u4) (q0 _ u3) (q0 _ u0) d1 d2 hg hf1 hf2 hxs hx1 hy1 hz1 d3 ?_
  intro m3 t cx i sx2 sy2 ti a1 a2 a3 tsx2 tsy2 nm lc ur ns2 o3' D h3 t3 hx2 hy2' hz2 F3 e3 e3h gt N3 d3' hc hD
  have q1 : ∀ a : Nat, a < rA → ∀ q ∈ D ++ dn, q.1 ≠ a := fun a ha => offApp (offLtW hD (Nat.lt_trans ha p5)) (q0 a ha)
  have hg' : ∀ v ∈ fs, Good w.params (D ++ dn) xs v := fun v hv => (hg v hv).mono (fun q hq _ => List.mem_append_right _ hq) fun _ _ h => h
  have gt' := List.mem_append_right D gt
  have hc' : CtxAt w.params cx i ti (D ++ dn) := hc.mono fun q hq => List.mem_append_left _ hq
  refine W4 (lo := 0) (nn := []) B F3 X T N3 e3 e3h o0 p1 p2 p3 p4 p5 (q1 _ p14) (q1 _ u4) (q1 _ u3) (q1 _ u0) d1 d2 hg' hf1 hf2 hxs hx2 hy2' hz2 ?_
  intro m4 Dl ys sx3 sy3 tsx3 tsy3 ns3 h4 t4 hx3 hy3 hz3 hl hall F4 e4 e4h e4s N4 off4
  obtain ⟨is, hh⟩ := heads_of hall
  refine W5 (lo := 0) (nn := []) B F4 X T N4 e4 e4h e4s hl hh ?_
  intro m5 D2 zs h5 t5 hI F5 e5 e5h e5s e5n N5 off5
  have fin : ∀ (m8 : Str → Option Value) (h8 : Heap) (t8 : Nat), Fr h₀ L h8 m8 → m8 "tree" = some (.ref tR) → News h₀ L h8 ((fA, W.listOf fs kf) :: (sA, W.listOf #[.int sx3 tsx3, .int sy3 tsy3] ns3) :: (tR, instObj 365 tD) :: (tD, dictOf [⟨PyData.keyHash w.params "rows", .str "rows" t0, .ref rA⟩] nd) :: (rA, W.listOf xs k1) :: (L + 1 + 1 + 1 + 1, o4) :: (L + 1 + 1 + 1, o3') :: (L + 1 + 1, o2') :: (L + 1, o1) :: ((nat_lit 411), tabObj #[]) :: (D ++ dn)) →
      wpAny (model prog w) (callerA.deeper (envOfC (Str.ofString "law") c29 L fa (.ref (nat_lit 413)))) (execs [y10, y11] (envOfC (Str.ofString "law") c29 L fa (.ref (nat_lit 413)))) QF EF { s with heap := h8, toks := t8 } := by
    intro m8 h8 t8 F8 e8 N8
    refine W9a (lo := 0) (nn := []) B F8 X T N8 o0 p1 p2 p3 p4 p5 (q1 _ p14) (q1 _ u4) (q1 _ u3) (q1 _ u0) d1 hx3 hy3 hz3 d4 ?_
    intro m9 v o4' D9 h9 t9 F9 N9 d4' hN hoff
    exact W9b B F9 X T Ch N9 o0 d3' d4' hN hoff fun m' tk h' nw F' N' => ret m' tk h' nw F' N'
  cases hh with
  | nil =>
    cases hI
    refine W6n (lo := 0) (nn := []) B F5 X T N5 e5 e5h e5s e5n ?_
    intro m6 td b1 b2 b3 h6 t6 F6 e6 e6h e6s e6n e6d N6
    refine W7n (lo := 0) (nn := []) B F6 X T N6 e6 e6h e6s e6n e6d gt' hc' d3' ?_
    intro m7 h7 t7 F7 e7 e7s e7n e7d N7
    refine W8n (lo := 0) (nn := []) B F7 X T N7 e7 e7s e7n e7d d3' ?_
    intro m8 h8 t8 F8 e8 N8
    exact fin m8 h8 t8 F8 e8 N8
  | cons gi hr =>
    have gi' := gi
    obtain ⟨td, x, dx, c1, c2, c3, tj, b1, b2, b3, v1, v2, v3, w1, w2, w3, w4, w5, w6, w7, w8, w9, nm2, lc2, ur2, kd, vl, pr, rfl, g1, g2, g3, g4, g5, k1, k2, k3⟩ := gi'
    cases hI with
    | cons i2 tz hI' =>
      refine W6c (lo := 0) (nn := []) B F5 X T N5 e5 e5h e5s e5n ?_
      intro m6 h6 t6 F6 e6 e6h e6s e6n e6d N6
      refine W7c (lo := 0) (nn := []) B F6 X T N6 e6 e6h e6s e6n e6d gt' g1 hc' d3' hl (.cons gi hr) (.cons _ tz hI') ?_
      intro m7 h7 t7 F7 e7 e7s e7n e7d N7
      have hr1 := hr.len
      have hr2 := IntsAre.length hI'
      rw [List.length_cons] at hl
      refine W8c (lo := 0) (nn := []) B F7 X T N7 e7 e7s e7n e7d g1 g2 g3 g4 g5 k1 k2 k3 hxs d3' (by omega) (by omega) ?_
      intro m8 h8 t8 F8 e8 N8
      exact fin m8 h8 t8 F8 e8 N8

end
section
theorem regW057 : True := by
  k_with_none
  trivial
theorem b29_eq : b29 = [y0, y1, y2, y3, y4, y5, y6, y7, y8, y9, y10, y11] := by with_unfolding_all rfl
theorem W0 : PySem.Challenge.rw_xm0669_01.Holds := hd (by
  k_fill
  intro w s₀ s₁ mg mb G Y fa o pm cd doc dV kV ho hd hcd hD hmg hg args vals as hpre hlay hrd hwl hlo
  have KX := km_in_of Y
  km_tabs Y
  have X := (Ground.X G).1
  have V := (Ground.X G).2
  refine Ground.open G ?_
  intro T B D TE TW
  try (refine guard_noD D (by decide +kernel) ?_; clear D)
  dsimp only at hmg
  km_lay T hmg ho hd cd
  clear hmg
  wrow_args hpre hlay hrd hwl hlo
  all_goals (
    refine enter_call ?_
    w_top on
    kn_posts
    w_call any ho hd hcd hD T F
    clear hd
    kn_ghosts F T
    k_drop)
  (all_goals try k_fold)
  all_goals (
    dsimp only
    rename News _ _ _ _ => N9
    rename Fr _ _ _ _ => F9
    rename Below _ _ _ _ => B9
    rename Frag.In _ _ => X9
    rename Top _ _ _ _ _ _ => T9
    rename CodeHd _ _ _ => Ch9
    rename Heap.IsList (ghostOf _ _) _ _ => L9
    rename IntsAre _ _ => I9
    rename @LT.lt Nat _ _ _ => o9
    rw [b29_eq]
    refine' W11 B9 F9 X9 T9 N9 ?e0 ?d1 o9 L9 I9 ?len ?_
    case e0 => with_unfolding_all rfl
    case d1 => assumption
    case len => omega
    intro m1 sA tR tD rA o1 sx sy tsx tsy t0 ns nd k h1 t1 hx hy hy2 F1 e1 d1 p1 p2 p3 p4 N1
    refine' W10 B9 F1 X9 T9 Ch9 N1 e1 d1 ?d2 ?d3 ?d4 o9 p1 p2 p3 p4 hx hy hy2 ?hE ?_
    case d2 => assumption
    case d3 => assumption
    case d4 => assumption
    case hE => passes_own
    intro m2 t2 h2 ps F2 N2
    (try dsimp only)
    k_steps
    done))

end
end
end Mine
theorem PySem.Challenge.cw_xm0669_01_holds : PySem.Challenge.rw_xm0669_01.Holds := by
  exact Mine.W0
