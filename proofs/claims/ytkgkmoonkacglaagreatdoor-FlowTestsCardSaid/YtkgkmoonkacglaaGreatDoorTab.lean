/- The table of the printed functions, and that it is a table of this program's. -/
import Derived.Test.YtkgkmoonkacglaaGreatDoorC0
import Derived.Test.YtkgkmoonkacglaaGreatDoorC1
import Derived.Test.YtkgkmoonkacglaaGreatDoorC2
import Derived.Test.YtkgkmoonkacglaaGreatDoorC3
import Derived.Test.YtkgkmoonkacglaaGreatDoorEng4
import Derived.Test.YtkgkmoonkacglaaGreatDoorD
import Derived.Test.YtkgkmoonkacglaaGreatDoorShelf
set_option autoImplicit false
set_option linter.all false
section
set_option autoImplicit false
set_option maxRecDepth 1000000
namespace Go.Proofs
open Go Go.AX
noncomputable def Tryz.cs : PT FnK :=
  (PT.put Tryz.c223 (AX.Id.ofNat 223)
 (PT.put Tryz.c217 (AX.Id.ofNat 217)
 (PT.put Tryz.c211 (AX.Id.ofNat 211)
 (PT.put Tryz.c210 (AX.Id.ofNat 210)
 (PT.put Tryz.c209 (AX.Id.ofNat 209)
 (PT.put Tryz.c206 (AX.Id.ofNat 206)
 (PT.put Tryz.c205 (AX.Id.ofNat 205)
 (PT.put Tryz.c204 (AX.Id.ofNat 204)
 (PT.put Tryz.c203 (AX.Id.ofNat 203)
 (PT.put Tryz.c202 (AX.Id.ofNat 202)
 (PT.put Tryz.c201 (AX.Id.ofNat 201)
 (PT.put Tryz.c200 (AX.Id.ofNat 200)
 (PT.put Tryz.c198 (AX.Id.ofNat 198)
 (PT.put Tryz.c197 (AX.Id.ofNat 197)
 (PT.put Tryz.c196 (AX.Id.ofNat 196)
 (PT.put Tryz.c195 (AX.Id.ofNat 195)
 (PT.put Tryz.c194 (AX.Id.ofNat 194)
 (PT.put Tryz.c189 (AX.Id.ofNat 189)
 (PT.put Tryz.c188 (AX.Id.ofNat 188)
 (PT.put Tryz.c187 (AX.Id.ofNat 187)
 (PT.put Tryz.c186 (AX.Id.ofNat 186)
 (PT.put Tryz.c185 (AX.Id.ofNat 185)
 (PT.put Tryz.c184 (AX.Id.ofNat 184)
 (PT.put Tryz.c183 (AX.Id.ofNat 183)
 (PT.put Tryz.c177 (AX.Id.ofNat 177)
 (PT.put Tryz.c175 (AX.Id.ofNat 175)
 (PT.put Tryz.c174 (AX.Id.ofNat 174)
 (PT.put Tryz.c173 (AX.Id.ofNat 173)
 (PT.put Tryz.c172 (AX.Id.ofNat 172)
 (PT.put Tryz.c170 (AX.Id.ofNat 170)
 (PT.put Tryz.c165 (AX.Id.ofNat 165)
 (PT.put Tryz.c164 (AX.Id.ofNat 164)
 (PT.put Tryz.c163 (AX.Id.ofNat 163)
 (PT.put Tryz.c162 (AX.Id.ofNat 162)
 (PT.put Tryz.c160 (AX.Id.ofNat 160)
 (PT.put Tryz.c158 (AX.Id.ofNat 158)
 (PT.put Tryz.c157 (AX.Id.ofNat 157)
 (PT.put Tryz.c156 (AX.Id.ofNat 156)
 (PT.put Tryz.c155 (AX.Id.ofNat 155)
 (PT.put Tryz.c154 (AX.Id.ofNat 154)
 (PT.put Tryz.c153 (AX.Id.ofNat 153)
 (PT.put Tryz.c152 (AX.Id.ofNat 152)
 (PT.put Tryz.c150 (AX.Id.ofNat 150)
 (PT.put Tryz.c147 (AX.Id.ofNat 147)
 (PT.put Tryz.c144 (AX.Id.ofNat 144)
 (PT.put Tryz.c143 (AX.Id.ofNat 143)
 (PT.put Tryz.c142 (AX.Id.ofNat 142)
 (PT.put Tryz.c141 (AX.Id.ofNat 141)
 (PT.put Tryz.c140 (AX.Id.ofNat 140)
 (PT.put Tryz.c139 (AX.Id.ofNat 139)
 (PT.put Tryz.c138 (AX.Id.ofNat 138)
 (PT.put Tryz.c137 (AX.Id.ofNat 137)
 (PT.put Tryz.c136 (AX.Id.ofNat 136)
 (PT.put Tryz.c135 (AX.Id.ofNat 135)
 (PT.put Tryz.c134 (AX.Id.ofNat 134)
 (PT.put Tryz.c133 (AX.Id.ofNat 133)
 (PT.put Tryz.c132 (AX.Id.ofNat 132)
 (PT.put Tryz.c131 (AX.Id.ofNat 131)
 (PT.put Tryz.c130 (AX.Id.ofNat 130)
 (PT.put Tryz.c129 (AX.Id.ofNat 129)
 (PT.put Tryz.c128 (AX.Id.ofNat 128)
 (PT.put Tryz.c127 (AX.Id.ofNat 127)
 (PT.put Tryz.c125 (AX.Id.ofNat 125)
 (PT.put Tryz.c123 (AX.Id.ofNat 123)
 (PT.put Tryz.c122 (AX.Id.ofNat 122)
 (PT.put Tryz.c121 (AX.Id.ofNat 121)
 (PT.put Tryz.c120 (AX.Id.ofNat 120)
 (PT.put Tryz.c119 (AX.Id.ofNat 119)
 (PT.put Tryz.c114 (AX.Id.ofNat 114)
 (PT.put Tryz.c112 (AX.Id.ofNat 112)
 (PT.put Tryz.c111 (AX.Id.ofNat 111)
 (PT.put Tryz.c110 (AX.Id.ofNat 110)
 (PT.put Tryz.c109 (AX.Id.ofNat 109)
 (PT.put Tryz.c108 (AX.Id.ofNat 108)
 (PT.put Tryz.c107 (AX.Id.ofNat 107)
 (PT.put Tryz.c104 (AX.Id.ofNat 104)
 (PT.put Tryz.c103 (AX.Id.ofNat 103)
 (PT.put Tryz.c102 (AX.Id.ofNat 102)
 (PT.put Tryz.c101 (AX.Id.ofNat 101)
 (PT.put Tryz.c99 (AX.Id.ofNat 99)
 (PT.put Tryz.c97 (AX.Id.ofNat 97)
 (PT.put Tryz.c96 (AX.Id.ofNat 96)
 (PT.put Tryz.c94 (AX.Id.ofNat 94)
 (PT.put Tryz.c93 (AX.Id.ofNat 93)
 (PT.put Tryz.c92 (AX.Id.ofNat 92)
 (PT.put Tryz.c91 (AX.Id.ofNat 91)
 (PT.put Tryz.c90 (AX.Id.ofNat 90)
 (PT.put Tryz.c89 (AX.Id.ofNat 89)
 (PT.put Tryz.c88 (AX.Id.ofNat 88)
 (PT.put Tryz.c87 (AX.Id.ofNat 87)
 (PT.put Tryz.c86 (AX.Id.ofNat 86)
 (PT.put Tryz.c85 (AX.Id.ofNat 85)
 (PT.put Tryz.c84 (AX.Id.ofNat 84)
 (PT.put Tryz.c83 (AX.Id.ofNat 83)
 (PT.put Tryz.c82 (AX.Id.ofNat 82)
 (PT.put Tryz.c81 (AX.Id.ofNat 81)
 (PT.put Tryz.c80 (AX.Id.ofNat 80)
 (PT.put Tryz.c79 (AX.Id.ofNat 79)
 (PT.put Tryz.c78 (AX.Id.ofNat 78)
 (PT.put Tryz.c77 (AX.Id.ofNat 77)
 (PT.put Tryz.c76 (AX.Id.ofNat 76)
 (PT.put Tryz.c75 (AX.Id.ofNat 75)
 (PT.put Tryz.c74 (AX.Id.ofNat 74)
 (PT.put Tryz.c73 (AX.Id.ofNat 73)
 (PT.put Tryz.c72 (AX.Id.ofNat 72)
 (PT.put Tryz.c71 (AX.Id.ofNat 71)
 (PT.put Tryz.c69 (AX.Id.ofNat 69)
 (PT.put Tryz.c68 (AX.Id.ofNat 68)
 (PT.put Tryz.c67 (AX.Id.ofNat 67)
 (PT.put Tryz.c66 (AX.Id.ofNat 66)
 (PT.put Tryz.c65 (AX.Id.ofNat 65)
 (PT.put Tryz.c64 (AX.Id.ofNat 64)
 (PT.put Tryz.c63 (AX.Id.ofNat 63)
 (PT.put Tryz.c62 (AX.Id.ofNat 62)
 (PT.put Tryz.c61 (AX.Id.ofNat 61)
 (PT.put Tryz.c60 (AX.Id.ofNat 60)
 (PT.put Tryz.c59 (AX.Id.ofNat 59)
 (PT.put Tryz.c58 (AX.Id.ofNat 58)
 (PT.put Tryz.c57 (AX.Id.ofNat 57)
 (PT.put Tryz.c56 (AX.Id.ofNat 56)
 (PT.put Tryz.c55 (AX.Id.ofNat 55)
 (PT.put Tryz.c54 (AX.Id.ofNat 54)
 (PT.put Tryz.c53 (AX.Id.ofNat 53)
 (PT.put Tryz.c52 (AX.Id.ofNat 52)
 (PT.put Tryz.c51 (AX.Id.ofNat 51)
 (PT.put Tryz.c50 (AX.Id.ofNat 50)
 (PT.put Tryz.c49 (AX.Id.ofNat 49)
 (PT.put Tryz.c48 (AX.Id.ofNat 48)
 (PT.put Tryz.c47 (AX.Id.ofNat 47)
 (PT.put Tryz.c46 (AX.Id.ofNat 46)
 (PT.put Tryz.c45 (AX.Id.ofNat 45)
 (PT.put Tryz.c44 (AX.Id.ofNat 44)
 (PT.put Tryz.c42 (AX.Id.ofNat 42)
 (PT.put Tryz.c41 (AX.Id.ofNat 41)
 (PT.put Tryz.c40 (AX.Id.ofNat 40)
 (PT.put Tryz.c39 (AX.Id.ofNat 39)
 (PT.put Tryz.c38 (AX.Id.ofNat 38)
 (PT.put Tryz.c37 (AX.Id.ofNat 37)
 (PT.put Tryz.c36 (AX.Id.ofNat 36)
 (PT.put Tryz.c35 (AX.Id.ofNat 35)
 (PT.put Tryz.c33 (AX.Id.ofNat 33)
 (PT.put Tryz.c32 (AX.Id.ofNat 32)
 (PT.put Tryz.c31 (AX.Id.ofNat 31)
 (PT.put Tryz.c30 (AX.Id.ofNat 30)
 (PT.put Tryz.c29 (AX.Id.ofNat 29)
 (PT.put Tryz.c28 (AX.Id.ofNat 28)
 (PT.put Tryz.c27 (AX.Id.ofNat 27)
 (PT.put Tryz.c26 (AX.Id.ofNat 26)
 (PT.put Tryz.c25 (AX.Id.ofNat 25)
 (PT.put Tryz.c23 (AX.Id.ofNat 23)
 (PT.put Tryz.c21 (AX.Id.ofNat 21)
 (PT.put Tryz.c19 (AX.Id.ofNat 19)
 (PT.put Tryz.c18 (AX.Id.ofNat 18)
 (PT.put Tryz.c17 (AX.Id.ofNat 17)
 (PT.put Tryz.c16 (AX.Id.ofNat 16)
 (PT.put Tryz.c15 (AX.Id.ofNat 15)
 (PT.put Tryz.c14 (AX.Id.ofNat 14)
 (PT.put Tryz.c13 (AX.Id.ofNat 13)
 (PT.put Tryz.c12 (AX.Id.ofNat 12)
 (PT.put Tryz.c10 (AX.Id.ofNat 10)
 (PT.put Tryz.c9 (AX.Id.ofNat 9)
 (PT.put Tryz.c8 (AX.Id.ofNat 8)
 (PT.put Tryz.c7 (AX.Id.ofNat 7)
 (PT.put Tryz.c4 (AX.Id.ofNat 4)
 .e))))))))))))))))))))))))))))))))))))))))))))))))))))))))))))))))))))))))))))))))))))))))))))))))))))))))))))))))))))))))))))))))))))))))))))))))))))))))))))))))))))
noncomputable def Tryz.ctab (f : Nat) : Option FnK := PT.get (AX.Id.ofNat f) Tryz.cs
end Go.Proofs
end

section
set_option autoImplicit false
set_option maxRecDepth 1000000
set_option linter.all false
namespace Go.Proofs
open Go Go.AX
theorem Tryz.tabK : TabK Tryz.prog Tryz.cs :=
  (TabK.put Tryz.func223 Tryz.cOk223
 (TabK.put Tryz.func217 Tryz.cOk217
 (TabK.put Tryz.func211 Tryz.cOk211
 (TabK.put Tryz.func210 Tryz.cOk210
 (TabK.put Tryz.func209 Tryz.cOk209
 (TabK.put Tryz.func206 Tryz.cOk206
 (TabK.put Tryz.func205 Tryz.cOk205
 (TabK.put Tryz.func204 Tryz.cOk204
 (TabK.put Tryz.func203 Tryz.cOk203
 (TabK.put Tryz.func202 Tryz.cOk202
 (TabK.put Tryz.func201 Tryz.cOk201
 (TabK.put Tryz.func200 Tryz.cOk200
 (TabK.put Tryz.func198 Tryz.cOk198
 (TabK.put Tryz.func197 Tryz.cOk197
 (TabK.put Tryz.func196 Tryz.cOk196
 (TabK.put Tryz.func195 Tryz.cOk195
 (TabK.put Tryz.func194 Tryz.cOk194
 (TabK.put Tryz.func189 Tryz.cOk189
 (TabK.put Tryz.func188 Tryz.cOk188
 (TabK.put Tryz.func187 Tryz.cOk187
 (TabK.put Tryz.func186 Tryz.cOk186
 (TabK.put Tryz.func185 Tryz.cOk185
 (TabK.put Tryz.func184 Tryz.cOk184
 (TabK.put Tryz.func183 Tryz.cOk183
 (TabK.put Tryz.func177 Tryz.cOk177
 (TabK.put Tryz.func175 Tryz.cOk175
 (TabK.put Tryz.func174 Tryz.cOk174
 (TabK.put Tryz.func173 Tryz.cOk173
 (TabK.put Tryz.func172 Tryz.cOk172
 (TabK.put Tryz.func170 Tryz.cOk170
 (TabK.put Tryz.func165 Tryz.cOk165
 (TabK.put Tryz.func164 Tryz.cOk164
 (TabK.put Tryz.func163 Tryz.cOk163
 (TabK.put Tryz.func162 Tryz.cOk162
 (TabK.put Tryz.func160 Tryz.cOk160
 (TabK.put Tryz.func158 Tryz.cOk158
 (TabK.put Tryz.func157 Tryz.cOk157
 (TabK.put Tryz.func156 Tryz.cOk156
 (TabK.put Tryz.func155 Tryz.cOk155
 (TabK.put Tryz.func154 Tryz.cOk154
 (TabK.put Tryz.func153 Tryz.cOk153
 (TabK.put Tryz.func152 Tryz.cOk152
 (TabK.put Tryz.func150 Tryz.cOk150
 (TabK.put Tryz.func147 Tryz.cOk147
 (TabK.put Tryz.func144 Tryz.cOk144
 (TabK.put Tryz.func143 Tryz.cOk143
 (TabK.put Tryz.func142 Tryz.cOk142
 (TabK.put Tryz.func141 Tryz.cOk141
 (TabK.put Tryz.func140 Tryz.cOk140
 (TabK.put Tryz.func139 Tryz.cOk139
 (TabK.put Tryz.func138 Tryz.cOk138
 (TabK.put Tryz.func137 Tryz.cOk137
 (TabK.put Tryz.func136 Tryz.cOk136
 (TabK.put Tryz.func135 Tryz.cOk135
 (TabK.put Tryz.func134 Tryz.cOk134
 (TabK.put Tryz.func133 Tryz.cOk133
 (TabK.put Tryz.func132 Tryz.cOk132
 (TabK.put Tryz.func131 Tryz.cOk131
 (TabK.put Tryz.func130 Tryz.cOk130
 (TabK.put Tryz.func129 Tryz.cOk129
 (TabK.put Tryz.func128 Tryz.cOk128
 (TabK.put Tryz.func127 Tryz.cOk127
 (TabK.put Tryz.func125 Tryz.cOk125
 (TabK.put Tryz.func123 Tryz.cOk123
 (TabK.put Tryz.func122 Tryz.cOk122
 (TabK.put Tryz.func121 Tryz.cOk121
 (TabK.put Tryz.func120 Tryz.cOk120
 (TabK.put Tryz.func119 Tryz.cOk119
 (TabK.put Tryz.func114 Tryz.cOk114
 (TabK.put Tryz.func112 Tryz.cOk112
 (TabK.put Tryz.func111 Tryz.cOk111
 (TabK.put Tryz.func110 Tryz.cOk110
 (TabK.put Tryz.func109 Tryz.cOk109
 (TabK.put Tryz.func108 Tryz.cOk108
 (TabK.put Tryz.func107 Tryz.cOk107
 (TabK.put Tryz.func104 Tryz.cOk104
 (TabK.put Tryz.func103 Tryz.cOk103
 (TabK.put Tryz.func102 Tryz.cOk102
 (TabK.put Tryz.func101 Tryz.cOk101
 (TabK.put Tryz.func99 Tryz.cOk99
 (TabK.put Tryz.func97 Tryz.cOk97
 (TabK.put Tryz.func96 Tryz.cOk96
 (TabK.put Tryz.func94 Tryz.cOk94
 (TabK.put Tryz.func93 Tryz.cOk93
 (TabK.put Tryz.func92 Tryz.cOk92
 (TabK.put Tryz.func91 Tryz.cOk91
 (TabK.put Tryz.func90 Tryz.cOk90
 (TabK.put Tryz.func89 Tryz.cOk89
 (TabK.put Tryz.func88 Tryz.cOk88
 (TabK.put Tryz.func87 Tryz.cOk87
 (TabK.put Tryz.func86 Tryz.cOk86
 (TabK.put Tryz.func85 Tryz.cOk85
 (TabK.put Tryz.func84 Tryz.cOk84
 (TabK.put Tryz.func83 Tryz.cOk83
 (TabK.put Tryz.func82 Tryz.cOk82
 (TabK.put Tryz.func81 Tryz.cOk81
 (TabK.put Tryz.func80 Tryz.cOk80
 (TabK.put Tryz.func79 Tryz.cOk79
 (TabK.put Tryz.func78 Tryz.cOk78
 (TabK.put Tryz.func77 Tryz.cOk77
 (TabK.put Tryz.func76 Tryz.cOk76
 (TabK.put Tryz.func75 Tryz.cOk75
 (TabK.put Tryz.func74 Tryz.cOk74
 (TabK.put Tryz.func73 Tryz.cOk73
 (TabK.put Tryz.func72 Tryz.cOk72
 (TabK.put Tryz.func71 Tryz.cOk71
 (TabK.put Tryz.func69 Tryz.cOk69
 (TabK.put Tryz.func68 Tryz.cOk68
 (TabK.put Tryz.func67 Tryz.cOk67
 (TabK.put Tryz.func66 Tryz.cOk66
 (TabK.put Tryz.func65 Tryz.cOk65
 (TabK.put Tryz.func64 Tryz.cOk64
 (TabK.put Tryz.func63 Tryz.cOk63
 (TabK.put Tryz.func62 Tryz.cOk62
 (TabK.put Tryz.func61 Tryz.cOk61
 (TabK.put Tryz.func60 Tryz.cOk60
 (TabK.put Tryz.func59 Tryz.cOk59
 (TabK.put Tryz.func58 Tryz.cOk58
 (TabK.put Tryz.func57 Tryz.cOk57
 (TabK.put Tryz.func56 Tryz.cOk56
 (TabK.put Tryz.func55 Tryz.cOk55
 (TabK.put Tryz.func54 Tryz.cOk54
 (TabK.put Tryz.func53 Tryz.cOk53
 (TabK.put Tryz.func52 Tryz.cOk52
 (TabK.put Tryz.func51 Tryz.cOk51
 (TabK.put Tryz.func50 Tryz.cOk50
 (TabK.put Tryz.func49 Tryz.cOk49
 (TabK.put Tryz.func48 Tryz.cOk48
 (TabK.put Tryz.func47 Tryz.cOk47
 (TabK.put Tryz.func46 Tryz.cOk46
 (TabK.put Tryz.func45 Tryz.cOk45
 (TabK.put Tryz.func44 Tryz.cOk44
 (TabK.put Tryz.func42 Tryz.cOk42
 (TabK.put Tryz.func41 Tryz.cOk41
 (TabK.put Tryz.func40 Tryz.cOk40
 (TabK.put Tryz.func39 Tryz.cOk39
 (TabK.put Tryz.func38 Tryz.cOk38
 (TabK.put Tryz.func37 Tryz.cOk37
 (TabK.put Tryz.func36 Tryz.cOk36
 (TabK.put Tryz.func35 Tryz.cOk35
 (TabK.put Tryz.func33 Tryz.cOk33
 (TabK.put Tryz.func32 Tryz.cOk32
 (TabK.put Tryz.func31 Tryz.cOk31
 (TabK.put Tryz.func30 Tryz.cOk30
 (TabK.put Tryz.func29 Tryz.cOk29
 (TabK.put Tryz.func28 Tryz.cOk28
 (TabK.put Tryz.func27 Tryz.cOk27
 (TabK.put Tryz.func26 Tryz.cOk26
 (TabK.put Tryz.func25 Tryz.cOk25
 (TabK.put Tryz.func23 Tryz.cOk23
 (TabK.put Tryz.func21 Tryz.cOk21
 (TabK.put Tryz.func19 Tryz.cOk19
 (TabK.put Tryz.func18 Tryz.cOk18
 (TabK.put Tryz.func17 Tryz.cOk17
 (TabK.put Tryz.func16 Tryz.cOk16
 (TabK.put Tryz.func15 Tryz.cOk15
 (TabK.put Tryz.func14 Tryz.cOk14
 (TabK.put Tryz.func13 Tryz.cOk13
 (TabK.put Tryz.func12 Tryz.cOk12
 (TabK.put Tryz.func10 Tryz.cOk10
 (TabK.put Tryz.func9 Tryz.cOk9
 (TabK.put Tryz.func8 Tryz.cOk8
 (TabK.put Tryz.func7 Tryz.cOk7
 (TabK.put Tryz.func4 Tryz.cOk4
 (TabK.e _)))))))))))))))))))))))))))))))))))))))))))))))))))))))))))))))))))))))))))))))))))))))))))))))))))))))))))))))))))))))))))))))))))))))))))))))))))))))))))))))))))))
theorem Tryz.ext : ExtOk Tryz.prog := by
  intro f fn n _ _ h
  cases h
theorem Tryz.mix : Tryz.prog.follows .mixedOrders = true := by kernel_rfl
theorem Tryz.dtabOk : TabOk Tryz.prog Tryz.dtab := by
  intro f F h
  unfold Tryz.dtab at h
  cases h1 : Nat.beq f 47 with
  | true =>
    rw [h1] at h
    obtain rfl := Nat.eq_of_beq_eq_true h1
    cases h
    exact ⟨_, Tryz.func47, Tryz.irOk47⟩
  | false =>
    rw [h1] at h
    cases h2 : Nat.beq f 37 with
    | true =>
      simp only [h2] at h
      obtain rfl := Nat.eq_of_beq_eq_true h2
      cases h
      exact ⟨_, Tryz.func37, Tryz.irOk37⟩
    | false =>
      simp only [h2] at h
      cases h
noncomputable section
def retV : CR → Option AV
  | .ret v _ => some v
  | .fail => none
def Tryz.run (summ : Nat → List AV → Heap → Option CR) (f : Nat) (args : List AV) : CR := callC Tryz.ctab Tryz.dtab summ 100000 f args empty
def summ0 (f : Nat) (args : List AV) (H : Heap) : Option CR := Bool.rec (motive := fun _ => Option CR) (Bool.rec (motive := fun _ => Option CR) none (indexByteS args H) (Nat.beq f 170)) (containsS args H) (Nat.beq f 151)
end
theorem retV_some {x : CR} {v : AV} (h : retV x = some v) : ∃ H, x = .ret v H := by
  cases x with
  | fail => cases h
  | ret v' H => cases h; exact ⟨H, rfl⟩
abbrev Tryz.B := IntVar 0
theorem Tryz.recOk {summ : Nat → List AV → Heap → Option CR} (hs : SummOk Tryz.prog Tryz.B summ) (n : Nat) : RecOk Tryz.prog Tryz.B (callC Tryz.ctab Tryz.dtab summ n) := by
  have := callC_eq Tryz.tabK Tryz.dtab summ n
  change callC Tryz.ctab Tryz.dtab summ n = _ at this
  rw [this]
  exact callA_sound (intVar_stable 0) Tryz.ext Tryz.mix tabOf_ok Tryz.dtabOk hs n
theorem callFunc_151 (vs : Array Value) (w : World) : (callFunc 151 vs).run Tryz.prog w = .ok (.enter 151 vs) w := by
  have hb : Tryz.f151.body.isSome = true := by kernel_rfl
  obtain ⟨c, hc⟩ := Option.isSome_iff_exists.1 hb
  exact enters_of_body Tryz.func151 hc (by decide +kernel) vs w
theorem callFunc_170 (vs : Array Value) (w : World) : (callFunc 170 vs).run Tryz.prog w = .ok (.enter 170 vs) w := by
  have hb : Tryz.f170.body.isSome = true := by kernel_rfl
  obtain ⟨c, hc⟩ := Option.isSome_iff_exists.1 hb
  exact enters_of_body Tryz.func170 hc (by decide +kernel) vs w
theorem summ0_ok : SummOk Tryz.prog Tryz.B summ0 := by
  intro f args H v H' h
  unfold summ0 at h
  cases hb : Nat.beq f 151 with
  | false =>
    rw [hb] at h
    change Bool.rec (motive := fun _ => Option CR) none (indexByteS args H) (Nat.beq f 170) = _ at h
    cases hb2 : Nat.beq f 170 with
    | false => rw [hb2] at h; cases h
    | true =>
      rw [hb2] at h
      obtain rfl := Nat.eq_of_beq_eq_true hb2
      exact indexByte_ok (fun vs w => callFunc_170 vs w) (fun s c w => Tryz.stringslite_IndexByte s c w) h
  | true =>
    rw [hb] at h
    obtain rfl := Nat.eq_of_beq_eq_true hb
    exact contains_ok (g := 0) (fun vs w => callFunc_151 vs w) (fun s sub m w h1 h2 => Tryz.strings_Contains s sub m w h1 h2) h
/-- A table of answers of a function of one int. -/
def OfOk (rec : Rec) (f : Nat) (t : PT AV) : Prop := ∀ n v, PT.get (AX.Id.ofNat n) t = some v → (∃ H1, rec f [.i .i64 (.ofNat n)] empty = .ret v H1) ∧ v.shut = true
theorem OfOk.e (rec : Rec) (f : Nat) : OfOk rec f .e := by
  intro n v h
  rw [PT.get_e] at h
  cases h
theorem OfOk.put {rec : Rec} {f : Nat} {t : PT AV} {n : Nat} {v : AV} (h1 : retV (rec f [.i .i64 (.ofNat n)] empty) = some v) (h2 : v.shut = true) (h : OfOk rec f t) : OfOk rec f (PT.put v (AX.Id.ofNat n) t) := by
  intro m u hu
  by_cases e : m = n
  · subst e
    rw [PT.get_put_same] at hu
    cases hu
    exact ⟨retV_some h1, h2⟩
  · rw [PT.get_put_ne _ _ _ _ (fun e' => e (Id.ofNat_inj e'))] at hu
    exact h m u hu
noncomputable section
def Tryz.of0 : AV := (.ag [(.s []), (.i .i64 0), (.i .i64 0), (.b false), (.b false)])
def Tryz.of1 : AV := (.ag [(.s [112, 114, 111, 103, 114, 97, 109]), (.i .i64 0), (.i .i64 (-1)), (.b false), (.b false)])
def Tryz.of2 : AV := (.ag [(.s [99, 108, 97, 115, 115]), (.i .i64 0), (.i .i64 (-1)), (.b true), (.b false)])
def Tryz.of3 : AV := (.ag [(.s [101, 120, 116, 101, 110, 100, 115]), (.i .i64 0), (.i .i64 0), (.b true), (.b false)])
def Tryz.of4 : AV := (.ag [(.s [102, 105, 101, 108, 100]), (.i .i64 0), (.i .i64 0), (.b true), (.b true)])
def Tryz.of5 : AV := (.ag [(.s [105, 110, 105, 116]), (.i .i64 1), (.i .i64 (-1)), (.b false), (.b false)])
def Tryz.of6 : AV := (.ag [(.s [109, 101, 116, 104, 111, 100]), (.i .i64 1), (.i .i64 (-1)), (.b true), (.b true)])
def Tryz.of7 : AV := (.ag [(.s [112, 97, 114, 97, 109]), (.i .i64 0), (.i .i64 0), (.b true), (.b true)])
def Tryz.of8 : AV := (.ag [(.s [98, 108, 111, 99, 107]), (.i .i64 0), (.i .i64 (-1)), (.b false), (.b false)])
def Tryz.of9 : AV := (.ag [(.s [100, 101, 99, 108]), (.i .i64 0), (.i .i64 1), (.b true), (.b true)])
def Tryz.of10 : AV := (.ag [(.s [97, 115, 115, 105, 103, 110]), (.i .i64 2), (.i .i64 2), (.b false), (.b false)])
def Tryz.of11 : AV := (.ag [(.s [105, 102]), (.i .i64 2), (.i .i64 3), (.b false), (.b false)])
def Tryz.of12 : AV := (.ag [(.s [119, 104, 105, 108, 101]), (.i .i64 2), (.i .i64 2), (.b false), (.b false)])
def Tryz.of13 : AV := (.ag [(.s [98, 114, 101, 97, 107]), (.i .i64 0), (.i .i64 0), (.b false), (.b false)])
def Tryz.of14 : AV := (.ag [(.s [99, 111, 110, 116, 105, 110, 117, 101]), (.i .i64 0), (.i .i64 0), (.b false), (.b false)])
def Tryz.of15 : AV := (.ag [(.s [114, 101, 116, 117, 114, 110]), (.i .i64 0), (.i .i64 1), (.b false), (.b false)])
def Tryz.of16 : AV := (.ag [(.s [112, 114, 105, 110, 116]), (.i .i64 1), (.i .i64 1), (.b false), (.b false)])
def Tryz.of17 : AV := (.ag [(.s [115, 117, 112, 101, 114]), (.i .i64 0), (.i .i64 (-1)), (.b false), (.b false)])
def Tryz.of18 : AV := (.ag [(.s [101, 120, 112, 114]), (.i .i64 1), (.i .i64 1), (.b false), (.b false)])
def Tryz.of19 : AV := (.ag [(.s [105, 110, 116]), (.i .i64 0), (.i .i64 0), (.b false), (.b false)])
def Tryz.of20 : AV := (.ag [(.s [100, 111, 117, 98, 108, 101]), (.i .i64 0), (.i .i64 0), (.b true), (.b false)])
def Tryz.of21 : AV := (.ag [(.s [98, 111, 111, 108]), (.i .i64 0), (.i .i64 0), (.b false), (.b false)])
def Tryz.of22 : AV := (.ag [(.s [115, 116, 114]), (.i .i64 0), (.i .i64 0), (.b true), (.b false)])
def Tryz.of23 : AV := (.ag [(.s [110, 117, 108, 108]), (.i .i64 0), (.i .i64 0), (.b false), (.b false)])
def Tryz.of24 : AV := (.ag [(.s [116, 104, 105, 115]), (.i .i64 0), (.i .i64 0), (.b false), (.b false)])
def Tryz.of25 : AV := (.ag [(.s [118, 97, 114]), (.i .i64 0), (.i .i64 0), (.b true), (.b false)])
def Tryz.of26 : AV := (.ag [(.s [103, 101, 116]), (.i .i64 1), (.i .i64 1), (.b true), (.b false)])
def Tryz.of27 : AV := (.ag [(.s [105, 110, 100, 101, 120]), (.i .i64 2), (.i .i64 2), (.b false), (.b false)])
def Tryz.of28 : AV := (.ag [(.s [108, 101, 110, 103, 116, 104]), (.i .i64 1), (.i .i64 1), (.b false), (.b false)])
def Tryz.of29 : AV := (.ag [(.s [99, 97, 108, 108]), (.i .i64 1), (.i .i64 (-1)), (.b true), (.b false)])
def Tryz.of30 : AV := (.ag [(.s [110, 101, 119]), (.i .i64 0), (.i .i64 (-1)), (.b false), (.b true)])
def Tryz.of31 : AV := (.ag [(.s [97, 114, 114, 97, 121]), (.i .i64 1), (.i .i64 1), (.b false), (.b true)])
def Tryz.of32 : AV := (.ag [(.s [110, 101, 103]), (.i .i64 1), (.i .i64 1), (.b false), (.b false)])
def Tryz.of33 : AV := (.ag [(.s [110, 111, 116]), (.i .i64 1), (.i .i64 1), (.b false), (.b false)])
def Tryz.of34 : AV := (.ag [(.s [98, 105, 110, 97, 114, 121]), (.i .i64 2), (.i .i64 2), (.b true), (.b false)])
def Tryz.of35 : AV := (.ag [(.s [99, 97, 115, 116]), (.i .i64 1), (.i .i64 1), (.b false), (.b true)])
def Tryz.of36 : AV := (.ag [(.s [116, 111, 105, 110, 116]), (.i .i64 1), (.i .i64 1), (.b false), (.b false)])
def Tryz.of37 : AV := (.ag [(.s [116, 111, 100, 111, 117, 98, 108, 101]), (.i .i64 1), (.i .i64 1), (.b false), (.b false)])
def Tryz.of38 : AV := (.ag [(.s [105, 110, 112, 117, 116]), (.i .i64 0), (.i .i64 0), (.b false), (.b false)])
def Tryz.of39 : AV := (.ag [(.s [97, 115, 107]), (.i .i64 1), (.i .i64 1), (.b false), (.b false)])
def Tryz.of40 : AV := (.ag [(.s [103, 117, 97, 114, 100]), (.i .i64 1), (.i .i64 1), (.b false), (.b false)])
def Tryz.of41 : AV := (.ag [(.s [115, 111, 109, 101]), (.i .i64 1), (.i .i64 1), (.b false), (.b false)])
def Tryz.of42 : AV := (.ag [(.s [110, 111, 110, 101]), (.i .i64 0), (.i .i64 0), (.b false), (.b false)])
def Tryz.of43 : AV := (.ag [(.s [105, 115, 115, 111, 109, 101]), (.i .i64 1), (.i .i64 1), (.b false), (.b false)])
def Tryz.of44 : AV := (.ag [(.s [105, 115, 110, 111, 110, 101]), (.i .i64 1), (.i .i64 1), (.b false), (.b false)])
def Tryz.of45 : AV := (.ag [(.s [118, 97, 108]), (.i .i64 1), (.i .i64 1), (.b false), (.b false)])
def Tryz.of46 : AV := (.ag [(.s []), (.i .i64 0), (.i .i64 0), (.b false), (.b false)])
def Tryz.ofTab : PT AV := (PT.put Tryz.of46 (AX.Id.ofNat 46) (PT.put Tryz.of45 (AX.Id.ofNat 45) (PT.put Tryz.of44 (AX.Id.ofNat 44) (PT.put Tryz.of43 (AX.Id.ofNat 43) (PT.put Tryz.of42 (AX.Id.ofNat 42) (PT.put Tryz.of41 (AX.Id.ofNat 41) (PT.put Tryz.of40 (AX.Id.ofNat 40) (PT.put Tryz.of39 (AX.Id.ofNat 39) (PT.put Tryz.of38 (AX.Id.ofNat 38) (PT.put Tryz.of37 (AX.Id.ofNat 37) (PT.put Tryz.of36 (AX.Id.ofNat 36) (PT.put Tryz.of35 (AX.Id.ofNat 35) (PT.put Tryz.of34 (AX.Id.ofNat 34) (PT.put Tryz.of33 (AX.Id.ofNat 33) (PT.put Tryz.of32 (AX.Id.ofNat 32) (PT.put Tryz.of31 (AX.Id.ofNat 31) (PT.put Tryz.of30 (AX.Id.ofNat 30) (PT.put Tryz.of29 (AX.Id.ofNat 29) (PT.put Tryz.of28 (AX.Id.ofNat 28) (PT.put Tryz.of27 (AX.Id.ofNat 27) (PT.put Tryz.of26 (AX.Id.ofNat 26) (PT.put Tryz.of25 (AX.Id.ofNat 25) (PT.put Tryz.of24 (AX.Id.ofNat 24) (PT.put Tryz.of23 (AX.Id.ofNat 23) (PT.put Tryz.of22 (AX.Id.ofNat 22) (PT.put Tryz.of21 (AX.Id.ofNat 21) (PT.put Tryz.of20 (AX.Id.ofNat 20) (PT.put Tryz.of19 (AX.Id.ofNat 19) (PT.put Tryz.of18 (AX.Id.ofNat 18) (PT.put Tryz.of17 (AX.Id.ofNat 17) (PT.put Tryz.of16 (AX.Id.ofNat 16) (PT.put Tryz.of15 (AX.Id.ofNat 15) (PT.put Tryz.of14 (AX.Id.ofNat 14) (PT.put Tryz.of13 (AX.Id.ofNat 13) (PT.put Tryz.of12 (AX.Id.ofNat 12) (PT.put Tryz.of11 (AX.Id.ofNat 11) (PT.put Tryz.of10 (AX.Id.ofNat 10) (PT.put Tryz.of9 (AX.Id.ofNat 9) (PT.put Tryz.of8 (AX.Id.ofNat 8) (PT.put Tryz.of7 (AX.Id.ofNat 7) (PT.put Tryz.of6 (AX.Id.ofNat 6) (PT.put Tryz.of5 (AX.Id.ofNat 5) (PT.put Tryz.of4 (AX.Id.ofNat 4) (PT.put Tryz.of3 (AX.Id.ofNat 3) (PT.put Tryz.of2 (AX.Id.ofNat 2) (PT.put Tryz.of1 (AX.Id.ofNat 1) (PT.put Tryz.of0 (AX.Id.ofNat 0) .e)))))))))))))))))))))))))))))))))))))))))))))))
def ofS (args : List AV) (H : Heap) : Option CR := match args with
  | [.i .i64 (.ofNat n)] => Option.rec (motive := fun _ => Option CR) none (fun v => some (.ret v H)) (PT.get (AX.Id.ofNat n) Tryz.ofTab)
  | _ => none
def summ1 (f : Nat) (args : List AV) (H : Heap) : Option CR := Bool.rec (motive := fun _ => Option CR) (summ0 f args H) (ofS args H) (Nat.beq f 72)
def flowsS (args : List AV) (H : Heap) : Option CR := match args with
  | [] => some (.ret (.b true) H)
  | _ => none
def summ2 (f : Nat) (args : List AV) (H : Heap) : Option CR := Bool.rec (motive := fun _ => Option CR) (summ1 f args H) (flowsS args H) (Nat.beq f 7)
end
theorem Tryz.ofOk0 : retV (callC Tryz.ctab Tryz.dtab summ0 100000 72 [.i .i64 (.ofNat 0)] empty) = some Tryz.of0 := by kernel_rfl
theorem Tryz.ofOk1 : retV (callC Tryz.ctab Tryz.dtab summ0 100000 72 [.i .i64 (.ofNat 1)] empty) = some Tryz.of1 := by kernel_rfl
theorem Tryz.ofOk2 : retV (callC Tryz.ctab Tryz.dtab summ0 100000 72 [.i .i64 (.ofNat 2)] empty) = some Tryz.of2 := by kernel_rfl
theorem Tryz.ofOk3 : retV (callC Tryz.ctab Tryz.dtab summ0 100000 72 [.i .i64 (.ofNat 3)] empty) = some Tryz.of3 := by kernel_rfl
theorem Tryz.ofOk4 : retV (callC Tryz.ctab Tryz.dtab summ0 100000 72 [.i .i64 (.ofNat 4)] empty) = some Tryz.of4 := by kernel_rfl
theorem Tryz.ofOk5 : retV (callC Tryz.ctab Tryz.dtab summ0 100000 72 [.i .i64 (.ofNat 5)] empty) = some Tryz.of5 := by kernel_rfl
theorem Tryz.ofOk6 : retV (callC Tryz.ctab Tryz.dtab summ0 100000 72 [.i .i64 (.ofNat 6)] empty) = some Tryz.of6 := by kernel_rfl
theorem Tryz.ofOk7 : retV (callC Tryz.ctab Tryz.dtab summ0 100000 72 [.i .i64 (.ofNat 7)] empty) = some Tryz.of7 := by kernel_rfl
theorem Tryz.ofOk8 : retV (callC Tryz.ctab Tryz.dtab summ0 100000 72 [.i .i64 (.ofNat 8)] empty) = some Tryz.of8 := by kernel_rfl
theorem Tryz.ofOk9 : retV (callC Tryz.ctab Tryz.dtab summ0 100000 72 [.i .i64 (.ofNat 9)] empty) = some Tryz.of9 := by kernel_rfl
theorem Tryz.ofOk10 : retV (callC Tryz.ctab Tryz.dtab summ0 100000 72 [.i .i64 (.ofNat 10)] empty) = some Tryz.of10 := by kernel_rfl
theorem Tryz.ofOk11 : retV (callC Tryz.ctab Tryz.dtab summ0 100000 72 [.i .i64 (.ofNat 11)] empty) = some Tryz.of11 := by kernel_rfl
theorem Tryz.ofOk12 : retV (callC Tryz.ctab Tryz.dtab summ0 100000 72 [.i .i64 (.ofNat 12)] empty) = some Tryz.of12 := by kernel_rfl
theorem Tryz.ofOk13 : retV (callC Tryz.ctab Tryz.dtab summ0 100000 72 [.i .i64 (.ofNat 13)] empty) = some Tryz.of13 := by kernel_rfl
theorem Tryz.ofOk14 : retV (callC Tryz.ctab Tryz.dtab summ0 100000 72 [.i .i64 (.ofNat 14)] empty) = some Tryz.of14 := by kernel_rfl
theorem Tryz.ofOk15 : retV (callC Tryz.ctab Tryz.dtab summ0 100000 72 [.i .i64 (.ofNat 15)] empty) = some Tryz.of15 := by kernel_rfl
theorem Tryz.ofOk16 : retV (callC Tryz.ctab Tryz.dtab summ0 100000 72 [.i .i64 (.ofNat 16)] empty) = some Tryz.of16 := by kernel_rfl
theorem Tryz.ofOk17 : retV (callC Tryz.ctab Tryz.dtab summ0 100000 72 [.i .i64 (.ofNat 17)] empty) = some Tryz.of17 := by kernel_rfl
theorem Tryz.ofOk18 : retV (callC Tryz.ctab Tryz.dtab summ0 100000 72 [.i .i64 (.ofNat 18)] empty) = some Tryz.of18 := by kernel_rfl
theorem Tryz.ofOk19 : retV (callC Tryz.ctab Tryz.dtab summ0 100000 72 [.i .i64 (.ofNat 19)] empty) = some Tryz.of19 := by kernel_rfl
theorem Tryz.ofOk20 : retV (callC Tryz.ctab Tryz.dtab summ0 100000 72 [.i .i64 (.ofNat 20)] empty) = some Tryz.of20 := by kernel_rfl
theorem Tryz.ofOk21 : retV (callC Tryz.ctab Tryz.dtab summ0 100000 72 [.i .i64 (.ofNat 21)] empty) = some Tryz.of21 := by kernel_rfl
theorem Tryz.ofOk22 : retV (callC Tryz.ctab Tryz.dtab summ0 100000 72 [.i .i64 (.ofNat 22)] empty) = some Tryz.of22 := by kernel_rfl
theorem Tryz.ofOk23 : retV (callC Tryz.ctab Tryz.dtab summ0 100000 72 [.i .i64 (.ofNat 23)] empty) = some Tryz.of23 := by kernel_rfl
theorem Tryz.ofOk24 : retV (callC Tryz.ctab Tryz.dtab summ0 100000 72 [.i .i64 (.ofNat 24)] empty) = some Tryz.of24 := by kernel_rfl
theorem Tryz.ofOk25 : retV (callC Tryz.ctab Tryz.dtab summ0 100000 72 [.i .i64 (.ofNat 25)] empty) = some Tryz.of25 := by kernel_rfl
theorem Tryz.ofOk26 : retV (callC Tryz.ctab Tryz.dtab summ0 100000 72 [.i .i64 (.ofNat 26)] empty) = some Tryz.of26 := by kernel_rfl
theorem Tryz.ofOk27 : retV (callC Tryz.ctab Tryz.dtab summ0 100000 72 [.i .i64 (.ofNat 27)] empty) = some Tryz.of27 := by kernel_rfl
theorem Tryz.ofOk28 : retV (callC Tryz.ctab Tryz.dtab summ0 100000 72 [.i .i64 (.ofNat 28)] empty) = some Tryz.of28 := by kernel_rfl
theorem Tryz.ofOk29 : retV (callC Tryz.ctab Tryz.dtab summ0 100000 72 [.i .i64 (.ofNat 29)] empty) = some Tryz.of29 := by kernel_rfl
theorem Tryz.ofOk30 : retV (callC Tryz.ctab Tryz.dtab summ0 100000 72 [.i .i64 (.ofNat 30)] empty) = some Tryz.of30 := by kernel_rfl
theorem Tryz.ofOk31 : retV (callC Tryz.ctab Tryz.dtab summ0 100000 72 [.i .i64 (.ofNat 31)] empty) = some Tryz.of31 := by kernel_rfl
theorem Tryz.ofOk32 : retV (callC Tryz.ctab Tryz.dtab summ0 100000 72 [.i .i64 (.ofNat 32)] empty) = some Tryz.of32 := by kernel_rfl
theorem Tryz.ofOk33 : retV (callC Tryz.ctab Tryz.dtab summ0 100000 72 [.i .i64 (.ofNat 33)] empty) = some Tryz.of33 := by kernel_rfl
theorem Tryz.ofOk34 : retV (callC Tryz.ctab Tryz.dtab summ0 100000 72 [.i .i64 (.ofNat 34)] empty) = some Tryz.of34 := by kernel_rfl
theorem Tryz.ofOk35 : retV (callC Tryz.ctab Tryz.dtab summ0 100000 72 [.i .i64 (.ofNat 35)] empty) = some Tryz.of35 := by kernel_rfl
theorem Tryz.ofOk36 : retV (callC Tryz.ctab Tryz.dtab summ0 100000 72 [.i .i64 (.ofNat 36)] empty) = some Tryz.of36 := by kernel_rfl
theorem Tryz.ofOk37 : retV (callC Tryz.ctab Tryz.dtab summ0 100000 72 [.i .i64 (.ofNat 37)] empty) = some Tryz.of37 := by kernel_rfl
theorem Tryz.ofOk38 : retV (callC Tryz.ctab Tryz.dtab summ0 100000 72 [.i .i64 (.ofNat 38)] empty) = some Tryz.of38 := by kernel_rfl
theorem Tryz.ofOk39 : retV (callC Tryz.ctab Tryz.dtab summ0 100000 72 [.i .i64 (.ofNat 39)] empty) = some Tryz.of39 := by kernel_rfl
theorem Tryz.ofOk40 : retV (callC Tryz.ctab Tryz.dtab summ0 100000 72 [.i .i64 (.ofNat 40)] empty) = some Tryz.of40 := by kernel_rfl
theorem Tryz.ofOk41 : retV (callC Tryz.ctab Tryz.dtab summ0 100000 72 [.i .i64 (.ofNat 41)] empty) = some Tryz.of41 := by kernel_rfl
theorem Tryz.ofOk42 : retV (callC Tryz.ctab Tryz.dtab summ0 100000 72 [.i .i64 (.ofNat 42)] empty) = some Tryz.of42 := by kernel_rfl
theorem Tryz.ofOk43 : retV (callC Tryz.ctab Tryz.dtab summ0 100000 72 [.i .i64 (.ofNat 43)] empty) = some Tryz.of43 := by kernel_rfl
theorem Tryz.ofOk44 : retV (callC Tryz.ctab Tryz.dtab summ0 100000 72 [.i .i64 (.ofNat 44)] empty) = some Tryz.of44 := by kernel_rfl
theorem Tryz.ofOk45 : retV (callC Tryz.ctab Tryz.dtab summ0 100000 72 [.i .i64 (.ofNat 45)] empty) = some Tryz.of45 := by kernel_rfl
theorem Tryz.ofOk46 : retV (callC Tryz.ctab Tryz.dtab summ0 100000 72 [.i .i64 (.ofNat 46)] empty) = some Tryz.of46 := by kernel_rfl
theorem Tryz.ofOk : OfOk (callC Tryz.ctab Tryz.dtab summ0 100000) 72 Tryz.ofTab := (OfOk.put Tryz.ofOk46 rfl (OfOk.put Tryz.ofOk45 rfl (OfOk.put Tryz.ofOk44 rfl (OfOk.put Tryz.ofOk43 rfl (OfOk.put Tryz.ofOk42 rfl (OfOk.put Tryz.ofOk41 rfl (OfOk.put Tryz.ofOk40 rfl (OfOk.put Tryz.ofOk39 rfl (OfOk.put Tryz.ofOk38 rfl (OfOk.put Tryz.ofOk37 rfl (OfOk.put Tryz.ofOk36 rfl (OfOk.put Tryz.ofOk35 rfl (OfOk.put Tryz.ofOk34 rfl (OfOk.put Tryz.ofOk33 rfl (OfOk.put Tryz.ofOk32 rfl (OfOk.put Tryz.ofOk31 rfl (OfOk.put Tryz.ofOk30 rfl (OfOk.put Tryz.ofOk29 rfl (OfOk.put Tryz.ofOk28 rfl (OfOk.put Tryz.ofOk27 rfl (OfOk.put Tryz.ofOk26 rfl (OfOk.put Tryz.ofOk25 rfl (OfOk.put Tryz.ofOk24 rfl (OfOk.put Tryz.ofOk23 rfl (OfOk.put Tryz.ofOk22 rfl (OfOk.put Tryz.ofOk21 rfl (OfOk.put Tryz.ofOk20 rfl (OfOk.put Tryz.ofOk19 rfl (OfOk.put Tryz.ofOk18 rfl (OfOk.put Tryz.ofOk17 rfl (OfOk.put Tryz.ofOk16 rfl (OfOk.put Tryz.ofOk15 rfl (OfOk.put Tryz.ofOk14 rfl (OfOk.put Tryz.ofOk13 rfl (OfOk.put Tryz.ofOk12 rfl (OfOk.put Tryz.ofOk11 rfl (OfOk.put Tryz.ofOk10 rfl (OfOk.put Tryz.ofOk9 rfl (OfOk.put Tryz.ofOk8 rfl (OfOk.put Tryz.ofOk7 rfl (OfOk.put Tryz.ofOk6 rfl (OfOk.put Tryz.ofOk5 rfl (OfOk.put Tryz.ofOk4 rfl (OfOk.put Tryz.ofOk3 rfl (OfOk.put Tryz.ofOk2 rfl (OfOk.put Tryz.ofOk1 rfl (OfOk.put Tryz.ofOk0 rfl (OfOk.e _ _))))))))))))))))))))))))))))))))))))))))))))))))
theorem summ1_ok : SummOk Tryz.prog Tryz.B summ1 := by
  intro f args H v H' h
  unfold summ1 at h
  cases hb : Nat.beq f 72 with
  | false => rw [hb] at h; exact summ0_ok f args H v H' h
  | true =>
    rw [hb] at h
    obtain rfl := Nat.eq_of_beq_eq_true hb
    change ofS args H = _ at h
    unfold ofS at h
    split at h
    · rename_i n
      cases hg : PT.get (AX.Id.ofNat n) Tryz.ofTab with
      | none => rw [hg] at h; cases h
      | some u =>
        rw [hg] at h
        cases h
        obtain ⟨⟨H1, h1⟩, h2⟩ := Tryz.ofOk n v hg
        exact memo_call (intVar_bare 0) (Tryz.recOk summ0_ok 100000) h1 rfl h2 H
    · cases h
theorem flows_run : retV (callC Tryz.ctab Tryz.dtab summ1 100000 7 [] empty) = some (.b true) := by kernel_rfl
theorem summ2_ok : SummOk Tryz.prog Tryz.B summ2 := by
  intro f args H v H' h
  unfold summ2 at h
  cases hb : Nat.beq f 7 with
  | false => rw [hb] at h; exact summ1_ok f args H v H' h
  | true =>
    rw [hb] at h
    obtain rfl := Nat.eq_of_beq_eq_true hb
    change flowsS args H = _ at h
    unfold flowsS at h
    split at h
    · cases h
      obtain ⟨H1, h1⟩ := retV_some flows_run
      exact memo_call (intVar_bare 0) (Tryz.recOk summ1_ok 100000) h1 rfl rfl H
    · cases h
end Go.Proofs
end
