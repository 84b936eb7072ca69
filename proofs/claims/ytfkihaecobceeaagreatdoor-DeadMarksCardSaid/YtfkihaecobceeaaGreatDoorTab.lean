/- The table of the printed functions, and that it is a table of this program's. -/
import Derived.Test.YtfkihaecobceeaaGreatDoorC0
import Derived.Test.YtfkihaecobceeaaGreatDoorC1
import Derived.Test.YtfkihaecobceeaaGreatDoorC2
import Derived.Test.YtfkihaecobceeaaGreatDoorC3
import Derived.Test.YtfkihaecobceeaaGreatDoorEng4
import Derived.Test.YtfkihaecobceeaaGreatDoorD
import Derived.Test.YtfkihaecobceeaaGreatDoorShelf
set_option autoImplicit false
set_option linter.all false
section
set_option maxRecDepth 1000000
namespace Go.Proofs
open Go Go.AX
noncomputable def Tryz.cs : PT FnK :=
  (PT.put Tryz.c316 (AX.Id.ofNat 316)
 (PT.put Tryz.c310 (AX.Id.ofNat 310)
 (PT.put Tryz.c304 (AX.Id.ofNat 304)
 (PT.put Tryz.c303 (AX.Id.ofNat 303)
 (PT.put Tryz.c302 (AX.Id.ofNat 302)
 (PT.put Tryz.c299 (AX.Id.ofNat 299)
 (PT.put Tryz.c298 (AX.Id.ofNat 298)
 (PT.put Tryz.c296 (AX.Id.ofNat 296)
 (PT.put Tryz.c295 (AX.Id.ofNat 295)
 (PT.put Tryz.c292 (AX.Id.ofNat 292)
 (PT.put Tryz.c291 (AX.Id.ofNat 291)
 (PT.put Tryz.c286 (AX.Id.ofNat 286)
 (PT.put Tryz.c285 (AX.Id.ofNat 285)
 (PT.put Tryz.c284 (AX.Id.ofNat 284)
 (PT.put Tryz.c279 (AX.Id.ofNat 279)
 (PT.put Tryz.c278 (AX.Id.ofNat 278)
 (PT.put Tryz.c277 (AX.Id.ofNat 277)
 (PT.put Tryz.c275 (AX.Id.ofNat 275)
 (PT.put Tryz.c274 (AX.Id.ofNat 274)
 (PT.put Tryz.c273 (AX.Id.ofNat 273)
 (PT.put Tryz.c272 (AX.Id.ofNat 272)
 (PT.put Tryz.c266 (AX.Id.ofNat 266)
 (PT.put Tryz.c265 (AX.Id.ofNat 265)
 (PT.put Tryz.c264 (AX.Id.ofNat 264)
 (PT.put Tryz.c261 (AX.Id.ofNat 261)
 (PT.put Tryz.c260 (AX.Id.ofNat 260)
 (PT.put Tryz.c259 (AX.Id.ofNat 259)
 (PT.put Tryz.c258 (AX.Id.ofNat 258)
 (PT.put Tryz.c257 (AX.Id.ofNat 257)
 (PT.put Tryz.c255 (AX.Id.ofNat 255)
 (PT.put Tryz.c254 (AX.Id.ofNat 254)
 (PT.put Tryz.c253 (AX.Id.ofNat 253)
 (PT.put Tryz.c250 (AX.Id.ofNat 250)
 (PT.put Tryz.c241 (AX.Id.ofNat 241)
 (PT.put Tryz.c240 (AX.Id.ofNat 240)
 (PT.put Tryz.c239 (AX.Id.ofNat 239)
 (PT.put Tryz.c238 (AX.Id.ofNat 238)
 (PT.put Tryz.c237 (AX.Id.ofNat 237)
 (PT.put Tryz.c236 (AX.Id.ofNat 236)
 (PT.put Tryz.c235 (AX.Id.ofNat 235)
 (PT.put Tryz.c234 (AX.Id.ofNat 234)
 (PT.put Tryz.c233 (AX.Id.ofNat 233)
 (PT.put Tryz.c232 (AX.Id.ofNat 232)
 (PT.put Tryz.c231 (AX.Id.ofNat 231)
 (PT.put Tryz.c230 (AX.Id.ofNat 230)
 (PT.put Tryz.c229 (AX.Id.ofNat 229)
 (PT.put Tryz.c225 (AX.Id.ofNat 225)
 (PT.put Tryz.c224 (AX.Id.ofNat 224)
 (PT.put Tryz.c223 (AX.Id.ofNat 223)
 (PT.put Tryz.c222 (AX.Id.ofNat 222)
 (PT.put Tryz.c221 (AX.Id.ofNat 221)
 (PT.put Tryz.c220 (AX.Id.ofNat 220)
 (PT.put Tryz.c219 (AX.Id.ofNat 219)
 (PT.put Tryz.c218 (AX.Id.ofNat 218)
 (PT.put Tryz.c217 (AX.Id.ofNat 217)
 (PT.put Tryz.c215 (AX.Id.ofNat 215)
 (PT.put Tryz.c214 (AX.Id.ofNat 214)
 (PT.put Tryz.c213 (AX.Id.ofNat 213)
 (PT.put Tryz.c212 (AX.Id.ofNat 212)
 (PT.put Tryz.c203 (AX.Id.ofNat 203)
 (PT.put Tryz.c197 (AX.Id.ofNat 197)
 (PT.put Tryz.c196 (AX.Id.ofNat 196)
 (PT.put Tryz.c195 (AX.Id.ofNat 195)
 (PT.put Tryz.c194 (AX.Id.ofNat 194)
 (PT.put Tryz.c193 (AX.Id.ofNat 193)
 (PT.put Tryz.c192 (AX.Id.ofNat 192)
 (PT.put Tryz.c189 (AX.Id.ofNat 189)
 (PT.put Tryz.c188 (AX.Id.ofNat 188)
 (PT.put Tryz.c187 (AX.Id.ofNat 187)
 (PT.put Tryz.c184 (AX.Id.ofNat 184)
 (PT.put Tryz.c183 (AX.Id.ofNat 183)
 (PT.put Tryz.c181 (AX.Id.ofNat 181)
 (PT.put Tryz.c180 (AX.Id.ofNat 180)
 (PT.put Tryz.c179 (AX.Id.ofNat 179)
 (PT.put Tryz.c178 (AX.Id.ofNat 178)
 (PT.put Tryz.c177 (AX.Id.ofNat 177)
 (PT.put Tryz.c176 (AX.Id.ofNat 176)
 (PT.put Tryz.c175 (AX.Id.ofNat 175)
 (PT.put Tryz.c173 (AX.Id.ofNat 173)
 (PT.put Tryz.c171 (AX.Id.ofNat 171)
 (PT.put Tryz.c170 (AX.Id.ofNat 170)
 (PT.put Tryz.c169 (AX.Id.ofNat 169)
 (PT.put Tryz.c168 (AX.Id.ofNat 168)
 (PT.put Tryz.c167 (AX.Id.ofNat 167)
 (PT.put Tryz.c166 (AX.Id.ofNat 166)
 (PT.put Tryz.c165 (AX.Id.ofNat 165)
 (PT.put Tryz.c163 (AX.Id.ofNat 163)
 (PT.put Tryz.c162 (AX.Id.ofNat 162)
 (PT.put Tryz.c161 (AX.Id.ofNat 161)
 (PT.put Tryz.c156 (AX.Id.ofNat 156)
 (PT.put Tryz.c155 (AX.Id.ofNat 155)
 (PT.put Tryz.c154 (AX.Id.ofNat 154)
 (PT.put Tryz.c153 (AX.Id.ofNat 153)
 (PT.put Tryz.c152 (AX.Id.ofNat 152)
 (PT.put Tryz.c151 (AX.Id.ofNat 151)
 (PT.put Tryz.c150 (AX.Id.ofNat 150)
 (PT.put Tryz.c149 (AX.Id.ofNat 149)
 (PT.put Tryz.c148 (AX.Id.ofNat 148)
 (PT.put Tryz.c147 (AX.Id.ofNat 147)
 (PT.put Tryz.c146 (AX.Id.ofNat 146)
 (PT.put Tryz.c145 (AX.Id.ofNat 145)
 (PT.put Tryz.c144 (AX.Id.ofNat 144)
 (PT.put Tryz.c142 (AX.Id.ofNat 142)
 (PT.put Tryz.c141 (AX.Id.ofNat 141)
 (PT.put Tryz.c140 (AX.Id.ofNat 140)
 (PT.put Tryz.c139 (AX.Id.ofNat 139)
 (PT.put Tryz.c137 (AX.Id.ofNat 137)
 (PT.put Tryz.c136 (AX.Id.ofNat 136)
 (PT.put Tryz.c135 (AX.Id.ofNat 135)
 (PT.put Tryz.c134 (AX.Id.ofNat 134)
 (PT.put Tryz.c133 (AX.Id.ofNat 133)
 (PT.put Tryz.c132 (AX.Id.ofNat 132)
 (PT.put Tryz.c131 (AX.Id.ofNat 131)
 (PT.put Tryz.c129 (AX.Id.ofNat 129)
 (PT.put Tryz.c128 (AX.Id.ofNat 128)
 (PT.put Tryz.c126 (AX.Id.ofNat 126)
 (PT.put Tryz.c125 (AX.Id.ofNat 125)
 (PT.put Tryz.c124 (AX.Id.ofNat 124)
 (PT.put Tryz.c123 (AX.Id.ofNat 123)
 (PT.put Tryz.c122 (AX.Id.ofNat 122)
 (PT.put Tryz.c121 (AX.Id.ofNat 121)
 (PT.put Tryz.c120 (AX.Id.ofNat 120)
 (PT.put Tryz.c119 (AX.Id.ofNat 119)
 (PT.put Tryz.c118 (AX.Id.ofNat 118)
 (PT.put Tryz.c117 (AX.Id.ofNat 117)
 (PT.put Tryz.c116 (AX.Id.ofNat 116)
 (PT.put Tryz.c115 (AX.Id.ofNat 115)
 (PT.put Tryz.c114 (AX.Id.ofNat 114)
 (PT.put Tryz.c113 (AX.Id.ofNat 113)
 (PT.put Tryz.c112 (AX.Id.ofNat 112)
 (PT.put Tryz.c111 (AX.Id.ofNat 111)
 (PT.put Tryz.c110 (AX.Id.ofNat 110)
 (PT.put Tryz.c109 (AX.Id.ofNat 109)
 (PT.put Tryz.c106 (AX.Id.ofNat 106)
 (PT.put Tryz.c105 (AX.Id.ofNat 105)
 (PT.put Tryz.c104 (AX.Id.ofNat 104)
 (PT.put Tryz.c103 (AX.Id.ofNat 103)
 (PT.put Tryz.c102 (AX.Id.ofNat 102)
 (PT.put Tryz.c101 (AX.Id.ofNat 101)
 (PT.put Tryz.c100 (AX.Id.ofNat 100)
 (PT.put Tryz.c98 (AX.Id.ofNat 98)
 (PT.put Tryz.c96 (AX.Id.ofNat 96)
 (PT.put Tryz.c95 (AX.Id.ofNat 95)
 (PT.put Tryz.c94 (AX.Id.ofNat 94)
 (PT.put Tryz.c93 (AX.Id.ofNat 93)
 (PT.put Tryz.c92 (AX.Id.ofNat 92)
 (PT.put Tryz.c90 (AX.Id.ofNat 90)
 (PT.put Tryz.c89 (AX.Id.ofNat 89)
 (PT.put Tryz.c88 (AX.Id.ofNat 88)
 (PT.put Tryz.c87 (AX.Id.ofNat 87)
 (PT.put Tryz.c86 (AX.Id.ofNat 86)
 (PT.put Tryz.c84 (AX.Id.ofNat 84)
 (PT.put Tryz.c83 (AX.Id.ofNat 83)
 (PT.put Tryz.c81 (AX.Id.ofNat 81)
 (PT.put Tryz.c80 (AX.Id.ofNat 80)
 (PT.put Tryz.c79 (AX.Id.ofNat 79)
 (PT.put Tryz.c77 (AX.Id.ofNat 77)
 (PT.put Tryz.c76 (AX.Id.ofNat 76)
 (PT.put Tryz.c75 (AX.Id.ofNat 75)
 (PT.put Tryz.c74 (AX.Id.ofNat 74)
 (PT.put Tryz.c73 (AX.Id.ofNat 73)
 (PT.put Tryz.c72 (AX.Id.ofNat 72)
 (PT.put Tryz.c71 (AX.Id.ofNat 71)
 (PT.put Tryz.c70 (AX.Id.ofNat 70)
 (PT.put Tryz.c69 (AX.Id.ofNat 69)
 (PT.put Tryz.c68 (AX.Id.ofNat 68)
 (PT.put Tryz.c67 (AX.Id.ofNat 67)
 (PT.put Tryz.c66 (AX.Id.ofNat 66)
 (PT.put Tryz.c65 (AX.Id.ofNat 65)
 (PT.put Tryz.c58 (AX.Id.ofNat 58)
 (PT.put Tryz.c57 (AX.Id.ofNat 57)
 (PT.put Tryz.c56 (AX.Id.ofNat 56)
 (PT.put Tryz.c55 (AX.Id.ofNat 55)
 (PT.put Tryz.c54 (AX.Id.ofNat 54)
 (PT.put Tryz.c53 (AX.Id.ofNat 53)
 (PT.put Tryz.c52 (AX.Id.ofNat 52)
 (PT.put Tryz.c51 (AX.Id.ofNat 51)
 (PT.put Tryz.c50 (AX.Id.ofNat 50)
 (PT.put Tryz.c49 (AX.Id.ofNat 49)
 (PT.put Tryz.c48 (AX.Id.ofNat 48)
 (PT.put Tryz.c47 (AX.Id.ofNat 47)
 (PT.put Tryz.c46 (AX.Id.ofNat 46)
 (PT.put Tryz.c45 (AX.Id.ofNat 45)
 (PT.put Tryz.c44 (AX.Id.ofNat 44)
 (PT.put Tryz.c43 (AX.Id.ofNat 43)
 (PT.put Tryz.c42 (AX.Id.ofNat 42)
 (PT.put Tryz.c41 (AX.Id.ofNat 41)
 (PT.put Tryz.c34 (AX.Id.ofNat 34)
 (PT.put Tryz.c33 (AX.Id.ofNat 33)
 (PT.put Tryz.c32 (AX.Id.ofNat 32)
 (PT.put Tryz.c31 (AX.Id.ofNat 31)
 (PT.put Tryz.c30 (AX.Id.ofNat 30)
 (PT.put Tryz.c29 (AX.Id.ofNat 29)
 (PT.put Tryz.c28 (AX.Id.ofNat 28)
 (PT.put Tryz.c27 (AX.Id.ofNat 27)
 (PT.put Tryz.c26 (AX.Id.ofNat 26)
 (PT.put Tryz.c25 (AX.Id.ofNat 25)
 (PT.put Tryz.c24 (AX.Id.ofNat 24)
 (PT.put Tryz.c23 (AX.Id.ofNat 23)
 (PT.put Tryz.c21 (AX.Id.ofNat 21)
 (PT.put Tryz.c20 (AX.Id.ofNat 20)
 (PT.put Tryz.c19 (AX.Id.ofNat 19)
 (PT.put Tryz.c16 (AX.Id.ofNat 16)
 (PT.put Tryz.c12 (AX.Id.ofNat 12)
 (PT.put Tryz.c11 (AX.Id.ofNat 11)
 (PT.put Tryz.c10 (AX.Id.ofNat 10)
 (PT.put Tryz.c8 (AX.Id.ofNat 8)
 (PT.put Tryz.c7 (AX.Id.ofNat 7)
 (PT.put Tryz.c5 (AX.Id.ofNat 5)
 (PT.put Tryz.c4 (AX.Id.ofNat 4)
 (PT.put Tryz.c3 (AX.Id.ofNat 3)
 .e)))))))))))))))))))))))))))))))))))))))))))))))))))))))))))))))))))))))))))))))))))))))))))))))))))))))))))))))))))))))))))))))))))))))))))))))))))))))))))))))))))))))))))))))))))))))))))))))))))))))))))))))))))
noncomputable def Tryz.ctab (f : Nat) : Option FnK := PT.get (AX.Id.ofNat f) Tryz.cs
end Go.Proofs
end

section
set_option maxRecDepth 1000000
namespace Go.Proofs
open Go Go.AX
theorem Tryz.tabK : TabK Tryz.prog Tryz.cs :=
  (TabK.put Tryz.func316 Tryz.cOk316
 (TabK.put Tryz.func310 Tryz.cOk310
 (TabK.put Tryz.func304 Tryz.cOk304
 (TabK.put Tryz.func303 Tryz.cOk303
 (TabK.put Tryz.func302 Tryz.cOk302
 (TabK.put Tryz.func299 Tryz.cOk299
 (TabK.put Tryz.func298 Tryz.cOk298
 (TabK.put Tryz.func296 Tryz.cOk296
 (TabK.put Tryz.func295 Tryz.cOk295
 (TabK.put Tryz.func292 Tryz.cOk292
 (TabK.put Tryz.func291 Tryz.cOk291
 (TabK.put Tryz.func286 Tryz.cOk286
 (TabK.put Tryz.func285 Tryz.cOk285
 (TabK.put Tryz.func284 Tryz.cOk284
 (TabK.put Tryz.func279 Tryz.cOk279
 (TabK.put Tryz.func278 Tryz.cOk278
 (TabK.put Tryz.func277 Tryz.cOk277
 (TabK.put Tryz.func275 Tryz.cOk275
 (TabK.put Tryz.func274 Tryz.cOk274
 (TabK.put Tryz.func273 Tryz.cOk273
 (TabK.put Tryz.func272 Tryz.cOk272
 (TabK.put Tryz.func266 Tryz.cOk266
 (TabK.put Tryz.func265 Tryz.cOk265
 (TabK.put Tryz.func264 Tryz.cOk264
 (TabK.put Tryz.func261 Tryz.cOk261
 (TabK.put Tryz.func260 Tryz.cOk260
 (TabK.put Tryz.func259 Tryz.cOk259
 (TabK.put Tryz.func258 Tryz.cOk258
 (TabK.put Tryz.func257 Tryz.cOk257
 (TabK.put Tryz.func255 Tryz.cOk255
 (TabK.put Tryz.func254 Tryz.cOk254
 (TabK.put Tryz.func253 Tryz.cOk253
 (TabK.put Tryz.func250 Tryz.cOk250
 (TabK.put Tryz.func241 Tryz.cOk241
 (TabK.put Tryz.func240 Tryz.cOk240
 (TabK.put Tryz.func239 Tryz.cOk239
 (TabK.put Tryz.func238 Tryz.cOk238
 (TabK.put Tryz.func237 Tryz.cOk237
 (TabK.put Tryz.func236 Tryz.cOk236
 (TabK.put Tryz.func235 Tryz.cOk235
 (TabK.put Tryz.func234 Tryz.cOk234
 (TabK.put Tryz.func233 Tryz.cOk233
 (TabK.put Tryz.func232 Tryz.cOk232
 (TabK.put Tryz.func231 Tryz.cOk231
 (TabK.put Tryz.func230 Tryz.cOk230
 (TabK.put Tryz.func229 Tryz.cOk229
 (TabK.put Tryz.func225 Tryz.cOk225
 (TabK.put Tryz.func224 Tryz.cOk224
 (TabK.put Tryz.func223 Tryz.cOk223
 (TabK.put Tryz.func222 Tryz.cOk222
 (TabK.put Tryz.func221 Tryz.cOk221
 (TabK.put Tryz.func220 Tryz.cOk220
 (TabK.put Tryz.func219 Tryz.cOk219
 (TabK.put Tryz.func218 Tryz.cOk218
 (TabK.put Tryz.func217 Tryz.cOk217
 (TabK.put Tryz.func215 Tryz.cOk215
 (TabK.put Tryz.func214 Tryz.cOk214
 (TabK.put Tryz.func213 Tryz.cOk213
 (TabK.put Tryz.func212 Tryz.cOk212
 (TabK.put Tryz.func203 Tryz.cOk203
 (TabK.put Tryz.func197 Tryz.cOk197
 (TabK.put Tryz.func196 Tryz.cOk196
 (TabK.put Tryz.func195 Tryz.cOk195
 (TabK.put Tryz.func194 Tryz.cOk194
 (TabK.put Tryz.func193 Tryz.cOk193
 (TabK.put Tryz.func192 Tryz.cOk192
 (TabK.put Tryz.func189 Tryz.cOk189
 (TabK.put Tryz.func188 Tryz.cOk188
 (TabK.put Tryz.func187 Tryz.cOk187
 (TabK.put Tryz.func184 Tryz.cOk184
 (TabK.put Tryz.func183 Tryz.cOk183
 (TabK.put Tryz.func181 Tryz.cOk181
 (TabK.put Tryz.func180 Tryz.cOk180
 (TabK.put Tryz.func179 Tryz.cOk179
 (TabK.put Tryz.func178 Tryz.cOk178
 (TabK.put Tryz.func177 Tryz.cOk177
 (TabK.put Tryz.func176 Tryz.cOk176
 (TabK.put Tryz.func175 Tryz.cOk175
 (TabK.put Tryz.func173 Tryz.cOk173
 (TabK.put Tryz.func171 Tryz.cOk171
 (TabK.put Tryz.func170 Tryz.cOk170
 (TabK.put Tryz.func169 Tryz.cOk169
 (TabK.put Tryz.func168 Tryz.cOk168
 (TabK.put Tryz.func167 Tryz.cOk167
 (TabK.put Tryz.func166 Tryz.cOk166
 (TabK.put Tryz.func165 Tryz.cOk165
 (TabK.put Tryz.func163 Tryz.cOk163
 (TabK.put Tryz.func162 Tryz.cOk162
 (TabK.put Tryz.func161 Tryz.cOk161
 (TabK.put Tryz.func156 Tryz.cOk156
 (TabK.put Tryz.func155 Tryz.cOk155
 (TabK.put Tryz.func154 Tryz.cOk154
 (TabK.put Tryz.func153 Tryz.cOk153
 (TabK.put Tryz.func152 Tryz.cOk152
 (TabK.put Tryz.func151 Tryz.cOk151
 (TabK.put Tryz.func150 Tryz.cOk150
 (TabK.put Tryz.func149 Tryz.cOk149
 (TabK.put Tryz.func148 Tryz.cOk148
 (TabK.put Tryz.func147 Tryz.cOk147
 (TabK.put Tryz.func146 Tryz.cOk146
 (TabK.put Tryz.func145 Tryz.cOk145
 (TabK.put Tryz.func144 Tryz.cOk144
 (TabK.put Tryz.func142 Tryz.cOk142
 (TabK.put Tryz.func141 Tryz.cOk141
 (TabK.put Tryz.func140 Tryz.cOk140
 (TabK.put Tryz.func139 Tryz.cOk139
 (TabK.put Tryz.func137 Tryz.cOk137
 (TabK.put Tryz.func136 Tryz.cOk136
 (TabK.put Tryz.func135 Tryz.cOk135
 (TabK.put Tryz.func134 Tryz.cOk134
 (TabK.put Tryz.func133 Tryz.cOk133
 (TabK.put Tryz.func132 Tryz.cOk132
 (TabK.put Tryz.func131 Tryz.cOk131
 (TabK.put Tryz.func129 Tryz.cOk129
 (TabK.put Tryz.func128 Tryz.cOk128
 (TabK.put Tryz.func126 Tryz.cOk126
 (TabK.put Tryz.func125 Tryz.cOk125
 (TabK.put Tryz.func124 Tryz.cOk124
 (TabK.put Tryz.func123 Tryz.cOk123
 (TabK.put Tryz.func122 Tryz.cOk122
 (TabK.put Tryz.func121 Tryz.cOk121
 (TabK.put Tryz.func120 Tryz.cOk120
 (TabK.put Tryz.func119 Tryz.cOk119
 (TabK.put Tryz.func118 Tryz.cOk118
 (TabK.put Tryz.func117 Tryz.cOk117
 (TabK.put Tryz.func116 Tryz.cOk116
 (TabK.put Tryz.func115 Tryz.cOk115
 (TabK.put Tryz.func114 Tryz.cOk114
 (TabK.put Tryz.func113 Tryz.cOk113
 (TabK.put Tryz.func112 Tryz.cOk112
 (TabK.put Tryz.func111 Tryz.cOk111
 (TabK.put Tryz.func110 Tryz.cOk110
 (TabK.put Tryz.func109 Tryz.cOk109
 (TabK.put Tryz.func106 Tryz.cOk106
 (TabK.put Tryz.func105 Tryz.cOk105
 (TabK.put Tryz.func104 Tryz.cOk104
 (TabK.put Tryz.func103 Tryz.cOk103
 (TabK.put Tryz.func102 Tryz.cOk102
 (TabK.put Tryz.func101 Tryz.cOk101
 (TabK.put Tryz.func100 Tryz.cOk100
 (TabK.put Tryz.func98 Tryz.cOk98
 (TabK.put Tryz.func96 Tryz.cOk96
 (TabK.put Tryz.func95 Tryz.cOk95
 (TabK.put Tryz.func94 Tryz.cOk94
 (TabK.put Tryz.func93 Tryz.cOk93
 (TabK.put Tryz.func92 Tryz.cOk92
 (TabK.put Tryz.func90 Tryz.cOk90
 (TabK.put Tryz.func89 Tryz.cOk89
 (TabK.put Tryz.func88 Tryz.cOk88
 (TabK.put Tryz.func87 Tryz.cOk87
 (TabK.put Tryz.func86 Tryz.cOk86
 (TabK.put Tryz.func84 Tryz.cOk84
 (TabK.put Tryz.func83 Tryz.cOk83
 (TabK.put Tryz.func81 Tryz.cOk81
 (TabK.put Tryz.func80 Tryz.cOk80
 (TabK.put Tryz.func79 Tryz.cOk79
 (TabK.put Tryz.func77 Tryz.cOk77
 (TabK.put Tryz.func76 Tryz.cOk76
 (TabK.put Tryz.func75 Tryz.cOk75
 (TabK.put Tryz.func74 Tryz.cOk74
 (TabK.put Tryz.func73 Tryz.cOk73
 (TabK.put Tryz.func72 Tryz.cOk72
 (TabK.put Tryz.func71 Tryz.cOk71
 (TabK.put Tryz.func70 Tryz.cOk70
 (TabK.put Tryz.func69 Tryz.cOk69
 (TabK.put Tryz.func68 Tryz.cOk68
 (TabK.put Tryz.func67 Tryz.cOk67
 (TabK.put Tryz.func66 Tryz.cOk66
 (TabK.put Tryz.func65 Tryz.cOk65
 (TabK.put Tryz.func58 Tryz.cOk58
 (TabK.put Tryz.func57 Tryz.cOk57
 (TabK.put Tryz.func56 Tryz.cOk56
 (TabK.put Tryz.func55 Tryz.cOk55
 (TabK.put Tryz.func54 Tryz.cOk54
 (TabK.put Tryz.func53 Tryz.cOk53
 (TabK.put Tryz.func52 Tryz.cOk52
 (TabK.put Tryz.func51 Tryz.cOk51
 (TabK.put Tryz.func50 Tryz.cOk50
 (TabK.put Tryz.func49 Tryz.cOk49
 (TabK.put Tryz.func48 Tryz.cOk48
 (TabK.put Tryz.func47 Tryz.cOk47
 (TabK.put Tryz.func46 Tryz.cOk46
 (TabK.put Tryz.func45 Tryz.cOk45
 (TabK.put Tryz.func44 Tryz.cOk44
 (TabK.put Tryz.func43 Tryz.cOk43
 (TabK.put Tryz.func42 Tryz.cOk42
 (TabK.put Tryz.func41 Tryz.cOk41
 (TabK.put Tryz.func34 Tryz.cOk34
 (TabK.put Tryz.func33 Tryz.cOk33
 (TabK.put Tryz.func32 Tryz.cOk32
 (TabK.put Tryz.func31 Tryz.cOk31
 (TabK.put Tryz.func30 Tryz.cOk30
 (TabK.put Tryz.func29 Tryz.cOk29
 (TabK.put Tryz.func28 Tryz.cOk28
 (TabK.put Tryz.func27 Tryz.cOk27
 (TabK.put Tryz.func26 Tryz.cOk26
 (TabK.put Tryz.func25 Tryz.cOk25
 (TabK.put Tryz.func24 Tryz.cOk24
 (TabK.put Tryz.func23 Tryz.cOk23
 (TabK.put Tryz.func21 Tryz.cOk21
 (TabK.put Tryz.func20 Tryz.cOk20
 (TabK.put Tryz.func19 Tryz.cOk19
 (TabK.put Tryz.func16 Tryz.cOk16
 (TabK.put Tryz.func12 Tryz.cOk12
 (TabK.put Tryz.func11 Tryz.cOk11
 (TabK.put Tryz.func10 Tryz.cOk10
 (TabK.put Tryz.func8 Tryz.cOk8
 (TabK.put Tryz.func7 Tryz.cOk7
 (TabK.put Tryz.func5 Tryz.cOk5
 (TabK.put Tryz.func4 Tryz.cOk4
 (TabK.put Tryz.func3 Tryz.cOk3
 (TabK.e _))))))))))))))))))))))))))))))))))))))))))))))))))))))))))))))))))))))))))))))))))))))))))))))))))))))))))))))))))))))))))))))))))))))))))))))))))))))))))))))))))))))))))))))))))))))))))))))))))))))))))))))))))))
theorem Tryz.ext : ExtOk Tryz.prog := by
  intro f fn n _ _ h
  cases h
theorem Tryz.mix : Tryz.prog.follows .mixedOrders = true := by kernel_rfl
theorem Tryz.dtabOk : TabOk Tryz.prog Tryz.dtab := by
  intro f F h
  unfold Tryz.dtab at h
  cases h71 : Nat.beq f 71 with
  | true =>
    simp only [h71] at h
    obtain rfl := Nat.eq_of_beq_eq_true h71
    cases h
    exact ⟨_, Tryz.func71, Tryz.irOk71⟩
  | false =>
    simp only [h71] at h
    cases h66 : Nat.beq f 66 with
    | true =>
      simp only [h66] at h
      obtain rfl := Nat.eq_of_beq_eq_true h66
      cases h
      exact ⟨_, Tryz.func66, Tryz.irOk66⟩
    | false =>
      simp only [h66] at h
      cases h
noncomputable section
def retV : CR → Option AV
  | .ret v _ => some v
  | .fail => none
def summ0 (f : Nat) (args : List AV) (H : Heap) : Option CR := (Bool.rec (motive := fun _ => Option CR) (Bool.rec (motive := fun _ => Option CR) (Bool.rec (motive := fun _ => Option CR) (Bool.rec (motive := fun _ => Option CR) (Bool.rec (motive := fun _ => Option CR) (Bool.rec (motive := fun _ => Option CR) none (containsS args H) (Nat.beq f 9)) (indexByteS args H) (Nat.beq f 61)) (checkS 56 args H) (Nat.beq f 37)) (strS 5 args H) (Nat.beq f 18)) (replaceS args H) (Nat.beq f 6)) (repeatS args H) (Nat.beq f 280))
end
theorem retV_some {x : CR} {v : AV} (h : retV x = some v) : ∃ H, x = .ret v H := by
  cases x with
  | fail => cases h
  | ret v' H => cases h; exact ⟨H, rfl⟩
abbrev Tryz.B := IntVar 0
theorem Tryz.recOk {summ : Nat → List AV → Heap → Option CR} (hs : SummOk Tryz.prog Tryz.B summ) (n : Nat) : RecOk Tryz.prog Tryz.B (callC Tryz.ctab Tryz.dtab summ n) := by
  have := callC_eq Tryz.tabK Tryz.dtab summ n
  change callC Tryz.ctab Tryz.dtab summ n = _ at this
  rw [this]
  exact callA_sound (intVar_stable 0) Tryz.ext Tryz.mix tabOf_ok Tryz.dtabOk hs n
theorem callFunc_9 (vs : Array Value) (w : World) : (callFunc 9 vs).run Tryz.prog w = .ok (.enter 9 vs) w := by
  have hb : Tryz.f9.body.isSome = true := by kernel_rfl
  obtain ⟨c, hc⟩ := Option.isSome_iff_exists.1 hb
  exact enters_of_body Tryz.func9 hc (by decide +kernel) vs w
theorem callFunc_61 (vs : Array Value) (w : World) : (callFunc 61 vs).run Tryz.prog w = .ok (.enter 61 vs) w := by
  have hb : Tryz.f61.body.isSome = true := by kernel_rfl
  obtain ⟨c, hc⟩ := Option.isSome_iff_exists.1 hb
  exact enters_of_body Tryz.func61 hc (by decide +kernel) vs w
theorem callFunc_37 (vs : Array Value) (w : World) : (callFunc 37 vs).run Tryz.prog w = .ok (.enter 37 vs) w := by
  have hb : Tryz.f37.body.isSome = true := by kernel_rfl
  obtain ⟨c, hc⟩ := Option.isSome_iff_exists.1 hb
  exact enters_of_body Tryz.func37 hc (by decide +kernel) vs w
theorem callFunc_18 (vs : Array Value) (w : World) : (callFunc 18 vs).run Tryz.prog w = .ok (.enter 18 vs) w := by
  have hb : Tryz.f18.body.isSome = true := by kernel_rfl
  obtain ⟨c, hc⟩ := Option.isSome_iff_exists.1 hb
  exact enters_of_body Tryz.func18 hc (by decide +kernel) vs w
theorem callFunc_6 (vs : Array Value) (w : World) : (callFunc 6 vs).run Tryz.prog w = .ok (.enter 6 vs) w := by
  have hb : Tryz.f6.body.isSome = true := by kernel_rfl
  obtain ⟨c, hc⟩ := Option.isSome_iff_exists.1 hb
  exact enters_of_body Tryz.func6 hc (by decide +kernel) vs w
theorem callFunc_280 (vs : Array Value) (w : World) : (callFunc 280 vs).run Tryz.prog w = .ok (.enter 280 vs) w := by
  have hb : Tryz.f280.body.isSome = true := by kernel_rfl
  obtain ⟨c, hc⟩ := Option.isSome_iff_exists.1 hb
  exact enters_of_body Tryz.func280 hc (by decide +kernel) vs w
theorem beqC {f n : Nat} {a b : Option CR} {r : CR} (h : Bool.rec (motive := fun _ => Option CR) a b (Nat.beq f n) = some r) : (f = n ∧ b = some r) ∨ a = some r := by
  cases hb : Nat.beq f n with
  | true => rw [hb] at h; exact .inl ⟨Nat.eq_of_beq_eq_true hb, h⟩
  | false => rw [hb] at h; exact .inr h
theorem summ0_ok : SummOk Tryz.prog Tryz.B summ0 := by
  intro f args H v H' h
  unfold summ0 at h
  rcases beqC h with ⟨rfl, h⟩ | h
  · exact repeat_ok (fun vs w => callFunc_280 vs w) (fun s c w h1 h2 => Tryz.strings_Repeat s c w h1 h2) h
  rcases beqC h with ⟨rfl, h⟩ | h
  · exact replace_ok (g := 0) (fun vs w => callFunc_6 vs w) (fun s old new n m w h1 h2 h3 h4 => Tryz.strings_Replace s old new n m w h1 h2 h3 h4) h
  rcases beqC h with ⟨rfl, h⟩ | h
  · exact str_ok (fun vs w => callFunc_18 vs w) (fun b g cap l cur fz w h1 h2 h3 h4 h5 h6 h7 => Tryz.Builder_String_x b g cap l cur fz w h1 h2 h3 h4 h5 h6 h7) (fun b w h1 => Tryz.Builder_String_nil_x b w h1) h
  rcases beqC h with ⟨rfl, h⟩ | h
  · exact check_ok (fun vs w => callFunc_37 vs w) (fun b w h1 h2 h3 => Tryz.copyCheck_fresh b w h1 h2 h3) (fun b w h1 => Tryz.copyCheck_used b w h1) h
  rcases beqC h with ⟨rfl, h⟩ | h
  · exact indexByte_ok (fun vs w => callFunc_61 vs w) (fun s c w => Tryz.stringslite_IndexByte s c w) h
  rcases beqC h with ⟨rfl, h⟩ | h
  · exact contains_ok (g := 0) (fun vs w => callFunc_9 vs w) (fun s sub m w h1 h2 => Tryz.strings_Contains s sub m w h1 h2) h
  cases h
/-- A table of answers of a function of one int. -/
def OfOk (rec : Rec) (f : Nat) (t : PT AV) : Prop := ∀ n v, PT.get (AX.Id.ofNat n) t = some v → (∃ H1, rec f [.i .i64 (.ofNat n)] empty = .ret v H1) ∧ v.shut = true
theorem OfOk.e (rec : Rec) (f : Nat) : OfOk rec f .e := by
  intro n v h
  rw [PT.get_e] at h
  cases h
theorem OfOk.put {rec : Rec} {f : Nat} {t : PT AV} {n : Nat} {v : AV} (h1 : retV (rec f [.i .i64 (.ofNat n)] empty) = some v) (h2 : v.shut = true) (h : OfOk rec f t) : OfOk rec f (PT.put v (AX.Id.ofNat n) t) := by
  intro m u hu
  by_cases e : m = n
  · subst e
    rw [PT.get_put_same] at hu
    cases hu
    exact ⟨retV_some h1, h2⟩
  · rw [PT.get_put_ne _ _ _ _ (fun e' => e (Id.ofNat_inj e'))] at hu
    exact h m u hu
noncomputable section
def Tryz.of0 : AV := (.ag [(.s []), (.i .i64 0), (.i .i64 0), (.b false), (.b false)])
def Tryz.of1 : AV := (.ag [(.s [112, 114, 111, 103, 114, 97, 109]), (.i .i64 0), (.i .i64 (-1)), (.b false), (.b false)])
def Tryz.of2 : AV := (.ag [(.s [99, 108, 97, 115, 115]), (.i .i64 0), (.i .i64 (-1)), (.b true), (.b false)])
def Tryz.of3 : AV := (.ag [(.s [101, 120, 116, 101, 110, 100, 115]), (.i .i64 0), (.i .i64 0), (.b true), (.b false)])
def Tryz.of4 : AV := (.ag [(.s [102, 105, 101, 108, 100]), (.i .i64 0), (.i .i64 0), (.b true), (.b true)])
def Tryz.of5 : AV := (.ag [(.s [105, 110, 105, 116]), (.i .i64 1), (.i .i64 (-1)), (.b false), (.b false)])
def Tryz.of6 : AV := (.ag [(.s [109, 101, 116, 104, 111, 100]), (.i .i64 1), (.i .i64 (-1)), (.b true), (.b true)])
def Tryz.of7 : AV := (.ag [(.s [112, 97, 114, 97, 109]), (.i .i64 0), (.i .i64 0), (.b true), (.b true)])
def Tryz.of8 : AV := (.ag [(.s [98, 108, 111, 99, 107]), (.i .i64 0), (.i .i64 (-1)), (.b false), (.b false)])
def Tryz.of9 : AV := (.ag [(.s [100, 101, 99, 108]), (.i .i64 0), (.i .i64 1), (.b true), (.b true)])
def Tryz.of10 : AV := (.ag [(.s [97, 115, 115, 105, 103, 110]), (.i .i64 2), (.i .i64 2), (.b false), (.b false)])
def Tryz.of11 : AV := (.ag [(.s [105, 102]), (.i .i64 2), (.i .i64 3), (.b false), (.b false)])
def Tryz.of12 : AV := (.ag [(.s [119, 104, 105, 108, 101]), (.i .i64 2), (.i .i64 2), (.b false), (.b false)])
def Tryz.of13 : AV := (.ag [(.s [98, 114, 101, 97, 107]), (.i .i64 0), (.i .i64 0), (.b false), (.b false)])
def Tryz.of14 : AV := (.ag [(.s [99, 111, 110, 116, 105, 110, 117, 101]), (.i .i64 0), (.i .i64 0), (.b false), (.b false)])
def Tryz.of15 : AV := (.ag [(.s [114, 101, 116, 117, 114, 110]), (.i .i64 0), (.i .i64 1), (.b false), (.b false)])
def Tryz.of16 : AV := (.ag [(.s [112, 114, 105, 110, 116]), (.i .i64 1), (.i .i64 1), (.b false), (.b false)])
def Tryz.of17 : AV := (.ag [(.s [115, 117, 112, 101, 114]), (.i .i64 0), (.i .i64 (-1)), (.b false), (.b false)])
def Tryz.of18 : AV := (.ag [(.s [101, 120, 112, 114]), (.i .i64 1), (.i .i64 1), (.b false), (.b false)])
def Tryz.of19 : AV := (.ag [(.s [105, 110, 116]), (.i .i64 0), (.i .i64 0), (.b false), (.b false)])
def Tryz.of20 : AV := (.ag [(.s [100, 111, 117, 98, 108, 101]), (.i .i64 0), (.i .i64 0), (.b true), (.b false)])
def Tryz.of21 : AV := (.ag [(.s [98, 111, 111, 108]), (.i .i64 0), (.i .i64 0), (.b false), (.b false)])
def Tryz.of22 : AV := (.ag [(.s [115, 116, 114]), (.i .i64 0), (.i .i64 0), (.b true), (.b false)])
def Tryz.of23 : AV := (.ag [(.s [110, 117, 108, 108]), (.i .i64 0), (.i .i64 0), (.b false), (.b false)])
def Tryz.of24 : AV := (.ag [(.s [116, 104, 105, 115]), (.i .i64 0), (.i .i64 0), (.b false), (.b false)])
def Tryz.of25 : AV := (.ag [(.s [118, 97, 114]), (.i .i64 0), (.i .i64 0), (.b true), (.b false)])
def Tryz.of26 : AV := (.ag [(.s [103, 101, 116]), (.i .i64 1), (.i .i64 1), (.b true), (.b false)])
def Tryz.of27 : AV := (.ag [(.s [105, 110, 100, 101, 120]), (.i .i64 2), (.i .i64 2), (.b false), (.b false)])
def Tryz.of28 : AV := (.ag [(.s [108, 101, 110, 103, 116, 104]), (.i .i64 1), (.i .i64 1), (.b false), (.b false)])
def Tryz.of29 : AV := (.ag [(.s [99, 97, 108, 108]), (.i .i64 1), (.i .i64 (-1)), (.b true), (.b false)])
def Tryz.of30 : AV := (.ag [(.s [110, 101, 119]), (.i .i64 0), (.i .i64 (-1)), (.b false), (.b true)])
def Tryz.of31 : AV := (.ag [(.s [97, 114, 114, 97, 121]), (.i .i64 1), (.i .i64 1), (.b false), (.b true)])
def Tryz.of32 : AV := (.ag [(.s [110, 101, 103]), (.i .i64 1), (.i .i64 1), (.b false), (.b false)])
def Tryz.of33 : AV := (.ag [(.s [110, 111, 116]), (.i .i64 1), (.i .i64 1), (.b false), (.b false)])
def Tryz.of34 : AV := (.ag [(.s [98, 105, 110, 97, 114, 121]), (.i .i64 2), (.i .i64 2), (.b true), (.b false)])
def Tryz.of35 : AV := (.ag [(.s [99, 97, 115, 116]), (.i .i64 1), (.i .i64 1), (.b false), (.b true)])
def Tryz.of36 : AV := (.ag [(.s [116, 111, 105, 110, 116]), (.i .i64 1), (.i .i64 1), (.b false), (.b false)])
def Tryz.of37 : AV := (.ag [(.s [116, 111, 100, 111, 117, 98, 108, 101]), (.i .i64 1), (.i .i64 1), (.b false), (.b false)])
def Tryz.of38 : AV := (.ag [(.s [105, 110, 112, 117, 116]), (.i .i64 0), (.i .i64 0), (.b false), (.b false)])
def Tryz.of39 : AV := (.ag [(.s [97, 115, 107]), (.i .i64 1), (.i .i64 1), (.b false), (.b false)])
def Tryz.of40 : AV := (.ag [(.s [103, 117, 97, 114, 100]), (.i .i64 1), (.i .i64 1), (.b false), (.b false)])
def Tryz.of41 : AV := (.ag [(.s [115, 111, 109, 101]), (.i .i64 1), (.i .i64 1), (.b false), (.b false)])
def Tryz.of42 : AV := (.ag [(.s [110, 111, 110, 101]), (.i .i64 0), (.i .i64 0), (.b false), (.b false)])
def Tryz.of43 : AV := (.ag [(.s [105, 115, 115, 111, 109, 101]), (.i .i64 1), (.i .i64 1), (.b false), (.b false)])
def Tryz.of44 : AV := (.ag [(.s [105, 115, 110, 111, 110, 101]), (.i .i64 1), (.i .i64 1), (.b false), (.b false)])
def Tryz.of45 : AV := (.ag [(.s [118, 97, 108]), (.i .i64 1), (.i .i64 1), (.b false), (.b false)])
def Tryz.of46 : AV := (.ag [(.s []), (.i .i64 0), (.i .i64 0), (.b false), (.b false)])
def Tryz.ofTab : PT AV := (PT.put Tryz.of46 (AX.Id.ofNat 46) (PT.put Tryz.of45 (AX.Id.ofNat 45) (PT.put Tryz.of44 (AX.Id.ofNat 44) (PT.put Tryz.of43 (AX.Id.ofNat 43) (PT.put Tryz.of42 (AX.Id.ofNat 42) (PT.put Tryz.of41 (AX.Id.ofNat 41) (PT.put Tryz.of40 (AX.Id.ofNat 40) (PT.put Tryz.of39 (AX.Id.ofNat 39) (PT.put Tryz.of38 (AX.Id.ofNat 38) (PT.put Tryz.of37 (AX.Id.ofNat 37) (PT.put Tryz.of36 (AX.Id.ofNat 36) (PT.put Tryz.of35 (AX.Id.ofNat 35) (PT.put Tryz.of34 (AX.Id.ofNat 34) (PT.put Tryz.of33 (AX.Id.ofNat 33) (PT.put Tryz.of32 (AX.Id.ofNat 32) (PT.put Tryz.of31 (AX.Id.ofNat 31) (PT.put Tryz.of30 (AX.Id.ofNat 30) (PT.put Tryz.of29 (AX.Id.ofNat 29) (PT.put Tryz.of28 (AX.Id.ofNat 28) (PT.put Tryz.of27 (AX.Id.ofNat 27) (PT.put Tryz.of26 (AX.Id.ofNat 26) (PT.put Tryz.of25 (AX.Id.ofNat 25) (PT.put Tryz.of24 (AX.Id.ofNat 24) (PT.put Tryz.of23 (AX.Id.ofNat 23) (PT.put Tryz.of22 (AX.Id.ofNat 22) (PT.put Tryz.of21 (AX.Id.ofNat 21) (PT.put Tryz.of20 (AX.Id.ofNat 20) (PT.put Tryz.of19 (AX.Id.ofNat 19) (PT.put Tryz.of18 (AX.Id.ofNat 18) (PT.put Tryz.of17 (AX.Id.ofNat 17) (PT.put Tryz.of16 (AX.Id.ofNat 16) (PT.put Tryz.of15 (AX.Id.ofNat 15) (PT.put Tryz.of14 (AX.Id.ofNat 14) (PT.put Tryz.of13 (AX.Id.ofNat 13) (PT.put Tryz.of12 (AX.Id.ofNat 12) (PT.put Tryz.of11 (AX.Id.ofNat 11) (PT.put Tryz.of10 (AX.Id.ofNat 10) (PT.put Tryz.of9 (AX.Id.ofNat 9) (PT.put Tryz.of8 (AX.Id.ofNat 8) (PT.put Tryz.of7 (AX.Id.ofNat 7) (PT.put Tryz.of6 (AX.Id.ofNat 6) (PT.put Tryz.of5 (AX.Id.ofNat 5) (PT.put Tryz.of4 (AX.Id.ofNat 4) (PT.put Tryz.of3 (AX.Id.ofNat 3) (PT.put Tryz.of2 (AX.Id.ofNat 2) (PT.put Tryz.of1 (AX.Id.ofNat 1) (PT.put Tryz.of0 (AX.Id.ofNat 0) .e)))))))))))))))))))))))))))))))))))))))))))))))
def ofS (args : List AV) (H : Heap) : Option CR := match args with
  | [.i .i64 (.ofNat n)] => Option.rec (motive := fun _ => Option CR) none (fun v => some (.ret v H)) (PT.get (AX.Id.ofNat n) Tryz.ofTab)
  | _ => none
def summ1 (f : Nat) (args : List AV) (H : Heap) : Option CR := Bool.rec (motive := fun _ => Option CR) (summ0 f args H) (ofS args H) (Nat.beq f 181)
/-- One call of one function of a text is known. -/
def oneS (t : List Nat) (r : AV) (args : List AV) (H : Heap) : Option CR := match args with
  | [.s a] => Bool.rec (motive := fun _ => Option CR) none (some (.ret r H)) (natsEq a t)
  | _ => none
def withS (g : Nat) (t : List Nat) (r : AV) (summ : Nat → List AV → Heap → Option CR) (f : Nat) (args : List AV) (H : Heap) : Option CR := Option.rec (motive := fun _ => Option CR) (summ f args H) (fun x => some x) (Bool.rec (motive := fun _ => Option CR) none (oneS t r args H) (Nat.beq f g))
def hushV : CR → Option AV
  | .ret v _ => some (hush v)
  | .fail => none
end
theorem Tryz.ofOk0 : retV (callC Tryz.ctab Tryz.dtab summ0 100000 181 [.i .i64 (.ofNat 0)] empty) = some Tryz.of0 := by kernel_rfl
theorem Tryz.ofOk1 : retV (callC Tryz.ctab Tryz.dtab summ0 100000 181 [.i .i64 (.ofNat 1)] empty) = some Tryz.of1 := by kernel_rfl
theorem Tryz.ofOk2 : retV (callC Tryz.ctab Tryz.dtab summ0 100000 181 [.i .i64 (.ofNat 2)] empty) = some Tryz.of2 := by kernel_rfl
theorem Tryz.ofOk3 : retV (callC Tryz.ctab Tryz.dtab summ0 100000 181 [.i .i64 (.ofNat 3)] empty) = some Tryz.of3 := by kernel_rfl
theorem Tryz.ofOk4 : retV (callC Tryz.ctab Tryz.dtab summ0 100000 181 [.i .i64 (.ofNat 4)] empty) = some Tryz.of4 := by kernel_rfl
theorem Tryz.ofOk5 : retV (callC Tryz.ctab Tryz.dtab summ0 100000 181 [.i .i64 (.ofNat 5)] empty) = some Tryz.of5 := by kernel_rfl
theorem Tryz.ofOk6 : retV (callC Tryz.ctab Tryz.dtab summ0 100000 181 [.i .i64 (.ofNat 6)] empty) = some Tryz.of6 := by kernel_rfl
theorem Tryz.ofOk7 : retV (callC Tryz.ctab Tryz.dtab summ0 100000 181 [.i .i64 (.ofNat 7)] empty) = some Tryz.of7 := by kernel_rfl
theorem Tryz.ofOk8 : retV (callC Tryz.ctab Tryz.dtab summ0 100000 181 [.i .i64 (.ofNat 8)] empty) = some Tryz.of8 := by kernel_rfl
theorem Tryz.ofOk9 : retV (callC Tryz.ctab Tryz.dtab summ0 100000 181 [.i .i64 (.ofNat 9)] empty) = some Tryz.of9 := by kernel_rfl
theorem Tryz.ofOk10 : retV (callC Tryz.ctab Tryz.dtab summ0 100000 181 [.i .i64 (.ofNat 10)] empty) = some Tryz.of10 := by kernel_rfl
theorem Tryz.ofOk11 : retV (callC Tryz.ctab Tryz.dtab summ0 100000 181 [.i .i64 (.ofNat 11)] empty) = some Tryz.of11 := by kernel_rfl
theorem Tryz.ofOk12 : retV (callC Tryz.ctab Tryz.dtab summ0 100000 181 [.i .i64 (.ofNat 12)] empty) = some Tryz.of12 := by kernel_rfl
theorem Tryz.ofOk13 : retV (callC Tryz.ctab Tryz.dtab summ0 100000 181 [.i .i64 (.ofNat 13)] empty) = some Tryz.of13 := by kernel_rfl
theorem Tryz.ofOk14 : retV (callC Tryz.ctab Tryz.dtab summ0 100000 181 [.i .i64 (.ofNat 14)] empty) = some Tryz.of14 := by kernel_rfl
theorem Tryz.ofOk15 : retV (callC Tryz.ctab Tryz.dtab summ0 100000 181 [.i .i64 (.ofNat 15)] empty) = some Tryz.of15 := by kernel_rfl
theorem Tryz.ofOk16 : retV (callC Tryz.ctab Tryz.dtab summ0 100000 181 [.i .i64 (.ofNat 16)] empty) = some Tryz.of16 := by kernel_rfl
theorem Tryz.ofOk17 : retV (callC Tryz.ctab Tryz.dtab summ0 100000 181 [.i .i64 (.ofNat 17)] empty) = some Tryz.of17 := by kernel_rfl
theorem Tryz.ofOk18 : retV (callC Tryz.ctab Tryz.dtab summ0 100000 181 [.i .i64 (.ofNat 18)] empty) = some Tryz.of18 := by kernel_rfl
theorem Tryz.ofOk19 : retV (callC Tryz.ctab Tryz.dtab summ0 100000 181 [.i .i64 (.ofNat 19)] empty) = some Tryz.of19 := by kernel_rfl
theorem Tryz.ofOk20 : retV (callC Tryz.ctab Tryz.dtab summ0 100000 181 [.i .i64 (.ofNat 20)] empty) = some Tryz.of20 := by kernel_rfl
theorem Tryz.ofOk21 : retV (callC Tryz.ctab Tryz.dtab summ0 100000 181 [.i .i64 (.ofNat 21)] empty) = some Tryz.of21 := by kernel_rfl
theorem Tryz.ofOk22 : retV (callC Tryz.ctab Tryz.dtab summ0 100000 181 [.i .i64 (.ofNat 22)] empty) = some Tryz.of22 := by kernel_rfl
theorem Tryz.ofOk23 : retV (callC Tryz.ctab Tryz.dtab summ0 100000 181 [.i .i64 (.ofNat 23)] empty) = some Tryz.of23 := by kernel_rfl
theorem Tryz.ofOk24 : retV (callC Tryz.ctab Tryz.dtab summ0 100000 181 [.i .i64 (.ofNat 24)] empty) = some Tryz.of24 := by kernel_rfl
theorem Tryz.ofOk25 : retV (callC Tryz.ctab Tryz.dtab summ0 100000 181 [.i .i64 (.ofNat 25)] empty) = some Tryz.of25 := by kernel_rfl
theorem Tryz.ofOk26 : retV (callC Tryz.ctab Tryz.dtab summ0 100000 181 [.i .i64 (.ofNat 26)] empty) = some Tryz.of26 := by kernel_rfl
theorem Tryz.ofOk27 : retV (callC Tryz.ctab Tryz.dtab summ0 100000 181 [.i .i64 (.ofNat 27)] empty) = some Tryz.of27 := by kernel_rfl
theorem Tryz.ofOk28 : retV (callC Tryz.ctab Tryz.dtab summ0 100000 181 [.i .i64 (.ofNat 28)] empty) = some Tryz.of28 := by kernel_rfl
theorem Tryz.ofOk29 : retV (callC Tryz.ctab Tryz.dtab summ0 100000 181 [.i .i64 (.ofNat 29)] empty) = some Tryz.of29 := by kernel_rfl
theorem Tryz.ofOk30 : retV (callC Tryz.ctab Tryz.dtab summ0 100000 181 [.i .i64 (.ofNat 30)] empty) = some Tryz.of30 := by kernel_rfl
theorem Tryz.ofOk31 : retV (callC Tryz.ctab Tryz.dtab summ0 100000 181 [.i .i64 (.ofNat 31)] empty) = some Tryz.of31 := by kernel_rfl
theorem Tryz.ofOk32 : retV (callC Tryz.ctab Tryz.dtab summ0 100000 181 [.i .i64 (.ofNat 32)] empty) = some Tryz.of32 := by kernel_rfl
theorem Tryz.ofOk33 : retV (callC Tryz.ctab Tryz.dtab summ0 100000 181 [.i .i64 (.ofNat 33)] empty) = some Tryz.of33 := by kernel_rfl
theorem Tryz.ofOk34 : retV (callC Tryz.ctab Tryz.dtab summ0 100000 181 [.i .i64 (.ofNat 34)] empty) = some Tryz.of34 := by kernel_rfl
theorem Tryz.ofOk35 : retV (callC Tryz.ctab Tryz.dtab summ0 100000 181 [.i .i64 (.ofNat 35)] empty) = some Tryz.of35 := by kernel_rfl
theorem Tryz.ofOk36 : retV (callC Tryz.ctab Tryz.dtab summ0 100000 181 [.i .i64 (.ofNat 36)] empty) = some Tryz.of36 := by kernel_rfl
theorem Tryz.ofOk37 : retV (callC Tryz.ctab Tryz.dtab summ0 100000 181 [.i .i64 (.ofNat 37)] empty) = some Tryz.of37 := by kernel_rfl
theorem Tryz.ofOk38 : retV (callC Tryz.ctab Tryz.dtab summ0 100000 181 [.i .i64 (.ofNat 38)] empty) = some Tryz.of38 := by kernel_rfl
theorem Tryz.ofOk39 : retV (callC Tryz.ctab Tryz.dtab summ0 100000 181 [.i .i64 (.ofNat 39)] empty) = some Tryz.of39 := by kernel_rfl
theorem Tryz.ofOk40 : retV (callC Tryz.ctab Tryz.dtab summ0 100000 181 [.i .i64 (.ofNat 40)] empty) = some Tryz.of40 := by kernel_rfl
theorem Tryz.ofOk41 : retV (callC Tryz.ctab Tryz.dtab summ0 100000 181 [.i .i64 (.ofNat 41)] empty) = some Tryz.of41 := by kernel_rfl
theorem Tryz.ofOk42 : retV (callC Tryz.ctab Tryz.dtab summ0 100000 181 [.i .i64 (.ofNat 42)] empty) = some Tryz.of42 := by kernel_rfl
theorem Tryz.ofOk43 : retV (callC Tryz.ctab Tryz.dtab summ0 100000 181 [.i .i64 (.ofNat 43)] empty) = some Tryz.of43 := by kernel_rfl
theorem Tryz.ofOk44 : retV (callC Tryz.ctab Tryz.dtab summ0 100000 181 [.i .i64 (.ofNat 44)] empty) = some Tryz.of44 := by kernel_rfl
theorem Tryz.ofOk45 : retV (callC Tryz.ctab Tryz.dtab summ0 100000 181 [.i .i64 (.ofNat 45)] empty) = some Tryz.of45 := by kernel_rfl
theorem Tryz.ofOk46 : retV (callC Tryz.ctab Tryz.dtab summ0 100000 181 [.i .i64 (.ofNat 46)] empty) = some Tryz.of46 := by kernel_rfl
theorem Tryz.ofOk : OfOk (callC Tryz.ctab Tryz.dtab summ0 100000) 181 Tryz.ofTab := (OfOk.put Tryz.ofOk46 rfl (OfOk.put Tryz.ofOk45 rfl (OfOk.put Tryz.ofOk44 rfl (OfOk.put Tryz.ofOk43 rfl (OfOk.put Tryz.ofOk42 rfl (OfOk.put Tryz.ofOk41 rfl (OfOk.put Tryz.ofOk40 rfl (OfOk.put Tryz.ofOk39 rfl (OfOk.put Tryz.ofOk38 rfl (OfOk.put Tryz.ofOk37 rfl (OfOk.put Tryz.ofOk36 rfl (OfOk.put Tryz.ofOk35 rfl (OfOk.put Tryz.ofOk34 rfl (OfOk.put Tryz.ofOk33 rfl (OfOk.put Tryz.ofOk32 rfl (OfOk.put Tryz.ofOk31 rfl (OfOk.put Tryz.ofOk30 rfl (OfOk.put Tryz.ofOk29 rfl (OfOk.put Tryz.ofOk28 rfl (OfOk.put Tryz.ofOk27 rfl (OfOk.put Tryz.ofOk26 rfl (OfOk.put Tryz.ofOk25 rfl (OfOk.put Tryz.ofOk24 rfl (OfOk.put Tryz.ofOk23 rfl (OfOk.put Tryz.ofOk22 rfl (OfOk.put Tryz.ofOk21 rfl (OfOk.put Tryz.ofOk20 rfl (OfOk.put Tryz.ofOk19 rfl (OfOk.put Tryz.ofOk18 rfl (OfOk.put Tryz.ofOk17 rfl (OfOk.put Tryz.ofOk16 rfl (OfOk.put Tryz.ofOk15 rfl (OfOk.put Tryz.ofOk14 rfl (OfOk.put Tryz.ofOk13 rfl (OfOk.put Tryz.ofOk12 rfl (OfOk.put Tryz.ofOk11 rfl (OfOk.put Tryz.ofOk10 rfl (OfOk.put Tryz.ofOk9 rfl (OfOk.put Tryz.ofOk8 rfl (OfOk.put Tryz.ofOk7 rfl (OfOk.put Tryz.ofOk6 rfl (OfOk.put Tryz.ofOk5 rfl (OfOk.put Tryz.ofOk4 rfl (OfOk.put Tryz.ofOk3 rfl (OfOk.put Tryz.ofOk2 rfl (OfOk.put Tryz.ofOk1 rfl (OfOk.put Tryz.ofOk0 rfl (OfOk.e _ _))))))))))))))))))))))))))))))))))))))))))))))))
theorem summ1_ok : SummOk Tryz.prog Tryz.B summ1 := by
  intro f args H v H' h
  unfold summ1 at h
  rcases beqC h with ⟨rfl, h⟩ | h
  · unfold ofS at h
    split at h
    · rename_i n _
      cases hg : PT.get (AX.Id.ofNat n) Tryz.ofTab with
      | none => rw [hg] at h; cases h
      | some u =>
        rw [hg] at h
        cases h
        obtain ⟨⟨H1, h1⟩, h2⟩ := Tryz.ofOk n v hg
        exact memo_call (intVar_bare 0) (Tryz.recOk summ0_ok 100000) h1 rfl h2 H
    · cases h
  · exact summ0_ok f args H v H' h
theorem oneS_some {t : List Nat} {r : AV} {args : List AV} {H : Heap} {x : CR} (h : oneS t r args H = some x) : args = [.s t] ∧ x = .ret r H := by
  unfold oneS at h
  split at h
  · rename_i a
    cases ha : natsEq a t with
    | false => rw [ha] at h; cases h
    | true =>
      rw [ha] at h
      cases h
      exact ⟨by rw [natsEq_iff.1 ha], rfl⟩
  · cases h
theorem withS_ok {g : Nat} {t : List Nat} {r : AV} {summ : Nat → List AV → Heap → Option CR} (hs : SummOk Tryz.prog Tryz.B summ) (h1 : ∀ H, CallOk Tryz.prog Tryz.B g [.s t] H r H) : SummOk Tryz.prog Tryz.B (withS g t r summ) := by
  intro f args H v H' h
  unfold withS at h
  cases hg : (Bool.rec (motive := fun _ => Option CR) none (oneS t r args H) (Nat.beq f g) : Option CR) with
  | none => rw [hg] at h; exact hs f args H v H' h
  | some x =>
    rw [hg] at h
    cases h
    rcases beqC hg with ⟨rfl, h⟩ | h
    · obtain ⟨rfl, he⟩ := oneS_some h
      cases he
      exact h1 H
    · cases h
theorem hushOk {g : Nat} {t : List Nat} {r : AV} {summ : Nat → List AV → Heap → Option CR} (hs : SummOk Tryz.prog Tryz.B summ) (h : hushV (callC Tryz.ctab Tryz.dtab summ 100000 g [.s t] empty) = some r) (H : Heap) : CallOk Tryz.prog Tryz.B g [.s t] H r H := by
  cases hc : callC Tryz.ctab Tryz.dtab summ 100000 g [.s t] empty with
  | fail => rw [hc] at h; cases h
  | ret v H1 =>
    rw [hc] at h
    cases h
    exact memo_hush (intVar_bare 0) (Tryz.recOk hs 100000) hc rfl H
theorem shutOk {g : Nat} {args : List AV} {r : AV} {summ : Nat → List AV → Heap → Option CR} (hs : SummOk Tryz.prog Tryz.B summ) (h : retV (callC Tryz.ctab Tryz.dtab summ 100000 g args empty) = some r) (ha : AV.shutL args = true) (hr : r.shut = true) (H : Heap) : CallOk Tryz.prog Tryz.B g args H r H := by
  obtain ⟨H1, h1⟩ := retV_some h
  exact memo_call (intVar_bare 0) (Tryz.recOk hs 100000) h1 ha hr H
end Go.Proofs
end
