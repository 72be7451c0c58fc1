import PyProof.Rows.All
import Wide.All
import OpenK.AllK
import Wide.FinOn
import Open.Tops
import PySem.Challenge.RW_sz0087_01
open PySem PySem.W PyProof.Rows PySem.Spec PySem.Calls
set_option Elab.async false
set_option maxRecDepth 100000
set_option maxHeartbeats 8000000
set_option linter.all false
noncomputable section
namespace Mine
open_shared Top for PySem.Challenge.pw_sz0087_01 leaving 0

noncomputable def heapA (P : Params) : Heap := { objs := ⟨[boot_o_0 P, boot_o_1 P, boot_o_2 P, boot_o_3 P, boot_o_4 P, boot_o_5 P, boot_o_6 P, boot_o_7 P, boot_o_8 P, boot_o_9 P, boot_o_10 P, Fast.tw5600237991976837235 P, Top.o_2 P, Fast.tw5321973518758476515 P, Fast.tw10947264853805563774 P]⟩ }
noncomputable def heapT (P : Params) : Heap := { objs := ⟨[boot_o_0 P, boot_o_1 P, boot_o_2 P, Fast.tw2268850146698207445 P, boot_o_4 P, boot_o_5 P, boot_o_6 P, boot_o_7 P, boot_o_8 P, boot_o_9 P, boot_o_10 P, Fast.tw5600237991976837235 P, Top.o_291 P, Fast.tw5321973518758476515 P, Fast.tw10947264853805563774 P, Fast.tw2361819359287465948 P, Top.o_8 P, Fast.tw3487527488126536167 P, Fast.tw15636140214342405207 P, Fast.tw5649240822983527777 P, Fast.tw2146255467479972639 P, Fast.tw10801145157628588811 P, Fast.tw18027542502912110626 P, Fast.tw7675585480771684106 P, Fast.tw2036246501699763626 P, Fast.tw8099836328769844025 P, Top.o_18 P, Fast.tw1619597340794525954 P, Fast.tw16841758631844762380 P, Fast.tw10060598890347652048 P, Top.o_22 P, Fast.tw16541255781557286358 P, Fast.tw9439636288542399633 P, Fast.tw5315944936099549410 P, Fast.tw3048169292004259602 P, Fast.tw6362153672537462429 P, Fast.tw16220331958064723663 P, Fast.tw16066673628826553963 P, Fast.tw13203422371574632398 P, Fast.tw386708896085104510 P, Fast.tw14986798207980786515 P, Fast.tw10605367348105150711 P, Fast.tw18031346519612839861 P, Fast.tw7857814438586599386 P, Fast.tw1436111106639521618 P, Fast.tw11551673361705179702 P, Fast.tw12692187859141800575 P, Top.o_43 P, Fast.tw9726335912864770071 P, Fast.tw9728994126827271484 P, Fast.tw8261582308559914435 P, Top.o_47 P, Fast.tw786838725896787505 P, Fast.tw11039970542243726495 P, Fast.tw4506756495795589941 P, Fast.tw17910653226566925259 P, Fast.tw6311614750231165534 P, Fast.tw5144802006913355759 P, Fast.tw939193505182825632 P, Fast.tw166135568577888811 P, Fast.tw8548622912210592060 P, Fast.tw9868576026013202886 P, Fast.tw13883047715444771169 P, Fast.tw12455545578087379337 P, Fast.tw69205999762742944 P, Fast.tw7231487334239125362 P, Top.o_66 P, Fast.tw2116215393547123215 P, Fast.tw85780179267998829 P, Fast.tw1815906137588679517 P, Top.o_70 P, Fast.tw13384750859307914542 P, Fast.tw14101481449234520908 P, Fast.tw9861501477367213825 P, Fast.tw9061664535619914918 P, Fast.tw11374164272919883040 P, Fast.tw2293793467494330250 P, Fast.tw6507651076083297429 P, Fast.tw11720813645195433795 P, Fast.tw13613458802531555360 P, Fast.tw3789970710982652759 P, Fast.tw17259568938915953802 P, Fast.tw9911883074522910639 P, Fast.tw2231289338031493478 P, Fast.tw6992821488233446894 P, Top.o_89 P, Fast.tw11927734677526231447 P, Fast.tw18046699894549966935 P, Fast.tw12226305605772050661 P, Top.o_93 P, Fast.tw5406920808919891798 P, Fast.tw7491092808869821280 P, Fast.tw3541492361639529986 P, Fast.tw1121176080716342854 P, Fast.tw5947231747056908943 P, Fast.tw3085740217074755987 P, Fast.tw12921890835999786618 P, Fast.tw2031061933577359277 P, Fast.tw9795283486534439159 P, Fast.tw9309250632188867080 P, Fast.tw13407146716880636686 P, Fast.tw4109698510465400668 P, Fast.tw12061110552475893895 P, Fast.tw7048121587280261925 P, Top.o_112 P, Fast.tw13136176495322988399 P, Fast.tw5921723608905696127 P, Fast.tw10651149618876767571 P, Top.o_116 P, Fast.tw3077588294079900557 P, Fast.tw7455099483390366763 P, Fast.tw10885379472715839286 P, Fast.tw12626575968918448727 P, Fast.tw427685101332886926 P, Fast.tw4588522113780776486 P, Fast.tw15008259669981619664 P, Fast.tw3587226274981423750 P, Fast.tw6572050844085373179 P, Fast.tw3519677461125638688 P, Fast.tw18172607637203258572 P, Fast.tw577779072480451443 P, Fast.tw2611483247599940589 P, Fast.tw11920076731008858966 P, Top.o_135 P, Fast.tw13797944794232927054 P, Fast.tw4774818926038256901 P, Fast.tw293118236238510033 P, Top.o_139 P, Fast.tw9998267396046912118 P, Fast.tw2212648380317803188 P, Fast.tw9079757665460947307 P, Fast.tw12389072422343931732 P, Fast.tw15457184403303999612 P, Fast.tw10783085734754921811 P, Fast.tw11552491092867478987 P, Fast.tw2698878994290931707 P, Fast.tw14602410733226098375 P, Fast.tw4348997601908860507 P, Fast.tw9964893782196507670 P, Fast.tw7627501052428905729 P, Fast.tw6214972956709201605 P, Fast.tw3667511340872664806 P, Top.o_157 P, Fast.tw1012099657552011125 P, Fast.tw2175168290886794790 P, Fast.tw15875808495355747659 P, Fast.tw13537031670620880215 P, Top.o_162 P, Fast.tw10736613159899210293 P, Fast.tw2483575949033575106 P, Fast.tw15097128480044750505 P, Fast.tw5975848172294216318 P, Fast.tw4939395112922022168 P, Fast.tw8691448899716353842 P, Fast.tw12137207255512369628 P, Fast.tw9815751055890854737 P, Fast.tw8592258157683936816 P, Fast.tw13429796751752190445 P, Fast.tw1112916771625618440 P, Fast.tw6211730447644483828 P, Fast.tw17870803976939447808 P, Top.o_176 P, Fast.tw13596300713473008467 P, Fast.tw1848071668085922024 P, Fast.tw1626875296392123450 P, Fast.tw8441884796359685009 P, Fast.tw9539345836323272877 P, Fast.tw9566592391822751921 P, Top.o_183 P, Fast.tw2455731838653509466 P, Fast.tw8221187996230448167 P, Fast.tw13280511442126893017 P, Fast.tw18275297542449115034 P, Fast.tw7628599086494628215 P, Fast.tw6931192734170090384 P, Top.o_190 P, Fast.tw7418951131193866245 P, Fast.tw5108334872641703045 P, Fast.tw12316355722742358552 P, Fast.tw14769237718753980963 P, Fast.tw6358771277172219796 P, Fast.tw8873959761504534544 P, Top.o_197 P, Fast.tw4895419145950329864 P, Fast.tw11459732062025508235 P, Fast.tw8893282897596446842 P, Fast.tw6384903954519823750 P, Fast.tw17224213105853905786 P, Fast.tw9991240209661698596 P, Top.o_204 P, Fast.tw6767658850361247589 P, Fast.tw963715881385290797 P, Fast.tw8236670593752390693 P, Fast.tw1282944223499584504 P, Fast.tw5234559504091551647 P, Fast.tw18032392400759930380 P, Top.o_214 P, Fast.tw891838802253167217 P, Fast.tw10955047141131444953 P, Fast.tw3016718252599612248 P, Fast.tw9602888995948179838 P, Fast.tw2670036191289169712 P, Fast.tw6242502911344791580 P, Top.o_221 P, Fast.tw342253651775602038 P, Fast.tw7717781263699378505 P, Fast.tw14261369894988546319 P, Fast.tw15503217523172551545 P, Fast.tw17141506525655169946 P, Fast.tw18415666430754017012 P, Top.o_228 P, Fast.tw4568915520752273203 P, Fast.tw15776386049217046867 P, Fast.tw17757207884692054373 P, Fast.tw13928002132734524063 P, Top.o_233 P, Fast.tw13870650150244451341 P, Fast.tw4147329264846906452 P, Fast.tw7989403674160865349 P, Fast.tw11971759844166272138 P, Fast.tw16412333479976990638 P, Fast.tw6753867713231240782 P, Top.o_240 P, Fast.tw9617628504219434919 P, Fast.tw2825781023217904284 P, Fast.tw9602826053841106988 P, Fast.tw9062261149039168591 P, Fast.tw14505458082105597063 P, Fast.tw9772643031173888695 P, Top.o_247 P, Fast.tw13158130268258348334 P, Fast.tw4890682800385976553 P, Fast.tw9407076239511822845 P, Fast.tw16220238232176122791 P, Fast.tw1207575970498558365 P, Fast.tw10181039741977216133 P, Top.o_254 P, Fast.tw1485154099878532494 P, Fast.tw7838223455726094080 P, Fast.tw2254254571446086202 P, Fast.tw15872126062235963438 P, Fast.tw13351150235136230881 P, Fast.tw4903678640902218501 P, Top.o_261 P, Fast.tw15874271191817110205 P, Fast.tw17588598653804178041 P, Fast.tw16653370894853409801 P, Fast.tw6176527537155967918 P, Fast.tw14171469601506666669 P, Fast.tw16098570980683064956 P, Fast.tw13753442337628166857 P, Top.o_269 P, Fast.tw4870360239846766159 P, Fast.tw11501286580044378787 P, Fast.tw8733676591302881881 P, Fast.tw2711695397888560055 P, Fast.tw3690691737563776924 P, Fast.tw14295969770554427383 P, Top.o_276 P, Fast.tw2134293427566069902 P, Fast.tw5595531849134349860 P, Fast.tw1479470957842758784 P, Fast.tw2116845707049223319 P, Fast.tw14685825544607256563 P, Fast.tw9159526824736297242 P, Top.o_283 P, Fast.tw15152613561839342047 P, Fast.tw11198528450318011776 P, Fast.tw15248481947566614188 P, Fast.tw15060536524783537882 P, Fast.tw1330373367121460591 P, Fast.tw9685588512529866120 P, Top.o_293 P, Fast.tw17652838827231994958 P, Fast.tw14870754346647462788 P, Fast.tw484440040963458536 P, Fast.tw4726541725876852625 P, Top.o_298 P, Fast.tw17917850645863707903 P, Fast.tw15438413121152184297 P, Fast.tw8552626527649574356 P, Fast.tw8321852017687024403 P, Top.o_303 P, Fast.tw1748317285554549197 P, Fast.tw17754493120358660149 P, Fast.tw2890290376562901147 P]⟩ }
noncomputable def K : Params → Frag := fun P => (nat_lit 2, boot_o_2 P) :: (nat_lit 3, Top.o_290 P) :: (nat_lit 15, Top.o_7 P) :: (nat_lit 17, Top.o_9 P) :: (nat_lit 18, Top.o_10 P) :: (nat_lit 20, Top.o_12 P) :: (nat_lit 21, Top.o_13 P) :: (nat_lit 29, Top.o_21 P) :: (nat_lit 31, Top.o_23 P) :: (nat_lit 32, Top.o_24 P) :: (nat_lit 34, Top.o_26 P) :: (nat_lit 35, Top.o_27 P) :: (nat_lit 36, Top.o_28 P) :: (nat_lit 37, Top.o_29 P) :: (nat_lit 38, Top.o_130 P) :: (nat_lit 39, Top.o_31 P) :: (nat_lit 40, Top.o_32 P) :: (nat_lit 43, Top.o_39 P) :: (nat_lit 50, Top.o_46 P) :: (nat_lit 52, Top.o_48 P) :: (nat_lit 53, Top.o_49 P) :: (nat_lit 55, Top.o_51 P) :: (nat_lit 56, Top.o_52 P) :: (nat_lit 57, Top.o_53 P) :: (nat_lit 58, Top.o_54 P) :: (nat_lit 59, Top.o_55 P) :: (nat_lit 62, Top.o_62 P) :: (nat_lit 69, Top.o_69 P) :: (nat_lit 71, Top.o_71 P) :: (nat_lit 72, Top.o_72 P) :: (nat_lit 74, Top.o_74 P) :: (nat_lit 75, Top.o_75 P) :: (nat_lit 76, Top.o_76 P) :: (nat_lit 77, Top.o_77 P) :: (nat_lit 78, Top.o_78 P) :: (nat_lit 81, Top.o_85 P) :: (nat_lit 88, Top.o_92 P) :: (nat_lit 90, Top.o_94 P) :: (nat_lit 91, Top.o_95 P) :: (nat_lit 93, Top.o_97 P) :: (nat_lit 94, Top.o_98 P) :: (nat_lit 95, Top.o_99 P) :: (nat_lit 96, Top.o_100 P) :: (nat_lit 97, Top.o_101 P) :: (nat_lit 100, Top.o_108 P) :: (nat_lit 107, Top.o_115 P) :: (nat_lit 109, Top.o_117 P) :: (nat_lit 110, Top.o_118 P) :: (nat_lit 112, Top.o_120 P) :: (nat_lit 113, Top.o_121 P) :: (nat_lit 114, Top.o_122 P) :: (nat_lit 115, Top.o_123 P) :: (nat_lit 116, Top.o_124 P) :: (nat_lit 119, Top.o_131 P) :: (nat_lit 126, Top.o_138 P) :: (nat_lit 128, Top.o_140 P) :: (nat_lit 129, Top.o_141 P) :: (nat_lit 131, Top.o_143 P) :: (nat_lit 132, Top.o_144 P) :: (nat_lit 133, Top.o_145 P) :: (nat_lit 134, Top.o_146 P) :: (nat_lit 135, Top.o_147 P) :: (nat_lit 145, Top.o_160 P) :: (nat_lit 146, Top.o_161 P) :: (nat_lit 148, Top.o_163 P) :: (nat_lit 149, Top.o_164 P) :: (nat_lit 151, Top.o_166 P) :: (nat_lit 152, Top.o_167 P) :: (nat_lit 153, Top.o_168 P) :: (nat_lit 154, Top.o_169 P) :: (nat_lit 155, Top.o_170 P) :: (nat_lit 156, Top.o_171 P) :: (nat_lit 157, Top.o_172 P) :: (nat_lit 160, Top.o_175 P) :: (nat_lit 162, Top.o_177 P) :: (nat_lit 163, Top.o_178 P) :: (nat_lit 165, Top.o_180 P) :: (nat_lit 166, Top.o_181 P) :: (nat_lit 167, Top.o_182 P) :: (nat_lit 169, Top.o_184 P) :: (nat_lit 170, Top.o_185 P) :: (nat_lit 172, Top.o_187 P) :: (nat_lit 173, Top.o_188 P) :: (nat_lit 174, Top.o_189 P) :: (nat_lit 176, Top.o_191 P) :: (nat_lit 177, Top.o_192 P) :: (nat_lit 179, Top.o_194 P) :: (nat_lit 180, Top.o_195 P) :: (nat_lit 181, Top.o_196 P) :: (nat_lit 183, Top.o_198 P) :: (nat_lit 184, Top.o_199 P) :: (nat_lit 186, Top.o_201 P) :: (nat_lit 187, Top.o_202 P) :: (nat_lit 188, Top.o_203 P) :: (nat_lit 190, Top.o_205 P) :: (nat_lit 191, Top.o_206 P) :: (nat_lit 193, Top.o_208 P) :: (nat_lit 194, Top.o_209 P) :: (nat_lit 195, Top.o_213 P) :: (nat_lit 197, Top.o_215 P) :: (nat_lit 198, Top.o_216 P) :: (nat_lit 200, Top.o_218 P) :: (nat_lit 201, Top.o_219 P) :: (nat_lit 202, Top.o_220 P) :: (nat_lit 204, Top.o_222 P) :: (nat_lit 205, Top.o_223 P) :: (nat_lit 207, Top.o_225 P) :: (nat_lit 208, Top.o_226 P) :: (nat_lit 209, Top.o_227 P) :: (nat_lit 212, Top.o_230 P) :: (nat_lit 213, Top.o_231 P) :: (nat_lit 214, Top.o_232 P) :: (nat_lit 216, Top.o_234 P) :: (nat_lit 217, Top.o_235 P) :: (nat_lit 219, Top.o_237 P) :: (nat_lit 220, Top.o_238 P) :: (nat_lit 221, Top.o_239 P) :: (nat_lit 223, Top.o_241 P) :: (nat_lit 224, Top.o_242 P) :: (nat_lit 226, Top.o_244 P) :: (nat_lit 227, Top.o_245 P) :: (nat_lit 228, Top.o_246 P) :: (nat_lit 230, Top.o_248 P) :: (nat_lit 231, Top.o_249 P) :: (nat_lit 233, Top.o_251 P) :: (nat_lit 234, Top.o_252 P) :: (nat_lit 235, Top.o_253 P) :: (nat_lit 237, Top.o_255 P) :: (nat_lit 238, Top.o_256 P) :: (nat_lit 240, Top.o_258 P) :: (nat_lit 241, Top.o_259 P) :: (nat_lit 242, Top.o_260 P) :: (nat_lit 244, Top.o_262 P) :: (nat_lit 245, Top.o_263 P) :: (nat_lit 247, Top.o_265 P) :: (nat_lit 248, Top.o_266 P) :: (nat_lit 249, Top.o_267 P) :: (nat_lit 250, Top.o_268 P) :: (nat_lit 252, Top.o_270 P) :: (nat_lit 253, Top.o_271 P) :: (nat_lit 255, Top.o_273 P) :: (nat_lit 256, Top.o_274 P) :: (nat_lit 257, Top.o_275 P) :: (nat_lit 259, Top.o_277 P) :: (nat_lit 260, Top.o_278 P) :: (nat_lit 262, Top.o_280 P) :: (nat_lit 263, Top.o_281 P) :: (nat_lit 264, Top.o_282 P) :: (nat_lit 266, Top.o_284 P) :: (nat_lit 267, Top.o_285 P) :: (nat_lit 269, Top.o_287 P) :: (nat_lit 270, Top.o_288 P) :: (nat_lit 271, Top.o_292 P) :: (nat_lit 274, Top.o_295 P) :: (nat_lit 275, Top.o_296 P) :: (nat_lit 276, Top.o_297 P) :: (nat_lit 279, Top.o_300 P) :: (nat_lit 280, Top.o_301 P) :: (nat_lit 281, Top.o_302 P) :: (nat_lit 284, Top.o_305 P) :: (nat_lit 285, Top.o_306 P) :: []
noncomputable def KT (P : Params) : Frag := (nat_lit 2, boot_o_2 P) :: (nat_lit 3, Fast.tw2268850146698207445 P) :: (nat_lit 15, Fast.tw2361819359287465948 P) :: (nat_lit 17, Fast.tw3487527488126536167 P) :: (nat_lit 18, Fast.tw15636140214342405207 P) :: (nat_lit 20, Fast.tw2146255467479972639 P) :: (nat_lit 21, Fast.tw10801145157628588811 P) :: (nat_lit 29, Fast.tw10060598890347652048 P) :: (nat_lit 31, Fast.tw16541255781557286358 P) :: (nat_lit 32, Fast.tw9439636288542399633 P) :: (nat_lit 34, Fast.tw3048169292004259602 P) :: (nat_lit 35, Fast.tw6362153672537462429 P) :: (nat_lit 36, Fast.tw16220331958064723663 P) :: (nat_lit 37, Fast.tw16066673628826553963 P) :: (nat_lit 38, Fast.tw13203422371574632398 P) :: (nat_lit 39, Fast.tw386708896085104510 P) :: (nat_lit 40, Fast.tw14986798207980786515 P) :: (nat_lit 43, Fast.tw7857814438586599386 P) :: (nat_lit 50, Fast.tw8261582308559914435 P) :: (nat_lit 52, Fast.tw786838725896787505 P) :: (nat_lit 53, Fast.tw11039970542243726495 P) :: (nat_lit 55, Fast.tw17910653226566925259 P) :: (nat_lit 56, Fast.tw6311614750231165534 P) :: (nat_lit 57, Fast.tw5144802006913355759 P) :: (nat_lit 58, Fast.tw939193505182825632 P) :: (nat_lit 59, Fast.tw166135568577888811 P) :: (nat_lit 62, Fast.tw13883047715444771169 P) :: (nat_lit 69, Fast.tw1815906137588679517 P) :: (nat_lit 71, Fast.tw13384750859307914542 P) :: (nat_lit 72, Fast.tw14101481449234520908 P) :: (nat_lit 74, Fast.tw9061664535619914918 P) :: (nat_lit 75, Fast.tw11374164272919883040 P) :: (nat_lit 76, Fast.tw2293793467494330250 P) :: (nat_lit 77, Fast.tw6507651076083297429 P) :: (nat_lit 78, Fast.tw11720813645195433795 P) :: (nat_lit 81, Fast.tw17259568938915953802 P) :: (nat_lit 88, Fast.tw12226305605772050661 P) :: (nat_lit 90, Fast.tw5406920808919891798 P) :: (nat_lit 91, Fast.tw7491092808869821280 P) :: (nat_lit 93, Fast.tw1121176080716342854 P) :: (nat_lit 94, Fast.tw5947231747056908943 P) :: (nat_lit 95, Fast.tw3085740217074755987 P) :: (nat_lit 96, Fast.tw12921890835999786618 P) :: (nat_lit 97, Fast.tw2031061933577359277 P) :: (nat_lit 100, Fast.tw13407146716880636686 P) :: (nat_lit 107, Fast.tw10651149618876767571 P) :: (nat_lit 109, Fast.tw3077588294079900557 P) :: (nat_lit 110, Fast.tw7455099483390366763 P) :: (nat_lit 112, Fast.tw12626575968918448727 P) :: (nat_lit 113, Fast.tw427685101332886926 P) :: (nat_lit 114, Fast.tw4588522113780776486 P) :: (nat_lit 115, Fast.tw15008259669981619664 P) :: (nat_lit 116, Fast.tw3587226274981423750 P) :: (nat_lit 119, Fast.tw18172607637203258572 P) :: (nat_lit 126, Fast.tw293118236238510033 P) :: (nat_lit 128, Fast.tw9998267396046912118 P) :: (nat_lit 129, Fast.tw2212648380317803188 P) :: (nat_lit 131, Fast.tw12389072422343931732 P) :: (nat_lit 132, Fast.tw15457184403303999612 P) :: (nat_lit 133, Fast.tw10783085734754921811 P) :: (nat_lit 134, Fast.tw11552491092867478987 P) :: (nat_lit 135, Fast.tw2698878994290931707 P) :: (nat_lit 145, Fast.tw15875808495355747659 P) :: (nat_lit 146, Fast.tw13537031670620880215 P) :: (nat_lit 148, Fast.tw10736613159899210293 P) :: (nat_lit 149, Fast.tw2483575949033575106 P) :: (nat_lit 151, Fast.tw5975848172294216318 P) :: (nat_lit 152, Fast.tw4939395112922022168 P) :: (nat_lit 153, Fast.tw8691448899716353842 P) :: (nat_lit 154, Fast.tw12137207255512369628 P) :: (nat_lit 155, Fast.tw9815751055890854737 P) :: (nat_lit 156, Fast.tw8592258157683936816 P) :: (nat_lit 157, Fast.tw13429796751752190445 P) :: (nat_lit 160, Fast.tw17870803976939447808 P) :: (nat_lit 162, Fast.tw13596300713473008467 P) :: (nat_lit 163, Fast.tw1848071668085922024 P) :: (nat_lit 165, Fast.tw8441884796359685009 P) :: (nat_lit 166, Fast.tw9539345836323272877 P) :: (nat_lit 167, Fast.tw9566592391822751921 P) :: (nat_lit 169, Fast.tw2455731838653509466 P) :: (nat_lit 170, Fast.tw8221187996230448167 P) :: (nat_lit 172, Fast.tw18275297542449115034 P) :: (nat_lit 173, Fast.tw7628599086494628215 P) :: (nat_lit 174, Fast.tw6931192734170090384 P) :: (nat_lit 176, Fast.tw7418951131193866245 P) :: (nat_lit 177, Fast.tw5108334872641703045 P) :: (nat_lit 179, Fast.tw14769237718753980963 P) :: (nat_lit 180, Fast.tw6358771277172219796 P) :: (nat_lit 181, Fast.tw8873959761504534544 P) :: (nat_lit 183, Fast.tw4895419145950329864 P) :: (nat_lit 184, Fast.tw11459732062025508235 P) :: (nat_lit 186, Fast.tw6384903954519823750 P) :: (nat_lit 187, Fast.tw17224213105853905786 P) :: (nat_lit 188, Fast.tw9991240209661698596 P) :: (nat_lit 190, Fast.tw6767658850361247589 P) :: (nat_lit 191, Fast.tw963715881385290797 P) :: (nat_lit 193, Fast.tw1282944223499584504 P) :: (nat_lit 194, Fast.tw5234559504091551647 P) :: (nat_lit 195, Fast.tw18032392400759930380 P) :: (nat_lit 197, Fast.tw891838802253167217 P) :: (nat_lit 198, Fast.tw10955047141131444953 P) :: (nat_lit 200, Fast.tw9602888995948179838 P) :: (nat_lit 201, Fast.tw2670036191289169712 P) :: (nat_lit 202, Fast.tw6242502911344791580 P) :: (nat_lit 204, Fast.tw342253651775602038 P) :: (nat_lit 205, Fast.tw7717781263699378505 P) :: (nat_lit 207, Fast.tw15503217523172551545 P) :: (nat_lit 208, Fast.tw17141506525655169946 P) :: (nat_lit 209, Fast.tw18415666430754017012 P) :: (nat_lit 212, Fast.tw15776386049217046867 P) :: (nat_lit 213, Fast.tw17757207884692054373 P) :: (nat_lit 214, Fast.tw13928002132734524063 P) :: (nat_lit 216, Fast.tw13870650150244451341 P) :: (nat_lit 217, Fast.tw4147329264846906452 P) :: (nat_lit 219, Fast.tw11971759844166272138 P) :: (nat_lit 220, Fast.tw16412333479976990638 P) :: (nat_lit 221, Fast.tw6753867713231240782 P) :: (nat_lit 223, Fast.tw9617628504219434919 P) :: (nat_lit 224, Fast.tw2825781023217904284 P) :: (nat_lit 226, Fast.tw9062261149039168591 P) :: (nat_lit 227, Fast.tw14505458082105597063 P) :: (nat_lit 228, Fast.tw9772643031173888695 P) :: (nat_lit 230, Fast.tw13158130268258348334 P) :: (nat_lit 231, Fast.tw4890682800385976553 P) :: (nat_lit 233, Fast.tw16220238232176122791 P) :: (nat_lit 234, Fast.tw1207575970498558365 P) :: (nat_lit 235, Fast.tw10181039741977216133 P) :: (nat_lit 237, Fast.tw1485154099878532494 P) :: (nat_lit 238, Fast.tw7838223455726094080 P) :: (nat_lit 240, Fast.tw15872126062235963438 P) :: (nat_lit 241, Fast.tw13351150235136230881 P) :: (nat_lit 242, Fast.tw4903678640902218501 P) :: (nat_lit 244, Fast.tw15874271191817110205 P) :: (nat_lit 245, Fast.tw17588598653804178041 P) :: (nat_lit 247, Fast.tw6176527537155967918 P) :: (nat_lit 248, Fast.tw14171469601506666669 P) :: (nat_lit 249, Fast.tw16098570980683064956 P) :: (nat_lit 250, Fast.tw13753442337628166857 P) :: (nat_lit 252, Fast.tw4870360239846766159 P) :: (nat_lit 253, Fast.tw11501286580044378787 P) :: (nat_lit 255, Fast.tw2711695397888560055 P) :: (nat_lit 256, Fast.tw3690691737563776924 P) :: (nat_lit 257, Fast.tw14295969770554427383 P) :: (nat_lit 259, Fast.tw2134293427566069902 P) :: (nat_lit 260, Fast.tw5595531849134349860 P) :: (nat_lit 262, Fast.tw2116845707049223319 P) :: (nat_lit 263, Fast.tw14685825544607256563 P) :: (nat_lit 264, Fast.tw9159526824736297242 P) :: (nat_lit 266, Fast.tw15152613561839342047 P) :: (nat_lit 267, Fast.tw11198528450318011776 P) :: (nat_lit 269, Fast.tw15060536524783537882 P) :: (nat_lit 270, Fast.tw1330373367121460591 P) :: (nat_lit 271, Fast.tw9685588512529866120 P) :: (nat_lit 274, Fast.tw14870754346647462788 P) :: (nat_lit 275, Fast.tw484440040963458536 P) :: (nat_lit 276, Fast.tw4726541725876852625 P) :: (nat_lit 279, Fast.tw15438413121152184297 P) :: (nat_lit 280, Fast.tw8552626527649574356 P) :: (nat_lit 281, Fast.tw8321852017687024403 P) :: (nat_lit 284, Fast.tw17754493120358660149 P) :: (nat_lit 285, Fast.tw2890290376562901147 P) :: []
theorem kcons {a : Nat} {o o' : Params → Obj} {l l' : Frag} {P : Params} (h : o = o') (t : l = l') : ((a, o P) :: l : Frag) = (a, o' P) :: l' := by rw [h, t]
theorem K_eq (P : Params) : K P = KT P := kcons rfl (kcons Fast.te2268850146698207445 (kcons Fast.te2361819359287465948 (kcons Fast.te3487527488126536167 (kcons Fast.te15636140214342405207 (kcons Fast.te2146255467479972639 (kcons Fast.te10801145157628588811 (kcons Fast.te10060598890347652048 (kcons Fast.te16541255781557286358 (kcons Fast.te9439636288542399633 (kcons Fast.te3048169292004259602 (kcons Fast.te6362153672537462429 (kcons Fast.te16220331958064723663 (kcons Fast.te16066673628826553963 (kcons Fast.te13203422371574632398 (kcons Fast.te386708896085104510 (kcons Fast.te14986798207980786515 (kcons Fast.te7857814438586599386 (kcons Fast.te8261582308559914435 (kcons Fast.te786838725896787505 (kcons Fast.te11039970542243726495 (kcons Fast.te17910653226566925259 (kcons Fast.te6311614750231165534 (kcons Fast.te5144802006913355759 (kcons Fast.te939193505182825632 (kcons Fast.te166135568577888811 (kcons Fast.te13883047715444771169 (kcons Fast.te1815906137588679517 (kcons Fast.te13384750859307914542 (kcons Fast.te14101481449234520908 (kcons Fast.te9061664535619914918 (kcons Fast.te11374164272919883040 (kcons Fast.te2293793467494330250 (kcons Fast.te6507651076083297429 (kcons Fast.te11720813645195433795 (kcons Fast.te17259568938915953802 (kcons Fast.te12226305605772050661 (kcons Fast.te5406920808919891798 (kcons Fast.te7491092808869821280 (kcons Fast.te1121176080716342854 (kcons Fast.te5947231747056908943 (kcons Fast.te3085740217074755987 (kcons Fast.te12921890835999786618 (kcons Fast.te2031061933577359277 (kcons Fast.te13407146716880636686 (kcons Fast.te10651149618876767571 (kcons Fast.te3077588294079900557 (kcons Fast.te7455099483390366763 (kcons Fast.te12626575968918448727 (kcons Fast.te427685101332886926 (kcons Fast.te4588522113780776486 (kcons Fast.te15008259669981619664 (kcons Fast.te3587226274981423750 (kcons Fast.te18172607637203258572 (kcons Fast.te293118236238510033 (kcons Fast.te9998267396046912118 (kcons Fast.te2212648380317803188 (kcons Fast.te12389072422343931732 (kcons Fast.te15457184403303999612 (kcons Fast.te10783085734754921811 (kcons Fast.te11552491092867478987 (kcons Fast.te2698878994290931707 (kcons Fast.te15875808495355747659 (kcons Fast.te13537031670620880215 (kcons Fast.te10736613159899210293 (kcons Fast.te2483575949033575106 (kcons Fast.te5975848172294216318 (kcons Fast.te4939395112922022168 (kcons Fast.te8691448899716353842 (kcons Fast.te12137207255512369628 (kcons Fast.te9815751055890854737 (kcons Fast.te8592258157683936816 (kcons Fast.te13429796751752190445 (kcons Fast.te17870803976939447808 (kcons Fast.te13596300713473008467 (kcons Fast.te1848071668085922024 (kcons Fast.te8441884796359685009 (kcons Fast.te9539345836323272877 (kcons Fast.te9566592391822751921 (kcons Fast.te2455731838653509466 (kcons Fast.te8221187996230448167 (kcons Fast.te18275297542449115034 (kcons Fast.te7628599086494628215 (kcons Fast.te6931192734170090384 (kcons Fast.te7418951131193866245 (kcons Fast.te5108334872641703045 (kcons Fast.te14769237718753980963 (kcons Fast.te6358771277172219796 (kcons Fast.te8873959761504534544 (kcons Fast.te4895419145950329864 (kcons Fast.te11459732062025508235 (kcons Fast.te6384903954519823750 (kcons Fast.te17224213105853905786 (kcons Fast.te9991240209661698596 (kcons Fast.te6767658850361247589 (kcons Fast.te963715881385290797 (kcons Fast.te1282944223499584504 (kcons Fast.te5234559504091551647 (kcons Fast.te18032392400759930380 (kcons Fast.te891838802253167217 (kcons Fast.te10955047141131444953 (kcons Fast.te9602888995948179838 (kcons Fast.te2670036191289169712 (kcons Fast.te6242502911344791580 (kcons Fast.te342253651775602038 (kcons Fast.te7717781263699378505 (kcons Fast.te15503217523172551545 (kcons Fast.te17141506525655169946 (kcons Fast.te18415666430754017012 (kcons Fast.te15776386049217046867 (kcons Fast.te17757207884692054373 (kcons Fast.te13928002132734524063 (kcons Fast.te13870650150244451341 (kcons Fast.te4147329264846906452 (kcons Fast.te11971759844166272138 (kcons Fast.te16412333479976990638 (kcons Fast.te6753867713231240782 (kcons Fast.te9617628504219434919 (kcons Fast.te2825781023217904284 (kcons Fast.te9062261149039168591 (kcons Fast.te14505458082105597063 (kcons Fast.te9772643031173888695 (kcons Fast.te13158130268258348334 (kcons Fast.te4890682800385976553 (kcons Fast.te16220238232176122791 (kcons Fast.te1207575970498558365 (kcons Fast.te10181039741977216133 (kcons Fast.te1485154099878532494 (kcons Fast.te7838223455726094080 (kcons Fast.te15872126062235963438 (kcons Fast.te13351150235136230881 (kcons Fast.te4903678640902218501 (kcons Fast.te15874271191817110205 (kcons Fast.te17588598653804178041 (kcons Fast.te6176527537155967918 (kcons Fast.te14171469601506666669 (kcons Fast.te16098570980683064956 (kcons Fast.te13753442337628166857 (kcons Fast.te4870360239846766159 (kcons Fast.te11501286580044378787 (kcons Fast.te2711695397888560055 (kcons Fast.te3690691737563776924 (kcons Fast.te14295969770554427383 (kcons Fast.te2134293427566069902 (kcons Fast.te5595531849134349860 (kcons Fast.te2116845707049223319 (kcons Fast.te14685825544607256563 (kcons Fast.te9159526824736297242 (kcons Fast.te15152613561839342047 (kcons Fast.te11198528450318011776 (kcons Fast.te15060536524783537882 (kcons Fast.te1330373367121460591 (kcons Fast.te9685588512529866120 (kcons Fast.te14870754346647462788 (kcons Fast.te484440040963458536 (kcons Fast.te4726541725876852625 (kcons Fast.te15438413121152184297 (kcons Fast.te8552626527649574356 (kcons Fast.te8321852017687024403 (kcons Fast.te17754493120358660149 (kcons Fast.te2890290376562901147 (rfl)))))))))))))))))))))))))))))))))))))))))))))))))))))))))))))))))))))))))))))))))))))))))))))))))))))))))))))))))))))))))))))))))))))))))))))))))))))))))))))))))
noncomputable abbrev as : List Addr := [2, 3, 15, 17, 18, 20, 21, 29, 31, 32, 34, 35, 36, 37, 38, 39, 40, 43, 50, 52, 53, 55, 56, 57, 58, 59, 62, 69, 71, 72, 74, 75, 76, 77, 78, 81, 88, 90, 91, 93, 94, 95, 96, 97, 100, 107, 109, 110, 112, 113, 114, 115, 116, 119, 126, 128, 129, 131, 132, 133, 134, 135, 145, 146, 148, 149, 151, 152, 153, 154, 155, 156, 157, 160, 162, 163, 165, 166, 167, 169, 170, 172, 173, 174, 176, 177, 179, 180, 181, 183, 184, 186, 187, 188, 190, 191, 193, 194, 195, 197, 198, 200, 201, 202, 204, 205, 207, 208, 209, 212, 213, 214, 216, 217, 219, 220, 221, 223, 224, 226, 227, 228, 230, 231, 233, 234, 235, 237, 238, 240, 241, 242, 244, 245, 247, 248, 249, 250, 252, 253, 255, 256, 257, 259, 260, 262, 263, 264, 266, 267, 269, 270, 271, 274, 275, 276, 279, 280, 281, 284, 285]

noncomputable def pick (l : List Stmt) : List Stmt := (l.drop 1).take 2 ++ ((l.drop 4).take 11 ++ ((l.drop 16).take 3 ++ ((l.drop 20).take 4 ++ ((l.drop 25).take 3 ++ l.drop 29))))
noncomputable def viewOf (p : Program) : Program := { p with main := { p.main with body := pick p.main.body } }
noncomputable def view : Program := viewOf PySem.Challenge.pw_sz0087_01
noncomputable abbrev pos0 : Pos := ⟨0, 0, 0, 0⟩
noncomputable abbrev posK : Pos := ⟨208, 0, 212, 71⟩
noncomputable abbrev ann0 : Option Value := some (.ref 6)
noncomputable abbrev cd : Code := Code.body (behindTheImports PySem.Challenge.pw_sz0087_01) Top.env_1
noncomputable abbrev sA (w : World) (os : OsState) : Shared := { heap := heapA w.params, gens := ⟨[]⟩, drawn := {}, toks := 187, os := os }
noncomputable abbrev sB (w : World) (os : OsState) : Shared := ({ tree := Top.tree_4 w.params, n := 15, life := {}, gens := ⟨[]⟩, drawn := {}, toks := 187, os := os } : SharedT).abs
noncomputable abbrev sK (w : World) (os : OsState) : Shared := ({ tree := Top.tree_306 w.params, n := 286, life := {}, gens := ⟨[]⟩, drawn := {}, toks := 587, os := os } : SharedT).abs
noncomputable abbrev sT (w : World) (os : OsState) : Shared := { heap := heapT w.params, gens := ⟨[]⟩, drawn := {}, toks := 587, os := os }
theorem view_eq : view = viewOf Fast.tw17906909029453886179 := congrArg viewOf Fast.te17906909029453886179
theorem pre_w (w : World) (os : OsState) : topGo treeTable PySem.Challenge.pw_sz0087_01 w 11 ann0 12 { heap := boot_heap w.params, gens := ⟨[]⟩, drawn := boot_drawn, toks := boot_toks, os := os } (topStub PySem.Challenge.pw_sz0087_01) = some (sA w os, ⟨denote treeTable cd, cd, pos0, [topFrame pos0]⟩) := by
  unfold cd
  rw [Fast.te15667345088766844465, Fast.te14364793385576792824, Fast.te17906909029453886179, Fast.te11892475500146522536, Fast.te1932914329531408376]
  kernel_rfl!
theorem block_w (w : World) (os : OsState) : segRun treeTable PySem.Challenge.pw_sz0087_01 w 11 ann0 1 1 (sA w os) (blockOf (behindTheImports PySem.Challenge.pw_sz0087_01) Top.env_1 cd pos0 [topFrame pos0]) = some (.next, sB w os, cd, pos0) := by
  unfold cd sB
  rw [Fast.te14374325043358763698, Fast.te14364793385576792824, Fast.te17906909029453886179, Fast.te1932914329531408376, Fast.te495316799922210939]
  kernel_rfl!
theorem fin_w (w : World) (os : OsState) : topRun treeTable PySem.Challenge.pw_sz0087_01 w 11 ann0 2 (sK w os) (restOf [] Top.env_1 cd posK [topFrame pos0]) = some (sT w os) := by
  unfold cd sK
  rw [Fast.te14082659384304107361, Fast.te14364793385576792824, Fast.te17906909029453886179, Fast.te1932914329531408376, Fast.te16180925329148010750]
  kernel_rfl!
theorem body_eq : Top.sts_4 ++ (Top.sts_36 ++ (Top.sts_59 ++ (Top.sts_82 ++ (Top.sts_105 ++ (Top.sts_128 ++ (Top.sts_151 ++ (Top.sts_211 ++ (Top.sts_290 ++ [])))))))) = behindTheImports PySem.Challenge.pw_sz0087_01 := by
  kernel_rfl!
theorem size_w (w : World) : ((boot_heap w.params).isNs mainGlobals && (⟨[]⟩ : Array GenState).size == 0, (boot_heap w.params).objs.size, (boot_heap w.params).nsMap mainGlobals "__annotations__") = (true, 11, ann0) := by
  rw [Fast.te8920871248978507458, show ("__annotations__" : Str) = ⟨#[95, 95, 97, 110, 110, 111, 116, 97, 116, 105, 111, 110, 115, 95, 95]⟩ from Fast.ofString_ofList ['_', '_', 'a', 'n', 'n', 'o', 't', 'a', 't', 'i', 'o', 'n', 's', '_', '_']]
  kernel_rfl!
theorem statics_w (w : World) (os : OsState) : (staticsOk (importedModules PySem.Challenge.pw_sz0087_01.main.body) (boot_heap w.params) (heapT w.params) && namesBound PySem.Challenge.pw_sz0087_01 (heapT w.params) && gensDone (sT w os) && laidKept (boot_heap w.params) (heapT w.params)) = true := by
  rw [Fast.te5923862056798008813, Fast.te17906909029453886179]
  kernel_rfl!
theorem seen_w (w : World) (os : OsState) : seen ((recsOf view).map (·.name)) (ownsOf view) [] { sT w os with gens := #[] } = expectedOf view := by
  rw [Fast.te5160383126252970620, R.mapR_eq, Fast.te3399658132070893891, view_eq, Fast.te5991557255702980513]
  kernel_rfl!
theorem blt_w (w : World) (os : OsState) : (sT w os).heap.bltView = bltViewBooted := by
  kernel_rfl!
theorem keys_w (w : World) (os : OsState) : ((sT w os).heap.keysOk (looseW view []) ((recsOf view).map (·.name)) ((litsOf view).map (·.1)) ((clssOf view (looseW view [])).map (·.name)) && (sT w os).heap.accountedOkI (importedModules PySem.Challenge.pw_sz0087_01.main.body) && (sT w os).heap.isNs mainGlobals && (sT w os).heap.isNs builtinsNs && tablesOk view (sT w os).heap && (xlAt view [] (sT w os) && recOk (RowW.records PySem.Challenge.rw_sz0087_01.row.toRowW) (sT w os)) && (sT w os).gens.size == 0) = true := by
  rw [Fast.te10880121769531294198, Fast.te821141287760084731, view_eq, R.mapR_eq, Fast.te3399658132070893891, Fast.te7409074990110511671, Fast.te13664370479719496447, Fast.te14722251495701143533, Fast.te5923862056798008813, Fast.te17906909029453886179, Fast.te10994771534591457954]
  kernel_rfl!
theorem tabs_w (w : World) (os : OsState) : tabsOk view (sT w os) = true := by
  rw [Fast.te479339242167458305, view_eq]
  kernel_rfl!
theorem pin_w (w : World) (os : OsState) : pinSeenD view (drecsOf view) (sT w os) = pinGoodD (drecsOf view) := by
  rw [Fast.te16090120013241838585, view_eq, Fast.te3247288618530077131]
  kernel_rfl!
theorem plainE_w (w : World) (os : OsState) : plainSeenE view (looseW view []) (sT w os) = plainGoodE view (looseW view []) := by
  rw [Fast.te2386780881361962483, view_eq, Fast.te821141287760084731]
  kernel_rfl!
theorem plainD_w (w : World) (os : OsState) : plainSeenD view [] (sT w os) = plainGoodD view [] := by
  rw [Fast.te11698064438423848299, view_eq]
  kernel_rfl!
theorem wide_w (w : World) (os : OsState) : wideSeen view (sT w os) = wideGood view := by
  rw [Fast.te7317090234206586261, view_eq]
  kernel_rfl!
theorem cls_w (w : World) (os : OsState) : clsSeenW view [] (sT w os) = clsGoodW view [] := by
  rw [Fast.te7369524293546568484, view_eq]
  kernel_rfl!

theorem hook_w (w : World) (os : OsState) : (as.map (sT w os).heap.get?, [277].map (sT w os).heap.get?) = ((K w.params).map fun p => some p.2, [277].map fun _ => some (tabObj #[])) := by
  rw [K_eq]
  kernel_rfl!
theorem as_eq (P : Params) : as = (K P).map (·.1) := by kernel_rfl!
noncomputable abbrev M0 : Nat := 12 + (1 + (Nat.add 294 (Nat.add 248 (Nat.add 247 (Nat.add 248 (Nat.add 251 (Nat.add 251 (Nat.add 382 (Nat.add 393 (Nat.add 79 2))))))))))
theorem run_w (w : World) (os : OsState) : topRun treeTable PySem.Challenge.pw_sz0087_01 w 11 ann0 M0 { heap := boot_heap w.params, gens := ⟨[]⟩, drawn := boot_drawn, toks := boot_toks, os := os } (topStub PySem.Challenge.pw_sz0087_01) = some (sT w os) := by
  have c := Top.chain PySem.Challenge.pw_sz0087_01 (behindTheImports PySem.Challenge.pw_sz0087_01) w os [] 2 _ (fin_w w os)
  rw [body_eq] at c
  exact go_top (pre_w w os) (piece_block (block_w w os) c)
noncomputable abbrev hook : Hook := kmHook K as as_eq [277]
theorem left_ok : LeftO PySem.Challenge.pw_sz0087_01 view [] (fun s => xlAt view [] s && recOk (RowW.records PySem.Challenge.rw_sz0087_01.row.toRowW) s) (Hook.obs hook) (Hook.val hook) 4894 :=
  LeftO.of_pieces (H₀ := boot_heap) (H₁ := heapT) (gs₀ := ⟨[]⟩) (gs₁ := ⟨[]⟩) (d₀ := boot_drawn) (d₁ := {}) (k₀ := boot_toks) (k₁ := 587) (m₀ := 11) (ann := ann0) (M := M0)
    (boot_open (by kernel_rfl!) (by kernel_rfl!) fun s => by kernel_rfl!) size_w run_w (by kernel_rfl!)
    fun w => funext fun os => looks_pair (statics_w w os) (looks_pair (looks_pair (seen_w w os) (looks_pair (blt_w w os) (looks_pair (keys_w w os) (looks_pair (tabs_w w os) (looks_pair (pin_w w os) (looks_pair (plainE_w w os) (looks_pair (plainD_w w os) (looks_pair (wide_w w os) (cls_w w os))))))))) (hook_w w os))
theorem left_row : LeftO PySem.Challenge.rw_sz0087_01.row.toRowW.prog view [] (fun s => xlAt view [] s && recOk (RowW.records PySem.Challenge.rw_sz0087_01.row.toRowW) s) (Hook.obs (kmHook K as as_eq [277])) (Hook.val (kmHook K as as_eq [277])) 4894 := left_ok

theorem filled : PySem.Challenge.rw_sz0087_01 = PySem.Challenge.rw_sz0087_01 ∧ Mine.K = Mine.K := by
  k_fill
  exact ⟨rfl, rfl⟩

noncomputable abbrev VW : Program := Mine.view
noncomputable abbrev LO : List Str := looseW Mine.view []

noncomputable abbrev Ext (h h' : Heap) : Prop := ∀ b o, h.get? b = some o → h'.get? b = some o

structure GH (w : World) (mg mb : Str → Option Value) (h : Heap) : Prop where
  X : (Mine.K w.params).In h
  T : TopRead VW LO mg mb h

theorem GH.keeps {w : World} {mg mb : Str → Option Value} {h h' : Heap} (G : GH w mg mb h) (k : Ext h h') : GH w mg mb h' :=
  ⟨G.X.keeps k, ⟨G.T.g.keeps k, G.T.b.keeps k, G.T.nolimit.keeps k, G.T.builtins, G.T.free⟩⟩

noncomputable abbrev AR (dp un : Nat) (fr : Option (List Env)) (gd : Option (List Code)) : Around := { handled := none, depth := dp, frames := fr, guards := gd, units := un }

theorem enter {w : World} {mg mb : Str → Option Value} {dp un : Nat} {fr : Option (List Env)} {gd : Option (List Code)} {s : Shared} {Q E : Value → Shared → Prop}
    {name qual : Str} {params : Arguments} {body : List Stmt} {scope : Scope} {dV kV doc pm cdv ct oc : Value} {an od : Option Addr} {osl : Array (Option Value)} {f : Addr} {args : List Value} {binds : List (Str × Value)}
    (G : GH w mg mb s.heap) (ho : (Mine.K w.params).lookup f = some ⟨oc, od, .func (fnOf name qual params body scope dV kV doc pm an cdv ct), osl⟩)
    (hcd : codeIn (Mine.K w.params) cdv qual = true) (hroom : dp < recursionLimit)
    (hbind : BindsTo s (fnOf name qual params body scope dV kV doc pm an cdv ct) ⟨args, []⟩ binds) (hloc : ∀ y ∈ binds, scope.names.lookup y.1 = some .local)
    (hco : scope.isCoroutine = false) (hgen : scope.isGenerator = false) (hk : scope.kind = .function)
    (hcell : ∀ x ∈ scope.names, x.2 ≠ .cell)
    (h : ∀ L' h₁, Fr s.heap L' h₁ (fun y => binds.reverse.lookup y) →
      wpAny (model PySem.Challenge.rw_sz0087_01.row.prog w) ((AR dp un fr gd).deeper (envOf qual scope L' f cdv)) (execs body (envOf qual scope L' f cdv))
        (fun fl s' => Q (match fl with | .ret v => v | _ => .none) s') (fun _ _ => False)
        { s with heap := h₁, toks := s.toks + binds.length }) :
    wpAny (model PySem.Challenge.rw_sz0087_01.row.prog w) (AR dp un fr gd) (call (.ref f) args) Q E s := by
  refine wpAny_call ?_
  refine codeAny_call_def (fd := fnX name qual params body scope [] dV kV doc pm an cdv ct) (body := body) (binds := binds) hroom (G.X _ _ ho) rfl G.T.nolimit (codeRec_of G.X hcd) rfl hbind hcell hloc (fun h₁ hns hk₁ => ?_) hco hgen hk
  exact wpAny_mono (h s.heap.objs.size h₁ ⟨hns, hk₁, Nat.le_refl _⟩) (fun _ _ x => x) (fun _ _ x => x.elim)

noncomputable def ltB (a b : Str) : Bool := decide (a.cps.toList < b.cps.toList)
noncomputable def cmpT (a b : Str) : Int := if ltB a b then -1 else if ltB b a then 1 else 0

theorem nnil {h₀ h : Heap} {L : Addr} {m : Str → Option Value} (_F : Fr h₀ L h m) : News h₀ L h [] := News.nil

theorem frK {h₀ h h' : Heap} {L : Addr} {m : Str → Option Value} (F : Fr h₀ L h m) (k : Ext h h') : Fr h₀ L h' m := Fr.keeps F k
theorem nwK {h₀ h h' : Heap} {L : Addr} {news : List (Addr × Obj)} (N : News h₀ L h news) (k : Ext h h') : News h₀ L h' news := News.grown N k

theorem room_d {dp k n : Nat} (h : dp + n < recursionLimit) (hk : Nat.ble (k + 1) n = true) : dp + 1 + k < recursionLimit := by
  have := Nat.le_of_ble_eq_true hk
  omega
theorem room_u {un k n : Nat} (h : un + n < cLine) (hk : Nat.ble (k + 3) n = true) : un + 3 + k < cLine := by
  have := Nat.le_of_ble_eq_true hk
  omega
theorem len_le {a n k K : Nat} (h : a = n) (hx : n ≤ k) (hk : Nat.ble k K = true) : a ≤ K := h ▸ Nat.le_trans hx (Nat.le_of_ble_eq_true hk)
theorem len_lt {a n k K : Nat} (h : a = n) (hx : n ≤ k) (hk : Nat.ble (k + 1) K = true) : a < K := h ▸ Nat.lt_of_le_of_lt hx (Nat.le_of_ble_eq_true hk)
theorem lt_len {a n i : Nat} (h : a = n) (hi : i < n) : i < a := h ▸ hi
theorem le_K {n k K : Nat} (hx : n ≤ k) (hk : Nat.ble k K = true) : n ≤ K := Nat.le_trans hx (Nat.le_of_ble_eq_true hk)
theorem lt_K {n k K : Nat} (hx : n ≤ k) (hk : Nat.ble (k + 1) K = true) : n < K := Nat.lt_of_le_of_lt hx (Nat.le_of_ble_eq_true hk)
/- behind a call that keeps all: the frame and the ledger go over -/
section
variable {prog : Program} {w : World} {A : Around} {E : Value → Shared → Prop} {s : Shared}
theorem len_vs {l : Addr} {vs : List Value} {Q : Value → Shared → Prop} (hl : s.heap.IsList l vs.toArray) (hz : vs.length ≤ 100000)
    (h : Q (.int (vs.length : Int) (s.toks + 1)) { s with toks := s.toks + 1 + 1 }) : wpAny (model prog w) A (call (.builtin "len") [.ref l]) Q E s :=
  len_list hl (by rw [List.size_toArray]; omega) (by rw [List.size_toArray]; exact h)
theorem item_vs {value slice : PySem.Expr} {a : Addr} {l : List Value} {i : Nat} {u : Tok} {Q : Value → Shared → Prop} (hl : s.heap.IsList a l.toArray)
    (hz : l.length ≤ 100000) (hi : i < l.length) (h : Q (l[i]'hi) s)
    (hs : subscripted slice false (.ref a) (.int i u) = operate [.ref a, .int i u] (getItem (.ref a) (.int i u))) (hg : ∀ r, letTemporaryGo value (.ref a) r = pure ()) :
    wpAny (model prog w) A (subscriptTail value slice (.ref a) (.int i u)) Q E s :=
  item_listL hl (Int.natCast_nonneg i) (by omega) (by rw [Int.toNat_natCast]; exact List.getElem?_eq_getElem hi) h hs hg
end

noncomputable def PostW (End : Shared → Prop) (Q : Flow → Shared → Prop) (f : Flow) (s₂ : Shared) : Prop :=
  match f with
  | .ret v => Q (.ret v) s₂
  | .brk => Q .next s₂
  | _ => End s₂
theorem while_turn {M : Model} {A : Around} {E : Value → Shared → Prop} {Q : Flow → Shared → Prop} {h₀ : Heap} {L : Addr} {s s₁ : Shared} {T : Sem Bool} {B : Sem Flow} {End : Shared → Prop} {J : Nat → (Str → Option Value) → List (Addr × Obj) → Prop} {n : Nat}
    (t : wpAny M A T (fun b s₂ => if b = true then wpAny M A B (PostW End Q) E s₂ else Q .next s₂) E s₁) (fin : ∀ s₃, End s₃ → WhileStep2 h₀ L s J Q n .next s₃) :
    wpAny M A T (fun b s₂ => if b = true then wpAny M A B (WhileStep2 h₀ L s J Q n) E s₂ else Q .next s₂) E s₁ := by
  refine wpAny_mono t (fun b s₂ p => ?_) fun _ _ x => x
  cases b with
  | false => exact p
  | true =>
    refine wpAny_mono p (fun f s₃ q => ?_) fun _ _ x => x
    cases f with
    | ret v => exact q
    | brk => exact q
    | next => exact fin _ q
    | cont => exact fin _ q

local macro_rules | `(tactic| k_ne) => `(tactic| (first | assumption | exact Ne.symm (by assumption)))
local macro_rules | `(tactic| size_fits) => `(tactic| (simp only [List.size_toArray, PySem.sizeLine_eq]; omega))

section
variable {prog : Program} {w : World} {A : Around} {E : Value → Shared → Prop} {s : Shared} {h₀ : Heap} {L : Addr} {m : Str → Option Value} {news : List (Addr × Obj)}
theorem slice_fromL {value slice : PySem.Expr} {l : Addr} {vs : List Value} {i : Nat} {u : Tok} {Q : Value → Shared → Prop}
    (F : Fr h₀ L s.heap m) (N : News h₀ L s.heap news) (hl : s.heap.IsList l vs.toArray) (hz : vs.length ≤ 100000)
    (h : ∀ a h', Fr h₀ L h' m → News h₀ L h' ((a, W.listOf (vs.drop i).toArray 0) :: news) → (∀ p ∈ news, p.1 < a) → Q (.ref a) { s with heap := h' })
    (hs : subscripted slice false (.ref l) (.ref s.heap.objs.size) = operate [.ref s.heap.objs.size, .ref l] (getItem (.ref l) (.ref s.heap.objs.size)))
    (ht : ∀ r, letTemporaryGo value (.ref l) r = pure ()) :
    wpAny (model prog w) A (subscriptTail value slice (.ref l) (.ref s.heap.objs.size)) Q E { s with heap := s.heap.push { cls := .type "slice", data := .fields #[.int (i : Int) u, .none, .none] } } := by
  refine slice_list F N hl (.int _ _) .none (fun h' F' N' => h _ h' F' ?_ fun p hp => Nat.lt_succ_of_lt (Heap.lt_size (N p hp).1)) hs ht (by rw [List.size_toArray, PySem.sizeLine_eq]; omega)
  rw [slicePick_from'] at N'
  simpa using N'

theorem extend_two {D b : Addr} {its its2 : List Value} {n n2 : Nat} {Q : Value → Shared → Prop} (F : Fr h₀ L s.heap m) (N : News h₀ L s.heap [(b, W.listOf its2.toArray n2), (D, W.listOf its.toArray n)]) (hne : D ≠ b)
    (hz : its.length ≤ 10000) (hz2 : its2.length ≤ 10000)
    (h : ∀ n' h', Fr h₀ L h' m → News h₀ L h' [(D, W.listOf (its ++ its2).toArray n')] → Q .none { s with heap := h' }) : wpAny (model prog w) A (call (.builtin "list.extend") [.ref D, .ref b]) Q E s := by
  by_cases e : its2 = []
  · subst e
    have U : Upd D (W.listOf its.toArray n) (W.listOf its.toArray n) [(b, W.listOf ([] : List Value).toArray n2), (D, W.listOf its.toArray n)] [(b, W.listOf ([] : List Value).toArray n2), (D, W.listOf its.toArray n)] :=
      .tail (fun q => hne q.symm) (.head fun p hp => nomatch hp)
    refine kxn_extend (prog := prog) (w := w) F N (b := b) (n2 := n2) (.head _) (by simp) U (extend_door ?_) ?_ ?_ fun h' F' N' => h n h' F' ?_
    · rw [List.size_toArray, List.size_toArray, PySem.sizeLine_eq]; simp only [List.length_nil]; omega
    · show its.length ≤ sizeLine; rw [PySem.sizeLine_eq]; omega
    · rw [List.size_toArray, List.size_toArray, PySem.sizeLine_eq]; simp only [List.length_nil]; omega
    · intro p hp
      rw [List.append_nil] at hp
      exact N' p (.tail _ hp)
  · have U : Upd D (W.listOf its.toArray n) (W.listOf (its ++ its2).toArray (n + 1)) [(b, W.listOf its2.toArray n2), (D, W.listOf its.toArray n)] [(b, W.listOf its2.toArray n2), (D, W.listOf (its ++ its2).toArray (n + 1))] :=
      .tail (fun q => hne q.symm) (.head fun p hp => nomatch hp)
    refine kl_extend (prog := prog) (w := w) F N (b := b) (.head _) (by simp) (by simpa using e) U (extend_door ?_) ?_ ?_ (fun h' F' N' => h (n + 1) h' F' fun p hp => N' p (.tail _ hp))
    · rw [List.size_toArray, List.size_toArray, PySem.sizeLine_eq]; omega
    · show its.length ≤ sizeLine; rw [PySem.sizeLine_eq]; omega
    · rw [List.size_toArray, List.size_toArray, PySem.sizeLine_eq]; omega
end

section
variable {prog : Program} {w : World} {A : Around} {E : Value → Shared → Prop} {s : Shared} {h₀ : Heap} {L : Addr} {m : Str → Option Value} {news : List (Addr × Obj)}
theorem item_known {value slice : PySem.Expr} {a : Addr} {l : List Value} {k : Int} {u : Tok} {x : Value} {Q : Value → Shared → Prop} (hl : s.heap.IsList a l.toArray)
    (h0 : 0 ≤ k) (hz : l.length ≤ 100000) (hx : l[k.toNat]? = some x) (h : Q x s)
    (hs : subscripted slice false (.ref a) (.int k u) = operate [.ref a, .int k u] (getItem (.ref a) (.int k u))) (hg : ∀ r, letTemporaryGo value (.ref a) r = pure ()) :
    wpAny (model prog w) A (subscriptTail value slice (.ref a) (.int k u)) Q E s := by
  refine item_listL hl h0 ?_ hx h hs hg
  have := (List.getElem?_eq_some_iff.mp hx).1
  omega
theorem item_last {value slice : PySem.Expr} {a : Addr} {l : List Value} {u : Tok} {x : Value} {Q : Value → Shared → Prop} (hl : s.heap.IsList a l.toArray)
    (hz : l.length ≤ 100000) (hx : l[l.length - 1]? = some x) (h : Q x s)
    (hs : subscripted slice false (.ref a) (.int (-1) u) = operate [.ref a, .int (-1) u] (getItem (.ref a) (.int (-1) u))) (hg : ∀ r, letTemporaryGo value (.ref a) r = pure ()) :
    wpAny (model prog w) A (subscriptTail value slice (.ref a) (.int (-1) u)) Q E s := by
  have hlen := (List.getElem?_eq_some_iff.mp hx).1
  refine subscriptTail_builtin hl.typeIs slot_list_getitem.lookup (wpAny_getItem_list_neg hl (by omega) (by rw [List.size_toArray]; omega) (by omega) ?_ h) hs hg
  rw [List.size_toArray, List.getElem?_toArray]
  have e : (-1 + (l.length : Int)).toNat = l.length - 1 := by omega
  rw [e]; exact hx
end
local macro_rules | `(tactic| walk_at $s:str) => `(tactic| k_extra $s)

/-! C1 -/
section

section
variable {w : World} {mg mb : Str → Option Value} {dp un : Nat} {fr : Option (List Env)} {gd : Option (List Code)} {s : Shared} {Q E : Value → Shared → Prop}

theorem retI {x y : Int} {t : Tok} {h' : Heap} {tk' : Nat} (hret : ∀ t h' tk', Ext s.heap h' → Q (.int x t) { s with heap := h', toks := tk' }) (e : x = y) (k : Ext s.heap h') : Q (.int y t) { s with heap := h', toks := tk' } := by
  subst e; exact hret _ _ _ k

theorem to_text_ok {x : Str} {tx : Tok} (G : GH w mg mb s.heap) (hd : dp + 2 < recursionLimit) (hu : un + 20 < cLine)
   (hret : ∀ h' tk', Ext s.heap h' → Q (.str x tx) { s with heap := h', toks := tk' }) :
   wpAny (model PySem.Challenge.rw_sz0087_01.row.prog w) (AR dp un fr gd) (call (.ref 194) [.str x tx]) Q E s := by
  k_with_none
  k_with "call builtin:len" => (k_here; (with_reducible show wpAny _ _ (call (Value.builtin "len") [Value.ref _]) _ _ _); k_dflt (refine' len_vs ?k1 ?k2 ?_; (case k1 => is_list); (case k2 => omega); k_whole))
  k_with "subscriptTail" => (k_here; (with_reducible show wpAny _ _ (subscriptTail _ _ (Value.ref _) (Value.int (Nat.cast _) _)) _ _ _); k_dflt (refine' item_vs ?k1 ?k2 ?k3 ?_ ?k4 ?k5; (case k1 => is_list); (case k2 => omega); (case k3 => omega); (case k4 => with_unfolding_all rfl); (case k5 => intro _; with_unfolding_all rfl); k_whole))
  k_with "subscriptTail Name Slice ref ref" => (k_here; k_dflt (refine' slice_fromL ?k1 ?k2 ?k3 ?k4 ?_ ?k5 ?k6; (case k1 => assumption); (case k2 => assumption); (case k3 => is_list); (case k4 => omega); (case k5 => with_unfolding_all rfl); (case k6 => intro _; with_unfolding_all rfl); k_whole); intro l' h' F' N' l1; (try k_lt l1); (try k_sweep))
  k_with "call builtin:list.extend" => (k_here; k_dflt (refine' extend_two ?k1 ?k2 ?k3 ?k4 ?k5 ?_; (case k1 => assumption); (case k2 => assumption); (case k3 => k_ne); (case k4 => (try simp only [List.length_append, List.length_drop]); omega); (case k5 => (try simp only [List.length_append, List.length_drop]); omega); k_whole); intro n' h' F' N'; (try k_sweep))
  have X := G.X
  have T := G.T
  (k_dflt (
    refine' enter (binds := [("value", .str x tx)]) (by assumption) ?ho ?hcd ?hroom ?hbind ?hloc ?hco ?hgen ?hk ?hcell ?_
    (case ho => k_is)
    (case hcd => k_is)
    (case hroom => omega)
    (case hbind => exact BindsTo.of_eq rfl)
    (case hloc => exact locs rfl)
    (case hco => exact rfl)
    (case hgen => exact rfl)
    (case hk => exact rfl)
    (case hcell => decide)
    intro L' h₁ F'
    have N' := nnil F'
    (try dsimp only)))
  k_steps
  all_goals exact hret _ _ (Fr.keep (by assumption))

theorem value_of_ok {x : Str} {tx : Tok} (G : GH w mg mb s.heap) (hd : dp + 2 < recursionLimit) (hu : un + 20 < cLine)
   (hret : ∀ h' tk', Ext s.heap h' → Q (.str x tx) { s with heap := h', toks := tk' }) :
   wpAny (model PySem.Challenge.rw_sz0087_01.row.prog w) (AR dp un fr gd) (call (.ref 187) [.str x tx]) Q E s := by
  have X := G.X
  have T := G.T
  (k_dflt (
    refine' enter (binds := [("x", .str x tx)]) (by assumption) ?ho ?hcd ?hroom ?hbind ?hloc ?hco ?hgen ?hk ?hcell ?_
    (case ho => k_is)
    (case hcd => k_is)
    (case hroom => omega)
    (case hbind => exact BindsTo.of_eq rfl)
    (case hloc => exact locs rfl)
    (case hco => exact rfl)
    (case hgen => exact rfl)
    (case hk => exact rfl)
    (case hcell => decide)
    intro L' h₁ F'
    have N' := nnil F'
    (try dsimp only)))
  k_steps
  all_goals exact hret _ _ (Fr.keep (by assumption))


theorem compare_ok {x y : Str} {tx ty : Tok} (G : GH w mg mb s.heap) (hd : dp + 5 < recursionLimit) (hu : un + 40 < cLine)
   (hret : ∀ t h' tk', Ext s.heap h' → Q (.int (cmpT x y) t) { s with heap := h', toks := tk' }) :
   wpAny (model PySem.Challenge.rw_sz0087_01.row.prog w) (AR dp un fr gd) (call (.ref 201) [.str x tx, .str y ty]) Q E s := by
  k_with "call ref" => (k_here; k_dflt (refine' to_text_ok ?kG ?kd ?ku ?_; (case kG => (first | assumption | exact GH.keeps (by assumption) (Fr.keep (by assumption)))); (case kd => (first | assumption | exact room_d (by assumption) rfl | exact room_u (by assumption) rfl | omega | (dsimp only [AR, Around.deeper] at *; omega))); (case ku => (first | assumption | exact room_d (by assumption) rfl | exact room_u (by assumption) rfl | omega | (dsimp only [AR, Around.deeper] at *; omega))); k_whole); intro h' tk' kE'; ((rename Fr _ _ _ _ => fA'); (rename News _ _ _ _ => nA'); (have fB' := frK fA' kE'); (have nB' := nwK nA' kE'); (try dsimp only); (clear fA' nA'); (try k_fold)))
  have X := G.X
  have T := G.T
  (k_dflt (
    refine' enter (binds := [("x", .str x tx), ("y", .str y ty)]) (by assumption) ?ho ?hcd ?hroom ?hbind ?hloc ?hco ?hgen ?hk ?hcell ?_
    (case ho => k_is)
    (case hcd => k_is)
    (case hroom => omega)
    (case hbind => exact BindsTo.of_eq rfl)
    (case hloc => exact locs rfl)
    (case hco => exact rfl)
    (case hgen => exact rfl)
    (case hk => exact rfl)
    (case hcell => decide)
    intro L' h₁ F'
    have N' := nnil F'
    (try dsimp only)))
  k_steps
  all_goals exact retI (s := s) hret (by simp [cmpT, ltB, *]) (Fr.keep (by assumption))


theorem order_by_text_ok {x y : Str} {tx ty : Tok} (G : GH w mg mb s.heap) (hd : dp + 7 < recursionLimit) (hu : un + 50 < cLine)
   (hret : ∀ t h' tk', Ext s.heap h' → Q (.int (cmpT x y) t) { s with heap := h', toks := tk' }) :
   wpAny (model PySem.Challenge.rw_sz0087_01.row.prog w) (AR dp un fr gd) (call (.ref 220) [.str x tx, .str y ty]) Q E s := by
  k_with "call ref" => (k_here; k_dflt (refine' value_of_ok ?kG ?kd ?ku ?_; (case kG => (first | assumption | exact GH.keeps (by assumption) (Fr.keep (by assumption)))); (case kd => (first | assumption | exact room_d (by assumption) rfl | exact room_u (by assumption) rfl | omega | (dsimp only [AR, Around.deeper] at *; omega))); (case ku => (first | assumption | exact room_d (by assumption) rfl | exact room_u (by assumption) rfl | omega | (dsimp only [AR, Around.deeper] at *; omega))); k_whole); intro h' tk' kE'; ((rename Fr _ _ _ _ => fA'); (rename News _ _ _ _ => nA'); (have fB' := frK fA' kE'); (have nB' := nwK nA' kE'); (try dsimp only); (clear fA' nA'); (try k_fold)))
  k_with "call ref" => (k_here; k_dflt (refine' compare_ok ?kG ?kd ?ku ?_; (case kG => (first | assumption | exact GH.keeps (by assumption) (Fr.keep (by assumption)))); (case kd => (first | assumption | exact room_d (by assumption) rfl | exact room_u (by assumption) rfl | omega | (dsimp only [AR, Around.deeper] at *; omega))); (case ku => (first | assumption | exact room_d (by assumption) rfl | exact room_u (by assumption) rfl | omega | (dsimp only [AR, Around.deeper] at *; omega))); k_whole); intro t' h' tk' kE'; ((rename Fr _ _ _ _ => fA'); (rename News _ _ _ _ => nA'); (have fB' := frK fA' kE'); (have nB' := nwK nA' kE'); (try dsimp only); (clear fA' nA'); (try k_fold)))
  have X := G.X
  have T := G.T
  (k_dflt (
    refine' enter (binds := [("x", .str x tx), ("y", .str y ty)]) (by assumption) ?ho ?hcd ?hroom ?hbind ?hloc ?hco ?hgen ?hk ?hcell ?_
    (case ho => k_is)
    (case hcd => k_is)
    (case hroom => omega)
    (case hbind => exact BindsTo.of_eq rfl)
    (case hloc => exact locs rfl)
    (case hco => exact rfl)
    (case hgen => exact rfl)
    (case hk => exact rfl)
    (case hcell => decide)
    intro L' h₁ F'
    have N' := nnil F'
    (try dsimp only)))
  k_steps
  all_goals exact hret _ _ _ (Fr.keep (by assumption))
end
end

/-! C2 -/
section

structure OrdOk (w : World) (mg mb : Str → Option Value) (f : Addr) (h₀ : Heap) (cmp : Value → Value → Int) (D : Value → Prop) : Prop where
  fn : ∃ o fd, h₀.get? f = some o ∧ o.data = .func fd
  ok : ∀ (dp un : Nat) (fr : Option (List Env)) (gd : Option (List Code)) (s : Shared) (Q E : Value → Shared → Prop) (u v : Value), Ext h₀ s.heap → GH w mg mb s.heap → D u → D v → dp + 10 < recursionLimit → un + 60 < cLine →
    (∀ t h' tk', Ext s.heap h' → Q (.int (cmp u v) t) { s with heap := h', toks := tk' }) →
    wpAny (model PySem.Challenge.rw_sz0087_01.row.prog w) (AR dp un fr gd) (call (.ref f) [u, v]) Q E s

noncomputable def mergeV {α : Type} (cmp : α → α → Int) (l : List α) : List α → List α :=
  List.rec (motive := fun _ => List α → List α) (fun r => r) (fun a l ih r => List.rec (motive := fun _ => List α) (a :: l) (fun b r ihr => if cmp a b ≤ 0 then a :: ih (b :: r) else b :: ihr) r) l
theorem merge_ind {α : Type} {cmp : α → α → Int} {motive : List α → List α → Prop} (case1 : ∀ r, motive [] r) (case2 : ∀ a l, motive (a :: l) []) (case3 : ∀ a l b r, cmp a b ≤ 0 → motive l (b :: r) → motive (a :: l) (b :: r))
    (case4 : ∀ a l b r, ¬ cmp a b ≤ 0 → motive (a :: l) r → motive (a :: l) (b :: r)) (l r : List α) : motive l r := by
  induction l generalizing r with
  | nil => exact case1 r
  | cons a l ih =>
    induction r with
    | nil => exact case2 a l
    | cons b r ihr => exact if h : cmp a b ≤ 0 then case3 a l b r h (ih _) else case4 a l b r h ihr


section
variable {M : Model} {A : Around} {E : Value → Shared → Prop} {s : Shared} {env : Env} {h₀ : Heap} {L : Addr} {m : Str → Option Value} {news : List (Addr × Obj)}
theorem callWith_sym {pos : Pos} {f : Addr} {first : List Value} {o : Obj} {fd : FuncData} {e : PySem.Expr} {rest : List PySem.Expr} {Q : Value → Shared → Prop} (hf : h₀.get? f = some o) (hd : o.data = .func fd)
    (F : Fr h₀ L s.heap m)
    (h : wpAny M A (spliced (backTo pos (starEach (e :: rest) env))) (fun vs s₁ => s₁.heap.get? f = some o ∧ wpAny M A (call (.ref f) (first ++ vs)) Q E s₁) E s)
    (he : starEach (e :: rest) env = (false, eval e env) :: starEach rest env) (hplain : (backTo pos (starEach rest env)).any (·.1) = false) :
    wpAny M A (callWith pos (.ref f) first (backTo pos (starEach (e :: rest) env)) []) Q E s := by
  rw [he] at h ⊢
  refine callWith_of (P := fun h => h.get? f = some o) (by show ((false || (backTo pos (starEach rest env)).any (·.1)) || false) = false; rw [hplain]; rfl) (fun h' hf' => ?_) (evalArgs_plain h)
  refine ⟨.frame, .inl rfl, (Looks.ld (part := none) hf').andThen ?_⟩
  rw [hd]
  exact .now
end

section
variable {prog : Program} {w : World} {A : Around} {E : Value → Shared → Prop} {Q : Flow → Shared → Prop} {s : Shared} {env : Env} {h₀ : Heap} {L : Addr}


structure Two (cmp : Value → Value → Int) (vl vr : List Value) : Prop where

inductive MEnd (h₀ : Heap) (L : Addr) (s : Shared) (m₀ : Str → Option Value) (a : Addr) (cmp : Value → Value → Int) (vl vr : List Value) (i j : Nat) (s₂ : Shared) : Prop
  | mk (i' j' : Nat) (fnd : List Value) (n : Nat) (ti tj : Tok) (m' : Str → Option Value) (h' : Heap) (tk : Nat) : s₂ = { s with heap := h', toks := tk } →
      Fr h₀ L h' m' → News h₀ L h' [(a, W.listOf fnd.toArray n)] → m' (Str.ofString "one") = some (.int i' ti) → m' (Str.ofString "two") = some (.int j' tj) →
      (∀ z, z ≠ Str.ofString "one" → z ≠ Str.ofString "two" → m' z = m₀ z) →
      i' ≤ vl.length → j' ≤ vr.length → fnd.length = i' + j' → fnd ++ mergeV cmp (vl.drop i') (vr.drop j') = mergeV cmp vl vr → i + j < i' + j' → MEnd h₀ L s m₀ a cmp vl vr i j s₂
noncomputable def MPost (h₀ : Heap) (L : Addr) (s : Shared) (m₀ : Str → Option Value) (a : Addr) (cmp : Value → Value → Int) (vl vr : List Value) (Q : Flow → Shared → Prop) (i j : Nat) : Flow → Shared → Prop :=
  PostW (MEnd h₀ L s m₀ a cmp vl vr i j) Q
inductive MInv (m₀ : Str → Option Value) (a : Addr) (cmp : Value → Value → Int) (vl vr : List Value) (k : Nat) (m : Str → Option Value) (nx : List (Addr × Obj)) : Prop
  | mk (i j : Nat) (fnd : List Value) (n : Nat) (ti tj : Tok) : k = vl.length + vr.length - (i + j) → nx = [(a, W.listOf fnd.toArray n)] → m (Str.ofString "one") = some (.int i ti) → m (Str.ofString "two") = some (.int j tj) →
      (∀ z, z ≠ Str.ofString "one" → z ≠ Str.ofString "two" → m z = m₀ z) → i ≤ vl.length → j ≤ vr.length → fnd.length = i + j → fnd ++ mergeV cmp (vl.drop i) (vr.drop j) = mergeV cmp vl vr → MInv m₀ a cmp vl vr k m nx

theorem merged_while {test : PySem.Expr} {body : List Stmt} {pos : Pos} {m₀ : Str → Option Value} {a : Addr} {t1 t2 : Tok} {n₀ : Nat} {cmp : Value → Value → Int} {vl vr : List Value} (_about : Two cmp vl vr)
    (F : Fr h₀ L s.heap m₀) (N : News h₀ L s.heap [(a, W.listOf #[] n₀)]) (h1 : m₀ (Str.ofString "one") = some (.int 0 t1)) (h2 : m₀ (Str.ofString "two") = some (.int 0 t2))
    (turn : ∀ (i j : Nat) (fnd : List Value) (n : Nat) (ti tj : Tok) h tk, i ≤ vl.length → j ≤ vr.length → fnd.length = i + j → fnd ++ mergeV cmp (vl.drop i) (vr.drop j) = mergeV cmp vl vr →
      Fr h₀ L h (fun z => if z = (Str.ofString "two") then some (.int j tj) else if z = (Str.ofString "one") then some (.int i ti) else m₀ z) → News h₀ L h [(a, W.listOf fnd.toArray n)] →
      wpAny (model prog w) A (isTrue test env (eval test env)) (fun b s₂ =>
        if b = true then wpAny (model prog w) A (execs body env) (MPost h₀ L s m₀ a cmp vl vr Q i j) E s₂ else Q .next s₂) E { s with heap := h, toks := tk })
    (hE : PassesOwn (model prog w) A env E) :
    wpAny (model prog w) A (exec (.While test body [] pos) env) Q E s := by
  refine While_inv2 (MInv m₀ a cmp vl vr) F N ⟨0, 0, [], n₀, t1, t2, rfl, rfl, h1, h2, fun _ _ _ => rfl, Nat.zero_le _, Nat.zero_le _, rfl, rfl⟩ ?_ hE
  rintro k m₁ nx h tk F₁ N₁ ⟨i, j, fnd, n, ti, tj, rfl, rfl, e1, e2, e3, hi, hj, hlen, he⟩
  have em : m₁ = fun z => if z = (Str.ofString "two") then some (.int j tj) else if z = (Str.ofString "one") then some (.int i ti) else m₀ z := by
    funext z
    by_cases q2 : z = Str.ofString "two"
    · rw [if_pos q2, q2, e2]
    · rw [if_neg q2]
      by_cases q1 : z = Str.ofString "one"
      · rw [if_pos q1, q1, e1]
      · rw [if_neg q1]; exact e3 z q1 q2
  rw [em] at F₁
  refine while_turn (turn i j fnd n ti tj h tk hi hj hlen he F₁ N₁) ?_
  rintro s₃ ⟨i', j', fnd', n', ti', tj', m', h', tk', rfl, F', N', a1, a2, a3, hi', hj', hlen', he', hlt⟩
  exact ⟨h', tk', m', _, vl.length + vr.length - (i' + j'), rfl, F', N', Nat.sub_lt_sub_left (Nat.lt_of_lt_of_le hlt (Nat.add_le_add hi' hj')) hlt, i', j', fnd', n', ti', tj', rfl, rfl, a1, a2, a3, hi', hj', hlen', he'⟩

theorem mergeV_nil_left {α : Type} (cmp : α → α → Int) (r : List α) : mergeV cmp [] r = r := rfl
theorem mergeV_nil_right {α : Type} (cmp : α → α → Int) (l : List α) : mergeV cmp l [] = l := by cases l <;> rfl
theorem mergeV_cons {α : Type} (cmp : α → α → Int) (a b : α) (l r : List α) : mergeV cmp (a :: l) (b :: r) = if cmp a b ≤ 0 then a :: mergeV cmp l (b :: r) else b :: mergeV cmp (a :: l) r := rfl

section
variable {m₀ m' : Str → Option Value} {a : Addr} {cmp : Value → Value → Int} {vl vr fnd : List Value} {i j n : Nat} {ti tj : Tok} {h' : Heap} {tk : Nat}
theorem mpost_l (hi : (i : Int) < vl.length) (hj : (j : Int) < vr.length) (hlen : fnd.length = i + j) (he : fnd ++ mergeV cmp (vl.drop i) (vr.drop j) = mergeV cmp vl vr) (hc : cmp (vl[i]'(by omega)) (vr[j]'(by omega)) ≤ 0)
    (F : Fr h₀ L h' m') (N : News h₀ L h' [(a, W.listOf (fnd.toArray.push (vl[i]'(by omega))) n)]) (h1 : m' (Str.ofString "one") = some (.int (i + 1) ti)) (h2 : m' (Str.ofString "two") = some (.int j tj))
    (h3 : ∀ z, z ≠ Str.ofString "one" → z ≠ Str.ofString "two" → m' z = m₀ z) : MPost h₀ L s m₀ a cmp vl vr Q i j .next { s with heap := h', toks := tk } := by
  refine ⟨i + 1, j, fnd ++ [vl[i]'(by omega)], n, ti, tj, m', h', tk, rfl, F, by simpa using N, h1, h2, h3, by omega, by omega, by simp; omega, ?_, by omega⟩
  rw [← he, List.drop_eq_getElem_cons (l := vl) (i := i) (by omega), List.drop_eq_getElem_cons (l := vr) (i := j) (by omega), mergeV_cons, if_pos hc]
  simp
theorem mpost_r (hi : (i : Int) < vl.length) (hj : (j : Int) < vr.length) (hlen : fnd.length = i + j) (he : fnd ++ mergeV cmp (vl.drop i) (vr.drop j) = mergeV cmp vl vr) (hc : ¬ cmp (vl[i]'(by omega)) (vr[j]'(by omega)) ≤ 0)
    (F : Fr h₀ L h' m') (N : News h₀ L h' [(a, W.listOf (fnd.toArray.push (vr[j]'(by omega))) n)]) (h1 : m' (Str.ofString "one") = some (.int i ti)) (h2 : m' (Str.ofString "two") = some (.int (j + 1) tj))
    (h3 : ∀ z, z ≠ Str.ofString "one" → z ≠ Str.ofString "two" → m' z = m₀ z) : MPost h₀ L s m₀ a cmp vl vr Q i j .next { s with heap := h', toks := tk } := by
  refine ⟨i, j + 1, fnd ++ [vr[j]'(by omega)], n, ti, tj, m', h', tk, rfl, F, by simpa using N, h1, h2, h3, by omega, by omega, by simp; omega, ?_, by omega⟩
  rw [← he, List.drop_eq_getElem_cons (l := vl) (i := i) (by omega), List.drop_eq_getElem_cons (l := vr) (i := j) (by omega), mergeV_cons, if_neg hc]
  simp
theorem merged_end (N : News h₀ L h' [(a, W.listOf (fnd ++ vl.drop i ++ vr.drop j).toArray n)]) (he : fnd ++ mergeV cmp (vl.drop i) (vr.drop j) = mergeV cmp vl vr) (h : ¬ (i : Int) < vl.length ∨ ¬ (j : Int) < vr.length) :
    h₀.get? a = none ∧ h'.get? a = some (W.listOf (mergeV cmp vl vr).toArray n) := by
  refine ⟨(N _ (.head _)).2.2, (N _ (.head _)).1.trans ?_⟩
  rw [← he]
  congr 3
  rcases h with h | h
  · rw [List.drop_eq_nil_of_le (as := vl) (by omega), mergeV_nil_left]; simp
  · rw [List.drop_eq_nil_of_le (as := vr) (by omega), mergeV_nil_right]; simp
end
end

section
variable {w : World} {mg mb : Str → Option Value} {dp un : Nat} {fr : Option (List Env)} {gd : Option (List Code)} {s : Shared} {Q E : Value → Shared → Prop}


theorem merged_ok {l r f : Addr} {vl vr : List Value} {cmp : Value → Value → Int} {D : Value → Prop} (G : GH w mg mb s.heap) (hd : dp + 12 < recursionLimit) (hu : un + 80 < cLine)
   (hl : s.heap.IsList l vl.toArray) (hr : s.heap.IsList r vr.toArray) (O : OrdOk w mg mb f s.heap cmp D) (hDl : ∀ v ∈ vl, D v) (hDr : ∀ v ∈ vr, D v) (hz : vl.length + vr.length ≤ 1000)
   (hret : ∀ a n h' tk', Ext s.heap h' → s.heap.get? a = none → h'.get? a = some (W.listOf (mergeV cmp vl vr).toArray n) → Q (.ref a) { s with heap := h', toks := tk' }) :
   wpAny (model PySem.Challenge.rw_sz0087_01.row.prog w) (AR dp un fr gd) (call (.ref 208) [.ref l, .ref r, .ref f]) Q E s := by
  k_with_none
  k_with "call builtin:len" => (k_here; (with_reducible show wpAny _ _ (call (Value.builtin "len") [Value.ref _]) _ _ _); k_dflt (refine' len_vs ?k1 ?k2 ?_; (case k1 => is_list); (case k2 => omega); k_whole))
  k_with "subscriptTail" => (k_here; (with_reducible show wpAny _ _ (subscriptTail _ _ (Value.ref _) (Value.int (Nat.cast _) _)) _ _ _); k_dflt (refine' item_vs ?k1 ?k2 ?k3 ?_ ?k4 ?k5; (case k1 => is_list); (case k2 => omega); (case k3 => omega); (case k4 => with_unfolding_all rfl); (case k5 => intro _; with_unfolding_all rfl); k_whole))
  k_with "subscriptTail Name Slice ref ref" => (k_here; k_dflt (refine' slice_fromL ?k1 ?k2 ?k3 ?k4 ?_ ?k5 ?k6; (case k1 => assumption); (case k2 => assumption); (case k3 => is_list); (case k4 => omega); (case k5 => with_unfolding_all rfl); (case k6 => intro _; with_unfolding_all rfl); k_whole); intro l' h' F' N' l1; (try k_lt l1); (try k_sweep))
  k_with "call builtin:list.extend" => (k_here; k_dflt (refine' extend_two ?k1 ?k2 ?k3 ?k4 ?k5 ?_; (case k1 => assumption); (case k2 => assumption); (case k3 => k_ne); (case k4 => (try simp only [List.length_append, List.length_drop]); omega); (case k5 => (try simp only [List.length_append, List.length_drop]); omega); k_whole); intro n' h' F' N'; (try k_sweep))
  k_with "callWith ref" => (k_here; k_dflt (refine' callWith_sym ?k1 ?k2 ?k3 ?_ ?k4 ?k5; (case k4 => rfl); (case k5 => rfl); (case k1 => assumption); (case k2 => assumption); (case k3 => assumption); k_whole))
  k_with "And" => (refine ⟨Fr.keep (by assumption) _ _ (by assumption), ?_⟩; try dsimp only [List.nil_append, List.cons_append])
  k_with "exec While BoolOp cons nil" => (k_here; (k_dflt (refine' merged_while ?k0 ?k1 ?k2 ?k3 ?k4 ?_ ?k5; (case k0 => assumption); (case k1 => assumption); (case k2 => assumption); (case k3 => exact rfl); (case k4 => exact rfl); (case k5 => exact PassesOwn.never); k_whole; intro i j fnd n ti tj h tk hi hj hlen he Fw Nw)))
  k_with "call ref" => (k_here; k_dflt (refine' OrdOk.ok (by assumption) _ _ _ _ _ _ _ _ _ ?k1 ?k2 ?k3 ?k4 ?k5 ?k6 ?_; (case k1 => exact Fr.keep (by assumption)); (case k2 => (first | assumption | exact GH.keeps (by assumption) (Fr.keep (by assumption)))); (case k3 => first | exact (by assumption : ∀ v ∈ _, _) _ (List.getElem_mem _)); (case k4 => first | exact (by assumption : ∀ v ∈ _, _) _ (List.getElem_mem _)); (case k5 => (first | assumption | exact room_d (by assumption) rfl | exact room_u (by assumption) rfl | omega | (dsimp only [AR, Around.deeper] at *; omega))); (case k6 => (first | assumption | exact room_d (by assumption) rfl | exact room_u (by assumption) rfl | omega | (dsimp only [AR, Around.deeper] at *; omega))); k_whole); intro t' h' tk' kE'; ((rename Fr _ _ _ _ => fA'); (rename News _ _ _ _ => nA'); (have fB' := frK fA' kE'); (have nB' := nwK nA' kE'); (try dsimp only); (clear fA' nA'); (try k_fold)))
  have X := G.X
  have T := G.T
  obtain ⟨fo, fd, hfo, hfd⟩ := O.fn
  have about : Two cmp vl vr := ⟨⟩
  (k_dflt (
    refine' enter (binds := [("left", .ref l), ("right", .ref r), ("order", .ref f)]) (by assumption) ?ho ?hcd ?hroom ?hbind ?hloc ?hco ?hgen ?hk ?hcell ?_
    (case ho => k_is)
    (case hcd => k_is)
    (case hroom => omega)
    (case hbind => exact BindsTo.of_eq rfl)
    (case hloc => exact locs rfl)
    (case hco => exact rfl)
    (case hgen => exact rfl)
    (case hk => exact rfl)
    (case hcell => decide)
    intro L' h₁ F'
    have N' := nnil F'
    (try dsimp only)))
  k_steps
  · exact mpost_l (by assumption) (by assumption) (by assumption) (by assumption) (by assumption) (by assumption) (by assumption) rfl rfl (by intro z h1 h2; simp [h1, h2])
  · exact mpost_r (by assumption) (by assumption) (by assumption) (by assumption) (by assumption) (by assumption) (by assumption) rfl rfl (by intro z h1 h2; simp [h1, h2])
  · exact hret _ _ _ _ (Fr.keep (by assumption)) (merged_end (by assumption) (by assumption) (.inr (by assumption))).1 (merged_end (by assumption) (by assumption) (.inr (by assumption))).2
  · exact hret _ _ _ _ (Fr.keep (by assumption)) (merged_end (by assumption) (by assumption) (.inl (by assumption))).1 (merged_end (by assumption) (by assumption) (.inl (by assumption))).2
end
end

/-! CompJ -/
section
noncomputable def KBut (me : List Addr) (s s' : Shared) : Prop := ∃ h' tk, s' = { s with heap := h', toks := tk } ∧ ∀ b o, b ∉ me → s.heap.get? b = some o → h'.get? b = some o

section
variable {prog : Program} {w : World} {A : Around} {R : Result → Shared → Prop} {s : Shared}

inductive CLoop (s : Shared) (C D : Addr) (wr me : List Addr) (n : Nat) (St : Nat → Heap → Prop) (Inv : Nat → Array Value → Heap → Prop) (k : Nat) (s' : Shared) : Prop
  | mk (h' : Heap) (tk : Nat) (m' : Str → Option Value) (ys : Array Value) (i : Nat) : s' = { s with heap := h', toks := tk } → St i h' → h'.PlainList D ys → ys.size = i → h'.Ns C m' → Inv i ys h' → i ≤ n → k = n + 1 - i →
      (∀ b o, b ≠ C → b ∉ wr → b ≠ D → b ∉ me → s.heap.get? b = some o → h'.get? b = some o) → CLoop s C D wr me n St Inv k s'
theorem compLoopJ {elt iter : PySem.Expr} {x : Str} {px : Pos} {scope : Scope} {pos : Pos} {I D : Addr} {fp wr me : List Addr} {n : Nat} {P : Nat → Value → Prop} {St : Nat → Heap → Prop}
    {cenv : Env} {m : Str → Option Value} (W : Walks prog w A I fp wr n P St) (Inv : Nat → Array Value → Heap → Prop)
    (hx : cenv.kindOf x = some .local) (hp : (cenv.scope.kind == .class || (cenv.scope.kind == .module && cenv.locals != cenv.globals)) = false)
    (hDC : D ≠ cenv.locals) (hDf : D ∉ fp) (hCf : cenv.locals ∉ fp) (hDm : D ∉ me) (hCm : cenv.locals ∉ me) (hfm : ∀ b ∈ fp, b ∉ me)
    (hst : St 0 s.heap) (hacc : s.heap.PlainList D #[]) (hn : s.heap.Ns cenv.locals m) (h0 : Inv 0 #[] s.heap)
    (hstab : ∀ i ys h h', Inv i ys h → (∀ b o, b ≠ cenv.locals → b ∉ wr → b ≠ D → h.get? b = some o → h'.get? b = some o) → Inv i ys h')
    (helt : ∀ i v s₂ m₂ ys, i < n → P i v → Inv i ys s₂.heap → s₂.heap.Ns cenv.locals m₂ → m₂ x = some v → s₂.heap.PlainList D ys → (∀ b o, b ≠ cenv.locals → b ∉ wr → b ≠ D → b ∉ me → s.heap.get? b = some o → s₂.heap.get? b = some o) →
      (∃ h tk, s₂ = { s with heap := h, toks := tk }) →
      wpAny (model prog w) A (eval elt cenv) (fun y s₃ => Inv (i + 1) (ys.push y) s₃.heap ∧ KBut me s₂ s₃) (notedBy (model prog w) A cenv fun e s' => R (.error e) s') s₂)
    (hR : ∀ h' tk m' ys, h'.Ns cenv.locals m' → h'.PlainList D ys → ys.size = n → Inv n ys h' →
      (∀ b o, b ≠ cenv.locals → b ∉ wr → b ≠ D → b ∉ me → s.heap.get? b = some o → h'.get? b = some o) → R (.ok .next) { s with heap := h', toks := tk })
    (hsz : n ≤ 100000) :
    codeAny (model prog w) A (.compLoop (.ListComp elt [⟨.Name x px, iter, [], 0⟩] scope pos) 0 (.ref I) (.ref D) cenv) R s := by
  refine codeAny_compLoop_tests
    (CLoop s cenv.locals D wr me n St Inv) ?_ (n + 1)
    ⟨s.heap, s.toks, m, #[], 0, rfl, hst, hacc, rfl, hn, h0, Nat.zero_le _, rfl, fun _ _ _ _ _ _ e => e⟩
  rintro k s' ⟨H, tk, m', ys, i, rfl, hst', hacc', hysz, hn', hI, hi, rfl, hk⟩
  have hCw : cenv.locals ∉ wr := fun h => hCf (W.sub _ h)
  have hDw : D ∉ wr := fun h => hDf (W.sub _ h)
  by_cases hlt : i < n
  · refine W.item i _ _ _ hlt hst' fun v h₁ tk₁ hPv hst₁ hk₁ => ?_
    refine wpAny_assign_Name (wpAny_storeName_local hx (hn'.at' fun o e => hk₁ _ o hCw e) (fun h₂ hn₂ hs₂ => ?_) hp)
    have up₂ : ∀ b o, b ≠ cenv.locals → b ∉ wr → H.get? b = some o → h₂.get? b = some o := fun b o hbC hbf e => hs₂.extBut b o hbC (hk₁ b o hbf e)
    have hst₂ : St (i + 1) h₂ := W.frame _ _ _ hst₁ fun b hb o e => hs₂.extBut b o (fun h => hCf (h ▸ hb)) e
    refine wpAny_pure ?_
    simp only [if_true]
    have hI₂ : Inv i ys h₂ := hstab i ys H h₂ hI fun b o hC hw hD e => up₂ b o hC hw e
    have hacc₂ : h₂.PlainList D ys := hacc'.at fun o e => up₂ D o hDC hDw e
    refine wpAny_mono (helt i v _ _ ys hlt hPv hI₂ hn₂ (by simp) hacc₂ (fun b o hbC hbf hbD hbm e => up₂ b o hbC hbf (hk b o hbC hbf hbD hbm e)) ⟨_, _, rfl⟩) (fun y s₄ h₄ => ?_) fun _ _ e => e
    obtain ⟨hIy, h₄, tk₄, rfl, hk₄⟩ := h₄
    refine wpAny_list_append_plain (hsz := by rw [PySem.sizeLine_eq]; omega) (hacc₂.at fun o e => hk₄ _ o hDm e) fun h₅ hl₅ hs₅ => ?_
    refine ⟨n + 1 - (i + 1), by omega, h₅, tk₄, _, ys.push y, i + 1, rfl, ?_, hl₅, by rw [Array.size_push, hysz], (hn₂.at' fun o e => hk₄ _ o hCm e).sameBut hs₅ (Ne.symm hDC), ?_, hlt, rfl,
      fun b o hbC hbf hbD hbm e => hs₅.extBut b o hbD (hk₄ b o hbm (up₂ b o hbC hbf (hk b o hbC hbf hbD hbm e)))⟩
    · exact W.frame _ _ h₅ hst₂ fun b hb o e => hs₅.extBut b o (fun h => hDf (h ▸ hb)) (hk₄ b o (hfm b hb) e)
    · exact hstab _ _ _ _ hIy fun b o _ _ hD e => hs₅.extBut b o hD e
  · have hin : i = n := by omega
    subst hin
    refine W.done _ _ _ hst' fun h₁ tk₁ hk₁ => ?_
    exact hR h₁ tk₁ m' ys (hn'.at' fun o e => hk₁ _ o hCw e) (hacc'.at fun o e => hk₁ _ o hDw e) hysz (hstab _ _ _ _ hI fun b o _ hw _ e => hk₁ b o hw e) fun b o hbC hbf hbD hbm e => hk₁ b o hbf (hk b o hbC hbf hbD hbm e)
end

section
variable {prog : Program} {w : World} {A : Around} {E : Value → Shared → Prop} {env : Env}

structure EltJ (prog : Program) (w : World) (A : Around) (env : Env) (scope : Scope) (cl : List (Str × Addr)) (x : Str) (elt : PySem.Expr) (wr me : List Addr) (n : Nat) (P : Nat → Value → Prop)
    (Inv : Addr → Addr → Nat → Array Value → Heap → Prop) (s₂ : Shared) : Prop where
  start : ∀ C D h, s₂.heap.objs.size ≤ C → s₂.heap.objs.size ≤ D → (∀ b o, s₂.heap.get? b = some o → h.get? b = some o) → Inv C D 0 #[] h
  stab : ∀ C D i ys h h', Inv C D i ys h → (∀ b o, b ≠ C → b ∉ wr → b ≠ D → h.get? b = some o → h'.get? b = some o) → Inv C D i ys h'
  elt : ∀ C D i v s₃ m₃ ys E', s₂.heap.objs.size ≤ C → s₂.heap.objs.size ≤ D → C ≠ D → i < n → P i v → Inv C D i ys s₃.heap → s₃.heap.Ns C m₃ → m₃ x = some v → s₃.heap.PlainList D ys → (∀ b o, b ∉ wr → b ∉ me → s₂.heap.get? b = some o → s₃.heap.get? b = some o) →
    (∃ h tk, s₃ = { s₂ with heap := h, toks := tk }) →
    wpAny (model prog w) A (eval elt (compEnvC scope cl C env)) (fun y s₄ => Inv C D (i + 1) (ys.push y) s₄.heap ∧ KBut me s₃ s₄) E' s₃

theorem comp_blockJ {elt iter : PySem.Expr} {x : Str} {px : Pos} {scope : Scope} {cl : List (Str × Addr)} {pos : Pos} {s₂ : Shared} {I : Addr} {fp wr me : List Addr} {n : Nat} {P : Nat → Value → Prop}
    {St : Nat → Heap → Prop} (W : Walks prog w A I fp wr n P St) (hsz : n ≤ 100000) (Inv : Addr → Addr → Nat → Array Value → Heap → Prop) {RR : Value → Addr → Result → Shared → Prop}
    (hcell : ∀ y ∈ scope.names, y.2 ≠ .cell) (hkind : scope.kind = .function) (hx : scope.names.lookup x = some .local) (hst : St 0 s₂.heap) (hfp : ∀ b ∈ fp, b < s₂.heap.objs.size) (hme : ∀ b ∈ me, b < s₂.heap.objs.size) (hfm : ∀ b ∈ fp, b ∉ me)
    (hq : EltJ prog w A env scope cl x elt wr me n P Inv s₂)
    (hRR : ∀ D C h' tk m' ys, s₂.heap.get? D = none → s₂.heap.get? C = none → D ≠ C → h'.Ns C m' → h'.PlainList D ys → ys.size = n → Inv C D n ys h' →
      (∀ b o, b ∉ wr → b ∉ me → s₂.heap.get? b = some o → h'.get? b = some o) → RR (.ref D) C (.ok .next) { s₂ with heap := h', toks := tk }) :
    wpAny (model prog w) A (newList []) (fun acc s₃ => wpAny (model prog w) A (newFunctionEnv scope env.globals cl [] env.qual none .none (some env)) (fun cenv s₄ =>
      codeAny (model prog w) A (.compStart (.ListComp elt [⟨.Name x px, iter, [], 0⟩] scope pos) 0 (.ref I) acc { cenv with scope := relabel scope env }) (RR acc cenv.locals) s₄) E s₃) E s₂ := by
  refine wpAny_newObj_type (wpAny_newFunctionEnv hcell (by intro y hy; simp at hy) (fun h₁ hns₁ hsb₁ => ?_) hkind)
  dsimp only at hns₁ hsb₁ ⊢
  generalize hH2 : s₂.heap.push { cls := .type "list", dict := none, data := .seq ([] : List Value).toArray } = H2 at hns₁ hsb₁ ⊢
  have hC : H2.objs.size = s₂.heap.objs.size + 1 := by rw [← hH2, Heap.size_push]
  have hDC : s₂.heap.objs.size ≠ H2.objs.size := by rw [hC]; exact Nat.ne_of_lt (Nat.lt_succ_self _)
  have hCle : s₂.heap.objs.size ≤ H2.objs.size := by rw [hC]; exact Nat.le_succ _
  have below : ∀ b, b < s₂.heap.objs.size → b ≠ H2.objs.size ∧ b ≠ s₂.heap.objs.size := fun b hb => ⟨by rw [hC]; exact Nat.ne_of_lt (Nat.lt_succ_of_lt hb), Nat.ne_of_lt hb⟩
  have hDf : s₂.heap.objs.size ∉ fp := fun hm => Nat.lt_irrefl _ (hfp _ hm)
  have hCf : H2.objs.size ∉ fp := fun hm => by have := hfp _ hm; rw [hC] at this; exact Nat.lt_irrefl _ (Nat.lt_of_succ_lt this)
  have hDm : s₂.heap.objs.size ∉ me := fun hm => Nat.lt_irrefl _ (hme _ hm)
  have hCm : H2.objs.size ∉ me := fun hm => by have := hme _ hm; rw [hC] at this; exact Nat.lt_irrefl _ (Nat.lt_of_succ_lt this)
  have old : ∀ b o, s₂.heap.get? b = some o → h₁.get? b = some o := fun b o e => hsb₁.extBut b o (below b (Heap.lt_size e)).1 (Heap.get?_push_of_some _ (hH2 ▸ Heap.get?_push_of_some _ e))
  have hacc : h₁.PlainList s₂.heap.objs.size #[] := ⟨_, hsb₁.extBut _ _ hDC (Heap.get?_push_of_some _ (hH2 ▸ Heap.get?_push_size _ rfl))⟩
  have hst₁ : St 0 h₁ := W.frame _ _ _ hst fun b _ o e => old b o e
  have fresh : ∀ a, s₂.heap.objs.size ≤ a → s₂.heap.get? a = none := fun a ha => by
    cases e : s₂.heap.get? a with
    | none => rfl
    | some o' => exact absurd (Heap.lt_size e) (Nat.not_lt.mpr ha)
  have loop : ∀ s₃ : Shared, s₃ = { s₂ with heap := h₁, toks := s₂.toks + ([] : List (Str × Value)).length } →
      codeAny (model prog w) A (.compLoop (.ListComp elt [⟨.Name x px, iter, [], 0⟩] scope pos) 0 (.ref I) (.ref s₂.heap.objs.size) (compEnvC scope cl H2.objs.size env))
        (RR (.ref s₂.heap.objs.size) H2.objs.size) s₃ := by
    rintro s₃ rfl
    refine compLoopJ (me := me) (cenv := compEnvC scope cl H2.objs.size env) W (Inv H2.objs.size s₂.heap.objs.size) (lookup_relabel_local hx) (by simp [compEnvC, relabel, hkind]) hDC hDf hCf hDm hCm hfm hst₁ hacc hns₁
      (hq.start _ _ _ hCle (Nat.le_refl _) old) (fun i ys h h' hI hk => hq.stab _ _ i ys h h' hI hk) ?_ ?_ hsz
    · rintro i v s₃ m₃ ys hi hv hI hn hm hpl hk ⟨h, tk, rfl⟩
      exact hq.elt _ _ i v _ m₃ ys _ hCle (Nat.le_refl _) (Ne.symm hDC) hi hv hI hn hm hpl (fun b o hbf hbm e => hk b o (below b (Heap.lt_size e)).1 hbf (below b (Heap.lt_size e)).2 hbm (old b o e)) ⟨h, tk, rfl⟩
    · intro h' tk m' ys hn hpl hsz' hI hk
      exact hRR _ _ h' tk m' ys (fresh _ (Nat.le_refl _)) (fresh _ (by rw [hC]; exact Nat.le_succ _)) hDC hn hpl hsz' hI fun b o hbf hbm e =>
        hk b o (below b (Heap.lt_size e)).1 hbf (below b (Heap.lt_size e)).2 hbm (old b o e)
  exact codeAny_compStart_list (loop _ rfl) (W.self 0 _ _ _ hst₁ (loop _ rfl))

noncomputable def ValJ (prog : Program) (w : World) (A : Around) (env : Env) (scope : Scope) (cl : List (Str × Addr)) (x : Str) (elt : PySem.Expr) (me : List Addr) (Inv : Addr → Addr → Nat → Array Value → Heap → Prop) (Q : Value → Shared → Prop) (it : Value) (s₂ : Shared) : Prop :=
  ∃ I fp wr n P St, it = .ref I ∧ Walks prog w A I fp wr n P St ∧ n ≤ 100000 ∧ St 0 s₂.heap ∧ (∀ b ∈ fp, b < s₂.heap.objs.size) ∧ (∀ b ∈ me, b < s₂.heap.objs.size) ∧ (∀ b ∈ fp, b ∉ me) ∧
      EltJ prog w A env scope cl x elt wr me n P Inv s₂ ∧
      (∀ C D h' tk ys, s₂.heap.get? D = none → s₂.heap.get? C = none → D ≠ C → h'.PlainList D ys → ys.size = n → Inv C D n ys h' →
        (∀ b o, b ∉ wr → b ∉ me → s₂.heap.get? b = some o → h'.get? b = some o) → Q (.ref D) { s₂ with heap := h', toks := tk })

noncomputable def AsgJ (prog : Program) (w : World) (A : Around) (env : Env) (scope : Scope) (cl : List (Str × Addr)) (x : Str) (elt : PySem.Expr) (me : List Addr) (Inv : Addr → Addr → Nat → Array Value → Heap → Prop) (y : Str) (Q : Flow → Shared → Prop) (it : Value) (s₂ : Shared) : Prop :=
  ∃ I fp wr n P St m, it = .ref I ∧ Walks prog w A I fp wr n P St ∧ n ≤ 100000 ∧ St 0 s₂.heap ∧ (∀ b ∈ fp, b < s₂.heap.objs.size) ∧ (∀ b ∈ me, b < s₂.heap.objs.size) ∧ (∀ b ∈ fp, b ∉ me) ∧
      env.locals ∉ wr ∧ env.locals ∉ me ∧ s₂.heap.Ns env.locals m ∧ EltJ prog w A env scope cl x elt wr me n P Inv s₂ ∧
      (∀ C D h' tk ys, s₂.heap.get? D = none → s₂.heap.get? C = none → D ≠ C → h'.PlainList D ys → ys.size = n → (∃ h'', Inv C D n ys h'' ∧ ∀ b o, b ≠ env.locals → b ≠ C → h''.get? b = some o → h'.get? b = some o) →
        h'.Ns env.locals (fun z => if z = y then some (.ref D) else m z) → (∀ b o, b ≠ env.locals → b ∉ wr → b ∉ me → s₂.heap.get? b = some o → h'.get? b = some o) → Q .next { s₂ with heap := h', toks := tk })


theorem Assign_ListCompJ {s : Shared} {elt iter : PySem.Expr} {x y : Str} {px py : Pos} {scope : Scope} {cl : List (Str × Addr)} {pos spos : Pos} {Q : Flow → Shared → Prop} (Inv : Addr → Addr → Nat → Array Value → Heap → Prop) (me : List Addr)
    (hsw : swapsWith (.ListComp elt [⟨.Name x px, iter, [], 0⟩] scope pos) (some (.Name y py)) spos.line env = pure true)
    (hclos : closureFor scope env = pure cl) (hcell : ∀ z ∈ scope.names, z.2 ≠ .cell) (hkind : scope.kind = .function)
    (hnames : ∀ z ∈ scope.names, z.2 = .local → scope.names.lookup z.1 = some .local) (hx : scope.names.lookup x = some .local)
    (hy : env.kindOf y = some .local) (hp : (env.scope.kind == .class || (env.scope.kind == .module && env.locals != env.globals)) = false)
    (h : wpAny (model prog w) A (eval iter env) (fun xv s₁ => wpAny (model prog w) A (pyIter xv) (fun it s₂ => AsgJ prog w A env scope cl x elt me Inv y Q it s₂) E s₁) E s)
    (hs : ∀ x, foldedSetIterable iter env x = pure x) :
    wpAny (model prog w) A (exec (.Assign [.Name y py] (.ListComp elt [⟨.Name x px, iter, [], 0⟩] scope pos) spos) env) Q E s := by
  rw [exec_Assign_Name_used _ _ _ _ hsw]
  refine wpAny_bind (wpAny_standAt (wpAny_bind ?_))
  show wpAny _ A (do let _ ← comprehension (.ListComp elt [⟨.Name x px, iter, [], 0⟩] scope pos) scope env _ (newList []) false (eval iter env) (some (assign (.Name y py) env))) _ _ s
  refine wpAny_bind (wpAny_mono (wpAny_comprehension_free (use := some (assign (.Name y py) env)) (Q := fun _ s' => Q .next s') rfl hs hclos hkind hnames
    (wpAny_mono h (fun xv s₁ h₁ => wpAny_mono h₁ (fun it s₂ h₂ => ?_) fun _ _ e => e) fun _ _ e => e)) (fun _ s' hq => wpAny_pure (wpAny_pure hq)) fun _ _ e => e)
  obtain ⟨I, fp, wr, n, P, St, m, rfl, W, hsz, hst, hfp, hme, hfm, hLf, hLm, hn, hq, hQ⟩ := h₂
  refine comp_blockJ (me := me) (RR := fun acc C => compPost (model prog w) A E (some (assign (.Name y py) env)) (fun _ s' => Q .next s') acc C) W hsz Inv hcell hkind hx hst hfp hme hfm hq ?_
  intro D C h' tk m' ys hD hC hDC hnC hplD hlen hI hk
  have hLC : env.locals ≠ C := by rintro rfl; obtain ⟨o, _, _, ho, _⟩ := hn; rw [hC] at ho; cases ho
  have hLD : env.locals ≠ D := by rintro rfl; obtain ⟨o, _, _, ho, _⟩ := hn; rw [hD] at ho; cases ho
  show wpAny _ A (assign (.Name y py) env (.ref D)) _ _ _
  refine wpAny_assign_Name (wpAny_storeName_local hy (hn.at' fun o e => hk _ o hLf hLm e) (fun h₂ hn₂ hs₂ => ?_) hp)
  refine ⟨m', hnC.sameBut hs₂ (Ne.symm hLC), fun h₃ hs₃ => ?_⟩
  exact hQ C D h₃ _ ys hD hC hDC ((hplD.extBut hs₂.extBut (Ne.symm hLD)).extBut hs₃.extBut hDC) hlen ⟨h', hI, fun b o hbL hbC e => hs₃.extBut b o hbC (hs₂.extBut b o hbL e)⟩ (hn₂.sameBut hs₃ hLC) fun b o hbL hbf hbm e =>
    hs₃.extBut b o (by rintro rfl; rw [hC] at e; cases e) (hs₂.extBut b o hbL (hk b o hbf hbm e))

theorem comp_local {M : Model} {s : Shared} {scope : Scope} {cl : List (Str × Addr)} {C : Addr} {x : Str} {pos : Pos} {m : Str → Option Value} {v : Value} {Q : Value → Shared → Prop} (hx : scope.names.lookup x = some .local) (hkind : scope.kind = .function)
    (hn : s.heap.Ns C m) (hv : m x = some v) (h : Q v s) (hd : (x == ("__debug__" : Str)) = false) : wpAny M A (eval (.Name x pos) (compEnvC scope cl C env)) Q E s :=
  wpAny_Name (wpAny_loadName_local (env := compEnvC scope cl C env) hkind (lookup_relabel_local hx) hn hv h) hd
end
end

/-! Loops -/
section
section
variable {prog : Program} {w : World} {A : Around} {E : Value → Shared → Prop} {s : Shared} {env : Env} {h₀ : Heap} {x : Str} {body : List Stmt} {Q : Flow → Shared → Prop}

noncomputable def RPost (h₀ : Heap) (L : Addr) (I : Addr) (oI : Obj) (J : (Str → Option Value) → List (Addr × Obj) → Prop) (s : Shared) (Q : Flow → Shared → Prop) (f : Flow) (s₂ : Shared) : Prop :=
  match f with
  | .ret v => Q (.ret v) s₂
  | .brk => Q .next s₂
  | _ => ∃ h' tk m' news', s₂ = { s with heap := h', toks := tk } ∧ Fr h₀ L h' m' ∧ News h₀ L h' ((I, oI) :: news') ∧ (∀ p ∈ news', p.1 ≠ I) ∧ J m' news'

theorem iter_rangeJ {r : Addr} {a₀ b₀ c : Int} {t₀ u₀ v₀ : Tok} {n : Nat} {m₀ : Str → Option Value} {news : List (Addr × Obj)} (J : Nat → (Str → Option Value) → List (Addr × Obj) → Prop)
    (hh : A.handled = none) (hr : IsRange s.heap r a₀ b₀ c t₀ u₀ v₀) (hsmall : Builtin.Range.small a₀ b₀ c = true) (hn : Builtin.Range.rangeSize a₀ b₀ c = (n : Int)) (F : Fr h₀ env.locals s.heap m₀) (N : News h₀ env.locals s.heap news)
    (hj : J 0 m₀ news)
    (turn : ∀ i t m₁ news₁ h tk I oI, i < n → J i m₁ news₁ → (∀ p ∈ news₁, p.1 ≠ I) → Fr h₀ env.locals h (fun y => if y = x then some (.int (a₀ + (i : Int) * c) t) else m₁ y) →
      News h₀ env.locals h ((I, oI) :: news₁) →
      wpAny (model prog w) A (execs body env) (RPost h₀ env.locals I oI (J (i + 1)) { s with heap := h, toks := tk } Q) E { s with heap := h, toks := tk })
    (done : ∀ m₁ news₁ h tk, J n m₁ news₁ → Fr h₀ env.locals h m₁ → News h₀ env.locals h news₁ → Q .next { s with heap := h, toks := tk }) :
    wpAny (model prog w) A (pyIter (.ref r)) (fun it s₂ => LoopAtV prog w A h₀ env x body Q E it s₂) E s := by
  refine wpAny_pyIter_range hr hsmall ?_
  have W : Walks prog w A s.heap.objs.size [s.heap.objs.size] [s.heap.objs.size] n (fun i v => i < n ∧ ∃ t, v = .int (a₀ + i * c) t)
      (fun i h => IsRangeIter h s.heap.objs.size (a₀ + (i : Nat) * c) ((n : Int) - (i : Nat)) c) := (Walks.range hh _ a₀ c n).bound
  have hnew := next_is_new F
  refine ⟨_, _, _, n, _, _, m₀, news, J, rfl, W, ?_, ?_, ?_, (by show IsRangeIter _ _ _ _ _; rw [hn]; simpa using Heap.get?_push_size _ rfl), F.push _, (fun p hp => ⟨Heap.get?_push_of_some _ (N p hp).1, (N p hp).2⟩), hj, ?_, ?_⟩
  · intro hm
    exact absurd F.ns.lt ((List.mem_singleton.mp hm) ▸ Nat.lt_irrefl _)
  · intro b hb
    rw [List.mem_singleton.mp hb]
    exact hnew
  · intro p hp hI
    exact absurd (Heap.lt_size (N p hp).1) ((List.mem_singleton.mp hI) ▸ Nat.lt_irrefl _)
  · rintro i v m₁ news₁ s₁ own ⟨hh', tk', rfl⟩ hin ⟨_, t, rfl⟩ hJ hoff hown hget hall hst F₁ N₁
    have hst' : hh'.get? s.heap.objs.size = some (krsIt (a₀ + ((i + 1 : Nat) : Int) * c) ((n : Int) - ((i + 1 : Nat) : Int)) c) := hst
    have hmem := hall s.heap.objs.size (List.mem_singleton.mpr rfl) hnew _ hst'
    have N₂ : News h₀ env.locals hh' ((s.heap.objs.size, krsIt (a₀ + ((i + 1 : Nat) : Int) * c) ((n : Int) - ((i + 1 : Nat) : Int)) c) :: news₁) := fun p hp => by
      rcases List.mem_cons.mp hp with rfl | hp
      · exact N₁ _ (List.mem_append_left _ hmem)
      · exact N₁ _ (List.mem_append_right _ hp)
    have hoff' : ∀ p ∈ news₁, p.1 ≠ s.heap.objs.size := fun p hp q => hoff p hp (List.mem_singleton.mpr q)
    refine wpAny_mono (turn i t m₁ news₁ hh' tk' _ _ hin hJ hoff' F₁ N₂) (fun f s₂ p => ?_) fun _ _ e => e
    have fin : RPost h₀ env.locals s.heap.objs.size (krsIt (a₀ + ((i + 1 : Nat) : Int) * c) ((n : Int) - ((i + 1 : Nat) : Int)) c) (J (i + 1)) { s with heap := hh', toks := tk' } Q .next s₂ →
        LoopStepU h₀ env.locals [s.heap.objs.size] own (J (i + 1)) { s with heap := hh', toks := tk' } .next s₂ := by
      rintro ⟨h', tk, m', news', e, F', N', ho, r⟩
      refine ⟨rfl, h', tk, m', news', e, F', fun p hp => ?_, fun p hp hI => ho p hp (List.mem_singleton.mp hI), r⟩
      rcases List.mem_append.mp hp with hp | hp
      · have h1 : p.1 = s.heap.objs.size := List.mem_singleton.mp (hown p hp)
        have h2 : hh'.get? p.1 = some p.2 := hget p hp
        have h3 : p = (s.heap.objs.size, krsIt (a₀ + ((i + 1 : Nat) : Int) * c) ((n : Int) - ((i + 1 : Nat) : Int)) c) := by
          rw [h1, hst'] at h2
          exact Prod.ext h1 (Option.some.inj h2).symm
        rw [h3]; exact N' _ (List.mem_cons_self ..)
      · exact N' _ (List.mem_cons_of_mem _ hp)
    cases f with
    | ret v => exact .ret p
    | brk => exact .brk p
    | next => exact .next (fin p)
    | cont => exact .cont (fin p)
  · rintro h' tk m' news' F' N' _ hJ
    exact done m' news' h' tk hJ F' N'

theorem news_add {h₀ h h' : Heap} {L a : Addr} {o : Obj} {m : Str → Option Value} {news : List (Addr × Obj)} (F : Fr h₀ L h m) (N : News h₀ L h' news) (k : ∀ b o, h.get? b = some o → h'.get? b = some o) (ha : h.get? a = none) (ho : h'.get? a = some o) :
    News h₀ L h' ((a, o) :: news) := by
  intro p hp
  rcases List.mem_cons.mp hp with rfl | hp
  · refine ⟨ho, ?_, ?_⟩
    · rintro rfl
      obtain ⟨oL, _, _, hL, _⟩ := F.ns
      rw [ha] at hL; cases hL
    · cases q : h₀.get? a with
      | none => rfl
      | some o' => rw [F.keep _ _ q] at ha; cases ha
  · exact N p hp
theorem news_off {h₀ h : Heap} {L a : Addr} {news : List (Addr × Obj)} (N : News h₀ L h news) (ha : h.get? a = none) : ∀ p ∈ news, p.1 ≠ a := by
  rintro p hp rfl
  rw [(N p hp).1] at ha; cases ha

section
variable {m : Str → Option Value} {L : Addr} {news : List (Addr × Obj)}
theorem range1_L {Q : Value → Shared → Prop} {b : Int} {u : Tok} (F : Fr h₀ L s.heap m) (N : News h₀ L s.heap news)
    (h : ∀ r h' tk t₁ u₁ v₁, IsRange h' r 0 b 1 t₁ u₁ v₁ → Fr h₀ L h' m → News h₀ L h' news → (∀ b o, s.heap.get? b = some o → h'.get? b = some o) → Q (.ref r) { s with heap := h', toks := tk }) :
    wpAny (model prog w) A (call (.type "range") [.int b u]) Q E s :=
  call_range_1 (h _ _ _ _ _ _ (IsRange.new ..) (F.push _) (fun p hq => ⟨Heap.get?_push_of_some _ (N p hq).1, (N p hq).2⟩) fun _ _ e => Heap.get?_push_of_some _ e)
theorem range3_L {Q : Value → Shared → Prop} {a b c : Int} {t u v : Tok} (F : Fr h₀ L s.heap m) (N : News h₀ L s.heap news) (hc : 0 < c) (hs : c < 100) (hb : -100000 ≤ b - a) (hb' : b - a ≤ 100000)
    (h : ∀ r h' tk t₁ u₁ v₁, IsRange h' r a b c t₁ u₁ v₁ → Fr h₀ L h' m → News h₀ L h' news → (∀ b o, s.heap.get? b = some o → h'.get? b = some o) → Q (.ref r) { s with heap := h', toks := tk }) :
    wpAny (model prog w) A (call (.type "range") [.int a t, .int b u, .int c v]) Q E s :=
  range3_rows F N (by omega) (fun h' tk t₁ u₁ v₁ a b c d => h _ h' tk t₁ u₁ v₁ a b c d) (.inl (PyProof.noPylong_small (by omega)))
end

section
variable {m₀ : Str → Option Value} {L : Addr} {news : List (Addr × Obj)}
inductive IEnd (h₀ : Heap) (L : Addr) (s : Shared) (m₀ : Str → Option Value) (news : List (Addr × Obj)) (x : Str) (J : Int → Prop) (μ : Int → Nat) (a : Int) (s₂ : Shared) : Prop
  | mk (a' : Int) (t' : Tok) (m' : Str → Option Value) (h' : Heap) (tk : Nat) : s₂ = { s with heap := h', toks := tk } → Fr h₀ L h' m' → News h₀ L h' news → m' x = some (.int a' t') → (∀ z, z ≠ x → m' z = m₀ z) → J a' → μ a' < μ a → IEnd h₀ L s m₀ news x J μ a s₂
noncomputable def IPost (h₀ : Heap) (L : Addr) (s : Shared) (m₀ : Str → Option Value) (news : List (Addr × Obj)) (x : Str) (J : Int → Prop) (μ : Int → Nat) (a : Int) (Q : Flow → Shared → Prop) : Flow → Shared → Prop :=
  PostW (IEnd h₀ L s m₀ news x J μ a) Q
inductive IInv (m₀ : Str → Option Value) (news : List (Addr × Obj)) (x : Str) (J : Int → Prop) (μ : Int → Nat) (k : Nat) (m : Str → Option Value) (nx : List (Addr × Obj)) : Prop
  | mk (a : Int) (t : Tok) : k = μ a → nx = news → m x = some (.int a t) → (∀ z, z ≠ x → m z = m₀ z) → J a → IInv m₀ news x J μ k m nx

structure OneInt (x : Str) (J : Int → Prop) (μ : Int → Nat) : Prop where

theorem while_int {test : PySem.Expr} {pos : Pos} {x : Str} {J : Int → Prop} {μ : Int → Nat} {a₀ : Int} {t₀ : Tok} (_about : OneInt x J μ) (F : Fr h₀ L s.heap m₀) (N : News h₀ L s.heap news) (h1 : m₀ x = some (.int a₀ t₀)) (hJ : J a₀)
    (turn : ∀ a t h tk, J a → Fr h₀ L h (fun z => if z = x then some (.int a t) else m₀ z) → News h₀ L h news →
      wpAny (model prog w) A (isTrue test env (eval test env)) (fun b s₂ =>
        if b = true then wpAny (model prog w) A (execs body env) (IPost h₀ L s m₀ news x J μ a Q) E s₂ else Q .next s₂) E { s with heap := h, toks := tk })
    (hE : PassesOwn (model prog w) A env E) :
    wpAny (model prog w) A (exec (.While test body [] pos) env) Q E s := by
  refine While_inv2 (IInv m₀ news x J μ) F N ⟨a₀, t₀, rfl, rfl, h1, fun _ _ => rfl, hJ⟩ ?_ hE
  rintro k m₁ nx h tk F₁ N₁ ⟨a, t, rfl, rfl, e1, e2, hJ'⟩
  have em : m₁ = fun z => if z = x then some (.int a t) else m₀ z := by
    funext z
    by_cases q : z = x
    · rw [if_pos q, q, e1]
    · rw [if_neg q]; exact e2 z q
  rw [em] at F₁
  refine while_turn (turn a t h tk hJ' F₁ N₁) ?_
  rintro s₃ ⟨a', t', m', h', tk', rfl, F', N', a1, a2, a3, a4⟩
  exact ⟨h', tk', m', nx, μ a', rfl, F', N', a4, a', t', rfl, rfl, a1, a2, a3⟩
theorem ipost {x : Str} {J : Int → Prop} {μ : Int → Nat} {a a' : Int} {t' : Tok} {m' : Str → Option Value} {h' : Heap} {tk : Nat} (F : Fr h₀ L h' m') (N : News h₀ L h' news) (h1 : m' x = some (.int a' t')) (h2 : ∀ z, z ≠ x → m' z = m₀ z) (hJ : J a') (hm : μ a' < μ a) :
    IPost h₀ L s m₀ news x J μ a Q .next { s with heap := h', toks := tk } := ⟨a', t', m', h', tk, rfl, F, N, h1, h2, hJ, hm⟩

inductive I2End (h₀ : Heap) (L : Addr) (s : Shared) (m₀ : Str → Option Value) (news : List (Addr × Obj)) (x y z : Str) (J : Int → Int → Prop) (μ : Int → Int → Nat) (a b : Int) (s₂ : Shared) : Prop
  | mk (a' b' : Int) (t' u' : Tok) (m' : Str → Option Value) (h' : Heap) (tk : Nat) : s₂ = { s with heap := h', toks := tk } → Fr h₀ L h' m' → News h₀ L h' news → m' x = some (.int a' t') → m' y = some (.int b' u') →
      (∀ k, k ≠ x → k ≠ y → k ≠ z → m' k = m₀ k) → J a' b' → μ a' b' < μ a b → I2End h₀ L s m₀ news x y z J μ a b s₂
noncomputable def I2Post (h₀ : Heap) (L : Addr) (s : Shared) (m₀ : Str → Option Value) (news : List (Addr × Obj)) (x y z : Str) (J : Int → Int → Prop) (μ : Int → Int → Nat) (a b : Int) (Q : Flow → Shared → Prop) : Flow → Shared → Prop :=
  PostW (I2End h₀ L s m₀ news x y z J μ a b) Q
inductive I2Inv (m₀ : Str → Option Value) (news : List (Addr × Obj)) (x y z : Str) (J : Int → Int → Prop) (μ : Int → Int → Nat) (n : Nat) (m : Str → Option Value) (nx : List (Addr × Obj)) : Prop
  | mk (a b : Int) (t u : Tok) : n = μ a b → nx = news → m x = some (.int a t) → m y = some (.int b u) → (∀ k, k ≠ x → k ≠ y → k ≠ z → m k = m₀ k) → J a b → I2Inv m₀ news x y z J μ n m nx

structure TwoInts (x y z : Str) (J : Int → Int → Prop) (μ : Int → Int → Nat) : Prop where

theorem while_int2 {test : PySem.Expr} {pos : Pos} {x y z : Str} {J : Int → Int → Prop} {μ : Int → Int → Nat} {a₀ b₀ : Int} {t₀ u₀ : Tok} (_about : TwoInts x y z J μ) (F : Fr h₀ L s.heap m₀) (N : News h₀ L s.heap news) (h1 : m₀ x = some (.int a₀ t₀)) (h2 : m₀ y = some (.int b₀ u₀)) (hJ : J a₀ b₀)
    (turn : ∀ a b t u v h tk, J a b → Fr h₀ L h (fun k => if k = y then some (.int b u) else if k = x then some (.int a t) else if k = z then v else m₀ k) → News h₀ L h news →
      wpAny (model prog w) A (isTrue test env (eval test env)) (fun c s₂ =>
        if c = true then wpAny (model prog w) A (execs body env) (I2Post h₀ L s m₀ news x y z J μ a b Q) E s₂ else Q .next s₂) E { s with heap := h, toks := tk })
    (hE : PassesOwn (model prog w) A env E) :
    wpAny (model prog w) A (exec (.While test body [] pos) env) Q E s := by
  refine While_inv2 (I2Inv m₀ news x y z J μ) F N ⟨a₀, b₀, t₀, u₀, rfl, rfl, h1, h2, fun _ _ _ _ => rfl, hJ⟩ ?_ hE
  rintro n m₁ nx h tk F₁ N₁ ⟨a, b, t, u, rfl, rfl, e1, e2, e3, hJ'⟩
  have em : m₁ = fun k => if k = y then some (.int b u) else if k = x then some (.int a t) else if k = z then m₁ z else m₀ k := by
    funext k
    by_cases q : k = y
    · rw [if_pos q, q, e2]
    · rw [if_neg q]
      by_cases q1 : k = x
      · rw [if_pos q1, q1, e1]
      · rw [if_neg q1]
        by_cases q2 : k = z
        · rw [if_pos q2, q2]
        · rw [if_neg q2]; exact e3 k q1 q q2
  have F₂ : Fr h₀ L h (fun k => if k = y then some (.int b u) else if k = x then some (.int a t) else if k = z then m₁ z else m₀ k) := em ▸ F₁
  refine while_turn (turn a b t u (m₁ z) h tk hJ' F₂ N₁) ?_
  rintro s₃ ⟨a', b', t', u', m', h', tk', rfl, F', N', a1, a2, a3, a4, a5⟩
  exact ⟨h', tk', m', nx, μ a' b', rfl, F', N', a5, a', b', t', u', rfl, rfl, a1, a2, a3, a4⟩
theorem i2post {x y z : Str} {J : Int → Int → Prop} {μ : Int → Int → Nat} {a b a' b' : Int} {t' u' : Tok} {m' : Str → Option Value} {h' : Heap} {tk : Nat} (F : Fr h₀ L h' m') (N : News h₀ L h' news) (h1 : m' x = some (.int a' t')) (h2 : m' y = some (.int b' u')) (h3 : ∀ k, k ≠ x → k ≠ y → k ≠ z → m' k = m₀ k) (hJ : J a' b') (hm : μ a' b' < μ a b) :
    I2Post h₀ L s m₀ news x y z J μ a b Q .next { s with heap := h', toks := tk } := ⟨a', b', t', u', m', h', tk, rfl, F, N, h1, h2, h3, hJ, hm⟩

inductive FEnd (h₀ : Heap) (L : Addr) (s : Shared) (m₀ : Str → Option Value) (D : Addr) (x : Str) (J : Int → List Value → Prop) (μ : Int → Nat) (a : Int) (s₂ : Shared) : Prop
  | mk (a' : Int) (t' : Tok) (fnd : List Value) (n : Nat) (m' : Str → Option Value) (h' : Heap) (tk : Nat) : s₂ = { s with heap := h', toks := tk } → Fr h₀ L h' m' → News h₀ L h' [(D, W.listOf fnd.toArray n)] →
      m' x = some (.int a' t') → (∀ k, k ≠ x → m' k = m₀ k) → J a' fnd → μ a' < μ a → FEnd h₀ L s m₀ D x J μ a s₂
noncomputable def FPost (h₀ : Heap) (L : Addr) (s : Shared) (m₀ : Str → Option Value) (D : Addr) (x : Str) (J : Int → List Value → Prop) (μ : Int → Nat) (a : Int) (Q : Flow → Shared → Prop) : Flow → Shared → Prop :=
  PostW (FEnd h₀ L s m₀ D x J μ a) Q
inductive FInv (m₀ : Str → Option Value) (D : Addr) (x : Str) (J : Int → List Value → Prop) (μ : Int → Nat) (n : Nat) (m : Str → Option Value) (nx : List (Addr × Obj)) : Prop
  | mk (a : Int) (t : Tok) (fnd : List Value) (c : Nat) : n = μ a → nx = [(D, W.listOf fnd.toArray c)] → m x = some (.int a t) → (∀ k, k ≠ x → m k = m₀ k) → J a fnd → FInv m₀ D x J μ n m nx

structure Filling (x : Str) (J : Int → List Value → Prop) (μ : Int → Nat) : Prop where

theorem while_fill {test : PySem.Expr} {pos : Pos} {x : Str} {D : Addr} {n₀ : Nat} {J : Int → List Value → Prop} {μ : Int → Nat} {a₀ : Int} {t₀ : Tok} (_about : Filling x J μ) (F : Fr h₀ L s.heap m₀) (N : News h₀ L s.heap [(D, W.listOf #[] n₀)]) (h1 : m₀ x = some (.int a₀ t₀)) (hJ : J a₀ [])
    (turn : ∀ a t fnd n h tk, J a fnd → Fr h₀ L h (fun k => if k = x then some (.int a t) else m₀ k) → News h₀ L h [(D, W.listOf fnd.toArray n)] →
      wpAny (model prog w) A (isTrue test env (eval test env)) (fun c s₂ =>
        if c = true then wpAny (model prog w) A (execs body env) (FPost h₀ L s m₀ D x J μ a Q) E s₂ else Q .next s₂) E { s with heap := h, toks := tk })
    (hE : PassesOwn (model prog w) A env E) :
    wpAny (model prog w) A (exec (.While test body [] pos) env) Q E s := by
  refine While_inv2 (FInv m₀ D x J μ) F N ⟨a₀, t₀, [], n₀, rfl, rfl, h1, fun _ _ => rfl, hJ⟩ ?_ hE
  rintro n m₁ nx h tk F₁ N₁ ⟨a, t, fnd, c, rfl, rfl, e1, e3, hJ'⟩
  have em : m₁ = fun k => if k = x then some (.int a t) else m₀ k := by
    funext k
    by_cases q1 : k = x
    · rw [if_pos q1, q1, e1]
    · rw [if_neg q1]; exact e3 k q1
  rw [em] at F₁
  refine while_turn (turn a t fnd c h tk hJ' F₁ N₁) ?_
  rintro s₃ ⟨a', t', fnd', n', m', h', tk', rfl, F', N', a1, a3, a4, a5⟩
  exact ⟨h', tk', m', _, μ a', rfl, F', N', a5, a', t', fnd', n', rfl, rfl, a1, a3, a4⟩
theorem fpost {x : Str} {D : Addr} {J : Int → List Value → Prop} {μ : Int → Nat} {a a' : Int} {t' : Tok} {fnd : List Value} {v : Value} {n : Nat} {m' : Str → Option Value} {h' : Heap} {tk : Nat} (F : Fr h₀ L h' m') (N : News h₀ L h' [(D, W.listOf (fnd.toArray.push v) n)]) (h1 : m' x = some (.int a' t')) (h3 : ∀ k, k ≠ x → m' k = m₀ k) (hJ : J a' (fnd ++ [v])) (hm : μ a' < μ a) :
    FPost h₀ L s m₀ D x J μ a Q .next { s with heap := h', toks := tk } := ⟨a', t', fnd ++ [v], n, m', h', tk, rfl, F, by simpa using N, h1, h3, hJ, hm⟩
end
end
end

/-! C3a -/
section
noncomputable def passV {α : Type} (cmp : α → α → Int) : List (List α) → List (List α)
  | a :: b :: r => mergeV cmp a b :: passV cmp r
  | [a] => [a]
  | [] => []

theorem passV_length {α : Type} (cmp : α → α → Int) : ∀ r : List (List α), (passV cmp r).length = (r.length + 1) / 2
  | [] => by simp [passV]
  | [a] => by simp [passV]
  | a :: b :: r => by rw [passV, List.length_cons, passV_length cmp r]; simp only [List.length_cons]; omega

noncomputable def sortRuns {α : Type} (cmp : α → α → Int) (r : List (List α)) : List α :=
  if h : 1 < r.length then sortRuns cmp (passV cmp r) else r.headD []
termination_by r.length
decreasing_by rw [passV_length]; omega

noncomputable def sortV {α : Type} (cmp : α → α → Int) (xs : List α) : List α := sortRuns cmp (xs.map fun x => [x])

theorem mergeV_length {α : Type} (cmp : α → α → Int) : ∀ l r : List α, (mergeV cmp l r).length = l.length + r.length := by
  intro l r
  induction l, r using merge_ind (cmp := cmp) with
  | case1 r => rw [mergeV_nil_left]; simp
  | case2 a l => rw [mergeV_nil_right]; simp
  | case3 a l b r h ih => rw [mergeV_cons, if_pos h, List.length_cons, ih]; simp only [List.length_cons]; omega
  | case4 a l b r h ih => rw [mergeV_cons, if_neg h, List.length_cons, ih]; simp only [List.length_cons]; omega

theorem mergeV_mem {α : Type} (cmp : α → α → Int) {x : α} : ∀ l r : List α, x ∈ mergeV cmp l r → x ∈ l ∨ x ∈ r := by
  intro l r
  induction l, r using merge_ind (cmp := cmp) with
  | case1 r => rw [mergeV_nil_left]; exact .inr
  | case2 a l => rw [mergeV_nil_right]; exact .inl
  | case3 a l b r h ih =>
    rw [mergeV_cons, if_pos h]
    intro hx
    rcases List.mem_cons.mp hx with rfl | hx
    · exact .inl (.head _)
    · exact (ih hx).imp (.tail _) id
  | case4 a l b r h ih =>
    rw [mergeV_cons, if_neg h]
    intro hx
    rcases List.mem_cons.mp hx with rfl | hx
    · exact .inr (.head _)
    · exact (ih hx).imp id (.tail _)

noncomputable def total {α : Type} (r : List (List α)) : Nat := (r.map List.length).sum
theorem passV_total {α : Type} (cmp : α → α → Int) : ∀ r : List (List α), total (passV cmp r) = total r
  | [] => rfl
  | [a] => rfl
  | a :: b :: r => by
    have ih := passV_total cmp r
    simp only [total, passV, List.map_cons, List.sum_cons, mergeV_length] at ih ⊢
    omega
theorem passV_mem {α : Type} (cmp : α → α → Int) {x : α} : ∀ {r : List (List α)} {l : List α}, l ∈ passV cmp r → x ∈ l → ∃ l', l' ∈ r ∧ x ∈ l'
  | [], _, h, _ => by cases h
  | [a], l, h, hx => ⟨l, h, hx⟩
  | a :: b :: r, l, h, hx => by
    rw [passV] at h
    rcases List.mem_cons.mp h with rfl | h
    · exact (mergeV_mem cmp a b hx).elim (fun q => ⟨a, .head _, q⟩) fun q => ⟨b, .tail _ (.head _), q⟩
    · obtain ⟨l', h1, h2⟩ := passV_mem cmp h hx
      exact ⟨l', .tail _ (.tail _ h1), h2⟩
theorem total_mem {α : Type} {r : List (List α)} {l : List α} (h : l ∈ r) : l.length ≤ total r := by
  induction r with
  | nil => cases h
  | cons a r ih =>
    simp only [total, List.map_cons, List.sum_cons] at ih ⊢
    rcases List.mem_cons.mp h with rfl | h
    · omega
    · have := ih h; omega
theorem total_two {α : Type} {r : List (List α)} {i : Nat} (h : i + 1 < r.length) : (r[i]).length + (r[i + 1]).length ≤ total r := by
  induction r generalizing i with
  | nil => simp at h
  | cons a r ih =>
    simp only [total, List.map_cons, List.sum_cons] at ih ⊢
    cases i with
    | zero =>
      have : (r[0]'(by simp at h; omega)) ∈ r := List.getElem_mem _
      have := total_mem this
      simp only [total] at this
      simp only [List.getElem_cons_zero, List.getElem_cons_succ]
      omega
    | succ i =>
      have := ih (i := i) (by simp at h; omega)
      simp only [List.getElem_cons_succ]
      omega

theorem passV_take {α : Type} (cmp : α → α → Int) : ∀ (r : List (List α)) (k : Nat), 2 * k + 1 < r.length → passV cmp (r.take (2 * k + 2)) = passV cmp (r.take (2 * k)) ++ [mergeV cmp (r[2 * k]!) (r[2 * k + 1]!)]
  | [], k, h => by simp at h
  | [a], k, h => by simp at h
  | a :: b :: r, 0, h => by simp [passV]
  | a :: b :: r, k + 1, h => by
    have ih := passV_take cmp r k (by simp at h; omega)
    have e1 : 2 * (k + 1) + 2 = (2 * k + 2) + 2 := by omega
    have e2 : 2 * (k + 1) = 2 * k + 2 := by omega
    have e3 : 2 * (k + 1) + 1 = 2 * k + 1 + 2 := by omega
    rw [e1, e3, e2]
    simp only [List.take_succ_cons, passV, ih, List.cons_append]
    rfl
theorem passV_odd {α : Type} (cmp : α → α → Int) : ∀ (r : List (List α)) (k : Nat), r.length = 2 * k + 1 → passV cmp r = passV cmp (r.take (2 * k)) ++ [r[2 * k]!]
  | [], k, h => by simp at h
  | [a], 0, h => by simp [passV]
  | [a], k + 1, h => by simp at h
  | a :: b :: r, 0, h => by simp at h
  | a :: b :: r, k + 1, h => by
    have ih := passV_odd cmp r k (by simp at h; omega)
    have e2 : 2 * (k + 1) = 2 * k + 2 := by omega
    rw [e2]
    simp only [List.take_succ_cons, passV, ih, List.cons_append]
    rfl

noncomputable def Has (tl : List (Addr × Obj)) (r : Addr) (vs : List Value) : Prop := ∃ n, (r, W.listOf vs.toArray n) ∈ tl

inductive RunsAre (tl : List (Addr × Obj)) : List Value → List (List Value) → Prop
  | nil : RunsAre tl [] []
  | cons {r : Addr} {vs : List Value} {rest : List Value} {vss : List (List Value)} : Has tl r vs → RunsAre tl rest vss → RunsAre tl (.ref r :: rest) (vs :: vss)

theorem RunsAre.mono {tl tl' : List (Addr × Obj)} (hs : ∀ p ∈ tl, p ∈ tl') {a : List Value} {b : List (List Value)} (h : RunsAre tl a b) : RunsAre tl' a b := by
  induction h with
  | nil => exact .nil
  | cons h _ ih => exact .cons (h.imp fun n q => hs _ q) ih
theorem RunsAre.snoc {tl : List (Addr × Obj)} {r : Addr} {vs : List Value} (hh : Has tl r vs) {a : List Value} {b : List (List Value)} (h : RunsAre tl a b) : RunsAre tl (a ++ [.ref r]) (b ++ [vs]) := by
  induction h with
  | nil => exact .cons hh .nil
  | cons h _ ih => exact .cons h ih
theorem RunsAre.length {tl : List (Addr × Obj)} {a : List Value} {b : List (List Value)} (h : RunsAre tl a b) : a.length = b.length := by
  induction h with
  | nil => rfl
  | cons _ _ ih => simp [ih]
theorem RunsAre.get {tl : List (Addr × Obj)} {a : List Value} {b : List (List Value)} (h : RunsAre tl a b) : ∀ {i : Nat} (hi : i < b.length), ∃ r, a[i]? = some (.ref r) ∧ Has tl r b[i] := by
  induction h with
  | nil => intro i hi; simp at hi
  | @cons r vs rest vss h _ ih =>
    intro i hi
    cases i with
    | zero => exact ⟨r, rfl, h⟩
    | succ i =>
      obtain ⟨r', h1, h2⟩ := ih (i := i) (by simp at hi; omega)
      exact ⟨r', by simpa using h1, by simpa using h2⟩
theorem Has.isList {h₀ h : Heap} {L r : Addr} {vs : List Value} {tl news : List (Addr × Obj)} (hh : Has tl r vs) (N : News h₀ L h news) (hs : ∀ p ∈ tl, p ∈ news) : h.IsList r vs.toArray := by
  obtain ⟨n, hn⟩ := hh
  exact ⟨_, (N _ (hs _ hn)).1, rfl, n, rfl⟩
end

/-! C3 -/
section

section
variable {prog : Program} {w : World} {A : Around} {E : Value → Shared → Prop} {s : Shared} {env : Env} {h₀ : Heap} {Q : Flow → Shared → Prop}

structure Sorting (cmp : Value → Value → Int) (D : Value → Prop) (k : Nat) : Prop where

structure Runs (tl : List (Addr × Obj)) (refs : List Value) (vss : List (List Value)) (D : Value → Prop) (k : Nat) : Prop where
  are : RunsAre tl refs vss
  mem : ∀ l ∈ vss, ∀ v ∈ l, D v
  tot : total vss = k
  small : vss.length ≤ 1000
  nonempty : vss ≠ []

noncomputable def PassJ (cmp : Value → Value → Int) (R DD : Addr) (nR : Nat) (refs : List Value) (vss : List (List Value)) (tl : List (Addr × Obj)) (m₁ : Str → Option Value) (k : Nat) (m : Str → Option Value) (news : List (Addr × Obj)) : Prop :=
  ∃ ds nd tl', news = (DD, W.listOf ds.toArray nd) :: (R, W.listOf refs.toArray nR) :: tl' ∧ (∀ p ∈ tl, p ∈ tl') ∧ RunsAre tl' ds (passV cmp (vss.take (2 * k))) ∧ (∀ p ∈ tl', @Ne Nat p.1 DD) ∧
    (∀ z, z ≠ Str.ofString "at" → m z = m₁ z)

theorem fits_small {z : Int} (h1 : -1000000 ≤ z) (h2 : z ≤ 1000000) : Builtin.Range.rangeFitsLong z = true := by
  unfold Builtin.Range.rangeFitsLong
  simp only [Bool.and_eq_true, decide_eq_true_eq]
  omega
theorem size_two {k : Nat} (h : 1 < k) : Builtin.Range.rangeSize 0 ((k : Int) - 1) 2 = ((k / 2 : Nat) : Int) := by
  unfold Builtin.Range.rangeSize
  rw [if_pos (by decide), if_pos (by omega)]
  omega
theorem small_two {k : Nat} (h1 : 1 < k) (hk : k ≤ 1000) : Builtin.Range.small 0 ((k : Int) - 1) 2 = true := by
  have e1 : -1000000 ≤ (k : Int) - 1 ∧ (k : Int) - 1 ≤ 1000000 := by omega
  have e2 : -1000000 ≤ ((k / 2 : Nat) : Int) ∧ ((k / 2 : Nat) : Int) ≤ 1000000 := by omega
  unfold Builtin.Range.small
  rw [size_two h1, fits_small (by decide) (by decide), fits_small e1.1 e1.2, fits_small (by decide) (by decide), fits_small e2.1 e2.2, if_pos (by decide)]
  rw [fits_small (by omega) (by omega), Bool.or_true]
  rfl
theorem pass_iter {r : Addr} {b₀ : Int} {t₀ u₀ v₀ : Tok} {body : List Stmt} {cmp : Value → Value → Int} {D : Value → Prop} {kk : Nat} {m₁ : Str → Option Value} {R DD : Addr} {nR : Nat} {refs : List Value} {vss : List (List Value)} {tl : List (Addr × Obj)}
    (_about : Sorting cmp D kk) (S : Runs tl refs vss D kk) (hr : IsRange s.heap r 0 b₀ 2 t₀ u₀ v₀) (hb : b₀ = (vss.length : Int) - 1) (h1 : 1 < vss.length) (hh : A.handled = none)
    (F : Fr h₀ env.locals s.heap m₁) (N : News h₀ env.locals s.heap ((DD, W.listOf #[] 0) :: (R, W.listOf refs.toArray nR) :: tl)) (hne : ∀ p ∈ tl, @Ne Nat p.1 DD) (hRD : @Ne Nat R DD)
    (turn : ∀ (k : Nat) (t : Tok) h tk I oI ds nd tl' r1 r2 l1 l2, k < vss.length / 2 → @Ne Nat DD I → @Ne Nat R I → @Ne Nat R DD → (∀ p ∈ tl', @Ne Nat p.1 I) → (∀ p ∈ tl, p ∈ tl') → (∀ p ∈ tl', @Ne Nat p.1 DD) →
      refs[2 * k]? = some (.ref r1) → refs[2 * k + 1]? = some (.ref r2) → Has tl' r1 l1 → Has tl' r2 l2 → l1 ∈ vss → l2 ∈ vss → l1.length + l2.length ≤ kk → ds.length ≤ 1000 →
      (∀ a n, RunsAre ((a, W.listOf (mergeV cmp l1 l2).toArray n) :: tl') (ds ++ [.ref a]) (passV cmp (vss.take (2 * (k + 1))))) →
      Fr h₀ env.locals h (fun y => if y = Str.ofString "at" then some (.int ((2 * k : Nat) : Int) t) else m₁ y) →
      News h₀ env.locals h ((I, oI) :: (DD, W.listOf ds.toArray nd) :: (R, W.listOf refs.toArray nR) :: tl') →
      wpAny (model prog w) A (execs body env) (RPost h₀ env.locals I oI (PassJ cmp R DD nR refs vss tl m₁ (k + 1)) { s with heap := h, toks := tk } Q) E { s with heap := h, toks := tk })
    (done : ∀ (u : Str → Option Value) ds nd tl' h tk, @Ne Nat R DD → ds.length ≤ 1000 → RunsAre tl' ds (passV cmp (vss.take (2 * (vss.length / 2)))) → (∀ p ∈ tl, p ∈ tl') → (∀ p ∈ tl', @Ne Nat p.1 DD) → Fr h₀ env.locals h (fun z => if z = Str.ofString "at" then u z else m₁ z) →
      News h₀ env.locals h ((DD, W.listOf ds.toArray nd) :: (R, W.listOf refs.toArray nR) :: tl') → Q .next { s with heap := h, toks := tk }) :
    wpAny (model prog w) A (pyIter (.ref r)) (fun it s₂ => LoopAtV prog w A h₀ env (Str.ofString "at") body Q E it s₂) E s := by
  have hsm := S.small
  subst hb
  refine iter_rangeJ (n := vss.length / 2) (PassJ cmp R DD nR refs vss tl m₁) hh hr (small_two h1 S.small) (size_two h1) F N ?_ ?_ ?_
  · exact ⟨[], 0, tl, rfl, fun _ h => h, by simpa [passV] using RunsAre.nil, hne, fun _ _ => rfl⟩
  · rintro k t m news h tk I oI hk ⟨ds, nd, tl', rfl, hsub, hruns, hne', hm⟩ hI Fk Nk
    have e0 : (0 : Int) + (k : Int) * 2 = ((2 * k : Nat) : Int) := by omega
    rw [e0] at Fk
    have em : (fun y => if y = Str.ofString "at" then some (Value.int ((2 * k : Nat) : Int) t) else m y) = fun y => if y = Str.ofString "at" then some (Value.int ((2 * k : Nat) : Int) t) else m₁ y := by
      funext y
      by_cases q : y = Str.ofString "at"
      · rw [if_pos q, if_pos q]
      · rw [if_neg q, if_neg q]; exact hm y q
    rw [em] at Fk
    have hl : 2 * k + 1 < vss.length := by omega
    obtain ⟨r1, g1, q1⟩ := S.are.get (i := 2 * k) (by omega)
    obtain ⟨r2, g2, q2⟩ := S.are.get (i := 2 * k + 1) hl
    have hds := hruns.length
    refine turn k t h tk I oI ds nd tl' r1 r2 vss[2 * k] vss[2 * k + 1] hk (hI _ (.head _)) (hI _ (.tail _ (.head _))) hRD (fun p hp => hI p (.tail _ (.tail _ hp))) hsub hne' g1 g2 (q1.imp fun n q => hsub _ q) (q2.imp fun n q => hsub _ q) (List.getElem_mem _) (List.getElem_mem _)
      (S.tot ▸ total_two hl) ?_ ?_ Fk Nk
    · rw [hds, passV_length, List.length_take]; omega
    · intro a n
      have e2 : 2 * (k + 1) = 2 * k + 2 := by omega
      rw [e2, passV_take cmp vss k hl, getElem!_pos vss (2 * k) (by omega), getElem!_pos vss (2 * k + 1) hl]
      exact (hruns.mono fun p hp => .tail _ hp).snoc ⟨n, .head _⟩
  · rintro m news h tk ⟨ds, nd, tl', rfl, hsub, hruns, hne', hm⟩ Fk Nk
    have em : m = fun z => if z = Str.ofString "at" then m z else m₁ z := by
      funext z
      by_cases q : z = Str.ofString "at"
      · rw [if_pos q]
      · rw [if_neg q]; exact hm z q
    have hds := hruns.length
    exact done m ds nd tl' h tk hRD (by rw [hds, passV_length, List.length_take]; omega) hruns hsub hne' (em ▸ Fk) Nk

inductive WEnd (h₀ : Heap) (L : Addr) (s : Shared) (m₀ : Str → Option Value) (cmp : Value → Value → Int) (vss : List (List Value)) (s₂ : Shared) : Prop
  | mk (R : Addr) (n : Nat) (refs : List Value) (tl : List (Addr × Obj)) (m' : Str → Option Value) (h' : Heap) (tk : Nat) : s₂ = { s with heap := h', toks := tk } →
      Fr h₀ L h' m' → News h₀ L h' ((R, W.listOf refs.toArray n) :: tl) → RunsAre tl refs (passV cmp vss) → m' (Str.ofString "runs") = some (.ref R) →
      (∀ z, z ≠ Str.ofString "runs" → z ≠ Str.ofString "later" → z ≠ Str.ofString "at" → m' z = m₀ z) → 1 < vss.length → WEnd h₀ L s m₀ cmp vss s₂
noncomputable def WPost (h₀ : Heap) (L : Addr) (s : Shared) (m₀ : Str → Option Value) (cmp : Value → Value → Int) (vss : List (List Value)) (Q : Flow → Shared → Prop) : Flow → Shared → Prop :=
  PostW (WEnd h₀ L s m₀ cmp vss) Q
inductive SInv (m₀ : Str → Option Value) (cmp : Value → Value → Int) (D : Value → Prop) (kk : Nat) (vss₀ : List (List Value)) (k : Nat) (m : Str → Option Value) (nx : List (Addr × Obj)) : Prop
  | mk (R : Addr) (n : Nat) (refs : List Value) (vss : List (List Value)) (tl : List (Addr × Obj)) : k = vss.length → nx = (R, W.listOf refs.toArray n) :: tl → Runs tl refs vss D kk → sortRuns cmp vss = sortRuns cmp vss₀ →
      m (Str.ofString "runs") = some (.ref R) → (∀ z, z ≠ Str.ofString "runs" → z ≠ Str.ofString "later" → z ≠ Str.ofString "at" → m z = m₀ z) → SInv m₀ cmp D kk vss₀ k m nx

theorem sort_while {L : Addr} {test : PySem.Expr} {body : List Stmt} {pos : Pos} {m₀ : Str → Option Value} {R₀ : Addr} {n₀ : Nat} {refs₀ : List Value} {vss₀ : List (List Value)} {tl₀ : List (Addr × Obj)} {cmp : Value → Value → Int} {D : Value → Prop} {kk : Nat}
    (_about : Sorting cmp D kk) (S₀ : Runs tl₀ refs₀ vss₀ D kk) (F : Fr h₀ L s.heap m₀) (N : News h₀ L s.heap ((R₀, W.listOf refs₀.toArray n₀) :: tl₀)) (h1 : m₀ (Str.ofString "runs") = some (.ref R₀))
    (turn : ∀ (R : Addr) (n : Nat) (refs : List Value) (vss : List (List Value)) (tl : List (Addr × Obj)) (u : Str → Option Value) h tk (r0 rl : Addr), refs[0]? = some (.ref r0) → Has tl r0 (vss.headD []) → refs[refs.length - 1]? = some (.ref rl) → Has tl rl (vss[vss.length - 1]!) → Runs tl refs vss D kk → sortRuns cmp vss = sortRuns cmp vss₀ → refs.length = vss.length → 0 < refs.length → refs.length ≤ 1000 →
      Fr h₀ L h (fun z => if z = Str.ofString "runs" then some (.ref R) else if z = Str.ofString "later" then u z else if z = Str.ofString "at" then u z else m₀ z) → News h₀ L h ((R, W.listOf refs.toArray n) :: tl) →
      wpAny (model prog w) A (isTrue test env (eval test env)) (fun b s₂ =>
        if b = true then wpAny (model prog w) A (execs body env) (WPost h₀ L s m₀ cmp vss Q) E s₂ else Q .next s₂) E { s with heap := h, toks := tk })
    (hE : PassesOwn (model prog w) A env E) :
    wpAny (model prog w) A (exec (.While test body [] pos) env) Q E s := by
  refine While_inv2 (SInv m₀ cmp D kk vss₀) F N ⟨R₀, n₀, refs₀, vss₀, tl₀, rfl, rfl, S₀, rfl, h1, fun _ _ _ _ => rfl⟩ ?_ hE
  rintro k m₁ nx h tk F₁ N₁ ⟨R, n, refs, vss, tl, rfl, rfl, S, he, e1, e3⟩
  have em : m₁ = fun z => if z = Str.ofString "runs" then some (.ref R) else if z = Str.ofString "later" then m₁ z else if z = Str.ofString "at" then m₁ z else m₀ z := by
    funext z
    by_cases q1 : z = Str.ofString "runs"
    · rw [if_pos q1, q1, e1]
    · rw [if_neg q1]
      by_cases q2 : z = Str.ofString "later"
      · rw [if_pos q2]
      · rw [if_neg q2]
        by_cases q3 : z = Str.ofString "at"
        · rw [if_pos q3]
        · rw [if_neg q3]; exact e3 z q1 q2 q3
  have F₂ : Fr h₀ L h (fun z => if z = Str.ofString "runs" then some (.ref R) else if z = Str.ofString "later" then m₁ z else if z = Str.ofString "at" then m₁ z else m₀ z) := em ▸ F₁
  have hlen := S.are.length
  have hpos : 0 < vss.length := List.length_pos_iff.mpr S.nonempty
  obtain ⟨r0, g0, q0⟩ := S.are.get (i := 0) hpos
  obtain ⟨rl, gl, ql⟩ := S.are.get (i := vss.length - 1) (by omega)
  have q0' : Has tl r0 (vss.headD []) := by
    cases hv : vss with
    | nil => exact absurd hv S.nonempty
    | cons a r => simpa [hv] using q0
  have ql' : Has tl rl (vss[vss.length - 1]!) := by rw [getElem!_pos vss (vss.length - 1) (by omega)]; exact ql
  refine while_turn (turn R n refs vss tl m₁ h tk r0 rl g0 q0' (by rw [hlen]; exact gl) ql' S he hlen (by rw [hlen]; exact hpos) (by rw [hlen]; exact S.small) F₂ N₁) ?_
  rintro s₃ ⟨R', n', refs', tl', m', h', tk', rfl, F', N', hr', a1, a3, hlt⟩
  refine ⟨h', tk', m', _, (passV cmp vss).length, rfl, F', N', by rw [passV_length]; omega, R', n', refs', passV cmp vss, tl', rfl, rfl, ⟨hr', fun l hl v hv => ?_, by rw [passV_total]; exact S.tot, ?_, ?_⟩, ?_, a1, a3⟩
  · obtain ⟨l', h1, h2⟩ := passV_mem cmp hl hv
    exact S.mem l' h1 v h2
  · have := S.small; rw [passV_length]; omega
  · intro e
    have := congrArg List.length e
    rw [passV_length, List.length_nil] at this
    omega
  · rw [← he]
    conv => rhs; rw [sortRuns, dif_pos hlt]

section
variable {L : Addr} {m₁ m' m₀ : Str → Option Value} {I DD R a rl : Addr} {oI : Obj} {cmp : Value → Value → Int} {ds refs : List Value} {vss : List (List Value)} {tl tl' : List (Addr × Obj)} {nd nR n k : Nat} {h' : Heap} {tk : Nat} {l1 l2 : List Value}
theorem rpost_pass (F : Fr h₀ L h' m') (N : News h₀ L h' ((a, W.listOf (mergeV cmp l1 l2).toArray n) :: (I, oI) :: (DD, W.listOf (ds.toArray.push (.ref a)) nd) :: (R, W.listOf refs.toArray nR) :: tl'))
    (hnext : ∀ a n, RunsAre ((a, W.listOf (mergeV cmp l1 l2).toArray n) :: tl') (ds ++ [.ref a]) (passV cmp (vss.take (2 * (k + 1))))) (hsub : ∀ p ∈ tl, p ∈ tl') (hneD : ∀ p ∈ tl', @Ne Nat p.1 DD) (q1 : @Ne Nat DD a) (hDI : @Ne Nat DD I) (hRI : @Ne Nat R I)
    (htI : ∀ p ∈ tl', @Ne Nat p.1 I) (q2 : @Ne Nat I a) (hm : ∀ z, z ≠ Str.ofString "at" → m' z = m₁ z) : RPost h₀ L I oI (PassJ cmp R DD nR refs vss tl m₁ (k + 1)) s Q .next { s with heap := h', toks := tk } := by
  refine ⟨h', tk, m', (DD, W.listOf (ds ++ [Value.ref a]).toArray nd) :: (R, W.listOf refs.toArray nR) :: (a, W.listOf (mergeV cmp l1 l2).toArray n) :: tl', rfl, F, ?_, ?_, ds ++ [.ref a], nd, _, rfl, fun p hp => .tail _ (hsub p hp), hnext a n, ?_, hm⟩
  · have e : ds.toArray.push (.ref a) = (ds ++ [Value.ref a]).toArray := by simp
    rw [e] at N
    intro p hp
    refine N p ?_
    simp only [List.mem_cons] at hp ⊢
    rcases hp with rfl | rfl | rfl | rfl | hp
    · exact .inr (.inl rfl)
    · exact .inr (.inr (.inl rfl))
    · exact .inr (.inr (.inr (.inl rfl)))
    · exact .inl rfl
    · exact .inr (.inr (.inr (.inr hp)))
  · intro p hp
    simp only [List.mem_cons] at hp
    rcases hp with rfl | rfl | rfl | hp
    · exact hDI
    · exact hRI
    · exact q2.symm
    · exact htI p hp
  · intro p hp
    rcases List.mem_cons.mp hp with rfl | hp
    · exact q1.symm
    · exact hneD p hp

theorem fmod2 (n : Nat) : (n : Int).fmod 2 = ((n % 2 : Nat) : Int) := by
  rw [Int.fmod_eq_emod_of_nonneg _ (by decide)]; omega

theorem wpost_even (F : Fr h₀ L h' m') (N : News h₀ L h' ((DD, W.listOf ds.toArray nd) :: (R, W.listOf refs.toArray nR) :: tl')) (hruns : RunsAre tl' ds (passV cmp (vss.take (2 * (vss.length / 2))))) (hlen : refs.length = vss.length) (h1 : (1 : Int) < refs.length) (hmod : (refs.length : Int).fmod 2 ≠ 1)
    (e1 : m' (Str.ofString "runs") = some (.ref DD)) (e3 : ∀ z, z ≠ Str.ofString "runs" → z ≠ Str.ofString "later" → z ≠ Str.ofString "at" → m' z = m₀ z) : WPost h₀ L s m₀ cmp vss Q .next { s with heap := h', toks := tk } := by
  rw [fmod2] at hmod
  have e : vss.take (2 * (vss.length / 2)) = vss := List.take_of_length_le (by omega)
  rw [e] at hruns
  exact ⟨DD, nd, ds, tl', m', h', tk, rfl, F, fun p hp => N p (by rcases List.mem_cons.mp hp with rfl | hp; exact .head _; exact .tail _ (.tail _ hp)), hruns, e1, e3, by omega⟩
theorem wpost_odd (F : Fr h₀ L h' m') (N : News h₀ L h' ((DD, W.listOf (ds.toArray.push (.ref rl)) nd) :: (R, W.listOf refs.toArray nR) :: tl')) (hruns : RunsAre tl' ds (passV cmp (vss.take (2 * (vss.length / 2))))) (hlen : refs.length = vss.length) (h1 : (1 : Int) < refs.length) (hmod : (refs.length : Int).fmod 2 = 1)
    (hl : Has tl rl (vss[vss.length - 1]!)) (hsub : ∀ p ∈ tl, p ∈ tl')
    (e1 : m' (Str.ofString "runs") = some (.ref DD)) (e3 : ∀ z, z ≠ Str.ofString "runs" → z ≠ Str.ofString "later" → z ≠ Str.ofString "at" → m' z = m₀ z) : WPost h₀ L s m₀ cmp vss Q .next { s with heap := h', toks := tk } := by
  rw [fmod2] at hmod
  have e : ds.toArray.push (.ref rl) = (ds ++ [Value.ref rl]).toArray := by simp
  rw [e] at N
  refine ⟨DD, nd, ds ++ [.ref rl], tl', m', h', tk, rfl, F, fun p hp => N p (by rcases List.mem_cons.mp hp with rfl | hp; exact .head _; exact .tail _ (.tail _ hp)), ?_, e1, e3, by omega⟩
  have h2 : vss.length = 2 * (vss.length / 2) + 1 := by omega
  rw [passV_odd cmp vss (vss.length / 2) h2]
  have h3 : vss.length - 1 = 2 * (vss.length / 2) := by omega
  rw [h3] at hl
  exact hruns.snoc (hl.imp fun n q => hsub _ q)
theorem sort_end {r0 : Addr} {h : Heap} {vl : List Value} (N : News h₀ L h ((a, oI) :: (R, W.listOf refs.toArray nR) :: tl)) (h0 : Has tl r0 (vss.headD [])) (he : sortRuns cmp vss = sortRuns cmp (vl.map fun v => [v])) (hlen : refs.length = vss.length) (h1 : ¬ (1 : Int) < refs.length) :
    h₀.get? r0 = none ∧ ∃ n, h.get? r0 = some (W.listOf (sortV cmp vl).toArray n) := by
  obtain ⟨n, hn⟩ := h0
  have z := N _ (.tail _ (.tail _ hn))
  refine ⟨z.2.2, n, ?_⟩
  have e : sortV cmp vl = vss.headD [] := by
    show sortRuns cmp (vl.map fun v => [v]) = _
    rw [← he, sortRuns, dif_neg (by omega)]
  rw [e]; exact z.1
end
end
end

/-! C3b -/
section

section
variable {prog : Program} {w : World} {A : Around} {E : Value → Shared → Prop} {s : Shared} {env : Env} {h₀ : Heap} {Q : Flow → Shared → Prop}

noncomputable def RunsInv (base : Nat) (vs : List Value) (C D : Addr) (i : Nat) (ys : Array Value) (h : Heap) : Prop :=
  ∃ tl : List (Addr × Obj), RunsAre tl ys.toList ((vs.take i).map fun v => [v]) ∧ ∀ p ∈ tl, h.get? p.1 = some p.2 ∧ base ≤ p.1 ∧ p.1 ≠ C ∧ p.1 ≠ D

theorem runs_asg {scope : Scope} {cl : List (Str × Addr)} {p1 p2 : Pos} {l : Addr} {vs : List Value} {m : Str → Option Value} (hh : A.handled = none) (F : Fr h₀ env.locals s.heap m) (hl : s.heap.IsList l vs.toArray)
    (hz : vs.length ≤ 1000) (hkind : scope.kind = .function) (hx : scope.names.lookup (Str.ofString "member") = some .local)
    (hQ : ∀ R n h' tk tl refs, Fr h₀ env.locals h' (fun z => if z = Str.ofString "runs" then some (.ref R) else m z) → News h₀ env.locals h' ((R, W.listOf refs.toArray n) :: tl) → RunsAre tl refs (vs.map fun v => [v]) →
      Q .next { s with heap := h', toks := tk }) :
    wpAny (model prog w) A (pyIter (.ref l)) (AsgJ prog w A env scope cl (Str.ofString "member") (.List [.Name (Str.ofString "member") p1] p2) [] (RunsInv (s.heap.objs.size + 1) vs) (Str.ofString "runs") Q) E s := by
  refine wpAny_pyIter_list hl ?_
  obtain ⟨ol, hol, hol'⟩ := id hl
  have hax : l < s.heap.objs.size := Heap.lt_size hol
  have hne : l ≠ s.heap.objs.size := Nat.ne_of_lt hax
  have WW := Walks.list (prog := prog) (w := w) hh s.heap.objs.size l hne vs.toArray
  have hLt := F.ns.lt
  refine ⟨_, _, _, _, _, _, m, rfl, WW, by simp only [List.size_toArray]; omega, ⟨⟨_, Heap.get?_push_size _ rfl, rfl, rfl⟩, hl.push _⟩, ?_, by simp, by simp, ?_, by simp, (F.push _).ns, ?_, ?_⟩
  · intro b hb
    show b < (s.heap.push _).objs.size
    rw [Heap.size_push]
    rcases List.mem_cons.mp hb with rfl | hb
    · exact Nat.lt_succ_self _
    · rw [List.mem_singleton.mp hb]; exact Nat.lt_succ_of_lt hax
  · intro hm
    exact absurd hLt ((List.mem_singleton.mp hm) ▸ Nat.lt_irrefl _)
  · refine ⟨fun C D h hC hD hk => ⟨[], by simpa using RunsAre.nil, fun p hp => nomatch hp⟩, ?_, ?_⟩
    · rintro C D i ys h h' ⟨tl, hr, ht⟩ hk
      refine ⟨tl, hr, fun p hp => ?_⟩
      obtain ⟨a, b, c, d⟩ := ht p hp
      refine ⟨hk _ _ c ?_ d a, b, c, d⟩
      intro hw
      rw [List.mem_singleton.mp hw] at b
      exact absurd b (Nat.not_le.mpr (Nat.lt_succ_self _))
    · rintro C D i v s₃ m₃ ys E' hC hD hCD hi hP ⟨tl, hr, ht⟩ hn hm hpl hk ⟨h, tk, rfl⟩
      have hi' : i < vs.length := by simpa using hi
      have hv : vs[i]? = some v := by simpa using hP
      have hsz : ({ cls := .type "list_iterator", data := .fields #[.ref l, .int 0 0] } : Obj) = { cls := .type "list_iterator", data := .fields #[.ref l, .int 0 0] } := rfl
      refine List_ ?_
      show wpAny _ _ (spliced [(false, eval (.Name (Str.ofString "member") p1) (compEnvC scope cl C env))]) _ _ _
      refine spliced_cons (comp_local hx hkind hn hm (spliced_nil ?_) (by decide))
      refine wpAny_newObj_type ?_ (by show ([v] : List Value).toArray.size ≤ sizeLine; rw [PySem.sizeLine_eq]; simp)
      have hCsz : C < h.objs.size := by obtain ⟨_, _, _, ho, _⟩ := hn; exact Heap.lt_size ho
      have hDsz : D < h.objs.size := by obtain ⟨_, ho⟩ := hpl; exact Heap.lt_size ho
      have hC' : s.heap.objs.size + 1 ≤ C := by
        have := hC
        rw [show (({ s with heap := s.heap.push { cls := .type "list_iterator", data := .fields #[.ref l, .int 0 0] } } : Shared).heap.objs.size) = s.heap.objs.size + 1 from Heap.size_push ..] at this
        exact this
      refine ⟨⟨tl ++ [(h.objs.size, W.listOf [v].toArray 0)], ?_, ?_⟩, _, _, rfl, fun b o _ e => Heap.get?_push_of_some _ e⟩
      · have e : (vs.take (i + 1)).map (fun v => [v]) = (vs.take i).map (fun v => [v]) ++ [[v]] := by
          rw [List.take_add_one, hv]; simp
        rw [e, Array.toList_push]
        exact (hr.mono fun p hp => List.mem_append_left _ hp).snoc ⟨0, List.mem_append_right _ (.head _)⟩
      · intro p hp
        rcases List.mem_append.mp hp with hp | hp
        · obtain ⟨a, b, c, d⟩ := ht p hp
          exact ⟨Heap.get?_push_of_some _ a, b, c, d⟩
        · rw [List.mem_singleton.mp hp]
          exact ⟨Heap.get?_push_size _ rfl, Nat.le_of_lt (Nat.lt_of_le_of_lt hC' hCsz), Nat.ne_of_gt hCsz, Nat.ne_of_gt hDsz⟩
  · intro C D h' tk ys hD hC hDC hpl hsz ⟨h'', ⟨tl, hr, ht⟩, hk''⟩ hns hk
    obtain ⟨n, ho⟩ := hpl
    have hsz' : ys.size = vs.length := by simpa using hsz
    have hk0 : ∀ b o, s.heap.get? b = some o → (s.heap.push { cls := .type "list_iterator", data := .fields #[.ref l, .int 0 0] }).get? b = some o := fun b o e => Heap.get?_push_of_some _ e
    have hDL : D ≠ env.locals := by
      rintro rfl
      obtain ⟨oL, _, _, hL, _⟩ := F.ns
      rw [hk0 _ _ hL] at hD; cases hD
    have hr' : RunsAre tl ys.toList (vs.map fun v => [v]) := by
      have e : vs.take vs.toArray.size = vs := by simp
      rw [e] at hr; exact hr
    refine hQ D n h' tk tl ys.toList ⟨hns, fun b o e => ?_, F.above⟩ ?_ hr'
    · refine hk b o ?_ ?_ (by simp) (hk0 _ _ (F.keep b o e))
      · rintro rfl
        exact absurd (Nat.lt_of_lt_of_le (Heap.lt_size e) F.above) (Nat.lt_irrefl _)
      · intro hw
        rw [List.mem_singleton.mp hw] at e
        exact absurd (Heap.lt_size (F.keep _ _ e)) (Nat.lt_irrefl _)
    · intro p hp
      rcases List.mem_cons.mp hp with rfl | hp
      · refine ⟨by simpa using ho, hDL, ?_⟩
        cases q : h₀.get? D with
        | none => rfl
        | some o => rw [hk0 _ _ (F.keep _ _ q)] at hD; cases hD
      · obtain ⟨a, b, c, d⟩ := ht p hp
        have hpL : p.1 ≠ env.locals := by
          intro e
          rw [e] at b
          exact absurd (Nat.lt_of_lt_of_le hLt (Nat.le_of_succ_le b)) (Nat.lt_irrefl _)
        refine ⟨hk'' _ _ hpL c a, hpL, ?_⟩
        cases q : h₀.get? p.1 with
        | none => rfl
        | some o => exact absurd (Nat.lt_of_lt_of_le (Heap.lt_size (F.keep _ _ q)) (Nat.le_of_succ_le b)) (Nat.lt_irrefl _)
end
end

/-! C3c -/
section


theorem runs_start {tl : List (Addr × Obj)} {refs vl : List Value} {D : Value → Prop} (hr : RunsAre tl refs (vl.map fun v => [v])) (hD : ∀ v ∈ vl, D v) (hz : vl.length ≤ 500) (hne : vl ≠ []) : Runs tl refs (vl.map fun v => [v]) D vl.length := by
  refine ⟨hr, ?_, ?_, by rw [List.length_map]; omega, by simpa using hne⟩
  · intro l hl v hv
    obtain ⟨u, hu, rfl⟩ := List.mem_map.mp hl
    cases List.mem_singleton.mp hv
    exact hD _ hu
  · clear hr hD hz hne
    induction vl with
    | nil => rfl
    | cons v r ih => simp only [total, List.map_cons, List.sum_cons, List.length_cons, List.length_nil] at ih ⊢; omega

theorem allLt_ne {d : Addr} : ∀ {l : List (Addr × Obj)}, AllLt d l → ∀ p ∈ l, @Ne Nat p.1 d
  | [], _, p, hp => nomatch hp
  | q :: r, h, p, hp => by
    rcases List.mem_cons.mp hp with rfl | hp
    · exact Nat.ne_of_lt h.1
    · exact allLt_ne h.2 p hp

section
variable {w : World} {mg mb : Str → Option Value} {dp un : Nat} {fr : Option (List Env)} {gd : Option (List Code)} {s : Shared} {Q E : Value → Shared → Prop}

theorem merged_L {h₀ : Heap} {L : Addr} {m : Str → Option Value} {news : List (Addr × Obj)} {l r f : Addr} {vl vr : List Value} {cmp : Value → Value → Int} {D : Value → Prop} (F : Fr h₀ L s.heap m) (N : News h₀ L s.heap news) (G : GH w mg mb s.heap) (hd : dp + 12 < recursionLimit) (hu : un + 80 < cLine)
   (hl : s.heap.IsList l vl.toArray) (hr : s.heap.IsList r vr.toArray) (O : OrdOk w mg mb f h₀ cmp D) (hDl : ∀ v ∈ vl, D v) (hDr : ∀ v ∈ vr, D v) (hz : vl.length + vr.length ≤ 1000)
   (hret : ∀ a n h' tk', Fr h₀ L h' m → News h₀ L h' ((a, W.listOf (mergeV cmp vl vr).toArray n) :: news) → (∀ p ∈ news, @Ne Nat p.1 a) → Q (.ref a) { s with heap := h', toks := tk' }) :
   wpAny (model PySem.Challenge.rw_sz0087_01.row.prog w) (AR dp un fr gd) (call (.ref 208) [.ref l, .ref r, .ref f]) Q E s := by
  obtain ⟨fo, fd, hfo, hfd⟩ := O.fn
  refine merged_ok G hd hu hl hr ⟨⟨fo, fd, F.keep _ _ hfo, hfd⟩, fun dp un fr gd s' Q E u v k => O.ok dp un fr gd s' Q E u v fun b o e => k b o (F.keep b o e)⟩ hDl hDr hz fun a n h' tk' k ha ho => ?_
  exact hret a n h' tk' (frK F k) (news_add F (nwK N k) k ha ho) (news_off N ha)



local macro_rules | `(tactic| k_all) => `(tactic| assumption)

theorem sorted_members_ok {l f : Addr} {vl : List Value} {cmp : Value → Value → Int} {D : Value → Prop} (G : GH w mg mb s.heap) (hd : dp + 15 < recursionLimit) (hu : un + 100 < cLine)
   (hl : s.heap.IsList l vl.toArray) (O : OrdOk w mg mb f s.heap cmp D) (hDl : ∀ v ∈ vl, D v) (hz : vl.length ≤ 500) (hne : vl ≠ [])
   (hret : ∀ a n h' tk', Ext s.heap h' → s.heap.get? a = none → h'.get? a = some (W.listOf (sortV cmp vl).toArray n) → Q (.ref a) { s with heap := h', toks := tk' }) :
   wpAny (model PySem.Challenge.rw_sz0087_01.row.prog w) (AR dp un fr gd) (call (.ref 213) [.ref l, .ref f]) Q E s := by
  k_with_none
  k_with "call builtin:len" => (k_here; (with_reducible show wpAny _ _ (call (Value.builtin "len") [Value.ref _]) _ _ _); k_dflt (refine' len_vs ?k1 ?k2 ?_; (case k1 => is_list); (case k2 => omega); k_whole))
  k_with "subscriptTail" => (k_here; (with_reducible show wpAny _ _ (subscriptTail _ _ (Value.ref _) (Value.int (Nat.cast _) _)) _ _ _); k_dflt (refine' item_vs ?k1 ?k2 ?k3 ?_ ?k4 ?k5; (case k1 => is_list); (case k2 => omega); (case k3 => omega); (case k4 => with_unfolding_all rfl); (case k5 => intro _; with_unfolding_all rfl); k_whole))
  k_with "subscriptTail Name Slice ref ref" => (k_here; k_dflt (refine' slice_fromL ?k1 ?k2 ?k3 ?k4 ?_ ?k5 ?k6; (case k1 => assumption); (case k2 => assumption); (case k3 => is_list); (case k4 => omega); (case k5 => with_unfolding_all rfl); (case k6 => intro _; with_unfolding_all rfl); k_whole); intro l' h' F' N' l1; (try k_lt l1); (try k_sweep))
  k_with "call builtin:list.extend" => (k_here; k_dflt (refine' extend_two ?k1 ?k2 ?k3 ?k4 ?k5 ?_; (case k1 => assumption); (case k2 => assumption); (case k3 => k_ne); (case k4 => (try simp only [List.length_append, List.length_drop]); omega); (case k5 => (try simp only [List.length_append, List.length_drop]); omega); k_whole); intro n' h' F' N'; (try k_sweep))
  k_with "exec Assign cons ListComp" => (k_here; (k_dflt (refine' Assign_ListCompJ _ [] ?hsw ?hclos ?hcell ?hkind ?hnames ?hx ?hy ?hp ?h ?hs; (case hsw => with_unfolding_all rfl); (case hclos => with_unfolding_all rfl); (case hcell => decide); (case hkind => rfl); (case hnames => decide); (case hx => rfl); (case hy => rfl); (case hp => rfl); (case hs => intro _; with_unfolding_all rfl); (case' h => (refine' ld ?k1 ?k2 ?_; (case k1 => assumption); (case k2 => exact rfl); refine' runs_asg ?hh ?F ?hl ?hz ?hkind ?hx ?_; (case hh => rfl); (case F => assumption); (case hl => exact Fr.lst (by assumption) (by assumption)); (case hz => omega); (case hkind => rfl); (case hx => rfl); k_whole; intro R n h' tk tl refs Fw Nw hruns; dsimp only [envOf] at Fw Nw)))))
  k_with "exec While Compare cons nil" => (k_here; (k_dflt (refine' sort_while ?k0 ?k1 ?k2 ?k3 ?k4 ?_ ?k5; (case k0 => assumption); (case k1 => exact runs_start (by assumption) (by assumption) (by assumption) (by assumption)); (case k2 => assumption); (case k3 => assumption); (case k4 => exact rfl); (case k5 => exact PassesOwn.never); k_whole; intro R n refs vss tl u h tk r0 rl g0 q0 gl ql S he hlen hpos hlen' Fw Nw)))
  k_with "subscriptTail" => (k_here; (with_reducible show wpAny _ _ (subscriptTail _ _ (Value.ref _) (Value.int _ _)) _ _ _); k_dflt (refine' item_known ?k1 ?k2 ?k6 ?k3 ?_ ?k4 ?k5; (case k1 => is_list); (case k2 => omega); (case k6 => omega); (case k3 => assumption); (case k4 => with_unfolding_all rfl); (case k5 => intro _; with_unfolding_all rfl); k_whole))
  k_with "call type:range" => (k_here; (with_reducible show wpAny _ _ (call _ [_, _, _]) _ _ _); k_dflt (refine' range3_L ?k1 ?k2 ?k3 ?k4 ?k5 ?k6 ?_; (case k1 => assumption); (case k2 => assumption); (case k3 => decide); (case k4 => decide); (case k5 => omega); (case k6 => omega); k_whole); intro r' h' tk' t1 u1 v1 hR' F' N' kE'; (try k_sweep))
  k_with "execs cons Assign cons" => (k_here; refine wpAny_execs_cons ?_)
  k_with "pyIter ref" => (k_here; (k_dflt (refine' pass_iter ?k0 ?k1 ?k2 ?k3 ?k4 ?k5 ?k6 ?k7 ?k8 ?k9 ?_ ?_; (case k0 => assumption); (case k1 => assumption); (case k2 => assumption); (case k3 => omega); (case k4 => omega); (case k5 => rfl); (case k6 => assumption); (case k7 => assumption); (case k8 => exact allLt_ne (And.right (by assumption))); (case k9 => exact Nat.ne_of_lt (And.left (by assumption))); k_whole)); all_goals (first | (intro k t h tk I oI ds nd tl' r1 r2 l1 l2 hk hDI hRI hRD htI hsub hneD g1 g2 q1 q2 hm1 hm2 hz1 hz2 hnext Fw Nw; dsimp only [envOf] at Fw Nw) | (intro u ds nd tl' h tk hRD hds hruns hsub hneD Fw Nw; dsimp only [envOf] at Fw Nw)))
  k_with "compareOp Eq ref ref" => (k_here; (k_dflt (refine' PySem.SeqAt.eq_list_lengthsAt ?k1 ?k2 ?k3 ?k4 ?_; (case k1 => is_list); (case k2 => is_list); (case k3 => (simp only [List.size_toArray, List.length_nil, bne_iff_ne, ne_eq]; omega)); (case k4 => (first | assumption | exact room_d (by assumption) rfl | exact room_u (by assumption) rfl | omega | (dsimp only [AR, Around.deeper] at *; omega))); k_whole)))
  k_with "call ref" => (k_here; (k_dflt (refine' merged_L ?F ?N ?G ?hd ?hu ?hl ?hr ?O ?Dl ?Dr ?hz ?_; (case F => assumption); (case N => assumption); (case G => (first | assumption | exact GH.keeps (by assumption) (Fr.keep (by assumption)))); (case hd => (first | assumption | exact room_d (by assumption) rfl | exact room_u (by assumption) rfl | omega | (dsimp only [AR, Around.deeper] at *; omega))); (case hu => (first | assumption | exact room_d (by assumption) rfl | exact room_u (by assumption) rfl | omega | (dsimp only [AR, Around.deeper] at *; omega))); (case hl => exact Has.isList (by assumption) (by assumption) (fun p hp => .tail _ (.tail _ (.tail _ hp)))); (case hr => exact Has.isList (by assumption) (by assumption) (fun p hp => .tail _ (.tail _ (.tail _ hp)))); (case O => assumption); (case Dl => exact Runs.mem (by assumption) _ (by assumption)); (case Dr => exact Runs.mem (by assumption) _ (by assumption)); (case hz => omega); k_whole)); intro a n h' tk' F' N' hne'; (have q1 := hne' _ (.tail _ (.head _))); (have q2 := hne' _ (.head _)); (dsimp only at q1 q2); (try k_sweep))
  k_with "subscriptTail" => (k_here; (with_reducible show wpAny _ _ (subscriptTail _ _ (Value.ref _) (Value.int (-1) _)) _ _ _); k_dflt (refine' item_last ?k1 ?k6 ?k3 ?_ ?k4 ?k5; (case k1 => is_list); (case k6 => omega); (case k3 => assumption); (case k4 => with_unfolding_all rfl); (case k5 => intro _; with_unfolding_all rfl); k_whole))
  have X := G.X
  have T := G.T
  obtain ⟨fo, fd, hfo, hfd⟩ := O.fn
  have about : Sorting cmp D vl.length := ⟨⟩
  (k_dflt (
    refine' enter (binds := [("members", .ref l), ("order", .ref f)]) (by assumption) ?ho ?hcd ?hroom ?hbind ?hloc ?hco ?hgen ?hk ?hcell ?_
    (case ho => k_is)
    (case hcd => k_is)
    (case hroom => omega)
    (case hbind => exact BindsTo.of_eq rfl)
    (case hloc => exact locs rfl)
    (case hco => exact rfl)
    (case hgen => exact rfl)
    (case hk => exact rfl)
    (case hcell => decide)
    intro L' h₁ F'
    have N' := nnil F'
    (try dsimp only)))
  k_steps
  · exact rpost_pass (by assumption) (by assumption) (by assumption) (by assumption) (by assumption) (by assumption) (by assumption) (by assumption) (by assumption) (by assumption) (by intro z h1; simp [h1])
  · exact wpost_odd (by assumption) (by assumption) (by assumption) (by assumption) (by assumption) (by assumption) (by assumption) (by assumption) rfl (by intro z h1 h2 h3; simp [h1, h2, h3])
  · exact wpost_even (by assumption) (by assumption) (by assumption) (by assumption) (by assumption) (by assumption) rfl (by intro z h1 h2 h3; simp [h1, h2, h3])
  · exact (sort_end (by assumption) (by assumption) (by assumption) (by assumption) (by assumption)).2.elim fun n hn => hret _ n _ _ (Fr.keep (by assumption)) (sort_end (by assumption) (by assumption) (by assumption) (by assumption) (by assumption)).1 hn
end
end

/-! C4 -/
section

noncomputable def strOf : Value → Str
  | .str s _ => s
  | _ => Str.empty
noncomputable def IsS (v : Value) : Prop := ∃ s t, v = .str s t
noncomputable def cmpV (u v : Value) : Int := cmpT (strOf u) (strOf v)

section
variable {w : World} {mg mb : Str → Option Value} {dp un : Nat} {fr : Option (List Env)} {gd : Option (List Code)} {s : Shared} {Q E : Value → Shared → Prop}

theorem order_ok (G : GH w mg mb s.heap) (hf : ∃ o fd, (Mine.K w.params).lookup 220 = some o ∧ o.data = .func fd) : OrdOk w mg mb 220 s.heap cmpV IsS := by
  refine ⟨?_, ?_⟩
  · obtain ⟨o, fd, h1, h2⟩ := hf
    exact ⟨o, fd, G.X _ _ h1, h2⟩
  · rintro dp un fr gd s' Q E u v k G' ⟨x, tx, rfl⟩ ⟨y, ty, rfl⟩ hd hu h
    exact order_by_text_ok G' (by omega) (by omega) h

theorem fn_of {K : Frag} {f : Addr} {oc : Value} {od : Option Addr} {fd : FuncData} {osl : Array (Option Value)} (h : K.lookup f = some ⟨oc, od, .func fd, osl⟩) : ∃ o fd, K.lookup f = some o ∧ o.data = .func fd := ⟨_, fd, h, rfl⟩
theorem order_fn : ∃ o fd, (Mine.K w.params).lookup 220 = some o ∧ o.data = .func fd := by
  k_dflt (refine' fn_of ?h; (case h => k_is))

theorem get_none {h h' : Heap} {a : Addr} (k : Ext h h') (e : h'.get? a = none) : h.get? a = none := by
  cases q : h.get? a with
  | none => rfl
  | some o => rw [k _ _ q] at e; cases e
theorem ext_trans {h h' h'' : Heap} (k : Ext h h') (k' : Ext h' h'') : Ext h h'' := fun b o e => k' b o (k b o e)


theorem sorted_by_text_ok {l : Addr} {vl : List Value} (G : GH w mg mb s.heap) (hd : dp + 17 < recursionLimit) (hu : un + 110 < cLine)
   (hl : s.heap.IsList l vl.toArray) (hDl : ∀ v ∈ vl, IsS v) (hz : vl.length ≤ 500) (hne : vl ≠ [])
   (hret : ∀ a n h' tk', Ext s.heap h' → s.heap.get? a = none → h'.get? a = some (W.listOf (sortV cmpV vl).toArray n) → Q (.ref a) { s with heap := h', toks := tk' }) :
   wpAny (model PySem.Challenge.rw_sz0087_01.row.prog w) (AR dp un fr gd) (call (.ref 227) [.ref l]) Q E s := by
  k_with_none
  k_with "call builtin:len" => (k_here; (with_reducible show wpAny _ _ (call (Value.builtin "len") [Value.ref _]) _ _ _); k_dflt (refine' len_vs ?k1 ?k2 ?_; (case k1 => is_list); (case k2 => omega); k_whole))
  k_with "subscriptTail" => (k_here; (with_reducible show wpAny _ _ (subscriptTail _ _ (Value.ref _) (Value.int (Nat.cast _) _)) _ _ _); k_dflt (refine' item_vs ?k1 ?k2 ?k3 ?_ ?k4 ?k5; (case k1 => is_list); (case k2 => omega); (case k3 => omega); (case k4 => with_unfolding_all rfl); (case k5 => intro _; with_unfolding_all rfl); k_whole))
  k_with "subscriptTail Name Slice ref ref" => (k_here; k_dflt (refine' slice_fromL ?k1 ?k2 ?k3 ?k4 ?_ ?k5 ?k6; (case k1 => assumption); (case k2 => assumption); (case k3 => is_list); (case k4 => omega); (case k5 => with_unfolding_all rfl); (case k6 => intro _; with_unfolding_all rfl); k_whole); intro l' h' F' N' l1; (try k_lt l1); (try k_sweep))
  k_with "call builtin:list.extend" => (k_here; k_dflt (refine' extend_two ?k1 ?k2 ?k3 ?k4 ?k5 ?_; (case k1 => assumption); (case k2 => assumption); (case k3 => k_ne); (case k4 => (try simp only [List.length_append, List.length_drop]); omega); (case k5 => (try simp only [List.length_append, List.length_drop]); omega); k_whole); intro n' h' F' N'; (try k_sweep))
  k_with "call ref" => (k_here; (k_dflt (refine' sorted_members_ok ?G ?hd ?hu ?hl ?O ?D ?hz ?hne ?_; (case G => (first | assumption | exact GH.keeps (by assumption) (Fr.keep (by assumption)))); (case hd => (first | assumption | exact room_d (by assumption) rfl | exact room_u (by assumption) rfl | omega | (dsimp only [AR, Around.deeper] at *; omega))); (case hu => (first | assumption | exact room_d (by assumption) rfl | exact room_u (by assumption) rfl | omega | (dsimp only [AR, Around.deeper] at *; omega))); (case hl => is_list); (case O => exact order_ok (by (first | assumption | exact GH.keeps (by assumption) (Fr.keep (by assumption)))) order_fn); (case D => assumption); (case hz => assumption); (case hne => assumption); k_whole)); intro a n h' tk' kE' ha ho; (try dsimp only))
  have X := G.X
  have T := G.T
  (k_dflt (
    refine' enter (binds := [("members", .ref l)]) (by assumption) ?ho ?hcd ?hroom ?hbind ?hloc ?hco ?hgen ?hk ?hcell ?_
    (case ho => k_is)
    (case hcd => k_is)
    (case hroom => omega)
    (case hbind => exact BindsTo.of_eq rfl)
    (case hloc => exact locs rfl)
    (case hco => exact rfl)
    (case hgen => exact rfl)
    (case hk => exact rfl)
    (case hcell => decide)
    intro L' h₁ F'
    have N' := nnil F'
    (try dsimp only)))
  k_steps
  all_goals exact hret _ _ _ _ (ext_trans (Fr.keep (by assumption)) (by assumption)) (get_none (Fr.keep (by assumption)) (by assumption)) (by assumption)

theorem held_end {a b c : Int} {t : Tok} {h' : Heap} {tk' : Nat} (hret : ∀ t h' tk', Ext s.heap h' → Q (.int (min (max a b) c) t) { s with heap := h', toks := tk' }) (k : Ext s.heap h') :
    Q (.int (if c < (if b > a then b else a) then c else if b > a then b else a) t) { s with heap := h', toks := tk' } := by
  have e : (if c < (if b > a then b else a) then c else if b > a then b else a) = min (max a b) c := by
    simp only [Int.min_def, Int.max_def]
    (repeat' split) <;> omega
  rw [e]; exact hret _ _ _ k

theorem held_within_ok {a b c : Int} {ta tb tc : Tok} (G : GH w mg mb s.heap) (hd : dp + 2 < recursionLimit) (hu : un + 20 < cLine)
   (hret : ∀ t h' tk', Ext s.heap h' → Q (.int (min (max a b) c) t) { s with heap := h', toks := tk' }) :
   wpAny (model PySem.Challenge.rw_sz0087_01.row.prog w) (AR dp un fr gd) (call (.ref 234) [.int a ta, .int b tb, .int c tc]) Q E s := by
  have X := G.X
  have T := G.T
  (k_dflt (
    refine' enter (binds := [("number", .int a ta), ("low", .int b tb), ("high", .int c tc)]) (by assumption) ?ho ?hcd ?hroom ?hbind ?hloc ?hco ?hgen ?hk ?hcell ?_
    (case ho => k_is)
    (case hcd => k_is)
    (case hroom => omega)
    (case hbind => exact BindsTo.of_eq rfl)
    (case hloc => exact locs rfl)
    (case hco => exact rfl)
    (case hgen => exact rfl)
    (case hk => exact rfl)
    (case hcell => decide)
    intro L' h₁ F'
    have N' := nnil F'
    (try dsimp only)))
  k_steps
  all_goals exact held_end (s := s) hret (Fr.keep (by assumption))



noncomputable def Occ (xs ys : List Nat) (j : Nat) : Prop := j + ys.length ≤ xs.length ∧ (xs.drop j).take ys.length = ys
noncomputable def IdxSpec (xs ys : List Nat) (a : Nat) (r : Int) : Prop := (∃ i : Nat, r = i ∧ a ≤ i ∧ Occ xs ys i ∧ ∀ j, a ≤ j → j < i → ¬ Occ xs ys j) ∨ (r = -1 ∧ ∀ j, a ≤ j → ¬ Occ xs ys j)
noncomputable def RIdxSpec (xs ys : List Nat) (r : Int) : Prop := (∃ i : Nat, r = i ∧ Occ xs ys i ∧ ∀ j, i < j → ¬ Occ xs ys j) ∨ (r = -1 ∧ ∀ j, ¬ Occ xs ys j)
noncomputable def IdxJ (xs ys : List Nat) (a₀ : Nat) (a : Int) : Prop := (a₀ : Int) ≤ a ∧ ∀ j : Nat, a₀ ≤ j → (j : Int) < a → ¬ Occ xs ys j
noncomputable def RIdxJ (xs ys : List Nat) (a : Int) : Prop := a ≤ (xs.length : Int) - ys.length ∧ ∀ j : Nat, a < (j : Int) → ¬ Occ xs ys j

theorem len_chars (x : Str) : x.length = x.cps.toList.length := by simp [Str.length]
theorem slice_chars {x : Str} {a b : Int} (h0 : 0 ≤ a) (h1 : a ≤ b) (h2 : b ≤ x.length) : Txt.slice x (some a) (some b) = ⟨((x.cps.toList.drop a.toNat).take (b - a).toNat).toArray⟩ :=
  StrLaws.sliceText_plain ⟨h0, h1, by rw [← len_chars]; exact h2⟩
theorem slice_occ {x y : Str} {a : Int} (h0 : 0 ≤ a) (hc : a + (y.length : Int) ≤ x.length) : (Txt.slice x (some a) (some (a + (y.length : Int))) == y) = true ↔ Occ x.cps.toList y.cps.toList a.toNat := by
  rw [slice_chars h0 (by omega) hc]
  have e : (a + (y.length : Int) - a).toNat = y.cps.toList.length := by rw [← len_chars]; omega
  rw [e, beq_iff_eq]
  have hl := len_chars x
  have hl' := len_chars y
  constructor
  · intro h
    refine ⟨by omega, ?_⟩
    rw [← h]
    simp
  · rintro ⟨_, h⟩
    rw [h]

theorem idx_found {x y : Str} {b : Nat} {a : Int} (hJ : IdxJ x.cps.toList y.cps.toList b a) (hc : a + (y.length : Int) ≤ x.length) (he : (Txt.slice x (some a) (some (a + (y.length : Int))) == y) = true) : IdxSpec x.cps.toList y.cps.toList b a := by
  obtain ⟨h1, h2⟩ := hJ
  exact .inl ⟨a.toNat, by omega, by omega, (slice_occ (by omega) hc).mp he, fun j h3 h4 => h2 j h3 (by omega)⟩
theorem idx_next {x y : Str} {b : Nat} {a : Int} (hJ : IdxJ x.cps.toList y.cps.toList b a) (hc : a + (y.length : Int) ≤ x.length) (he : (Txt.slice x (some a) (some (a + (y.length : Int))) == y) = false) : IdxJ x.cps.toList y.cps.toList b (a + 1) := by
  obtain ⟨h1, h2⟩ := hJ
  refine ⟨by omega, fun j h3 h4 => ?_⟩
  by_cases q : (j : Int) < a
  · exact h2 j h3 q
  · have e : j = a.toNat := by omega
    subst e
    intro ho
    rw [(slice_occ (by omega) hc).mpr ho] at he
    cases he
theorem idx_none {x y : Str} {b : Nat} {a : Int} (hJ : IdxJ x.cps.toList y.cps.toList b a) (hc : ¬ a + (y.length : Int) ≤ x.length) : IdxSpec x.cps.toList y.cps.toList b (-1) := by
  obtain ⟨h1, h2⟩ := hJ
  refine .inr ⟨rfl, fun j h3 ho => ?_⟩
  have hl := len_chars x
  have hl' := len_chars y
  exact h2 j h3 (by have := ho.1; omega) ho
theorem idx_start {x y : Str} {b : Nat} (hb : b ≤ x.length) : IdxJ x.cps.toList y.cps.toList b (min (max (b : Int) 0) (x.length : Int)) := by
  refine ⟨by omega, fun j h1 h2 => by omega⟩

theorem ridx_found {x y : Str} {a : Int} (hJ : RIdxJ x.cps.toList y.cps.toList a) (hc : a ≥ 0) (he : (Txt.slice x (some a) (some (a + (y.length : Int))) == y) = true) : RIdxSpec x.cps.toList y.cps.toList a := by
  obtain ⟨h2, h3⟩ := hJ
  have hl := len_chars x
  have hl' := len_chars y
  exact .inl ⟨a.toNat, by omega, (slice_occ (by omega) (by omega)).mp he, fun j h4 => h3 j (by omega)⟩
theorem ridx_next {x y : Str} {a : Int} (hJ : RIdxJ x.cps.toList y.cps.toList a) (hc : a ≥ 0) (he : (Txt.slice x (some a) (some (a + (y.length : Int))) == y) = false) : RIdxJ x.cps.toList y.cps.toList (a - 1) := by
  obtain ⟨h2, h3⟩ := hJ
  have hl := len_chars x
  have hl' := len_chars y
  refine ⟨by omega, fun j h4 => ?_⟩
  by_cases q : a < (j : Int)
  · exact h3 j q
  · have e : j = a.toNat := by omega
    subst e
    intro ho
    rw [(slice_occ (by omega) (by omega)).mpr ho] at he
    cases he
theorem ridx_none {x y : Str} {a : Int} (hJ : RIdxJ x.cps.toList y.cps.toList a) (hc : ¬ a ≥ 0) : RIdxSpec x.cps.toList y.cps.toList (-1) := by
  obtain ⟨h2, h3⟩ := hJ
  exact .inr ⟨rfl, fun j => h3 j (by omega)⟩
theorem ridx_start {x y : Str} : RIdxJ x.cps.toList y.cps.toList (min (max ((x.length : Int) + (y.length : Int)) 0) (x.length : Int) - (y.length : Int)) := by
  have hl := len_chars x
  have hl' := len_chars y
  refine ⟨by omega, fun j h1 ho => ?_⟩
  have := ho.1
  omega


theorem index_text_ok {x y : Str} {tx ty tb : Tok} {b : Nat} (G : GH w mg mb s.heap) (hd : dp + 5 < recursionLimit) (hu : un + 40 < cLine) (hx : x.length ≤ 1000) (hy : y.length ≤ 1000) (hb : b ≤ x.length)
   (hret : ∀ r t h' tk', IdxSpec x.cps.toList y.cps.toList b r → Ext s.heap h' → Q (.int r t) { s with heap := h', toks := tk' }) :
   wpAny (model PySem.Challenge.rw_sz0087_01.row.prog w) (AR dp un fr gd) (call (.ref 241) [.str x tx, .str y ty, .int (b : Int) tb]) Q E s := by
  k_with "call ref" => (k_here; k_dflt (refine' held_within_ok ?kG ?kd ?ku ?_; (case kG => (first | assumption | exact GH.keeps (by assumption) (Fr.keep (by assumption)))); (case kd => (first | assumption | exact room_d (by assumption) rfl | exact room_u (by assumption) rfl | omega | (dsimp only [AR, Around.deeper] at *; omega))); (case ku => (first | assumption | exact room_d (by assumption) rfl | exact room_u (by assumption) rfl | omega | (dsimp only [AR, Around.deeper] at *; omega))); k_whole); intro t' h' tk' kE'; ((rename Fr _ _ _ _ => fA'); (rename News _ _ _ _ => nA'); (have fB' := frK fA' kE'); (have nB' := nwK nA' kE'); (try dsimp only); (clear fA' nA'); (try k_fold)))
  k_with "call builtin:len" => (k_here; (with_reducible show wpAny _ _ (call (Value.builtin "len") [Value.str _ _]) _ _ _); k_dflt (refine' PySem.StrOps.len_str ?k1 ?_; (case k1 => omega); k_whole))
  k_with "exec While Compare cons nil" => (k_here; (k_dflt (refine' while_int ?k0 ?k1 ?k2 ?k3 ?k4 ?_ ?k5; (case k0 => assumption); (case k1 => assumption); (case k2 => assumption); (case k3 => exact rfl); (case k4 => first | exact ridx_start | exact idx_start (by assumption)); (case k5 => exact PassesOwn.never); k_whole; intro a t h tk hJ Fw Nw)))
  have X := G.X
  have T := G.T
  have about : OneInt (Str.ofString "at") (IdxJ x.cps.toList y.cps.toList b) (fun a => (x.length + 1 - a).toNat) := ⟨⟩
  (k_dflt (
    refine' enter (binds := [("text", .str x tx), ("part", .str y ty), ("begin", .int (b : Int) tb)]) (by assumption) ?ho ?hcd ?hroom ?hbind ?hloc ?hco ?hgen ?hk ?hcell ?_
    (case ho => k_is)
    (case hcd => k_is)
    (case hroom => omega)
    (case hbind => exact BindsTo.of_eq rfl)
    (case hloc => exact locs rfl)
    (case hco => exact rfl)
    (case hgen => exact rfl)
    (case hk => exact rfl)
    (case hcell => decide)
    intro L' h₁ F'
    have N' := nnil F'
    (try dsimp only)))
  k_steps
  · exact hret _ _ _ _ (idx_found (by assumption) (by assumption) (by assumption)) (Fr.keep (by assumption))
  · exact ipost (by assumption) (by assumption) rfl (by intro z h1; simp [h1]) (idx_next (by assumption) (by assumption) (by assumption)) (by omega)
  · exact hret _ _ _ _ (idx_none (by assumption) (by assumption)) (Fr.keep (by assumption))

theorem rindex_text_ok {x y : Str} {tx ty tb : Tok} (G : GH w mg mb s.heap) (hd : dp + 5 < recursionLimit) (hu : un + 40 < cLine) (hx : x.length ≤ 1000) (hy : y.length ≤ 1000)
   (hret : ∀ r t h' tk', RIdxSpec x.cps.toList y.cps.toList r → Ext s.heap h' → Q (.int r t) { s with heap := h', toks := tk' }) :
   wpAny (model PySem.Challenge.rw_sz0087_01.row.prog w) (AR dp un fr gd) (call (.ref 248) [.str x tx, .str y ty, .int (x.length : Int) tb]) Q E s := by
  have X := G.X
  have T := G.T
  have about : OneInt (Str.ofString "at") (RIdxJ x.cps.toList y.cps.toList) (fun a => (a + 1).toNat) := ⟨⟩
  (k_dflt (
    refine' enter (binds := [("text", .str x tx), ("part", .str y ty), ("begin", .int (x.length : Int) tb)]) (by assumption) ?ho ?hcd ?hroom ?hbind ?hloc ?hco ?hgen ?hk ?hcell ?_
    (case ho => k_is)
    (case hcd => k_is)
    (case hroom => omega)
    (case hbind => exact BindsTo.of_eq rfl)
    (case hloc => exact locs rfl)
    (case hco => exact rfl)
    (case hgen => exact rfl)
    (case hk => exact rfl)
    (case hcell => decide)
    intro L' h₁ F'
    have N' := nnil F'
    (try dsimp only)))
  k_steps
  · exact hret _ _ _ _ (ridx_found (by assumption) (by assumption) (by assumption)) (Fr.keep (by assumption))
  · exact ipost (by assumption) (by assumption) rfl (by intro z h1; simp [h1]) (ridx_next (by assumption) (by assumption) (by assumption)) (by omega)
  · exact hret _ _ _ _ (ridx_none (by assumption) (by assumption)) (Fr.keep (by assumption))
end
end

/-! C5 -/
section

noncomputable def FirstSpec (vl : List Value) (x : Str) (r : Nat) : Prop := r ≤ vl.length ∧ (∀ v, 0 < r → vl[r - 1]? = some v → cmpT (strOf v) x < 0) ∧ ∀ v, vl[r]? = some v → ¬ cmpT (strOf v) x < 0
noncomputable def FirstJ (vl : List Value) (x : Str) (lo hi : Int) : Prop := 0 ≤ lo ∧ lo ≤ hi ∧ hi ≤ vl.length ∧ (∀ v, 0 < lo → vl[(lo - 1).toNat]? = some v → cmpT (strOf v) x < 0) ∧ ∀ v, vl[hi.toNat]? = some v → ¬ cmpT (strOf v) x < 0

theorem half {a b : Int} (h : 0 ≤ a) (h' : a < b) : a ≤ (a + b).fdiv 2 ∧ (a + b).fdiv 2 < b := by
  rw [Int.fdiv_eq_ediv_of_nonneg _ (by decide)]
  omega

section
variable {prog : Program} {w : World} {A : Around} {E : Value → Shared → Prop} {s : Shared}
theorem item_strs {value slice : PySem.Expr} {a : Addr} {l : List Value} {k : Int} {u : Tok} {Q : Value → Shared → Prop} (hl : s.heap.IsList a l.toArray) (hS : ∀ v ∈ l, IsS v)
    (h0 : 0 ≤ k) (hz : l.length ≤ 100000) (hi : k < l.length) (h : ∀ e t, l[k.toNat]? = some (.str e t) → Q (.str e t) s)
    (hs : subscripted slice false (.ref a) (.int k u) = operate [.ref a, .int k u] (getItem (.ref a) (.int k u))) (hg : ∀ r, letTemporaryGo value (.ref a) r = pure ()) :
    wpAny (model prog w) A (subscriptTail value slice (.ref a) (.int k u)) Q E s := by
  have hi' : k.toNat < l.length := by omega
  obtain ⟨e, t, he⟩ := hS l[k.toNat] (List.getElem_mem _)
  have hx : l[k.toNat]? = some (.str e t) := by rw [List.getElem?_eq_getElem hi', he]
  exact item_known hl h0 hz hx (h e t hx) hs hg
end

theorem first_start {vl : List Value} {x : Str} : FirstJ vl x 0 (vl.length : Int) := by
  refine ⟨by omega, by omega, by omega, fun v h => by omega, fun v h => ?_⟩
  rw [Int.toNat_natCast, List.getElem?_eq_none (Nat.le_refl _)] at h; cases h
theorem first_up {vl : List Value} {x e : Str} {t : Tok} {lo hi : Int} (hJ : FirstJ vl x lo hi) (hlt : lo < hi) (he : vl[((lo + hi).fdiv 2).toNat]? = some (.str e t)) (hc : cmpT e x < 0) : FirstJ vl x ((lo + hi).fdiv 2 + 1) hi := by
  obtain ⟨h1, h2, h3, h4, h5⟩ := hJ
  have hm := half h1 hlt
  refine ⟨by omega, by omega, h3, fun v _ hv => ?_, h5⟩
  have e1 : ((lo + hi).fdiv 2 + 1 - 1).toNat = ((lo + hi).fdiv 2).toNat := by omega
  rw [e1, he] at hv
  cases hv
  exact hc
theorem first_down {vl : List Value} {x e : Str} {t : Tok} {lo hi : Int} (hJ : FirstJ vl x lo hi) (hlt : lo < hi) (he : vl[((lo + hi).fdiv 2).toNat]? = some (.str e t)) (hc : ¬ cmpT e x < 0) : FirstJ vl x lo ((lo + hi).fdiv 2) := by
  obtain ⟨h1, h2, h3, h4, h5⟩ := hJ
  have hm := half h1 hlt
  refine ⟨by omega, by omega, by omega, h4, fun v hv => ?_⟩
  rw [he] at hv
  cases hv
  exact hc
theorem first_upm {vl : List Value} {x : Str} {lo hi : Int} (hJ : FirstJ vl x lo hi) (hlt : lo < hi) : (hi - ((lo + hi).fdiv 2 + 1)).toNat < (hi - lo).toNat := by
  have hm := half hJ.1 hlt
  omega
theorem first_downm {vl : List Value} {x : Str} {lo hi : Int} (hJ : FirstJ vl x lo hi) (hlt : lo < hi) : ((lo + hi).fdiv 2 - lo).toNat < (hi - lo).toNat := by
  have hm := half hJ.1 hlt
  omega
theorem first_end {vl : List Value} {x : Str} {lo hi : Int} (hJ : FirstJ vl x lo hi) (hlt : ¬ lo < hi) : FirstSpec vl x lo.toNat ∧ lo = (lo.toNat : Int) := by
  obtain ⟨h1, h2, h3, h4, h5⟩ := hJ
  have e : lo = hi := by omega
  subst e
  refine ⟨⟨by omega, fun v h hv => h4 v (by omega) ?_, h5⟩, by omega⟩
  have e1 : (lo - 1).toNat = lo.toNat - 1 := by omega
  rw [e1]; exact hv

section
variable {w : World} {mg mb : Str → Option Value} {dp un : Nat} {fr : Option (List Env)} {gd : Option (List Code)} {s : Shared} {Q E : Value → Shared → Prop}

theorem first_ret {vl : List Value} {x : Str} {lo hi : Int} {t : Tok} {h' : Heap} {tk' : Nat} (hret : ∀ (r : Nat) t h' tk', FirstSpec vl x r → Ext s.heap h' → Q (.int (r : Int) t) { s with heap := h', toks := tk' }) (hJ : FirstJ vl x lo hi) (hlt : ¬ lo < hi) (k : Ext s.heap h') :
    Q (.int lo t) { s with heap := h', toks := tk' } := by
  obtain ⟨h1, h2⟩ := first_end hJ hlt
  rw [h2]; exact hret _ _ _ _ h1 k


theorem law_first_ok {l : Addr} {vl : List Value} {x : Str} {tx : Tok} (G : GH w mg mb s.heap) (hd : dp + 8 < recursionLimit) (hu : un + 60 < cLine)
   (hl : s.heap.IsList l vl.toArray) (hDl : ∀ v ∈ vl, IsS v) (hz : vl.length ≤ 500)
   (hret : ∀ (r : Nat) t h' tk', FirstSpec vl x r → Ext s.heap h' → Q (.int (r : Int) t) { s with heap := h', toks := tk' }) :
   wpAny (model PySem.Challenge.rw_sz0087_01.row.prog w) (AR dp un fr gd) (call (.ref 263) [.ref l, .str x tx]) Q E s := by
  k_with_none
  k_with "call builtin:len" => (k_here; (with_reducible show wpAny _ _ (call (Value.builtin "len") [Value.ref _]) _ _ _); k_dflt (refine' len_vs ?k1 ?k2 ?_; (case k1 => is_list); (case k2 => omega); k_whole))
  k_with "subscriptTail" => (k_here; (with_reducible show wpAny _ _ (subscriptTail _ _ (Value.ref _) (Value.int (Nat.cast _) _)) _ _ _); k_dflt (refine' item_vs ?k1 ?k2 ?k3 ?_ ?k4 ?k5; (case k1 => is_list); (case k2 => omega); (case k3 => omega); (case k4 => with_unfolding_all rfl); (case k5 => intro _; with_unfolding_all rfl); k_whole))
  k_with "subscriptTail Name Slice ref ref" => (k_here; k_dflt (refine' slice_fromL ?k1 ?k2 ?k3 ?k4 ?_ ?k5 ?k6; (case k1 => assumption); (case k2 => assumption); (case k3 => is_list); (case k4 => omega); (case k5 => with_unfolding_all rfl); (case k6 => intro _; with_unfolding_all rfl); k_whole); intro l' h' F' N' l1; (try k_lt l1); (try k_sweep))
  k_with "call builtin:list.extend" => (k_here; k_dflt (refine' extend_two ?k1 ?k2 ?k3 ?k4 ?k5 ?_; (case k1 => assumption); (case k2 => assumption); (case k3 => k_ne); (case k4 => (try simp only [List.length_append, List.length_drop]); omega); (case k5 => (try simp only [List.length_append, List.length_drop]); omega); k_whole); intro n' h' F' N'; (try k_sweep))
  k_with "call ref" => (k_here; k_dflt (refine' compare_ok ?kG ?kd ?ku ?_; (case kG => (first | assumption | exact GH.keeps (by assumption) (Fr.keep (by assumption)))); (case kd => (first | assumption | exact room_d (by assumption) rfl | exact room_u (by assumption) rfl | omega | (dsimp only [AR, Around.deeper] at *; omega))); (case ku => (first | assumption | exact room_d (by assumption) rfl | exact room_u (by assumption) rfl | omega | (dsimp only [AR, Around.deeper] at *; omega))); k_whole); intro t' h' tk' kE'; ((rename Fr _ _ _ _ => fA'); (rename News _ _ _ _ => nA'); (have fB' := frK fA' kE'); (have nB' := nwK nA' kE'); (try dsimp only); (clear fA' nA'); (try k_fold)))
  k_with "exec While Compare cons nil" => (k_here; (k_dflt (refine' while_int2 ?k0 ?k1 ?k2 ?k3 ?k6 ?k4 ?_ ?k5; (case k0 => assumption); (case k1 => assumption); (case k2 => assumption); (case k3 => exact rfl); (case k6 => exact rfl); (case k4 => exact first_start); (case k5 => exact PassesOwn.never); k_whole; intro a b t u v h tk hJ Fw Nw)))
  k_with "subscriptTail" => (k_here; (with_reducible show wpAny _ _ (subscriptTail _ _ (Value.ref _) (Value.int _ _)) _ _ _); (k_dflt ((have hJ9 := (by assumption : FirstJ _ _ _ _)); (have hm9 := half hJ9.1 (by assumption)); (have hh9 := hJ9.2.2.1); (have hl9 := hJ9.1); refine' item_strs ?k1 ?k7 ?k2 ?k6 ?k3 ?_ ?k4 ?k5; (case k1 => is_list); (case k7 => assumption); (case k2 => omega); (case k6 => omega); (case k3 => omega); (case k4 => with_unfolding_all rfl); (case k5 => intro _; with_unfolding_all rfl); k_whole; intro e t' he'; clear hm9 hh9 hl9 hJ9)))
  have X := G.X
  have T := G.T
  have about : TwoInts (Str.ofString "low") (Str.ofString "high") (Str.ofString "middle") (FirstJ vl x) (fun a b => (b - a).toNat) := ⟨⟩
  (k_dflt (
    refine' enter (binds := [("endings", .ref l), ("word", .str x tx)]) (by assumption) ?ho ?hcd ?hroom ?hbind ?hloc ?hco ?hgen ?hk ?hcell ?_
    (case ho => k_is)
    (case hcd => k_is)
    (case hroom => omega)
    (case hbind => exact BindsTo.of_eq rfl)
    (case hloc => exact locs rfl)
    (case hco => exact rfl)
    (case hgen => exact rfl)
    (case hk => exact rfl)
    (case hcell => decide)
    intro L' h₁ F'
    have N' := nnil F'
    (try dsimp only)))
  k_steps
  · exact i2post (by assumption) (by assumption) rfl rfl (by intro k h1 h2 h3; simp [h1, h2, h3]) (first_up (by assumption) (by assumption) (by assumption) (by assumption)) (first_upm (by assumption) (by assumption))
  · exact i2post (by assumption) (by assumption) rfl rfl (by intro k h1 h2 h3; simp [h1, h2, h3]) (first_down (by assumption) (by assumption) (by assumption) (by assumption)) (first_downm (by assumption) (by assumption))
  · exact first_ret (s := s) hret (by assumption) (by assumption) (Fr.keep (by assumption))

open Classical in
noncomputable def placesTo (xs ys : List Nat) (b : Nat) : List Nat := (List.range b).filter fun i => decide (Occ xs ys i)
noncomputable def places (xs ys : List Nat) : List Nat := placesTo xs ys xs.length
theorem placesTo_none {xs ys : List Nat} {b : Nat} : ∀ {d : Nat}, (∀ j, b ≤ j → j < b + d → ¬ Occ xs ys j) → placesTo xs ys (b + d) = placesTo xs ys b
  | 0, _ => rfl
  | d + 1, h => by
    have ih := placesTo_none (d := d) fun j h1 h2 => h j h1 (by omega)
    have hn := h (b + d) (by omega) (by omega)
    unfold placesTo at ih ⊢
    rw [← Nat.add_assoc, List.range_succ, List.filter_append, ih]
    simp [hn]
theorem placesTo_step {xs ys : List Nat} {b i : Nat} (hb : b ≤ i) (hn : ∀ j, b ≤ j → j < i → ¬ Occ xs ys j) (ho : Occ xs ys i) : placesTo xs ys (i + 1) = placesTo xs ys b ++ [i] := by
  obtain ⟨d, rfl⟩ := Nat.le.dest hb
  have h := placesTo_none (d := d) hn
  unfold placesTo at h ⊢
  rw [List.range_succ, List.filter_append, h]
  simp [ho]
theorem placesTo_length (xs ys : List Nat) (b : Nat) : (placesTo xs ys b).length ≤ b := by
  unfold placesTo
  exact Nat.le_trans (List.length_filter_le _ _) (by simp)
inductive Nats : List Value → List Nat → Prop
  | nil : Nats [] []
  | cons {i : Nat} {t : Tok} {vs : List Value} {is : List Nat} : Nats vs is → Nats (.int (i : Int) t :: vs) (i :: is)
theorem Nats.snoc {i : Nat} {t : Tok} {vs : List Value} {is : List Nat} (h : Nats vs is) : Nats (vs ++ [.int (i : Int) t]) (is ++ [i]) := by
  induction h with
  | nil => exact .cons .nil
  | cons _ ih => exact .cons ih
theorem Nats.length {vs : List Value} {is : List Nat} (h : Nats vs is) : vs.length = is.length := by
  induction h with
  | nil => rfl
  | cons _ ih => simp [ih]

noncomputable def AllJ (xs ys : List Nat) (a : Int) (fnd : List Value) : Prop := ∃ b, b < xs.length ∧ Nats fnd (placesTo xs ys b) ∧ IdxSpec xs ys b a

theorem index_at {x y : Str} {tx ty tb : Tok} {c : Int} (G : GH w mg mb s.heap) (hd : dp + 5 < recursionLimit) (hu : un + 40 < cLine) (hx : x.length ≤ 1000) (hy : y.length ≤ 1000) (hc : 0 ≤ c) (hb : c ≤ x.length)
   (hret : ∀ r t h' tk', IdxSpec x.cps.toList y.cps.toList c.toNat r → Ext s.heap h' → Q (.int r t) { s with heap := h', toks := tk' }) :
   wpAny (model PySem.Challenge.rw_sz0087_01.row.prog w) (AR dp un fr gd) (call (.ref 241) [.str x tx, .str y ty, .int c tb]) Q E s := by
  obtain ⟨b, rfl⟩ : ∃ b : Nat, c = b := ⟨c.toNat, by omega⟩
  rw [Int.toNat_natCast] at hret
  exact index_text_ok G hd hu hx hy (by omega) hret

theorem all_start {xs ys : List Nat} {r : Int} (h0 : 0 < xs.length) (h : IdxSpec xs ys (0 : Int).toNat r) : AllJ xs ys r [] := by
  exact ⟨0, h0, .nil, h⟩
theorem all_size {x : Str} {ys : List Nat} {a : Int} {fnd : List Value} (h : AllJ x.cps.toList ys a fnd) (hx : x.length ≤ 1000) : fnd.toArray.size ≤ sizeLine := by
  obtain ⟨b, hb, hN, _⟩ := h
  have h1 := hN.length
  have h2 := placesTo_length x.cps.toList ys b
  have h3 := len_chars x
  rw [List.size_toArray, PySem.sizeLine_eq]
  omega
theorem all_more {xs ys : List Nat} {a : Int} {t : Tok} {fnd : List Value} (h : AllJ xs ys a fnd) (h0 : 0 ≤ a) : Nats (fnd ++ [.int a t]) (placesTo xs ys (a.toNat + 1)) := by
  obtain ⟨b, hb, hN, hi⟩ := h
  rcases hi with ⟨i, rfl, h1, h2, h3⟩ | ⟨rfl, _⟩
  · rw [Int.toNat_natCast, placesTo_step h1 h3 h2]
    exact hN.snoc
  · omega
theorem all_next {x : Str} {ys : List Nat} {a r : Int} {t : Tok} {fnd : List Value} (h : AllJ x.cps.toList ys a fnd) (h0 : 0 ≤ a) (h1 : a < (x.length : Int)) (h2 : ¬ a + 1 = (x.length : Int)) (hr : IdxSpec x.cps.toList ys (a + 1).toNat r) :
    AllJ x.cps.toList ys r (fnd ++ [.int a t]) := by
  have h3 := len_chars x
  have e : (a + 1).toNat = a.toNat + 1 := by omega
  exact ⟨(a + 1).toNat, by omega, by rw [e]; exact all_more h h0, hr⟩
theorem all_meas {xs ys : List Nat} {a r : Int} {n : Nat} (h0 : 0 ≤ a) (h1 : a < (n : Int)) (hr : IdxSpec xs ys (a + 1).toNat r) : (if r < 0 then 0 else ((n : Int) + 1 - r).toNat) < if a < 0 then 0 else ((n : Int) + 1 - a).toNat := by
  rw [if_neg (by omega : ¬ a < 0)]
  rcases hr with ⟨i, rfl, h2, _⟩ | ⟨rfl, _⟩
  · rw [if_neg (by omega)]; omega
  · rw [if_pos (by omega)]; omega
theorem all_brk {x : Str} {ys : List Nat} {a : Int} {t : Tok} {fnd : List Value} (h : AllJ x.cps.toList ys a fnd) (h0 : 0 ≤ a) (h2 : a + 1 = (x.length : Int)) : Nats (fnd ++ [.int a t]) (places x.cps.toList ys) := by
  have h3 := len_chars x
  have e : x.cps.toList.length = a.toNat + 1 := by omega
  unfold places
  rw [e]; exact all_more h h0
theorem all_done {x : Str} {ys : List Nat} {a : Int} {fnd : List Value} (h : AllJ x.cps.toList ys a fnd) (h0 : ¬ 0 ≤ a ∨ ¬ a < (x.length : Int)) : Nats fnd (places x.cps.toList ys) := by
  have h3 := len_chars x
  obtain ⟨b, hb, hN, hi⟩ := h
  have e : places x.cps.toList ys = placesTo x.cps.toList ys b := by
    obtain ⟨d, hd⟩ := Nat.le.dest (Nat.le_of_lt hb)
    unfold places
    rw [← hd]
    refine placesTo_none fun j h1 h2 => ?_
    rcases hi with ⟨i, rfl, h4, h5, h6⟩ | ⟨rfl, h4⟩
    · exact h6 j h1 (by omega)
    · exact h4 j h1
  rw [e]; exact hN

theorem ledger_end {h₀ h : Heap} {L D : Addr} {vs : List Value} {n : Nat} (N : News h₀ L h [(D, W.listOf vs.toArray n)]) : h₀.get? D = none ∧ h.get? D = some (W.listOf vs.toArray n) := ⟨(N _ (.head _)).2.2, (N _ (.head _)).1⟩
theorem ledger_end1 {h₀ h : Heap} {L D : Addr} {vs : List Value} {v : Value} {n : Nat} (N : News h₀ L h [(D, W.listOf (vs.toArray.push v) n)]) : h₀.get? D = none ∧ h.get? D = some (W.listOf (vs ++ [v]).toArray n) := ⟨(N _ (.head _)).2.2, by simpa using (N _ (.head _)).1⟩

local macro_rules | `(tactic| size_fits) => `(tactic| exact all_size (by assumption) (by assumption))


theorem law_all_places_ok {x y : Str} {tx ty : Tok} (G : GH w mg mb s.heap) (hd : dp + 8 < recursionLimit) (hu : un + 60 < cLine) (hx : x.length ≤ 1000) (hy : y.length ≤ 1000) (h0 : 0 < x.length)
   (hret : ∀ a n vs h' tk', Nats vs (places x.cps.toList y.cps.toList) → Ext s.heap h' → s.heap.get? a = none → h'.get? a = some (W.listOf vs.toArray n) → Q (.ref a) { s with heap := h', toks := tk' }) :
   wpAny (model PySem.Challenge.rw_sz0087_01.row.prog w) (AR dp un fr gd) (call (.ref 270) [.str x tx, .str y ty]) Q E s := by
  k_with "call ref" => (k_here; (k_dflt (refine' index_at ?kG ?kd ?ku ?k1 ?k2 ?k3 ?k4 ?_; (case kG => (first | assumption | exact GH.keeps (by assumption) (Fr.keep (by assumption)))); (case kd => (first | assumption | exact room_d (by assumption) rfl | exact room_u (by assumption) rfl | omega | (dsimp only [AR, Around.deeper] at *; omega))); (case ku => (first | assumption | exact room_d (by assumption) rfl | exact room_u (by assumption) rfl | omega | (dsimp only [AR, Around.deeper] at *; omega))); (case k1 => assumption); (case k2 => assumption); (case k3 => omega); (case k4 => omega); k_whole)); intro r' t' h' tk' hidx' kE'; ((rename Fr _ _ _ _ => fA'); (rename News _ _ _ _ => nA'); (have fB' := frK fA' kE'); (have nB' := nwK nA' kE'); (try dsimp only); (clear fA' nA'); (try k_fold)))
  k_with "exec While BoolOp cons nil" => (k_here; (k_dflt (refine' while_fill ?k0 ?k1 ?k2 ?k3 ?k4 ?_ ?k5; (case k0 => assumption); (case k1 => assumption); (case k2 => first | assumption | exact cb_drop (by assumption) (fun p hp => .tail _ hp)); (case k3 => exact rfl); (case k4 => exact all_start (by assumption) (by assumption)); (case k5 => exact PassesOwn.never); k_whole; intro a t fnd n h tk hJ Fw Nw)))
  have X := G.X
  have T := G.T
  have about : Filling (Str.ofString "at") (AllJ x.cps.toList y.cps.toList) (fun a => if a < 0 then 0 else (x.length + 1 - a).toNat) := ⟨⟩
  (k_dflt (
    refine' enter (binds := [("text", .str x tx), ("word", .str y ty)]) (by assumption) ?ho ?hcd ?hroom ?hbind ?hloc ?hco ?hgen ?hk ?hcell ?_
    (case ho => k_is)
    (case hcd => k_is)
    (case hroom => omega)
    (case hbind => exact BindsTo.of_eq rfl)
    (case hloc => exact locs rfl)
    (case hco => exact rfl)
    (case hgen => exact rfl)
    (case hk => exact rfl)
    (case hcell => decide)
    intro L' h₁ F'
    have N' := nnil F'
    (try dsimp only)))
  k_steps
  · dsimp only [FPost, PostW]
    k_steps
    exact hret _ _ _ _ _ (all_brk (by assumption) (by assumption) (by assumption)) (Fr.keep (by assumption)) (ledger_end1 (by assumption)).1 (ledger_end1 (by assumption)).2
  · exact fpost (by assumption) (by assumption) rfl (by intro z h1; simp [h1]) (all_next (by assumption) (by assumption) (by assumption) (by assumption) (by assumption)) (all_meas (by assumption) (by assumption) (by assumption))
  · exact hret _ _ _ _ _ (all_done (by assumption) (.inr (by assumption))) (Fr.keep (by assumption)) (ledger_end (by assumption)).1 (ledger_end (by assumption)).2
  · exact hret _ _ _ _ _ (all_done (by assumption) (.inl (by assumption))) (Fr.keep (by assumption)) (ledger_end (by assumption)).1 (ledger_end (by assumption)).2
end
end

/-! C6 -/
section

theorem enterC {w : World} {mg mb : Str → Option Value} {dp un : Nat} {fr : Option (List Env)} {gd : Option (List Code)} {s : Shared} {Q E : Value → Shared → Prop}
    {name qual : Str} {params : Arguments} {body : List Stmt} {scope : Scope} {dV kV doc pm cdv ct oc : Value} {an od : Option Addr} {osl : Array (Option Value)} {f : Addr} {args : List Value} {binds : List (Str × Value)}
    (G : GH w mg mb s.heap) (ho : (Mine.K w.params).lookup f = some ⟨oc, od, .func (fnOf name qual params body scope dV kV doc pm an cdv ct), osl⟩)
    (hcd : codeIn (Mine.K w.params) cdv qual = true) (hroom : dp < recursionLimit)
    (hbind : BindsTo s (fnOf name qual params body scope dV kV doc pm an cdv ct) ⟨args, []⟩ binds) (hkind : (binds.all fun y => scope.names.lookup y.1 == some .local || scope.names.lookup y.1 == some .cell) = true)
    (hnd : ((cellsFrom 0 scope.names []).map (·.1)).Nodup)
    (hco : scope.isCoroutine = false) (hgen : scope.isGenerator = false) (hk : scope.kind = .function)
    (h : ∀ L' h₁ tk cells, Fr s.heap L' h₁ (bindL (envOfC qual scope L' f cdv).kindOf binds fun _ => none) → News s.heap L' h₁ cells →
      CellsAre (bindC (envOfC qual scope L' f cdv).kindOf binds fun _ => none) (cellsFrom (L' + 1) scope.names []) cells →
      wpAny (model PySem.Challenge.rw_sz0087_01.row.prog w) ((AR dp un fr gd).deeper (envOfC qual scope L' f cdv)) (execs body (envOfC qual scope L' f cdv))
        (fun fl s' => Q (match fl with | .ret v => v | _ => .none) s') (fun _ _ => False)
        { s with heap := h₁, toks := tk }) :
    wpAny (model PySem.Challenge.rw_sz0087_01.row.prog w) (AR dp un fr gd) (call (.ref f) args) Q E s := by
  refine wpAny_call ?_
  refine codeAny_call_function (A := AR dp un fr gd) (fd := fnX name qual params body scope [] dV kV doc pm an cdv ct) (body := body) hroom (G.X _ _ ho) rfl hco hgen rfl (codeRec_of G.X hcd) (hbind _ _ _ _ ?_)
  refine wpAny_newFunctionEnv_cells hk (kindsX hkind _) fun env' he s' x => ?_
  subst he
  refine ⟨G.T.nolimit.keeps x.toInCall.keep, codeAny_func ?_⟩
  obtain ⟨h₁, tk, rfl, _⟩ := x.done
  obtain ⟨cells, NC, Y⟩ := Cl.news (h₀ := s.heap) (Nat.le_refl _) fun n c hm => ⟨x.cell n c (lookup_of_mem_nodup (cellsFrom_names scope.names 0 (s.heap.objs.size + 1) [] [] rfl ▸ hnd) hm), x.above n c hm⟩
  exact wpAny_mono (h s.heap.objs.size h₁ tk cells ⟨x.toInCall.ns, x.toInCall.keep, Nat.le_refl _⟩ NC Y) (fun _ _ y => y) (fun _ _ y => y.elim)

section
variable {prog : Program} {w : World} {A : Around} {E : Value → Shared → Prop} {s : Shared} {env : Env} {h₀ : Heap} {m : Str → Option Value} {news : List (Addr × Obj)}

noncomputable def FreeV (prog : Program) (w : World) (A : Around) (env : Env) (scope : Scope) (cl : List (Str × Addr)) (x : Str) (ifs : List PySem.Expr) (elt : PySem.Expr) (p : Value → Bool) (Fv : Value → Value → Prop) (Q : Value → Shared → Prop) (it : Value) (s₂ : Shared) : Prop :=
  ∃ I fp wr n P St, it = .ref I ∧ Walks prog w A I fp wr n P St ∧ n ≤ sizeLine ∧ St 0 s₂.heap ∧ (∀ b ∈ fp, b < s₂.heap.objs.size) ∧
      QuietOnC prog w A env scope cl x ifs elt wr P p Fv s₂ ∧
      (∀ D h' tk ys (vs : List Value), s₂.heap.get? D = none → h'.IsList D ys → h'.PlainList D ys → vs.length = n → (∀ j v, vs[j]? = some v → P j v) → Paired Fv (vs.filter p) ys.toList →
        (∀ b o, b ∉ wr → s₂.heap.get? b = some o → h'.get? b = some o) → Q (.ref D) { s₂ with heap := h', toks := tk })

theorem comp_V {elt iter : PySem.Expr} {x : Str} {px : Pos} {ifs : List PySem.Expr} {scope : Scope} {cl : List (Str × Addr)} {pos : Pos} {Q : Value → Shared → Prop} (p : Value → Bool) (Fv : Value → Value → Prop)
    (hclos : closureFor scope env = pure cl) (hcell : ∀ y ∈ scope.names, y.2 ≠ .cell) (hkind : scope.kind = .function)
    (hnames : ∀ y ∈ scope.names, y.2 = .local → scope.names.lookup y.1 = some .local) (hx : scope.names.lookup x = some .local)
    (h : wpAny (model prog w) A (eval iter env) (fun xv s₁ => wpAny (model prog w) A (pyIter xv) (FreeV prog w A env scope cl x ifs elt p Fv Q) E s₁) E s)
    (hs : ∀ x, foldedSetIterable iter env x = pure x) :
    wpAny (model prog w) A (eval (.ListComp elt [⟨.Name x px, iter, ifs, 0⟩] scope pos) env) Q E s :=
  wpAny_ListComp_free p Fv hclos hcell hkind hnames hx h hs

structure Elts (prog : Program) (w : World) (A : Around) (env : Env) (scope : Scope) (cl : List (Str × Addr)) (x : Str) (ifs : List PySem.Expr) (elt : PySem.Expr) (h₀ : Heap) (m : Str → Option Value) (news : List (Addr × Obj)) (P : Value → Prop) (p : Value → Bool) (Fv : Value → Value → Prop) : Prop where
  tests : ∀ C v s₃ m₃ E', P v → s₃.heap.Ns C m₃ → m₃ x = some v → Fr h₀ env.locals s₃.heap m → News h₀ env.locals s₃.heap news →
    wpAny (model prog w) A (forIn ifs true fun c r => if r = true then do let ok ← isTrue c (compEnvC scope cl C env) (eval c (compEnvC scope cl C env)); pure (ForInStep.yield ok) else pure (ForInStep.yield r))
      (fun ok s₄ => ok = p v ∧ Keeps s₃ s₄) E' s₃
  elt : ∀ C v s₃ m₃ E', P v → p v = true → s₃.heap.Ns C m₃ → m₃ x = some v → Fr h₀ env.locals s₃.heap m → News h₀ env.locals s₃.heap news →
    wpAny (model prog w) A (eval elt (compEnvC scope cl C env)) (fun y s₄ => Fv v y ∧ Keeps s₃ s₄) E' s₃

theorem size_nat (n : Nat) : Builtin.Range.rangeSize 0 (n : Int) 1 = (n : Int) := by
  unfold Builtin.Range.rangeSize
  rw [if_pos (by decide)]
  split <;> omega
theorem small_nat {n : Nat} (hz : n ≤ 1000) : Builtin.Range.small 0 (n : Int) 1 = true := by
  unfold Builtin.Range.small
  rw [size_nat]
  have e : -1000000 ≤ (n : Int) ∧ (n : Int) ≤ 1000000 := by omega
  rw [fits_small (by decide) (by decide), fits_small e.1 e.2, fits_small (by decide) (by decide), if_pos (by decide), fits_small (by omega) (by omega), Bool.or_true]
  rfl
theorem range_V {scope : Scope} {cl : List (Str × Addr)} {x : Str} {ifs : List PySem.Expr} {elt : PySem.Expr} {r : Addr} {n : Nat} {t₀ u₀ v₀ : Tok} {p : Value → Bool} {Fv : Value → Value → Prop} {Q : Value → Shared → Prop}
    (hh : A.handled = none) (hr : IsRange s.heap r 0 (n : Int) 1 t₀ u₀ v₀) (hz : n ≤ 1000) (F : Fr h₀ env.locals s.heap m) (N : News h₀ env.locals s.heap news)
    (q : Elts prog w A env scope cl x ifs elt h₀ m news (fun v => ∃ (i : Nat) (t : Tok), i < n ∧ v = .int (i : Int) t) p Fv)
    (hQ : ∀ D k ys vs h' tk, Fr h₀ env.locals h' m → News h₀ env.locals h' ((D, W.listOf ys.toArray k) :: news) → (∀ q ∈ news, @Ne Nat q.1 D) → Nats vs (List.range n) → Paired Fv (vs.filter p) ys → Q (.ref D) { s with heap := h', toks := tk }) :
    wpAny (model prog w) A (pyIter (.ref r)) (FreeV prog w A env scope cl x ifs elt p Fv Q) E s := by
  have hn : Builtin.Range.rangeSize 0 (n : Int) 1 = (n : Int) := size_nat n
  refine wpAny_pyIter_range hr ?_ ?_
  · exact small_nat (by omega)
  · have WW : Walks prog w A s.heap.objs.size [s.heap.objs.size] [s.heap.objs.size] n (fun i v => i < n ∧ ∃ t, v = .int ((0 : Int) + (i : Int) * 1) t)
      (fun i h => IsRangeIter h s.heap.objs.size ((0 : Int) + (i : Nat) * 1) ((n : Int) - (i : Nat)) 1) := (Walks.range hh _ 0 1 n).bound
    have F₁ := F.push { cls := .type "range_iterator", data := .fields #[rawInt 0, rawInt (Builtin.Range.rangeSize 0 (n : Int) 1), rawInt 1] }
    have N₁ : News h₀ env.locals (s.heap.push { cls := .type "range_iterator", data := .fields #[rawInt 0, rawInt (Builtin.Range.rangeSize 0 (n : Int) 1), rawInt 1] }) news := N.grown fun _ _ e => Heap.get?_push_of_some _ e
    have hLI : env.locals ≠ s.heap.objs.size := Nat.ne_of_lt F.ns.lt
    have up : ∀ {h' : Heap}, (∀ b o, b ∉ [s.heap.objs.size] → (s.heap.push { cls := .type "range_iterator", data := .fields #[rawInt 0, rawInt (Builtin.Range.rangeSize 0 (n : Int) 1), rawInt 1] }).get? b = some o → h'.get? b = some o) → ∀ b o, s.heap.get? b = some o → h'.get? b = some o := by
      intro h' hk b o e
      refine hk b o ?_ (Heap.get?_push_of_some _ e)
      intro hb
      exact absurd (Heap.lt_size e) ((List.mem_singleton.mp hb) ▸ Nat.lt_irrefl _)
    refine ⟨_, _, _, n, _, _, rfl, WW, by rw [PySem.sizeLine_eq]; omega, (by show IsRangeIter _ _ _ _ _; rw [hn]; simpa using Heap.get?_push_size _ rfl), ?_, ⟨?_, ?_⟩, ?_⟩
    · intro b hb
      show b < (s.heap.push _).objs.size
      rw [Heap.size_push, List.mem_singleton.mp hb]
      exact Nat.lt_succ_self _
    · rintro C i v s₃ m₃ E' _ ⟨hi, t, rfl⟩ hns hm hk _
      have e : (0 : Int) + (i : Int) * 1 = (i : Int) := by omega
      rw [e] at hm ⊢
      exact q.tests C _ s₃ m₃ E' ⟨i, t, hi, rfl⟩ hns hm (frK F (up hk)) (nwK N (up hk))
    · rintro C i v s₃ m₃ E' _ ⟨hi, t, rfl⟩ hpv hns hm hk _
      have e : (0 : Int) + (i : Int) * 1 = (i : Int) := by omega
      rw [e] at hm hpv ⊢
      exact q.elt C _ s₃ m₃ E' ⟨i, t, hi, rfl⟩ hpv hns hm (frK F (up hk)) (nwK N (up hk))
    · intro D h' tk ys vs hD hl hpl hlen hP hF hk
      obtain ⟨k, ho⟩ := hpl
      have hD' : s.heap.get? D = none := get_none (fun _ _ e => Heap.get?_push_of_some _ e) hD
      refine hQ D k ys.toList vs h' tk (frK F (up hk)) (news_add F (nwK N (up hk)) (up hk) hD' (by simpa using ho)) (news_off N hD') ?_ hF
      clear hF hk ho hl hD hD' q hQ
      have key : ∀ (vs : List Value) (b : Nat), (∀ j v, vs[j]? = some v → ∃ t, v = Value.int ((b + j : Nat) : Int) t) → Nats vs (List.range' b vs.length) := by
        intro vs
        induction vs with
        | nil => intro b _; exact .nil
        | cons v r ih =>
          intro b hv
          obtain ⟨t, rfl⟩ := hv 0 v rfl
          refine .cons (ih (b + 1) fun j v hj => ?_)
          obtain ⟨t, e⟩ := hv (j + 1) v (by simpa using hj)
          exact ⟨t, by rw [e]; congr 2; omega⟩
      have := key vs 0 fun j v hj => by
        obtain ⟨_, t, e⟩ := hP j v hj
        exact ⟨t, by rw [e]; congr 1; omega⟩
      rw [hlen] at this
      rw [List.range_eq_range']
      exact this

theorem list_V {scope : Scope} {cl : List (Str × Addr)} {x : Str} {ifs : List PySem.Expr} {elt : PySem.Expr} {l : Addr} {us : List Value} {p : Value → Bool} {Fv : Value → Value → Prop} {Q : Value → Shared → Prop}
    (hh : A.handled = none) (hl : s.heap.IsList l us.toArray) (hz : us.length ≤ 1000) (F : Fr h₀ env.locals s.heap m) (N : News h₀ env.locals s.heap news)
    (q : Elts prog w A env scope cl x ifs elt h₀ m news (fun v => v ∈ us) p Fv)
    (hQ : ∀ D k ys h' tk, Fr h₀ env.locals h' m → News h₀ env.locals h' ((D, W.listOf ys.toArray k) :: news) → (∀ q ∈ news, @Ne Nat q.1 D) → Paired Fv (us.filter p) ys → Q (.ref D) { s with heap := h', toks := tk }) :
    wpAny (model prog w) A (pyIter (.ref l)) (FreeV prog w A env scope cl x ifs elt p Fv Q) E s := by
  refine wpAny_pyIter_list hl ?_
  obtain ⟨ol, hol, hol'⟩ := id hl
  have hax : l < s.heap.objs.size := Heap.lt_size hol
  have hne : l ≠ s.heap.objs.size := Nat.ne_of_lt hax
  have WW := Walks.list (prog := prog) (w := w) hh s.heap.objs.size l hne us.toArray
  have up : ∀ {h' : Heap}, (∀ b o, b ∉ [s.heap.objs.size] → (s.heap.push { cls := .type "list_iterator", data := .fields #[.ref l, .int 0 0] }).get? b = some o → h'.get? b = some o) → ∀ b o, s.heap.get? b = some o → h'.get? b = some o := by
    intro h' hk b o e
    refine hk b o ?_ (Heap.get?_push_of_some _ e)
    intro hb
    exact absurd (Heap.lt_size e) ((List.mem_singleton.mp hb) ▸ Nat.lt_irrefl _)
  refine ⟨_, _, _, _, _, _, rfl, WW, by rw [PySem.sizeLine_eq, List.size_toArray]; omega, ⟨⟨_, Heap.get?_push_size _ rfl, rfl, rfl⟩, hl.push _⟩, ?_, ⟨?_, ?_⟩, ?_⟩
  · intro b hb
    show b < (s.heap.push _).objs.size
    rw [Heap.size_push]
    rcases List.mem_cons.mp hb with rfl | hb
    · exact Nat.lt_succ_self _
    · rw [List.mem_singleton.mp hb]; exact Nat.lt_succ_of_lt hax
  · rintro C i v s₃ m₃ E' _ hP hns hm hk _
    have hv : us[i]? = some v := by simpa using hP
    exact q.tests C _ s₃ m₃ E' (List.mem_of_getElem? hv) hns hm (frK F (up hk)) (nwK N (up hk))
  · rintro C i v s₃ m₃ E' _ hP hpv hns hm hk _
    have hv : us[i]? = some v := by simpa using hP
    exact q.elt C _ s₃ m₃ E' (List.mem_of_getElem? hv) hpv hns hm (frK F (up hk)) (nwK N (up hk))
  · intro D h' tk ys vs hD _ hpl hlen hP hF hk
    obtain ⟨k, ho⟩ := hpl
    have hD' : s.heap.get? D = none := get_none (fun _ _ e => Heap.get?_push_of_some _ e) hD
    have e : vs = us := by
      apply List.ext_getElem?
      intro j
      rcases Nat.lt_or_ge j vs.length with h | h
      · have h1 := hP j vs[j] (List.getElem?_eq_getElem h)
        rw [List.getElem?_eq_getElem h, ← h1]; simp
      · rw [List.getElem?_eq_none h, List.getElem?_eq_none (by simp at hlen; omega)]
    subst e
    exact hQ D k ys.toList h' tk (frK F (up hk)) (news_add F (nwK N (up hk)) (up hk) hD' (by simpa using ho)) (news_off N hD') hF
end
end

/-! C6b -/
section
structure InC (h₀ h : Heap) : Prop where
  ext : ∀ b o, h₀.get? b = some o → h.get? b = some o
structure Txts (x y : Str) : Prop where

theorem keeps_refl (s : Shared) : Keeps s s := ⟨s.heap, s.toks, rfl, fun _ _ e => e⟩
theorem keepsC {s : Shared} {h' : Heap} {k : Nat} (c : InC s.heap h') : Keeps s { s with heap := h', toks := k } := ⟨h', k, rfl, c.ext⟩
theorem no_tests {prog : Program} {w : World} {A : Around} {E : Value → Shared → Prop} {s : Shared} {env : Env} {b : Bool} (hb : true = b) :
    wpAny (model prog w) A (forIn ([] : List PySem.Expr) true fun c r => if r = true then do let ok ← isTrue c env (eval c env); pure (ForInStep.yield ok) else pure (ForInStep.yield r)) (fun ok s₄ => ok = b ∧ Keeps s s₄) E s := by
  subst hb
  exact wpAny_pure ⟨rfl, keeps_refl s⟩
theorem one_test {prog : Program} {w : World} {A : Around} {E : Value → Shared → Prop} {s : Shared} {env : Env} {b : Bool} {c : PySem.Expr}
    (h : wpAny (model prog w) A (isTrue c env (eval c env)) (fun ok s₄ => ok = b ∧ Keeps s s₄) E s) :
    wpAny (model prog w) A (forIn [c] true fun c r => if r = true then do let ok ← isTrue c env (eval c env); pure (ForInStep.yield ok) else pure (ForInStep.yield r)) (fun ok s₄ => ok = b ∧ Keeps s s₄) E s := by
  simp only [List.forIn_cons, List.forIn_nil, if_true]
  refine wpAny_bind (wpAny_bind (wpAny_mono h (fun ok s' hq => ?_) fun _ _ e => e))
  exact wpAny_pure (wpAny_pure hq)

section
variable {prog : Program} {w : World} {A : Around} {E : Value → Shared → Prop} {s : Shared} {value slice : PySem.Expr} {x : Str} {t : Tok} {Q : Value → Shared → Prop}
theorem kept_ext (h₀ : Heap) : KeptH (fun h => ∀ b o, h₀.get? b = some o → h.get? b = some o) := fun h ob k b o e => Heap.get?_push_of_some ob (k b o e)
theorem slice_sn_X {i : Int} {ui : Tok} (hz : x.length ≤ 100000) (h : ∀ h' t' k, (∀ b o, s.heap.get? b = some o → h'.get? b = some o) → Q (.str (Txt.slice x (some i) none) t') { s with heap := h', toks := k })
    (hs : subscripted slice false (.str x t) (.ref s.heap.objs.size) = operate [.ref s.heap.objs.size, .str x t] (getItem (.str x t) (.ref s.heap.objs.size)))
    (ht : ∀ r, letTemporaryGo value (.str x t) r = pure ()) :
    wpAny (model prog w) A (subscriptTail value slice (.str x t) (.ref s.heap.objs.size)) Q E { s with heap := s.heap.push { cls := .type "slice", data := .fields #[.int i ui, .none, .none] } } :=
  tail_of_ItemOn (SBH.sliceItem_sn (kept_ext s.heap) (fun _ _ e => e) h (by rw [PySem.sizeLine_eq]; omega)) hs ht
theorem slice_ns_X {i : Int} {ui : Tok} (hz : x.length ≤ 100000) (h : ∀ h' t' k, (∀ b o, s.heap.get? b = some o → h'.get? b = some o) → Q (.str (Txt.slice x none (some i)) t') { s with heap := h', toks := k })
    (hs : subscripted slice false (.str x t) (.ref s.heap.objs.size) = operate [.ref s.heap.objs.size, .str x t] (getItem (.str x t) (.ref s.heap.objs.size)))
    (ht : ∀ r, letTemporaryGo value (.str x t) r = pure ()) :
    wpAny (model prog w) A (subscriptTail value slice (.str x t) (.ref s.heap.objs.size)) Q E { s with heap := s.heap.push { cls := .type "slice", data := .fields #[.none, .int i ui, .none] } } :=
  tail_of_ItemOn (SBH.sliceItem_ns (kept_ext s.heap) (fun _ _ e => e) h (by rw [PySem.sizeLine_eq]; omega)) hs ht
theorem slice_ss_X {i j : Int} {ui uj : Tok} (hz : x.length ≤ 100000) (h : ∀ h' t' k, (∀ b o, s.heap.get? b = some o → h'.get? b = some o) → Q (.str (Txt.slice x (some i) (some j)) t') { s with heap := h', toks := k })
    (hs : subscripted slice false (.str x t) (.ref s.heap.objs.size) = operate [.ref s.heap.objs.size, .str x t] (getItem (.str x t) (.ref s.heap.objs.size)))
    (ht : ∀ r, letTemporaryGo value (.str x t) r = pure ()) :
    wpAny (model prog w) A (subscriptTail value slice (.str x t) (.ref s.heap.objs.size)) Q E { s with heap := s.heap.push { cls := .type "slice", data := .fields #[.int i ui, .int j uj, .none] } } :=
  tail_of_ItemOn (SBH.sliceItem_ss (kept_ext s.heap) (fun _ _ e => e) h (by rw [PySem.sizeLine_eq]; omega)) hs ht
end

theorem incK {h₀ h h' : Heap} (c : InC h₀ h) (k : ∀ b o, h.get? b = some o → h'.get? b = some o) : InC h₀ h' := ⟨fun b o e => k b o (c.ext b o e)⟩
theorem nsK {h h' : Heap} {C : Addr} {m : Str → Option Value} (n : h.Ns C m) (k : ∀ b o, h.get? b = some o → h'.get? b = some o) : h'.Ns C m := n.keeps k

/- within a comprehension: all that is known goes over -/
section
variable {prog : Program} {w : World} {A : Around} {E : Value → Shared → Prop} {s : Shared} {env : Env} {h₀ : Heap} {m : Str → Option Value} {news : List (Addr × Obj)}
noncomputable def FreeA (prog : Program) (w : World) (A : Around) (env : Env) (scope : Scope) (cl : List (Str × Addr)) (x : Str) (ifs : List PySem.Expr) (elt : PySem.Expr) (p : Value → Bool) (Fv : Value → Value → Prop) (y : Str) (Q : Flow → Shared → Prop) (it : Value) (s₂ : Shared) : Prop :=
  ∃ I fp wr n P St m, it = .ref I ∧ Walks prog w A I fp wr n P St ∧ n ≤ sizeLine ∧ St 0 s₂.heap ∧ (∀ b ∈ fp, b < s₂.heap.objs.size) ∧
      env.locals ∉ wr ∧ s₂.heap.Ns env.locals m ∧ QuietOnC prog w A env scope cl x ifs elt wr P p Fv s₂ ∧
      (∀ D h' tk ys (vs : List Value), s₂.heap.get? D = none → h'.IsList D ys → h'.PlainList D ys → vs.length = n → (∀ j v, vs[j]? = some v → P j v) → Paired Fv (vs.filter p) ys.toList →
        h'.Ns env.locals (fun z => if z = y then some (.ref D) else m z) → (∀ b o, b ≠ env.locals → b ∉ wr → s₂.heap.get? b = some o → h'.get? b = some o) → Q .next { s₂ with heap := h', toks := tk })
theorem comp_A {elt iter : PySem.Expr} {x y : Str} {px py : Pos} {ifs : List PySem.Expr} {scope : Scope} {cl : List (Str × Addr)} {pos spos : Pos} {Q : Flow → Shared → Prop} (p : Value → Bool) (Fv : Value → Value → Prop)
    (hsw : swapsWith (.ListComp elt [⟨.Name x px, iter, ifs, 0⟩] scope pos) (some (.Name y py)) spos.line env = pure true)
    (hclos : closureFor scope env = pure cl) (hcell : ∀ z ∈ scope.names, z.2 ≠ .cell) (hkind : scope.kind = .function)
    (hnames : ∀ z ∈ scope.names, z.2 = .local → scope.names.lookup z.1 = some .local) (hx : scope.names.lookup x = some .local)
    (hy : env.kindOf y = some .local) (hp : (env.scope.kind == .class || (env.scope.kind == .module && env.locals != env.globals)) = false)
    (h : wpAny (model prog w) A (eval iter env) (fun xv s₁ => wpAny (model prog w) A (pyIter xv) (FreeA prog w A env scope cl x ifs elt p Fv y Q) E s₁) E s)
    (hs : ∀ x, foldedSetIterable iter env x = pure x) :
    wpAny (model prog w) A (exec (.Assign [.Name y py] (.ListComp elt [⟨.Name x px, iter, ifs, 0⟩] scope pos) spos) env) Q E s :=
  wpAny_Assign_ListComp_free p Fv hsw hclos hcell hkind hnames hx hy hp h hs

theorem list_A {scope : Scope} {cl : List (Str × Addr)} {x y : Str} {ifs : List PySem.Expr} {elt : PySem.Expr} {l : Addr} {us : List Value} {p : Value → Bool} {Fv : Value → Value → Prop} {Q : Flow → Shared → Prop}
    (hh : A.handled = none) (hl : s.heap.IsList l us.toArray) (hz : us.length ≤ 1000) (F : Fr h₀ env.locals s.heap m) (N : News h₀ env.locals s.heap news)
    (q : Elts prog w A env scope cl x ifs elt h₀ m news (fun v => v ∈ us) p Fv)
    (hQ : ∀ D k ys h' tk, Fr h₀ env.locals h' (fun z => if z = y then some (.ref D) else m z) → News h₀ env.locals h' ((D, W.listOf ys.toArray k) :: news) → (∀ q ∈ news, @Ne Nat q.1 D) → Paired Fv (us.filter p) ys → Q .next { s with heap := h', toks := tk }) :
    wpAny (model prog w) A (pyIter (.ref l)) (FreeA prog w A env scope cl x ifs elt p Fv y Q) E s := by
  refine wpAny_pyIter_list hl ?_
  obtain ⟨ol, hol, hol'⟩ := id hl
  have hax : l < s.heap.objs.size := Heap.lt_size hol
  have hne : l ≠ s.heap.objs.size := Nat.ne_of_lt hax
  have WW := Walks.list (prog := prog) (w := w) hh s.heap.objs.size l hne us.toArray
  have hLlt := F.ns.lt
  have up : ∀ {h' : Heap}, (∀ b o, b ∉ [s.heap.objs.size] → (s.heap.push { cls := .type "list_iterator", data := .fields #[.ref l, .int 0 0] }).get? b = some o → h'.get? b = some o) → ∀ b o, s.heap.get? b = some o → h'.get? b = some o := by
    intro h' hk b o e
    refine hk b o ?_ (Heap.get?_push_of_some _ e)
    intro hb
    exact absurd (Heap.lt_size e) ((List.mem_singleton.mp hb) ▸ Nat.lt_irrefl _)
  refine ⟨_, _, _, _, _, _, m, rfl, WW, by rw [PySem.sizeLine_eq, List.size_toArray]; omega, ⟨⟨_, Heap.get?_push_size _ rfl, rfl, rfl⟩, hl.push _⟩, ?_, ?_, (F.push _).ns, ⟨?_, ?_⟩, ?_⟩
  · intro b hb
    show b < (s.heap.push _).objs.size
    rw [Heap.size_push]
    rcases List.mem_cons.mp hb with rfl | hb
    · exact Nat.lt_succ_self _
    · rw [List.mem_singleton.mp hb]; exact Nat.lt_succ_of_lt hax
  · intro hm
    exact absurd hLlt ((List.mem_singleton.mp hm) ▸ Nat.lt_irrefl _)
  · rintro C i v s₃ m₃ E' _ hP hns hm hk _
    have hv : us[i]? = some v := by simpa using hP
    exact q.tests C _ s₃ m₃ E' (List.mem_of_getElem? hv) hns hm (frK F (up hk)) (nwK N (up hk))
  · rintro C i v s₃ m₃ E' _ hP hpv hns hm hk _
    have hv : us[i]? = some v := by simpa using hP
    exact q.elt C _ s₃ m₃ E' (List.mem_of_getElem? hv) hpv hns hm (frK F (up hk)) (nwK N (up hk))
  · intro D h' tk ys vs hD _ hpl hlen hP hF hns hk
    obtain ⟨k, ho⟩ := hpl
    have hD' : s.heap.get? D = none := get_none (fun _ _ e => Heap.get?_push_of_some _ e) hD
    have up2 : ∀ b o, b ≠ env.locals → s.heap.get? b = some o → h'.get? b = some o := by
      intro b o hb e
      refine hk b o hb ?_ (Heap.get?_push_of_some _ e)
      intro hb'
      exact absurd (Heap.lt_size e) ((List.mem_singleton.mp hb') ▸ Nat.lt_irrefl _)
    have e : vs = us := by
      apply List.ext_getElem?
      intro j
      rcases Nat.lt_or_ge j vs.length with h | h
      · have h1 := hP j vs[j] (List.getElem?_eq_getElem h)
        rw [List.getElem?_eq_getElem h, ← h1]; simp
      · rw [List.getElem?_eq_none h, List.getElem?_eq_none (by simp at hlen; omega)]
    subst e
    have hDL : D ≠ env.locals := by
      rintro rfl
      obtain ⟨oL, _, _, hL, _⟩ := F.ns
      rw [hL] at hD'; cases hD'
    refine hQ D k ys.toList h' tk ⟨hns, fun b o e => up2 b o ?_ (F.keep b o e), F.above⟩ ?_ (news_off N hD') hF
    · rintro rfl
      exact absurd (Nat.lt_of_lt_of_le (Heap.lt_size e) F.above) (Nat.lt_irrefl _)
    · intro p hp
      rcases List.mem_cons.mp hp with rfl | hp
      · refine ⟨by simpa using ho, hDL, ?_⟩
        cases q : h₀.get? D with
        | none => rfl
        | some o => rw [F.keep _ _ q] at hD'; cases hD'
      · exact ⟨up2 _ _ (N p hp).2.1 (N p hp).1, (N p hp).2⟩
end
end

/-! P1 -/
section
theorem cmpT_le (a b : Str) : cmpT a b ≤ 0 ↔ ¬ b.cps.toList < a.cps.toList := by
  unfold cmpT ltB
  by_cases h1 : a.cps.toList < b.cps.toList
  · have h2 : ¬ b.cps.toList < a.cps.toList := fun h => List.lt_irrefl _ (List.lt_trans h1 h)
    simp [h1, h2]
  · by_cases h2 : b.cps.toList < a.cps.toList
    · simp [h1, h2]
    · simp [h1, h2]
theorem cmpT_lt (a b : Str) : cmpT a b < 0 ↔ a.cps.toList < b.cps.toList := by
  unfold cmpT ltB
  by_cases h1 : a.cps.toList < b.cps.toList
  · simp [h1]
  · by_cases h2 : b.cps.toList < a.cps.toList
    · simp [h1, h2]
    · simp [h1, h2]
theorem cmpT_total (a b : Str) : cmpT a b ≤ 0 ∨ cmpT b a ≤ 0 := by
  rw [cmpT_le, cmpT_le]
  by_cases h1 : a.cps.toList < b.cps.toList
  · exact .inl fun h => List.lt_irrefl _ (List.lt_trans h1 h)
  · exact .inr h1
theorem cmpT_trans {a b c : Str} (h1 : cmpT a b ≤ 0) (h2 : cmpT b c ≤ 0) : cmpT a c ≤ 0 := by
  rw [cmpT_le] at *
  rw [List.not_lt] at *
  exact List.le_trans h1 h2
theorem cmpT_antisymm {a b : Str} (h1 : cmpT a b ≤ 0) (h2 : cmpT b a ≤ 0) : a = b := by
  rw [cmpT_le, List.not_lt] at *
  have := List.le_antisymm h1 h2
  cases a; cases b
  simp only [Str.mk.injEq]
  exact Array.toList_inj.mp this

section
variable {α : Type} {cmp : α → α → Int}

theorem mergeV_perm (l r : List α) : (mergeV cmp l r).Perm (l ++ r) := by
  induction l, r using merge_ind (cmp := cmp) with
  | case1 r => rw [mergeV_nil_left]; exact .refl _
  | case2 a l => rw [mergeV_nil_right]; simp
  | case3 a l b r h ih => rw [mergeV_cons, if_pos h]; exact ih.cons a
  | case4 a l b r h ih =>
    rw [mergeV_cons, if_neg h]
    refine (ih.cons b).trans ?_
    show (b :: (a :: l ++ r)).Perm (a :: l ++ b :: r)
    exact List.perm_middle.symm

theorem passV_perm : ∀ r : List (List α), (passV cmp r).flatten.Perm r.flatten
  | [] => by simp [passV]
  | [a] => by simp [passV]
  | a :: b :: r => by
    rw [passV, List.flatten_cons, List.flatten_cons, List.flatten_cons, ← List.append_assoc]
    exact (mergeV_perm a b).append (passV_perm r)
theorem sortRuns_perm (r : List (List α)) : (sortRuns cmp r).Perm r.flatten := by
  induction r using sortRuns.induct (cmp := cmp) with
  | case1 r h ih => rw [sortRuns, dif_pos h]; exact ih.trans (passV_perm r)
  | case2 r h =>
    rw [sortRuns, dif_neg h]
    match r, h with
    | [], _ => simp
    | [a], _ => simp
    | a :: b :: r, h => simp at h
theorem sortV_perm (xs : List α) : (sortV cmp xs).Perm xs := by
  have h := sortRuns_perm (cmp := cmp) (xs.map fun x => [x])
  have e : (xs.map fun x => [x]).flatten = xs := by
    clear h
    induction xs <;> simp_all
  rw [e] at h; exact h

noncomputable abbrev Srt (cmp : α → α → Int) (l : List α) : Prop := l.Pairwise fun a b => cmp a b ≤ 0

theorem mergeV_srt (total : ∀ a b, cmp a b ≤ 0 ∨ cmp b a ≤ 0) (trans : ∀ {a b c}, cmp a b ≤ 0 → cmp b c ≤ 0 → cmp a c ≤ 0) (l r : List α) (hl : Srt cmp l) (hr : Srt cmp r) : Srt cmp (mergeV cmp l r) := by
  induction l, r using merge_ind (cmp := cmp) with
  | case1 r => rw [mergeV_nil_left]; exact hr
  | case2 a l => rw [mergeV_nil_right]; exact hl
  | case3 a l b r h ih =>
    rw [mergeV_cons, if_pos h]
    have ih' := ih (List.pairwise_cons.mp hl).2 hr
    refine List.pairwise_cons.mpr ⟨fun x hx => ?_, ih'⟩
    rcases mergeV_mem cmp _ _ hx with hx | hx
    · exact (List.pairwise_cons.mp hl).1 x hx
    · rcases List.mem_cons.mp hx with rfl | hx
      · exact h
      · exact trans h ((List.pairwise_cons.mp hr).1 x hx)
  | case4 a l b r h ih =>
    rw [mergeV_cons, if_neg h]
    have ih' := ih hl (List.pairwise_cons.mp hr).2
    have hba : cmp b a ≤ 0 := (total a b).resolve_left h
    refine List.pairwise_cons.mpr ⟨fun x hx => ?_, ih'⟩
    rcases mergeV_mem cmp _ _ hx with hx | hx
    · rcases List.mem_cons.mp hx with rfl | hx
      · exact hba
      · exact trans hba ((List.pairwise_cons.mp hl).1 x hx)
    · exact (List.pairwise_cons.mp hr).1 x hx

theorem passV_srt (total : ∀ a b, cmp a b ≤ 0 ∨ cmp b a ≤ 0) (trans : ∀ {a b c}, cmp a b ≤ 0 → cmp b c ≤ 0 → cmp a c ≤ 0) : ∀ r : List (List α), (∀ l ∈ r, Srt cmp l) → ∀ l ∈ passV cmp r, Srt cmp l
  | [], _, l, hl => by simp [passV] at hl
  | [a], h, l, hl => by simp [passV] at hl; exact h l (by simp [hl])
  | a :: b :: r, h, l, hl => by
    rw [passV] at hl
    rcases List.mem_cons.mp hl with rfl | hl
    · exact mergeV_srt total trans a b (h a (by simp)) (h b (by simp))
    · exact passV_srt total trans r (fun l hl => h l (by simp [hl])) l hl
theorem sortRuns_srt (total : ∀ a b, cmp a b ≤ 0 ∨ cmp b a ≤ 0) (trans : ∀ {a b c}, cmp a b ≤ 0 → cmp b c ≤ 0 → cmp a c ≤ 0) (r : List (List α)) (h : ∀ l ∈ r, Srt cmp l) : Srt cmp (sortRuns cmp r) := by
  induction r using sortRuns.induct (cmp := cmp) with
  | case1 r hlt ih => rw [sortRuns, dif_pos hlt]; exact ih (passV_srt total trans r h)
  | case2 r hlt =>
    rw [sortRuns, dif_neg hlt]
    match r, h with
    | [], _ => simp
    | a :: r, h => exact h a (by simp)
theorem sortV_srt (total : ∀ a b, cmp a b ≤ 0 ∨ cmp b a ≤ 0) (trans : ∀ {a b c}, cmp a b ≤ 0 → cmp b c ≤ 0 → cmp a c ≤ 0) (xs : List α) : Srt cmp (sortV cmp xs) := by
  refine sortRuns_srt total trans _ fun l hl => ?_
  obtain ⟨x, _, rfl⟩ := List.mem_map.mp hl
  simp

theorem mergeV_map {β : Type} {c : β → β → Int} (f : α → β) (l r : List α) : (mergeV (fun u v => c (f u) (f v)) l r).map f = mergeV c (l.map f) (r.map f) := by
  induction l, r using merge_ind (cmp := fun u v => c (f u) (f v)) with
  | case1 r => simp [mergeV_nil_left]
  | case2 a l => simp [mergeV_nil_right]
  | case3 a l b r h ih => rw [mergeV_cons, if_pos h, List.map_cons, List.map_cons, List.map_cons, mergeV_cons, if_pos h, ih, List.map_cons]
  | case4 a l b r h ih => rw [mergeV_cons, if_neg h, List.map_cons, List.map_cons, List.map_cons, mergeV_cons, if_neg h, ih, List.map_cons]
theorem passV_map {β : Type} {c : β → β → Int} (f : α → β) : ∀ r : List (List α), (passV (fun u v => c (f u) (f v)) r).map (List.map f) = passV c (r.map (List.map f))
  | [] => by simp [passV]
  | [a] => by simp [passV]
  | a :: b :: r => by
    have ih := passV_map (c := c) f r
    simp only [passV, List.map_cons, mergeV_map, ih]
theorem sortRuns_map {β : Type} {c : β → β → Int} (f : α → β) (r : List (List α)) : (sortRuns (fun u v => c (f u) (f v)) r).map f = sortRuns c (r.map (List.map f)) := by
  induction r using sortRuns.induct (cmp := fun u v => c (f u) (f v)) with
  | case1 r h ih =>
    rw [sortRuns, dif_pos h, ih, passV_map]
    conv => rhs; rw [sortRuns, dif_pos (by simpa using h)]
  | case2 r h =>
    rw [sortRuns, dif_neg h]
    conv => rhs; rw [sortRuns, dif_neg (by simpa using h)]
    cases r <;> simp
theorem sortV_map {β : Type} {c : β → β → Int} (f : α → β) (xs : List α) : (sortV (fun u v => c (f u) (f v)) xs).map f = sortV c (xs.map f) := by
  unfold sortV
  rw [sortRuns_map]
  congr 1
  simp [Function.comp_def]

theorem srt_unique {β : Type} {R : β → β → Prop} (anti : ∀ {a b}, R a b → R b a → a = b) : ∀ {l r : List β}, l.Perm r → l.Pairwise R → r.Pairwise R → l = r
  | [], r, hp, _, _ => (hp.nil_eq)
  | a :: l, [], hp, _, _ => by simp at hp
  | a :: l, b :: r, hp, hl, hr => by
    have hb : b ∈ a :: l := hp.mem_iff.mpr (.head _)
    have ha : a ∈ b :: r := hp.mem_iff.mp (.head _)
    have e : a = b := by
      rcases List.mem_cons.mp hb with e | hb'
      · exact e.symm
      · rcases List.mem_cons.mp ha with e | ha'
        · exact e
        · exact anti ((List.pairwise_cons.mp hl).1 b hb') ((List.pairwise_cons.mp hr).1 a ha')
    subst e
    rw [srt_unique anti (List.perm_cons a |>.mp hp) (List.pairwise_cons.mp hl).2 (List.pairwise_cons.mp hr).2]
end
end

/-! C6c -/
section
noncomputable abbrev txt1 {x y : Str} (_ : Txts x y) : Str := x
noncomputable abbrev txt2 {x y : Str} (_ : Txts x y) : Str := y
theorem nameG_B {M : Model} {A : Around} {E : Value → Shared → Prop} {s : Shared} {env : Env} {h₀ : Heap} {L : Addr} {m : Str → Option Value} {K : Frag} {mg mb : Str → Option Value} {p : Program} {loose : List Str} {x : Str} {pos : Pos} {v : Value} {Q : Value → Shared → Prop}
    (F : Fr h₀ L s.heap m) (X : K.In h₀) (T : TopRead p loose mg mb h₀) (e : nsIn K mainGlobals x = some none) (hv : bootBuiltins x = some v) (hn : x ≠ "__name__") (h : Q v s)
    (hg : env.globals = mainGlobals) (hb : env.builtins = builtinsNs) (hk : env.scope.kind = .function) (hx : env.kindOf x = some .globalImplicit) (hd : (x == ("__debug__" : Str)) = false) :
    wpAny M A (eval (.Name x pos) env) Q E s :=
  Name_function_global hk hx (loadGlobal_builtin (env := env) (by rw [hg]; exact T.g.keeps F.keep) (mg_none_of X T.g e) (by rw [hb]; exact T.b.keeps F.keep) ((T.builtins x hn).trans hv) h) hd

inductive SameL : List Value → List Value → Prop
  | nil : SameL [] []
  | str {x : Str} {t t' : Tok} {vs ws : List Value} : SameL vs ws → SameL (.str x t :: vs) (.str x t' :: ws)
  | int {x : Int} {t t' : Tok} {vs ws : List Value} : SameL vs ws → SameL (.int x t :: vs) (.int x t' :: ws)
theorem SameL.length {vs ws : List Value} (h : SameL vs ws) : vs.length = ws.length := by
  induction h with
  | nil => rfl
  | str _ ih => simp [ih]
  | int _ ih => simp [ih]
theorem SameL.at {A : Around} {s : Shared} {vs ws : List Value} (h : SameL vs ws) : ∀ j (h1 : j < vs.length) (h2 : j < ws.length), SeqAt.EqAt A s vs[j] ws[j] true := by
  induction h with
  | nil => intro j h1; exact absurd h1 (Nat.not_lt_zero _)
  | @str x t t' vs ws _ ih =>
    intro j h1 h2
    cases j with
    | zero =>
      have := SeqAt.EqAt.str_str (A := A) (s := s) x t x t'
      rw [beq_self_eq_true] at this
      exact this
    | succ j => exact ih j (by simpa using h1) (by simpa using h2)
  | @int x t t' vs ws _ ih =>
    intro j h1 h2
    cases j with
    | zero =>
      have := SeqAt.EqAt.int_int (A := A) (s := s) x t x t'
      rw [beq_self_eq_true] at this
      exact this
    | succ j => exact ih j (by simpa using h1) (by simpa using h2)
theorem same_strs {vs : List Value} (hS : ∀ v ∈ vs, IsS v) : ∀ {ws : List Value}, (∀ v ∈ ws, IsS v) → vs.map strOf = ws.map strOf → SameL vs ws := by
  induction vs with
  | nil => intro ws _ e; cases ws with | nil => exact .nil | cons _ _ => simp at e
  | cons v vs ih =>
    intro ws hW e
    cases ws with
    | nil => simp at e
    | cons u ws =>
      obtain ⟨x, t, rfl⟩ := hS v (List.mem_cons_self ..)
      obtain ⟨x', t', rfl⟩ := hW u (List.mem_cons_self ..)
      simp only [List.map_cons, List.cons.injEq] at e
      have e1 : x = x' := e.1
      subst e1
      exact .str (ih (fun v hv => hS v (List.mem_cons_of_mem _ hv)) (fun v hv => hW v (List.mem_cons_of_mem _ hv)) e.2)
theorem same_ints {vs ws : List Value} {ns : List Int} (h1 : IntsAre vs ns) : IntsAre ws ns → SameL vs ws := by
  induction h1 generalizing ws with
  | nil => intro h2; cases h2; exact .nil
  | cons n t _ ih => intro h2; cases h2 with | cons _ _ h2 => exact .int (ih h2)
theorem nats_ints {vs : List Value} {is : List Nat} (h : Nats vs is) : IntsAre vs (is.map fun (i : Nat) => (i : Int)) := by
  induction h with
  | nil => exact .nil
  | cons _ ih => exact .cons _ _ ih

structure SortedS (xs : List Str) (ws : List Value) : Prop where
  S : ∀ v ∈ ws, IsS v
  srt : Srt cmpT (ws.map strOf)
  perm : (ws.map strOf).Perm xs
structure SortedI (ns : List Int) (ws : List Value) : Prop where
  I : ∃ ns', IntsAre ws ns' ∧ ns'.Perm ns ∧ ns'.Pairwise (· ≤ ·)
theorem SortedS.same {xs : List Str} {ws vs : List Value} (h : SortedS xs ws) (hS : ∀ v ∈ vs, IsS v) (hs : Srt cmpT (vs.map strOf)) (hp : (vs.map strOf).Perm xs) : SameL vs ws :=
  same_strs hS h.S (srt_unique (R := fun a b => cmpT a b ≤ 0) (fun h1 h2 => cmpT_antisymm h1 h2) (hp.trans h.perm.symm) hs h.srt)
theorem SortedI.same {ns ms : List Int} {ws vs : List Value} (h : SortedI ns ws) (hI : IntsAre vs ms) (hs : ms.Pairwise (· ≤ ·)) (hp : ms.Perm ns) : SameL vs ws := by
  obtain ⟨ns', h1, h2, h3⟩ := h.I
  have e : ms = ns' := srt_unique (R := fun a b : Int => a ≤ b) (fun h1 h2 => Int.le_antisymm h1 h2) (hp.trans h2.symm) hs h3
  subst e
  exact same_ints hI h1

theorem srt_of_rising : ∀ (p : Str) (l : List Str), risingS p l = true → Srt cmpT (p :: l)
  | p, [], _ => List.pairwise_singleton _ _
  | p, x :: r, h => by
    have h' : (!ltCps x.cps.toList p.cps.toList && risingS x r) = true := h
    rw [Bool.and_eq_true] at h'
    have ih := srt_of_rising x r h'.2
    have hpx : cmpT p x ≤ 0 := by
      rw [cmpT_le]
      have := h'.1
      rw [ltCps_eq] at this
      simpa using this
    refine List.pairwise_cons.mpr ⟨fun y hy => ?_, ih⟩
    rcases List.mem_cons.mp hy with rfl | hy
    · exact hpx
    · exact cmpT_trans hpx ((List.pairwise_cons.mp ih).1 y hy)
theorem srt_of_sortedS : ∀ (l : List Str), sortedS l = true → Srt cmpT l
  | [], _ => List.Pairwise.nil
  | x :: r, h => srt_of_rising x r h
theorem strsAre_of {vs : List Value} (hS : ∀ v ∈ vs, IsS v) : StrsAre vs (vs.map strOf) := by
  induction vs with
  | nil => exact .nil
  | cons v vs ih =>
    obtain ⟨x, t, rfl⟩ := hS v (List.mem_cons_self ..)
    exact .cons x t (ih fun v hv => hS v (List.mem_cons_of_mem _ hv))
theorem strsAre_to {vs : List Value} {ss : List Str} (h : StrsAre vs ss) : (∀ v ∈ vs, IsS v) ∧ vs.map strOf = ss := by
  induction h with
  | nil => simp
  | cons x t _ ih =>
    refine ⟨fun v hv => ?_, by simp [ih.2, strOf]⟩
    rcases List.mem_cons.mp hv with rfl | hv
    · exact ⟨_, _, rfl⟩
    · exact ih.1 v hv

section
variable {prog : Program} {w : World} {A : Around} {E : Value → Shared → Prop} {s : Shared} {h₀ : Heap} {L : Addr} {m : Str → Option Value} {news : List (Addr × Obj)} {Q : Value → Shared → Prop}
theorem sorted_strs_L {l : Addr} {vs : List Value} (F : Fr h₀ L s.heap m) (N : News h₀ L s.heap news) (hl : s.heap.IsList l vs.toArray) (hS : ∀ v ∈ vs, IsS v) (hz : vs.length < 64)
    (h : ∀ a n ws h', Fr h₀ L h' m → News h₀ L h' ((a, W.listOf ws.toArray n) :: news) → (∀ p ∈ news, p.1 < a) → SortedS (vs.map strOf) ws → Q (.ref a) { s with heap := h' }) :
    wpAny (model prog w) A (call (.builtin "sorted") [.ref l]) Q E s :=
  sorted_N_str F N hl (strsAre_of hS) hz fun h' vs' ss' e F' N' a1 a2 a3 =>
    h _ e vs' h' F' N' (fun p hp => Nat.lt_succ_of_lt (Heap.lt_size (N p hp).1)) (by
      obtain ⟨b1, b2⟩ := strsAre_to a1
      subst b2
      exact ⟨b1, srt_of_sortedS _ a3, a2⟩)
theorem sorted_ints_L {l : Addr} {vs : List Value} {ns : List Int} (F : Fr h₀ L s.heap m) (N : News h₀ L s.heap news) (hl : s.heap.IsList l vs.toArray) (hI : IntsAre vs ns) (hz : vs.length < 64)
    (h : ∀ a n ws h', Fr h₀ L h' m → News h₀ L h' ((a, W.listOf ws.toArray n) :: news) → (∀ p ∈ news, p.1 < a) → SortedI ns ws → Q (.ref a) { s with heap := h' }) :
    wpAny (model prog w) A (call (.builtin "sorted") [.ref l]) Q E s :=
  kso_sorted F N hl hI (by have := IntsAre.length hI; omega) fun D vs' ns' c h' F' N' hD a1 _ a2 a3 _ =>
    h D c vs' h' F' N' hD ⟨ns', a1, a2, a3⟩

theorem ne_same {l b : Addr} {vs ws : List Value} (hl : s.heap.IsList l vs.toArray) (hb : s.heap.IsList b ws.toArray) (hs : SameL vs ws) (hu : A.units < cLine) (h : Q (.bool false) s) :
    wpAny (model prog w) A (compareOp .NotEq (.ref l) (.ref b)) Q E s := by
  refine cmp_ofNotEq (SeqAt.RcNeAt.lists (e := fun _ => true) hl hb (by simpa using hs.length) hu ?_ prog w E Q ?_)
  · intro j h1 h2
    have := SameL.at (A := A.in1) (s := s) hs j (by simpa using h1) (by simpa using h2)
    simpa using this
  · have e : (!(List.range vs.toArray.size).all fun _ => true) = false := by simp
    rw [e]; exact h
theorem ne_none {l b : Addr} {vs : List Value} (hl : s.heap.IsList l vs.toArray) (hb : s.heap.IsList b ([] : List Value).toArray) (hu : A.units < cLine) (h1 : vs = [] → Q (.bool false) s) (h2 : vs ≠ [] → Q (.bool true) s) :
    wpAny (model prog w) A (compareOp .NotEq (.ref l) (.ref b)) Q E s := by
  by_cases e : vs = []
  · subst e
    exact ne_same hl hb .nil hu (h1 rfl)
  · refine cmp_ofNotEq (SeqAt.RcNeAt.lists_lengths hl hb ?_ hu prog w E Q (h2 e))
    cases vs with
    | nil => exact absurd rfl e
    | cons _ _ => simp

theorem slice_run_L {value slice : PySem.Expr} {l : Addr} {vs : List Value} {a b : Int} {u u' : Tok}
    (F : Fr h₀ L s.heap m) (N : News h₀ L s.heap news) (hl : s.heap.IsList l vs.toArray) (hz : vs.length ≤ 100000) (h0 : 0 ≤ a) (hab : a ≤ b) (hb : b ≤ vs.length)
    (h : ∀ c h', Fr h₀ L h' m → News h₀ L h' ((c, W.listOf ((vs.drop a.toNat).take (b - a).toNat).toArray 0) :: news) → (∀ p ∈ news, p.1 < c) → Q (.ref c) { s with heap := h' })
    (hs : subscripted slice false (.ref l) (.ref s.heap.objs.size) = operate [.ref s.heap.objs.size, .ref l] (getItem (.ref l) (.ref s.heap.objs.size)))
    (ht : ∀ r, letTemporaryGo value (.ref l) r = pure ()) :
    wpAny (model prog w) A (subscriptTail value slice (.ref l) (.ref s.heap.objs.size)) Q E { s with heap := s.heap.push { cls := .type "slice", data := .fields #[.int a u, .int b u', .none] } } := by
  obtain ⟨i, rfl⟩ : ∃ i : Nat, a = i := ⟨a.toNat, by omega⟩
  obtain ⟨j, rfl⟩ : ∃ j : Nat, b = j := ⟨b.toNat, by omega⟩
  refine slice_list F N hl (.int _ _) (.int _ _) (fun h' F' N' => h _ h' F' ?_ fun p hp => Nat.lt_succ_of_lt (Heap.lt_size (N p hp).1)) hs ht (by rw [List.size_toArray, PySem.sizeLine_eq]; omega)
  rw [slicePick_run _ _ _ (by simp; omega) (by omega)] at N'
  have e1 : ((i : Int)).toNat = i := by omega
  have e2 : ((j : Int) - (i : Int)).toNat = j - i := by omega
  rw [e1, e2]
  simpa using N'
end
end

/-! P2 -/
section
theorem lex_pre : ∀ {ys u t : List Nat}, ¬ u < ys → ¬ ys ++ t < u → ys <+: u
  | [], u, t, _, _ => ⟨u, rfl⟩
  | y :: ys, [], t, h, _ => absurd (List.nil_lt_cons y ys) h
  | y :: ys, a :: u, t, h1, h2 => by
    rw [List.cons_append] at h2
    rw [List.cons_lt_cons_iff] at h1 h2
    have e : a = y := by
      rcases Nat.lt_trichotomy a y with h | h | h
      · exact absurd (.inl h) h1
      · exact h
      · exact absurd (.inl h) h2
    subst e
    obtain ⟨r, hr⟩ := lex_pre (ys := ys) (u := u) (t := t) (fun h => h1 (.inr ⟨rfl, h⟩)) (fun h => h2 (.inr ⟨rfl, h⟩))
    exact ⟨r, by rw [← hr, List.cons_append]⟩
theorem pre_not_lt : ∀ {ys u : List Nat}, ys <+: u → ¬ u < ys
  | [], u, _ => List.not_lt_nil u
  | y :: ys, u, h => by
    obtain ⟨r, rfl⟩ := h
    rw [List.cons_append, List.cons_lt_cons_iff]
    rintro (h | ⟨_, h⟩)
    · exact Nat.lt_irrefl _ h
    · exact pre_not_lt (ys := ys) ⟨r, rfl⟩ h

theorem filter_take {α : Type} {p : α → Bool} : ∀ {l : List α}, l.Pairwise (fun u v => p v = true → p u = true) → l.filter p = l.take (l.filter p).length
  | [], _ => rfl
  | x :: r, h => by
    obtain ⟨h1, h2⟩ := List.pairwise_cons.mp h
    by_cases hp : p x = true
    · rw [List.filter_cons_of_pos hp, List.length_cons, List.take_succ_cons, ← filter_take h2]
    · have e : r.filter p = [] := by
        rw [List.filter_eq_nil_iff]
        intro v hv hpv
        exact hp (h1 v hv hpv)
      rw [List.filter_cons_of_neg hp, e]; rfl

noncomputable def begS (y e : Str) : Bool := Txt.slice e none (some (y.length : Int)) == y
theorem slice_upto_in {e : Str} {n : Nat} (h : n ≤ e.cps.toList.length) : Txt.slice e none (some (n : Int)) = ⟨(e.cps.toList.take n).toArray⟩ := by
  refine (StrLaws.sliceText_to (x := e) (j := (n : Int)) ⟨Int.natCast_nonneg n, Int.ofNat_le.mpr h⟩).trans ?_
  rw [Int.sub_zero, Int.toNat_natCast, List.drop_zero]
theorem slice_upto_chars {e : Str} {n : Nat} : Txt.slice e none (some (n : Int)) = ⟨(e.cps.toList.take n).toArray⟩ := by
  by_cases h : n ≤ e.cps.toList.length
  · exact slice_upto_in h
  · have h' : e.cps.toList.length ≤ n := Nat.le_of_not_le h
    rw [slice_to_beyond (Int.ofNat_le.mpr (by rw [len_chars]; exact h')), len_chars, slice_upto_in (Nat.le_refl _), List.take_of_length_le (Nat.le_refl _), List.take_of_length_le h']
theorem slice_nat {x : Str} {a b : Nat} (h : a ≤ b) (hb : b ≤ x.length) : Txt.slice x (some (a : Int)) (some (b : Int)) = ⟨((x.cps.toList.drop a).take (b - a)).toArray⟩ := by
  rw [slice_chars (Int.natCast_nonneg a) (Int.ofNat_le.mpr h) (Int.ofNat_le.mpr hb), Int.toNat_natCast, ← Int.natCast_sub h, Int.toNat_natCast]
theorem slice_beyond {x : Str} {a b : Nat} (hb : x.length ≤ b) : Txt.slice x (some (a : Int)) (some (b : Int)) = Txt.slice x (some (a : Int)) (some (x.length : Int)) := by
  show StrLaws.sliceText x _ _ = StrLaws.sliceText x _ _
  unfold StrLaws.sliceText
  have e : Builtin.Str.strSliceIndices (some (a : Int)) (some (b : Int)) 1 x.length = Builtin.Str.strSliceIndices (some (a : Int)) (some (x.length : Int)) 1 x.length := by
    have a1 : ¬ ((b : Int) < 0) := Int.not_lt.mpr (Int.natCast_nonneg b)
    have a2 : ¬ ((x.length : Int) < 0) := Int.not_lt.mpr (Int.natCast_nonneg _)
    unfold Builtin.Str.strSliceIndices
    dsimp only
    rw [if_neg a1, if_neg a2, Int.min_eq_right (Int.ofNat_le.mpr hb), Int.min_eq_right (Int.le_refl _)]
    rfl
  rw [e]
theorem take_all {α : Type} {l : List α} {a n : Nat} (h : l.length ≤ n) : (l.drop a).take (n - a) = l.drop a :=
  List.take_of_length_le (by rw [List.length_drop]; exact Nat.sub_le_sub_right h a)
theorem slice_run_chars {x : Str} {a b : Nat} (h : a ≤ b) (ha : a ≤ x.length) : Txt.slice x (some (a : Int)) (some (b : Int)) = ⟨((x.cps.toList.drop a).take (b - a)).toArray⟩ := by
  by_cases hb : b ≤ x.length
  · exact slice_nat h hb
  · have hb' : x.length ≤ b := Nat.le_of_not_le hb
    rw [slice_beyond hb', slice_nat ha (Nat.le_refl _), take_all (Nat.le_of_eq (len_chars x).symm), take_all (by rw [← len_chars]; exact hb')]
theorem suf_chars {x : Str} {i : Nat} (h : i ≤ x.length) : Txt.slice x (some (i : Int)) none = ⟨(x.cps.toList.drop i).toArray⟩ := by
  rw [slice_from_eq (b := (x.length : Int)) (Int.natCast_nonneg i) (Int.ofNat_le.mpr h) rfl, Int.toNat_natCast, ← Int.natCast_sub h, Int.toNat_natCast, take_all (Nat.le_of_eq (len_chars x).symm)]
theorem begS_iff (y e : Str) : begS y e = true ↔ y.cps.toList <+: e.cps.toList := by
  unfold begS
  rw [slice_upto_chars, beq_iff_eq]
  constructor
  · intro h
    refine ⟨e.cps.toList.drop y.length, ?_⟩
    have := congrArg (fun s : Str => s.cps.toList) h
    simp only at this
    rw [← this]; exact List.take_append_drop _ _
  · rintro ⟨r, hr⟩
    rw [← hr, len_chars, List.take_left']
    rfl

noncomputable def suf (x : Str) (i : Nat) : Str := Txt.slice x (some (i : Int)) none
theorem begS_suf {x y : Str} {i : Nat} (h : i ≤ x.length) : begS y (suf x i) = true ↔ Occ x.cps.toList y.cps.toList i := by
  have hl := len_chars x
  unfold suf
  rw [begS_iff, suf_chars h]
  constructor
  · rintro ⟨r, hr⟩
    have hr' : y.cps.toList ++ r = x.cps.toList.drop i := hr
    have := congrArg List.length hr'
    rw [List.length_append, List.length_drop] at this
    refine ⟨by omega, ?_⟩
    rw [← hr', List.take_left']
    rfl
  · rintro ⟨h1, h2⟩
    refine ⟨(x.cps.toList.drop i).drop y.cps.toList.length, ?_⟩
    show y.cps.toList ++ _ = x.cps.toList.drop i
    conv => lhs; lhs; rw [← h2]
    exact List.take_append_drop _ _
theorem slice_test {x y : Str} {i : Nat} (h : i ≤ x.length) : (Txt.slice x (some (i : Int)) (some ((i : Int) + (y.length : Int))) == y) = true ↔ Occ x.cps.toList y.cps.toList i := by
  have hl := len_chars x
  have hl2 := len_chars y
  have e : ((i : Int) + (y.length : Int)) = ((i + y.length : Nat) : Int) := by omega
  rw [e, slice_run_chars (by omega) h, beq_iff_eq]
  have e2 : i + y.length - i = y.cps.toList.length := by omega
  rw [e2]
  constructor
  · intro h1
    have h2 := congrArg (fun s : Str => s.cps.toList) h1
    simp only at h2
    have h3 := congrArg List.length h2
    rw [List.length_take, List.length_drop] at h3
    exact ⟨by omega, h2⟩
  · rintro ⟨_, h2⟩
    rw [h2]

structure SufL (x : Str) (ys : List Value) : Prop where
  S : ∀ v ∈ ys, IsS v
  txt : ys.map strOf = (List.range x.length).map (suf x)
theorem SufL.len {x : Str} {ys : List Value} (h : SufL x ys) : ys.length = x.length := by
  have := congrArg List.length h.txt
  simpa using this

structure Ends (x : Str) (En : List Value) : Prop where
  S : ∀ v ∈ En, IsS v
  srt : Srt cmpT (En.map strOf)
  perm : (En.map strOf).Perm ((List.range x.length).map (suf x))
  len : En.length = x.length
theorem ends_of {x : Str} {ys : List Value} (h : SufL x ys) : Ends x (sortV cmpV ys) := by
  have hp := sortV_perm (cmp := cmpV) ys
  refine ⟨fun v hv => h.S v (hp.mem_iff.mp hv), ?_, ?_, by rw [hp.length_eq]; exact h.len⟩
  · have e : (sortV cmpV ys).map strOf = sortV cmpT (ys.map strOf) := sortV_map strOf ys
    rw [e]
    exact sortV_srt cmpT_total (fun h1 h2 => cmpT_trans h1 h2) _
  · rw [← h.txt]; exact hp.map _

noncomputable def begins (y : Str) (v : Value) : Bool := begS y (strOf v)

theorem block_run {x y : Str} {En : List Value} {r : Nat} (h : Ends x En) (hf : FirstSpec En y r) : r + (En.filter (begins y)).length ≤ En.length ∧ (En.drop r).take (En.filter (begins y)).length = En.filter (begins y) := by
  obtain ⟨h1, h2, h3⟩ := hf
  have hs : ∀ i j (hi : i < En.length) (hj : j < En.length), i < j → cmpT (strOf En[i]) (strOf En[j]) ≤ 0 := by
    intro i j hi hj hij
    have := List.pairwise_iff_getElem.mp h.srt i j (by simpa using hi) (by simpa using hj) hij
    simpa using this
  have front : (En.take r).filter (begins y) = [] := by
    rw [List.filter_eq_nil_iff]
    intro v hv hb
    obtain ⟨j, hj, rfl⟩ := List.mem_iff_getElem.mp hv
    rw [List.length_take] at hj
    have hb' := pre_not_lt ((begS_iff _ _).mp hb)
    rw [List.getElem_take] at hb'
    have h4 := h2 En[r - 1] (by omega) (List.getElem?_eq_getElem (by omega))
    rw [cmpT_lt] at h4
    rcases Nat.lt_or_ge j (r - 1) with hjr | hjr
    · have h5 := hs j (r - 1) (by omega) (by omega) hjr
      rw [cmpT_le, List.not_lt] at h5
      exact hb' (List.lt_of_le_of_lt h5 h4)
    · have e : j = r - 1 := by omega
      subst e
      exact hb' h4
  have back : (En.drop r).filter (begins y) = (En.drop r).take ((En.drop r).filter (begins y)).length := by
    refine filter_take ?_
    rw [List.pairwise_iff_getElem]
    intro i j hi hj hij hv
    rw [List.length_drop] at hi hj
    rw [List.getElem_drop] at hv ⊢
    obtain ⟨t, ht⟩ := (begS_iff _ _).mp hv
    refine (begS_iff _ _).mpr (lex_pre (t := t) ?_ ?_)
    · have h4 := h3 En[r] (List.getElem?_eq_getElem (by omega))
      rw [cmpT_lt] at h4
      rcases Nat.eq_zero_or_pos i with e | hpos
      · subst e; exact h4
      · have h5 := hs r (r + i) (by omega) (by omega) (by omega)
        rw [cmpT_le, List.not_lt] at h5
        intro h6
        exact h4 (List.lt_of_le_of_lt h5 h6)
    · rw [ht]
      have h5 := hs (r + i) (r + j) (by omega) (by omega) (by omega)
      rw [cmpT_le] at h5
      exact h5
  have e : En.filter (begins y) = (En.drop r).filter (begins y) := by
    conv => lhs; rw [← List.take_append_drop r En]
    rw [List.filter_append, front, List.nil_append]
  rw [e]
  refine ⟨?_, back.symm⟩
  have := congrArg List.length back
  rw [List.length_take, List.length_drop] at this
  omega

theorem placesTo_sorted (xs ys : List Nat) (b : Nat) : ((placesTo xs ys b).map fun (i : Nat) => (i : Int)).Pairwise (· ≤ ·) := by
  rw [List.pairwise_map]
  unfold placesTo
  refine List.Pairwise.filter _ ?_
  refine List.Pairwise.imp ?_ (List.pairwise_lt_range (n := b))
  intro a b h; omega
open Classical in
theorem placesTo_congr {xs ys : List Nat} {b : Nat} {p : Nat → Bool} (h : ∀ i, i < b → (p i = true ↔ Occ xs ys i)) : (List.range b).filter p = placesTo xs ys b := by
  unfold placesTo
  refine List.filter_congr fun i hi => ?_
  rw [Bool.eq_iff_iff, h i (List.mem_range.mp hi), decide_eq_true_iff]

theorem block_lens {x y : Str} {En : List Value} (h : Ends x En) : ((places x.cps.toList y.cps.toList).map fun (i : Nat) => (i : Int)).Perm ((En.filter (begins y)).map fun v => (x.length : Int) - ((strOf v).length : Int)) := by
  have hl := len_chars x
  have e1 : (En.filter (begins y)).map (fun v => (x.length : Int) - ((strOf v).length : Int)) = ((En.map strOf).filter (begS y)).map fun e => (x.length : Int) - (e.length : Int) := by
    rw [List.filter_map, List.map_map]; rfl
  rw [e1]
  refine List.Perm.symm (((h.perm.filter (begS y)).map fun e => (x.length : Int) - (e.length : Int)).trans ?_)
  rw [List.filter_map, List.map_map]
  have e2 : (List.range x.length).filter (begS y ∘ suf x) = places x.cps.toList y.cps.toList := by
    have := placesTo_congr (xs := x.cps.toList) (ys := y.cps.toList) (b := x.length) (p := begS y ∘ suf x) fun i hi => begS_suf (by omega)
    rw [this]; unfold places; rw [hl]
  rw [e2]
  refine List.Perm.of_eq (List.map_congr_left fun i hi => ?_)
  have hi' : i < x.cps.toList.length := by
    unfold places placesTo at hi
    exact List.mem_range.mp (List.mem_filter.mp hi).1
  show (x.length : Int) - ((suf x i).length : Int) = i
  unfold suf
  rw [suf_chars (by omega)]
  have : (Str.mk (x.cps.toList.drop i).toArray).length = x.cps.toList.length - i := by simp [Str.length]
  rw [this]; omega

theorem nats_filter {p : Value → Bool} {q : Nat → Bool} {vs : List Value} {is : List Nat} (h : Nats vs is) (hp : ∀ (i : Nat) t, i ∈ is → p (.int (i : Int) t) = q i) : Nats (vs.filter p) (is.filter q) := by
  induction h with
  | nil => exact .nil
  | @cons i t vs is _ ih =>
    have e := hp i t (List.mem_cons_self ..)
    have ih := ih fun j t hj => hp j t (List.mem_cons_of_mem _ hj)
    by_cases hq : q i = true
    · rw [List.filter_cons_of_pos hq, List.filter_cons_of_pos (e.trans hq)]; exact .cons ih
    · rw [List.filter_cons_of_neg hq, List.filter_cons_of_neg (by rw [e]; exact hq)]; exact ih
noncomputable def stands (x y : Str) (v : Value) : Bool := match v with
  | .int i _ => Txt.slice x (some i) (some (i + (y.length : Int))) == y
  | _ => false
theorem stands_places {x y : Str} {vs : List Value} (h : Nats vs (List.range x.length)) : Nats (vs.filter (stands x y)) (places x.cps.toList y.cps.toList) := by
  have hl := len_chars x
  have e := placesTo_congr (xs := x.cps.toList) (ys := y.cps.toList) (b := x.length) (p := fun i => Txt.slice x (some (i : Int)) (some ((i : Int) + (y.length : Int))) == y) fun i hi => slice_test (by omega)
  have := nats_filter (p := stands x y) (q := fun i => Txt.slice x (some (i : Int)) (some ((i : Int) + (y.length : Int))) == y) h fun i t _ => rfl
  rw [e] at this
  unfold places
  rw [← hl]; exact this

theorem last_place {xs ys : List Nat} {r : Int} (hy : ys ≠ []) (h : RIdxSpec xs ys r) : (∃ i : Nat, r = i ∧ ∃ l, places xs ys = l ++ [i]) ∨ (r = -1 ∧ places xs ys = []) := by
  have hys : 0 < ys.length := List.length_pos_iff.mpr hy
  rcases h with ⟨i, rfl, h1, h2⟩ | ⟨rfl, h1⟩
  · refine .inl ⟨i, rfl, placesTo xs ys i, ?_⟩
    have hlt : i + 1 ≤ xs.length := by have := h1.1; omega
    obtain ⟨d, hd⟩ := Nat.le.dest hlt
    unfold places
    rw [← hd, placesTo_none fun j a _ => h2 j (by omega)]
    exact placesTo_step (Nat.le_refl _) (fun j a b => by omega) h1
  · refine .inr ⟨rfl, ?_⟩
    have := placesTo_none (xs := xs) (ys := ys) (b := 0) (d := xs.length) fun j _ _ => h1 j
    rw [Nat.zero_add] at this
    exact this
theorem nats_last {vs : List Value} {l : List Nat} {i : Nat} (h : Nats vs (l ++ [i])) : ∃ t, vs[vs.length - 1]? = some (.int (i : Int) t) := by
  induction l generalizing vs with
  | nil => cases h with | cons h => cases h; exact ⟨_, rfl⟩
  | cons j l ih =>
    rw [List.cons_append] at h
    cases h with
    | @cons _ _ vs _ h =>
      obtain ⟨t, ht⟩ := ih h
      have hl := h.length
      rw [List.length_append, List.length_singleton] at hl
      refine ⟨t, ?_⟩
      rw [List.length_cons, Nat.add_sub_cancel]
      have e : vs.length = (vs.length - 1) + 1 := by omega
      rw [e, List.getElem?_cons_succ]
      exact ht
end

/-! C7 -/
section

section
variable {w : World} {mg mb : Str → Option Value} {dp un : Nat} {fr : Option (List Env)} {gd : Option (List Code)} {s : Shared} {Q E : Value → Shared → Prop}

noncomputable def SufV (x : Str) (v y : Value) : Prop := ∃ (i : Nat) (t t' : Tok), v = .int (i : Int) t ∧ y = .str (Txt.slice x (some (i : Int)) none) t'

theorem sufs_go {x : Str} {vs ys : List Value} (hp : Paired (SufV x) vs ys) : ∀ {is : List Nat}, Nats vs is → (∀ v ∈ ys, IsS v) ∧ ys.map strOf = is.map (suf x) := by
  induction hp with
  | nil => intro is h; cases h; simp
  | cons h _ ih =>
    intro is hn
    obtain ⟨i, t, t', rfl, rfl⟩ := h
    cases hn with
    | cons hn =>
      obtain ⟨h1, h2⟩ := ih hn
      refine ⟨fun v hv => ?_, by simp [h2, strOf, suf]⟩
      rcases List.mem_cons.mp hv with rfl | hv
      · exact ⟨_, _, rfl⟩
      · exact h1 v hv
theorem sufs_of {x : Str} {vs ys : List Value} (hn : Nats vs (List.range x.length)) (hp : Paired (SufV x) (vs.filter fun _ => true) ys) : SufL x ys := by
  have e : vs.filter (fun _ => true) = vs := by simp
  rw [e] at hp
  obtain ⟨h1, h2⟩ := sufs_go hp hn
  exact ⟨h1, h2⟩
theorem sorted_by_text_L {h₀ : Heap} {L : Addr} {m : Str → Option Value} {news : List (Addr × Obj)} {l : Addr} {vl : List Value} {x : Str} (F : Fr h₀ L s.heap m) (N : News h₀ L s.heap news) (G : GH w mg mb s.heap) (hd : dp + 17 < recursionLimit) (hu : un + 110 < cLine)
   (hS : SufL x vl) (hl : s.heap.IsList l vl.toArray) (hz : x.length ≤ 60) (h0 : 0 < x.length)
   (hret : ∀ a n En h' tk', Ends x En → Fr h₀ L h' m → News h₀ L h' ((a, W.listOf En.toArray n) :: news) → (∀ p ∈ news, @Ne Nat p.1 a) → Q (.ref a) { s with heap := h', toks := tk' }) :
   wpAny (model PySem.Challenge.rw_sz0087_01.row.prog w) (AR dp un fr gd) (call (.ref 227) [.ref l]) Q E s := by
  have hlen := hS.len
  refine sorted_by_text_ok G hd hu hl hS.S (by omega) (by rintro rfl; simp at hlen; omega) fun a n h' tk' k ha ho => ?_
  exact hret a n _ h' tk' (ends_of hS) (frK F k) (news_add F (nwK N k) k ha ho) (news_off N ha)



theorem Ends.le {x : Str} {En : List Value} (h : Ends x En) {e : Str} {te : Tok} (hP : Value.str e te ∈ En) : e.length ≤ x.length := by
  have h1 : e ∈ En.map strOf := List.mem_map.mpr ⟨_, hP, rfl⟩
  obtain ⟨i, hi, h2⟩ := List.mem_map.mp (h.perm.mem_iff.mp h1)
  rw [← h2]
  exact PyProof.Txt.length_slice_le _ _ _
theorem Ends.leF {x : Str} {En : List Value} {p : Value → Bool} (h : Ends x En) {e : Str} {te : Tok} (hP : Value.str e te ∈ En.filter p) : e.length ≤ x.length := h.le (List.mem_filter.mp hP).1
theorem Ends.lenF {x : Str} {En : List Value} (p : Value → Bool) (h : Ends x En) : (En.filter p).length ≤ x.length := Nat.le_trans (List.length_filter_le _ _) (Nat.le_of_eq h.len)
theorem filter_S {vs : List Value} (p : Value → Bool) (h : ∀ v ∈ vs, IsS v) : ∀ v ∈ vs.filter p, IsS v := fun v hv => h v (List.mem_filter.mp hv).1
theorem paired_eq {vs ys : List Value} (h : Paired (fun v y => y = v) vs ys) : ys = vs := by
  induction h with
  | nil => rfl
  | cons h _ ih => rw [h, ih]


theorem run_same {En B : List Value} {r : Nat} (h : r + B.length ≤ En.length ∧ (En.drop r).take B.length = B) (hS : ∀ v ∈ B, IsS v) : SameL ((En.drop ((r : Int)).toNat).take (((r : Int) + (B.length : Int)) - (r : Int)).toNat) B := by
  have e1 : ((r : Int)).toNat = r := by omega
  have e2 : (((r : Int) + (B.length : Int)) - (r : Int)).toNat = B.length := by omega
  rw [e1, e2, h.2]
  exact same_strs hS hS rfl
noncomputable def LenV (x : Str) (v y : Value) : Prop := ∃ (e : Str) (t t' : Tok), v = .str e t ∧ y = .int ((x.length : Int) - (e.length : Int)) t'
theorem lens_of {x : Str} {vs ys : List Value} (h : Paired (LenV x) (vs.filter fun _ => true) ys) : IntsAre ys (vs.map fun v => (x.length : Int) - ((strOf v).length : Int)) := by
  have e : vs.filter (fun _ => true) = vs := by simp
  rw [e] at h
  clear e
  induction h with
  | nil => exact .nil
  | cons h _ ih =>
    obtain ⟨e, t, t', rfl, rfl⟩ := h
    exact .cons _ _ ih
theorem places_L {h₀ : Heap} {L : Addr} {m : Str → Option Value} {news : List (Addr × Obj)} {x y : Str} {tx ty : Tok} (F : Fr h₀ L s.heap m) (N : News h₀ L s.heap news) (G : GH w mg mb s.heap) (hd : dp + 8 < recursionLimit) (hu : un + 60 < cLine) (hx : x.length ≤ 60) (hy : y.length ≤ 60) (h0 : 0 < x.length)
   (hret : ∀ a n vs h' tk', Nats vs (places x.cps.toList y.cps.toList) → Fr h₀ L h' m → News h₀ L h' ((a, W.listOf vs.toArray n) :: news) → (∀ p ∈ news, @Ne Nat p.1 a) → Q (.ref a) { s with heap := h', toks := tk' }) :
   wpAny (model PySem.Challenge.rw_sz0087_01.row.prog w) (AR dp un fr gd) (call (.ref 270) [.str x tx, .str y ty]) Q E s :=
  law_all_places_ok G hd hu (by omega) (by omega) h0 fun a n vs h' tk' hN k ha ho => hret a n vs h' tk' hN (frK F k) (news_add F (nwK N k) k ha ho) (news_off N ha)
theorem places_len {vs : List Value} {x : Str} {ys : List Nat} (h : Nats vs (places x.cps.toList ys)) : vs.length ≤ x.length := by
  have h1 := h.length
  have h2 := placesTo_length x.cps.toList ys x.cps.toList.length
  have h3 := len_chars x
  unfold places at h1
  omega

theorem lens_same {x y : Str} {En ws pv : List Value} (hS : SortedI ((En.filter (begins y)).map fun v => (x.length : Int) - ((strOf v).length : Int)) ws) (hE : Ends x En) (hN : Nats pv (places x.cps.toList y.cps.toList)) : SameL pv ws :=
  SortedI.same hS (nats_ints hN) (placesTo_sorted _ _ _) (block_lens hE)
theorem stands_same {xs ys : List Nat} {pv ws : List Value} (hN : Nats pv (places xs ys)) (h : Nats ws (places xs ys)) : SameL pv ws := same_ints (nats_ints hN) (nats_ints h)



theorem nats_end {vs : List Value} {l : List Nat} (h : Nats vs l) (hne : vs ≠ []) : ∃ (i : Nat) (t : Tok), vs[vs.length - 1]? = some (.int (i : Int) t) ∧ ∃ l', l = l' ++ [i] := by
  have hl : l ≠ [] := by
    rintro rfl
    cases h; exact hne rfl
  have e := List.dropLast_concat_getLast hl
  rw [← e] at h
  obtain ⟨t, ht⟩ := nats_last h
  exact ⟨_, t, ht, _, e.symm⟩
structure LastAt (xs ys : List Nat) (i : Nat) : Prop where
  e : ∃ l', places xs ys = l' ++ [i]
theorem item_end {prog : Program} {A : Around} {value slice : PySem.Expr} {a : Addr} {l : List Value} {xs ys : List Nat} {u : Tok} (hl : s.heap.IsList a l.toArray) (hN : Nats l (places xs ys)) (hne : l ≠ [])
    (hz : l.length ≤ 100000) (h : ∀ (i : Nat) (t : Tok), LastAt xs ys i → Q (.int (i : Int) t) s)
    (hs : subscripted slice false (.ref a) (.int (-1) u) = operate [.ref a, .int (-1) u] (getItem (.ref a) (.int (-1) u))) (hg : ∀ r, letTemporaryGo value (.ref a) r = pure ()) :
    wpAny (model prog w) A (subscriptTail value slice (.ref a) (.int (-1) u)) Q E s := by
  obtain ⟨i, t, hx, hl'⟩ := nats_end hN hne
  exact item_last hl hz hx (h i t ⟨hl'⟩) hs hg


theorem end_one {y : Str} {h' : Heap} {tk' : Nat} (hret : ∀ h' tk', Ext s.heap h' → Q (.bool true) { s with heap := h', toks := tk' }) (he : (y == Str.ofString "") = true) (k : Ext s.heap h') : Q (.bool (y == Str.ofString "")) { s with heap := h', toks := tk' } := by
  rw [he]; exact hret _ _ k
theorem chars_ne {y : Str} (he : ¬ (y == Str.ofString "") = true) : y.cps.toList ≠ [] := by
  intro h
  apply he
  rw [beq_iff_eq]
  cases y with
  | mk c =>
    have : c = #[] := Array.toList_inj.mp h
    subst this; rfl
theorem end_two {x y : Str} {r : Int} {i : Nat} {h' : Heap} {tk' : Nat} (hret : ∀ h' tk', Ext s.heap h' → Q (.bool true) { s with heap := h', toks := tk' }) (hl : RIdxSpec x.cps.toList y.cps.toList r) (h9 : LastAt x.cps.toList y.cps.toList i) (he : ¬ (y == Str.ofString "") = true) (k : Ext s.heap h') : Q (.bool (r == (i : Int))) { s with heap := h', toks := tk' } := by
  have e : r = (i : Int) := by
    obtain ⟨l', h9⟩ := h9.e
    rcases last_place (chars_ne he) hl with ⟨j, rfl, l, h2⟩ | ⟨_, h2⟩
    · rw [h9] at h2
      have := List.append_inj_right' h2 rfl
      simp only [List.cons.injEq, and_true] at this
      rw [this]
    · rw [h9] at h2; simp at h2
  subst e
  rw [beq_self_eq_true]; exact hret _ _ k
theorem end_three {x y : Str} {r : Int} {vs : List Value} {h' : Heap} {tk' : Nat} (hret : ∀ h' tk', Ext s.heap h' → Q (.bool true) { s with heap := h', toks := tk' }) (hl : RIdxSpec x.cps.toList y.cps.toList r) (hv : vs = []) (hN : Nats vs (places x.cps.toList y.cps.toList)) (he : ¬ (y == Str.ofString "") = true) (k : Ext s.heap h') : Q (.bool (r == -1)) { s with heap := h', toks := tk' } := by
  have e : r = -1 := by
    rcases last_place (chars_ne he) hl with ⟨j, rfl, l, h2⟩ | ⟨h1, _⟩
    · have := hN.length
      rw [hv, h2] at this; simp at this
    · exact h1
  subst e
  exact hret _ _ k

set_option maxHeartbeats 600000 in
theorem endings_right_ok {x y : Str} {tx ty : Tok} (G : GH w mg mb s.heap) (hd : dp + 30 < recursionLimit) (hu : un + 200 < cLine) (hx : x.length ≤ 60) (hy : y.length ≤ 60) (h0 : 0 < x.length)
   (hret : ∀ h' tk', Ext s.heap h' → Q (.bool true) { s with heap := h', toks := tk' }) :
   wpAny (model PySem.Challenge.rw_sz0087_01.row.prog w) (AR dp un fr gd) (call (.ref 275) [.str x tx, .str y ty]) Q E s := by
  k_with_none
  k_with "call builtin:len" => (k_here; (with_reducible show wpAny _ _ (call (Value.builtin "len") [Value.ref _]) _ _ _); k_dflt (refine' len_vs ?k1 ?k2 ?_; (case k1 => is_list); (case k2 => omega); k_whole))
  k_with "subscriptTail" => (k_here; (with_reducible show wpAny _ _ (subscriptTail _ _ (Value.ref _) (Value.int (Nat.cast _) _)) _ _ _); k_dflt (refine' item_vs ?k1 ?k2 ?k3 ?_ ?k4 ?k5; (case k1 => is_list); (case k2 => omega); (case k3 => omega); (case k4 => with_unfolding_all rfl); (case k5 => intro _; with_unfolding_all rfl); k_whole))
  k_with "subscriptTail Name Slice ref ref" => (k_here; k_dflt (refine' slice_fromL ?k1 ?k2 ?k3 ?k4 ?_ ?k5 ?k6; (case k1 => assumption); (case k2 => assumption); (case k3 => is_list); (case k4 => omega); (case k5 => with_unfolding_all rfl); (case k6 => intro _; with_unfolding_all rfl); k_whole); intro l' h' F' N' l1; (try k_lt l1); (try k_sweep))
  k_with "call builtin:list.extend" => (k_here; k_dflt (refine' extend_two ?k1 ?k2 ?k3 ?k4 ?k5 ?_; (case k1 => assumption); (case k2 => assumption); (case k3 => k_ne); (case k4 => (try simp only [List.length_append, List.length_drop]); omega); (case k5 => (try simp only [List.length_append, List.length_drop]); omega); k_whole); intro n' h' F' N'; (try k_sweep))
  k_with "call ref" => (k_here; (with_reducible show wpAny _ _ (call (Value.ref 227) _) _ _ _); (k_dflt (refine' sorted_by_text_L ?F ?N ?G ?hd ?hu ?hS ?hl ?hz ?h0 ?_; (case F => assumption); (case N => assumption); (case G => (first | assumption | exact GH.keeps (by assumption) (Fr.keep (by assumption)))); (case hd => (first | assumption | exact room_d (by assumption) rfl | exact room_u (by assumption) rfl | omega | (dsimp only [AR, Around.deeper] at *; omega))); (case hu => (first | assumption | exact room_d (by assumption) rfl | exact room_u (by assumption) rfl | omega | (dsimp only [AR, Around.deeper] at *; omega))); (case hl => is_list); (case hS => assumption); (case hz => assumption); (case h0 => assumption); k_whole)); intro a n En h' tk' hEn F' N' hne'; (try k_sweep))
  k_with "call ref" => (k_here; (with_reducible show wpAny _ _ (call (Value.ref 263) _) _ _ _); (k_dflt (refine' law_first_ok ?G ?hd ?hu ?hl ?D ?hz ?_; (case G => (first | assumption | exact GH.keeps (by assumption) (Fr.keep (by assumption)))); (case hd => (first | assumption | exact room_d (by assumption) rfl | exact room_u (by assumption) rfl | omega | (dsimp only [AR, Around.deeper] at *; omega))); (case hu => (first | assumption | exact room_d (by assumption) rfl | exact room_u (by assumption) rfl | omega | (dsimp only [AR, Around.deeper] at *; omega))); (case hl => is_list); (case D => exact Ends.S (by assumption)); (case hz => first | exact len_le (Ends.len (by assumption)) (by assumption) rfl | ((have hl9 := Ends.len (by assumption)); omega)); k_whole)); intro r t' h' tk' hfirst kE'; ((rename Fr _ _ _ _ => fA'); (rename News _ _ _ _ => nA'); (have fB' := frK fA' kE'); (have nB' := nwK nA' kE'); (try dsimp only); (clear fA' nA'); (try k_fold)))
  k_with "eval ListComp" => (k_here; (with_reducible show wpAny _ _ (eval (PySem.Expr.ListComp (PySem.Expr.Subscript _ (PySem.Expr.Slice (some _) none none _) _) _ _ _) _) _ _ _); (rename Txts _ _ => tx9); (k_dflt (refine' comp_V (fun _ => true) (SufV (txt1 tx9)) ?hclos ?hcell ?hkind ?hnames ?hx ?hopen1 ?hs; (case hclos => with_unfolding_all rfl); (case hcell => decide); (case hkind => rfl); (case hnames => decide); (case hx => rfl); (case hs => intro _; with_unfolding_all rfl))))
  k_with "call type:range" => (k_here; (with_reducible show wpAny _ _ (call _ [_]) _ _ _); k_dflt (refine' range1_L ?k1 ?k2 ?_; (case k1 => assumption); (case k2 => assumption); k_whole); intro r' h' tk' t1 u1 v1 hR' F' N' kE'; (try k_sweep))
  k_with "pyIter ref" => (k_here; (with_reducible show wpAny _ _ (pyIter _) (FreeV _ _ _ _ _ _ _ _ _ _ (SufV _) _) _ _); (k_dflt (refine' range_V ?hh ?hr ?hz ?hF ?hN ⟨?tests, ?elt⟩ ?rest; (case hh => rfl); (case hr => assumption); (case hz => first | exact le_K (by assumption) rfl | omega); (case hF => assumption); (case hN => assumption); (case tests => intro C v s₃ m₃ E' hP hns hm Fe Ne; exact no_tests rfl); (case' elt => intro C v s₃ m₃ E' hP hpv hns hm Fe Ne; (have hC := InC.mk (h₀ := s₃.heap) (h := s₃.heap) (fun _ _ e => e)); (obtain ⟨i, t, hi, hv⟩ := hP); subst hv; (dsimp only [envOfC] at Fe Ne)); (case' rest => intro D k ys vs h' tk Fr' Nw' hne' hnats' hpair'; (dsimp only [envOfC] at Fr' Nw'); (have hSuf := sufs_of hnats' hpair'); clear hnats' hpair'))))
  k_with "subscriptTail Name Slice str ref" => (k_here; (rename InC _ _ => hC9); (k_dflt ((first | refine' slice_sn_X ?k1 ?_ ?k2 ?k3 | refine' slice_ns_X ?k1 ?_ ?k2 ?k3 | refine' slice_ss_X ?k1 ?_ ?k2 ?k3); (case k1 => first | exact le_K (by assumption) rfl | omega); (case k2 => with_unfolding_all rfl); (case k3 => intro _; with_unfolding_all rfl); k_whole)); intro h' t' k kE'; ((rename Fr _ _ _ _ => fA'); (rename News _ _ _ _ => nA'); (rename Heap.Ns _ _ _ => sA'); (rename InC _ _ => cA'); (have fB' := frK fA' kE'); (have nB' := nwK nA' kE'); (have sB' := nsK sA' kE'); (have cB' := incK cA' kE'); (try dsimp only); (clear fA' nA' sA' cA'); (try k_fold)))
  k_with "exec Assign cons ListComp" => (k_here; (rename Txts _ _ => tx9); (k_dflt (refine' comp_A (begins (txt2 tx9)) (fun v y => y = v) ?hsw ?hclos ?hcell ?hkind ?hnames ?hx ?hy ?hp ?hopen2 ?hs; (case hsw => with_unfolding_all rfl); (case hclos => with_unfolding_all rfl); (case hcell => decide); (case hkind => rfl); (case hnames => decide); (case hx => rfl); (case hy => rfl); (case hp => rfl); (case hs => intro _; with_unfolding_all rfl))))
  k_with "pyIter ref" => (k_here; (with_reducible show wpAny _ _ (pyIter _) (FreeA _ _ _ _ _ _ _ _ _ _ _ _ _) _ _); (rename Txts _ _ => tx9); (k_dflt (refine' list_A ?hh ?hl ?hz ?hF ?hN ?qB ?restB; (case hh => rfl); (case hl => is_list); (case hz => first | exact len_le (Ends.len (by assumption)) (by assumption) rfl | ((have hl9 := Ends.len (by assumption)); omega)); (case hF => assumption); (case hN => assumption); (case' qB => refine' Elts.mk ?testsB ?eltB); (case' testsB => intro C v s₃ m₃ E' hP hns hm Fe Ne; (have hC := InC.mk (h₀ := s₃.heap) (h := s₃.heap) (fun _ _ e => e)); (obtain ⟨e, te, hv⟩ := Ends.S (by assumption) _ hP); subst hv; (have he9 := Ends.le (by assumption) hP); (dsimp only [envOfC] at Fe Ne); refine one_test ?_); (case' eltB => intro C v s₃ m₃ E' hP hpv hns hm Fe Ne; (have hC := InC.mk (h₀ := s₃.heap) (h := s₃.heap) (fun _ _ e => e)); (obtain ⟨e, te, hv⟩ := Ends.S (by assumption) _ hP); subst hv; (have he9 := Ends.le (by assumption) hP); (dsimp only [envOfC] at Fe Ne)); (case' restB => intro D k ys h' tk Fr' Nw' hne' hpair'; (dsimp only [envOfC] at Fr' Nw'); (have hB9 := paired_eq hpair'); subst hB9; clear hpair'; (have hrun9 := block_run (y := txt2 tx9) (by assumption) (by assumption)); (have hBl9 := Ends.lenF (begins (txt2 tx9)) (by assumption)); (have hBS9 := filter_S (begins (txt2 tx9)) (Ends.S (by assumption)))))))
  k_with "eval Name" => (k_here; (with_reducible show wpAny _ _ (eval (PySem.Expr.Name _ _) (compEnvC _ _ _ _)) _ _ _); (rename Fr _ _ _ _ => kF); k_dflt (refine' nameG_B kF ?X ?T ?e ?v ?n ?_ ?g ?b ?k ?x ?d; (case g => rfl); (case b => rfl); (case k => rfl); (case x => rfl); (case d => decide); (case X => k_asm); (case T => k_asm); (case e => k_is); (case v => boot_fast); (case n => decide); k_whole))
  k_with "call builtin:sorted" => (k_here; (with_reducible show wpAny _ _ (call (Value.builtin "sorted") [Value.ref _]) _ _ _); (k_dflt (refine' sorted_strs_L ?F ?N ?hl ?hS ?hz ?_; (case F => assumption); (case N => assumption); (case hl => is_list); (case hS => exact Ends.S (by assumption)); (case hz => first | exact len_le (Ends.len (by assumption)) (by assumption) rfl | ((have hl9 := Ends.len (by assumption)); omega)); k_whole)); intro a n ws h' F' N' l1 hS'; (have hSame9 := SortedS.same hS' (Ends.S (by assumption)) (Ends.srt (by assumption)) (List.Perm.refl _)); (try k_lt l1); (try k_sweep))
  k_with "call builtin:sorted" => (k_here; (with_reducible show wpAny _ _ (call (Value.builtin "sorted") [Value.ref _]) _ _ _); (k_dflt (refine' sorted_ints_L ?F ?N ?hl ?hI ?hz ?_; (case F => assumption); (case N => assumption); (case hl => is_list); (case hI => assumption); (case hz => ((have hl9 := Ends.len (by assumption)); (have hi9 := IntsAre.length (by assumption)); rw [hi9, List.length_map]; refine Nat.lt_of_le_of_lt (List.length_filter_le _ _) ?_; omega)); k_whole)); intro a n ws h' F' N' l1 hS'; (have hSame9 := lens_same hS' (by assumption) (by assumption)); (try k_lt l1); (try k_sweep))
  k_with "compareOp NotEq ref ref" => (k_here; (with_reducible show wpAny _ _ (compareOp CmpOp.NotEq (Value.ref _) (Value.ref _)) _ _ _); (k_dflt (refine' ne_same ?hl ?hb ?hs ?hu ?_; (case hl => is_list); (case hb => is_list); (case hs => assumption); (case hu => (first | assumption | exact room_d (by assumption) rfl | exact room_u (by assumption) rfl | omega | (dsimp only [AR, Around.deeper] at *; omega))); k_whole)))
  k_with "subscriptTail Name Slice ref ref" => (k_here; (rename FirstSpec _ _ _ => hf9); (k_dflt (refine' slice_run_L ?F ?N ?hl ?hz ?h0 ?hab ?hb ?_ ?k1 ?k2; (case k1 => with_unfolding_all rfl); (case k2 => intro _; with_unfolding_all rfl); (case F => assumption); (case N => assumption); (case hl => is_list); (case hz => first | exact len_le (Ends.len (by assumption)) (by assumption) rfl | ((have hl9 := Ends.len (by assumption)); omega)); (case h0 => omega); (case hab => omega); (case hb => ((have hr9 := (block_run (by assumption) hf9).1); omega)); k_whole)); intro c h' F' N' l1; (have hSame9 := run_same (block_run (by assumption) hf9) (by assumption)); (try k_lt l1); (try k_sweep))
  k_with "call ref" => (k_here; (with_reducible show wpAny _ _ (call (Value.ref 270) _) _ _ _); (k_dflt (refine' places_L ?F ?N ?G ?hd ?hu ?hx ?hy ?h0 ?_; (case F => assumption); (case N => assumption); (case G => (first | assumption | exact GH.keeps (by assumption) (Fr.keep (by assumption)))); (case hd => (first | assumption | exact room_d (by assumption) rfl | exact room_u (by assumption) rfl | omega | (dsimp only [AR, Around.deeper] at *; omega))); (case hu => (first | assumption | exact room_d (by assumption) rfl | exact room_u (by assumption) rfl | omega | (dsimp only [AR, Around.deeper] at *; omega))); (case hx => assumption); (case hy => assumption); (case h0 => assumption); k_whole)); intro a n vs h' tk' hNats' F' N' hne'; (try k_sweep))
  k_with "call ref" => (k_here; (with_reducible show wpAny _ _ (call (Value.ref 248) _) _ _ _); (k_dflt (refine' rindex_text_ok ?G ?hd ?hu ?hx ?hy ?_; (case G => (first | assumption | exact GH.keeps (by assumption) (Fr.keep (by assumption)))); (case hd => (first | assumption | exact room_d (by assumption) rfl | exact room_u (by assumption) rfl | omega | (dsimp only [AR, Around.deeper] at *; omega))); (case hu => (first | assumption | exact room_d (by assumption) rfl | exact room_u (by assumption) rfl | omega | (dsimp only [AR, Around.deeper] at *; omega))); (case hx => first | exact le_K (by assumption) rfl | omega); (case hy => first | exact le_K (by assumption) rfl | omega); k_whole)); intro r t h' tk' hlast' kE'; ((rename Fr _ _ _ _ => fA'); (rename News _ _ _ _ => nA'); (have fB' := frK fA' kE'); (have nB' := nwK nA' kE'); (try dsimp only); (clear fA' nA'); (try k_fold)))
  k_with "eval ListComp" => (k_here; (with_reducible show wpAny _ _ (eval (PySem.Expr.ListComp (PySem.Expr.BinOp _ _ _ _) _ _ _) _) _ _ _); (rename Txts _ _ => tx9); (k_dflt (refine' comp_V (fun _ => true) (LenV (txt1 tx9)) ?hclos ?hcell ?hkind ?hnames ?hx ?hopen3 ?hs; (case hclos => with_unfolding_all rfl); (case hcell => decide); (case hkind => rfl); (case hnames => decide); (case hx => rfl); (case hs => intro _; with_unfolding_all rfl))))
  k_with "pyIter ref" => (k_here; (with_reducible show wpAny _ _ (pyIter _) (FreeV _ _ _ _ _ _ _ _ _ _ (LenV _) _) _ _); (k_dflt (refine' list_V ?hh ?hl ?hz ?hF ?hN ⟨?testsC, ?eltC⟩ ?restC; (case hh => rfl); (case hl => is_list); (case hz => ((have hl9 := Ends.len (by assumption)); refine Nat.le_trans (List.length_filter_le _ _) ?_; omega)); (case hF => assumption); (case hN => assumption); (case testsC => intro C v s₃ m₃ E' hP hns hm Fe Ne; exact no_tests rfl); (case' eltC => intro C v s₃ m₃ E' hP hpv hns hm Fe Ne; (have hC := InC.mk (h₀ := s₃.heap) (h := s₃.heap) (fun _ _ e => e)); (obtain ⟨e, te, hv⟩ := (by assumption : ∀ v ∈ List.filter _ _, IsS v) _ hP); subst hv; (have he9 := Ends.leF (by assumption) hP); (dsimp only [envOfC] at Fe Ne)); (case' restC => intro D k ys h' tk Fr' Nw' hne' hpair'; (dsimp only [envOfC] at Fr' Nw'); (have hI9 := lens_of hpair'); clear hpair'))))
  k_with "eval ListComp" => (k_here; (with_reducible show wpAny _ _ (eval (PySem.Expr.ListComp (PySem.Expr.Name _ _) _ _ _) _) _ _ _); (rename Txts _ _ => tx9); (k_dflt (refine' comp_V (stands (txt1 tx9) (txt2 tx9)) (fun v y => y = v) ?hclos ?hcell ?hkind ?hnames ?hx ?hopen4 ?hs; (case hclos => with_unfolding_all rfl); (case hcell => decide); (case hkind => rfl); (case hnames => decide); (case hx => rfl); (case hs => intro _; with_unfolding_all rfl))))
  k_with "pyIter ref" => (k_here; (with_reducible show wpAny _ _ (pyIter _) (FreeV _ _ _ _ _ _ _ _ _ (stands _ _) _ _) _ _); (rename Txts _ _ => tx9); (k_dflt (refine' range_V ?hh ?hr ?hz ?hF ?hN ⟨?testsD, ?eltD⟩ ?restD; (case hh => rfl); (case hr => assumption); (case hz => first | exact le_K (by assumption) rfl | omega); (case hF => assumption); (case hN => assumption); (case' testsD => intro C v s₃ m₃ E' hP hns hm Fe Ne; (have hC := InC.mk (h₀ := s₃.heap) (h := s₃.heap) (fun _ _ e => e)); (obtain ⟨i, t, hi, hv⟩ := hP); subst hv; (dsimp only [envOfC] at Fe Ne); refine one_test ?_); (case' eltD => intro C v s₃ m₃ E' hP hpv hns hm Fe Ne; (have hC := InC.mk (h₀ := s₃.heap) (h := s₃.heap) (fun _ _ e => e)); (obtain ⟨i, t, hi, hv⟩ := hP); subst hv; (dsimp only [envOfC] at Fe Ne)); (case' restD => intro D k ys vs h' tk Fr' Nw' hne' hnats' hpair'; (dsimp only [envOfC] at Fr' Nw'); (have hB9 := paired_eq hpair'); subst hB9; clear hpair'; (rename Nats _ (places _ _) => hN9); (have hSame9 := stands_same hN9 (stands_places (y := txt2 tx9) hnats'))))))
  k_with "compareOp NotEq ref ref" => (k_here; (with_reducible show wpAny _ _ (compareOp CmpOp.NotEq (Value.ref _) (Value.ref _)) _ _ _); (k_dflt (refine' ne_none ?hl ?hb ?hu ?hone ?htwo; (case hl => is_list); (case hb => is_list); (case hu => (first | assumption | exact room_d (by assumption) rfl | exact room_u (by assumption) rfl | omega | (dsimp only [AR, Around.deeper] at *; omega))); (case' hone => intro hnil'; (try dsimp only)); (case' htwo => intro hnil'; (try dsimp only)))))
  k_with "subscriptTail" => (k_here; (with_reducible show wpAny _ _ (subscriptTail _ _ (Value.ref _) (Value.int _ _)) _ _ _); (k_dflt (refine' item_end ?hl ?hN ?hne ?hz ?_ ?k4 ?k5; (case hl => is_list); (case hN => assumption); (case hne => assumption); (case hz => ((have hp9 := places_len (by assumption)); omega)); (case k4 => with_unfolding_all rfl); (case k5 => intro _; with_unfolding_all rfl); k_whole; intro i t hlast9)))
  have X := G.X
  have T := G.T
  have about : Txts x y := ⟨⟩
  (k_dflt (
    refine' enterC (binds := [("text", .str x tx), ("word", .str y ty)]) (by assumption) ?ho ?hcd ?hroom ?hbind ?hkind ?hnd ?hco ?hgen ?hk ?_
    (case ho => k_is)
    (case hcd => k_is)
    (case hroom => omega)
    (case hbind => exact BindsTo.of_eq rfl)
    (case hkind => exact rfl)
    (case hnd => decide +kernel)
    (case hco => exact rfl)
    (case hgen => exact rfl)
    (case hk => exact rfl)
    intro L' h₁ tk cells F' N' Y'
    k_cells Y'
    (try dsimp only)))
  k_steps
  all_goals try first | exact ⟨_, _, _, rfl, rfl⟩ | exact keepsC (by assumption) | rfl
  · exact end_one (s := s) hret (by assumption) (Fr.keep (by assumption))
  · exact end_two (s := s) hret (by assumption) (by assumption) (by first | assumption | (rename _ = false => hf9; rw [hf9]; decide)) (Fr.keep (by assumption))
  · exact end_three (s := s) hret (by assumption) (by assumption) (by assumption) (by first | assumption | (rename _ = false => hf9; rw [hf9]; decide)) (Fr.keep (by assumption))
end
end

/-! P3 -/
section
/-! the plain law: the turnings -/
section
variable {α : Type} {c c' : α → α → Int}
theorem mergeV_congr (l r : List α) (h : ∀ a ∈ l, ∀ b ∈ r, (c a b ≤ 0 ↔ c' a b ≤ 0)) : mergeV c l r = mergeV c' l r := by
  induction l, r using merge_ind (cmp := c) with
  | case1 r => rw [mergeV_nil_left, mergeV_nil_left]
  | case2 a l => rw [mergeV_nil_right, mergeV_nil_right]
  | case3 a l b r hc ih =>
    rw [mergeV_cons, if_pos hc, mergeV_cons, if_pos ((h a (.head _) b (.head _)).mp hc), ih fun x hx y hy => h x (.tail _ hx) y hy]
  | case4 a l b r hc ih =>
    rw [mergeV_cons, if_neg hc, mergeV_cons, if_neg (fun q => hc ((h a (.head _) b (.head _)).mpr q)), ih fun x hx y hy => h x hx y (.tail _ hy)]
noncomputable def Apart (c c' : α → α → Int) (l l' : List α) : Prop := ∀ a ∈ l, ∀ b ∈ l', (c a b ≤ 0 ↔ c' a b ≤ 0)
theorem passV_from {r : List (List α)} {l : List α} {v : α} (hl : l ∈ passV c r) (hv : v ∈ l) : ∃ l' ∈ r, v ∈ l' := by
  have h : v ∈ (passV c r).flatten := List.mem_flatten.mpr ⟨l, hl, hv⟩
  exact List.mem_flatten.mp ((passV_perm r).mem_iff.mp h)
theorem passV_congr : ∀ {r : List (List α)}, r.Pairwise (Apart c c') → passV c r = passV c' r ∧ (passV c r).Pairwise (Apart c c')
  | [], _ => ⟨by simp [passV], by simp [passV]⟩
  | [a], _ => ⟨by simp [passV], by simp [passV]⟩
  | a :: b :: r, h => by
    obtain ⟨ha, h⟩ := List.pairwise_cons.mp h
    obtain ⟨hb, h⟩ := List.pairwise_cons.mp h
    obtain ⟨e, hp⟩ := passV_congr h
    refine ⟨by rw [passV, passV, e, mergeV_congr a b (ha b (.head _))], ?_⟩
    rw [passV]
    refine List.pairwise_cons.mpr ⟨fun l hl u hu v hv => ?_, hp⟩
    obtain ⟨l', hl', hv'⟩ := passV_from hl hv
    rcases List.mem_append.mp ((mergeV_perm a b).mem_iff.mp hu) with hu | hu
    · exact ha l' (.tail _ hl') u hu v hv'
    · exact hb l' hl' u hu v hv'
theorem sortRuns_congr (r : List (List α)) (h : r.Pairwise (Apart c c')) : sortRuns c r = sortRuns c' r := by
  induction r using sortRuns.induct (cmp := c) with
  | case1 r hl ih =>
    rw [sortRuns, dif_pos hl, ih (passV_congr h).2]
    conv => rhs; rw [sortRuns, dif_pos hl]
    rw [(passV_congr h).1]
  | case2 r hl =>
    rw [sortRuns, dif_neg hl]
    conv => rhs; rw [sortRuns, dif_neg hl]
theorem sortV_congr (xs : List α) (h : xs.Pairwise fun a b => (c a b ≤ 0 ↔ c' a b ≤ 0)) : sortV c xs = sortV c' xs := by
  unfold sortV
  refine sortRuns_congr _ ?_
  rw [List.pairwise_map]
  refine h.imp fun {a b} hab u hu v hv => ?_
  rw [List.mem_singleton.mp hu, List.mem_singleton.mp hv]
  exact hab
end

noncomputable def rotL (xs : List Nat) (i : Nat) : List Nat := xs.drop i ++ xs.take i
noncomputable def lastL (u : List Nat) : List Nat := u.drop (u.length - 1)
noncomputable def backL (u : List Nat) : List Nat := lastL u ++ u.take (u.length - 1)
noncomputable def onL (u : List Nat) : List Nat := u.drop 1 ++ u.take 1

theorem rot_length (xs : List Nat) {i : Nat} (h : i ≤ xs.length) : (rotL xs i).length = xs.length := by
  unfold rotL
  rw [List.length_append, List.length_drop, List.length_take]; omega
theorem lastL_snoc (u : List Nat) (a : Nat) : lastL (u ++ [a]) = [a] := by
  unfold lastL
  rw [List.length_append, List.length_singleton, Nat.add_sub_cancel, List.drop_left']
  rfl
theorem backL_snoc (u : List Nat) (a : Nat) : backL (u ++ [a]) = a :: u := by
  unfold backL
  rw [lastL_snoc, List.length_append, List.length_singleton, Nat.add_sub_cancel, List.take_left']
  · rfl
  · rfl
theorem snoc_of {u : List Nat} (h : u ≠ []) : ∃ v a, u = v ++ [a] := ⟨_, _, (List.dropLast_concat_getLast h).symm⟩
theorem on_back {u : List Nat} (h : u ≠ []) : onL (backL u) = u := by
  obtain ⟨v, a, rfl⟩ := snoc_of h
  rw [backL_snoc]; simp [onL]
theorem rot_succ {xs : List Nat} {i : Nat} (h : i < xs.length) : rotL xs (i + 1) = (xs.drop (i + 1) ++ xs.take i) ++ [xs[i]] := by
  unfold rotL
  rw [List.take_succ_eq_append_getElem h, List.append_assoc]
theorem rot_cons {xs : List Nat} {i : Nat} (h : i < xs.length) : rotL xs i = xs[i] :: (xs.drop (i + 1) ++ xs.take i) := by
  unfold rotL
  rw [List.drop_eq_getElem_cons h, List.cons_append]
theorem back_rot {xs : List Nat} {i : Nat} (h : i < xs.length) : backL (rotL xs (i + 1)) = rotL xs i := by
  rw [rot_succ h, backL_snoc, rot_cons h]
theorem on_rot {xs : List Nat} {i : Nat} (h : i < xs.length) : onL (rotL xs i) = rotL xs (i + 1) := by
  rw [rot_succ h, rot_cons h]; simp [onL]
theorem rot_end (xs : List Nat) : rotL xs xs.length = rotL xs 0 := by simp [rotL]
theorem last_rot {xs : List Nat} {i : Nat} (h : i < xs.length) : lastL (rotL xs (i + 1)) = [xs[i]] := by
  rw [rot_succ h, lastL_snoc]

theorem rots_back {xs : List Nat} (h : 0 < xs.length) : (((List.range xs.length).map (rotL xs)).map backL).Perm ((List.range xs.length).map (rotL xs)) := by
  obtain ⟨m, hm⟩ : ∃ m, xs.length = m + 1 := ⟨xs.length - 1, by omega⟩
  have e1 : (List.range xs.length).map (rotL xs) = rotL xs 0 :: (List.range m).map fun i => rotL xs (i + 1) := by
    rw [hm, List.range_succ_eq_map, List.map_cons, List.map_map]; rfl
  have e2 : (List.range xs.length).map (rotL xs) = (List.range m).map (rotL xs) ++ [rotL xs m] := by
    rw [hm, List.range_succ, List.map_append]; rfl
  have e3 : ((List.range m).map fun i => rotL xs (i + 1)).map backL = (List.range m).map (rotL xs) := by
    rw [List.map_map]
    refine List.map_congr_left fun i hi => ?_
    have := List.mem_range.mp hi
    exact back_rot (by omega)
  have e4 : backL (rotL xs 0) = rotL xs m := by
    rw [← rot_end, hm]
    exact back_rot (by omega)
  conv => lhs; rw [e1]
  rw [e2, List.map_cons, e3, e4]
  exact (List.perm_append_singleton _ _).symm

theorem le_back {u v : List Nat} {a : Nat} (hl : u.length = v.length) (h : ¬ v ++ [a] < u ++ [a]) : ¬ v < u := by
  intro h2
  apply h
  clear h
  induction v generalizing u with
  | nil =>
    have : u = [] := List.length_eq_zero_iff.mp hl
    subst this
    exact absurd h2 (List.not_lt_nil _)
  | cons y v ih =>
    cases u with
    | nil => simp at hl
    | cons x u =>
      rw [List.cons_append, List.cons_append, List.cons_lt_cons_iff] at *
      rcases h2 with h2 | ⟨rfl, h2⟩
      · exact .inl h2
      · exact .inr ⟨rfl, ih (by simpa using hl) h2⟩

theorem by_last {u v : List Nat} (hu : u ≠ []) (hl : u.length = v.length) (h : ¬ v < u) : ¬ lastL v < lastL u ↔ ¬ backL v < backL u := by
  have hv : v ≠ [] := by
    rintro rfl
    exact hu (List.length_eq_zero_iff.mp hl)
  obtain ⟨p, a, rfl⟩ := snoc_of hu
  obtain ⟨q, b, rfl⟩ := snoc_of hv
  rw [lastL_snoc, lastL_snoc, backL_snoc, backL_snoc, List.cons_lt_cons_iff, List.cons_lt_cons_iff]
  constructor
  · rintro h1 (h2 | ⟨rfl, h2⟩)
    · exact h1 (.inl h2)
    · exact le_back (by simpa using hl) h h2
  · rintro h1 (h2 | ⟨_, h2⟩)
    · exact h1 (.inl h2)
    · exact absurd h2 (List.not_lt_nil _)
end

/-! P4 -/
section
noncomputable def mkS (l : List Nat) : Str := ⟨l.toArray⟩
theorem mkS_chars (e : Str) : mkS e.cps.toList = e := by cases e; rfl
theorem chars_mkS (l : List Nat) : (mkS l).cps.toList = l := rfl
noncomputable def chars (v : Value) : List Nat := (strOf v).cps.toList
theorem mkS_of (v : Value) : mkS (chars v) = strOf v := mkS_chars _

noncomputable def rotS (x : Str) (i : Nat) : Str := Txt.slice x (some (i : Int)) none ++ Txt.slice x none (some (i : Int))
theorem rotS_chars {x : Str} {i : Nat} (h : i ≤ x.length) : (rotS x i).cps.toList = rotL x.cps.toList i := by
  unfold rotS rotL
  rw [suf_chars h, slice_upto_chars]
  simp [Str.cps_append]
theorem rotS_mk {x : Str} {i : Nat} (h : i ≤ x.length) : rotS x i = mkS (rotL x.cps.toList i) := by
  rw [← rotS_chars h, mkS_chars]

structure Turns (x : Str) (Tn : List Value) : Prop where
  S : ∀ v ∈ Tn, IsS v
  srt : Srt cmpT (Tn.map strOf)
  perm : (Tn.map strOf).Perm ((List.range x.length).map (rotS x))
  len : Tn.length = x.length
structure RotL (x : Str) (ys : List Value) : Prop where
  S : ∀ v ∈ ys, IsS v
  txt : ys.map strOf = (List.range x.length).map (rotS x)
theorem RotL.len {x : Str} {ys : List Value} (h : RotL x ys) : ys.length = x.length := by
  have := congrArg List.length h.txt
  simpa using this
theorem turns_of {x : Str} {ys : List Value} (h : RotL x ys) : Turns x (sortV cmpV ys) := by
  have hp := sortV_perm (cmp := cmpV) ys
  refine ⟨fun v hv => h.S v (hp.mem_iff.mp hv), ?_, ?_, by rw [hp.length_eq]; exact h.len⟩
  · have e : (sortV cmpV ys).map strOf = sortV cmpT (ys.map strOf) := sortV_map strOf ys
    rw [e]
    exact sortV_srt cmpT_total (fun h1 h2 => cmpT_trans h1 h2) _
  · rw [← h.txt]; exact hp.map _

section
variable {x : Str} {Tn Ls W vs : List Value}
theorem Turns.rots (h : Turns x Tn) : (Tn.map chars).Perm ((List.range x.length).map (rotL x.cps.toList)) := by
  have := h.perm.map fun e : Str => e.cps.toList
  rw [List.map_map, List.map_map] at this
  refine this.trans (List.Perm.of_eq (List.map_congr_left fun i hi => ?_))
  exact rotS_chars (Nat.le_of_lt (List.mem_range.mp hi))
theorem Turns.rot (h : Turns x Tn) {v : Value} (hv : v ∈ Tn) : ∃ i, i < x.length ∧ chars v = rotL x.cps.toList i := by
  obtain ⟨i, hi, e⟩ := List.mem_map.mp (h.rots.mem_iff.mp (List.mem_map.mpr ⟨v, hv, rfl⟩))
  exact ⟨i, List.mem_range.mp hi, e.symm⟩
theorem Turns.clen (h : Turns x Tn) {v : Value} (hv : v ∈ Tn) : (chars v).length = x.length := by
  have hl := len_chars x
  obtain ⟨i, hi, e⟩ := h.rot hv
  rw [e, rot_length _ (by omega)]; omega
theorem Turns.ne (h : Turns x Tn) (h0 : 0 < x.length) {v : Value} (hv : v ∈ Tn) : chars v ≠ [] := by
  intro e
  have := h.clen hv
  rw [e] at this
  simp at this; omega
theorem Turns.le (h : Turns x Tn) {i j : Nat} (hi : i < Tn.length) (hj : j < Tn.length) (hij : i < j) : ¬ chars Tn[j] < chars Tn[i] := by
  have := List.pairwise_iff_getElem.mp h.srt i j (by simpa using hi) (by simpa using hj) hij
  rw [cmpT_le] at this
  simpa [chars] using this

noncomputable def idx : Value → Nat
  | .int i _ => i.toNat
  | _ => 0
noncomputable def letterOf (Ls : List Value) (v : Value) : Str := strOf (Ls.getD (idx v) .none)
noncomputable def cmpL (Ls : List Value) (u v : Value) : Int := cmpT (letterOf Ls u) (letterOf Ls v)
noncomputable def turnOf (Tn : List Value) (v : Value) : List Nat := chars (Tn.getD (idx v) .none)
structure Lasts (Tn Ls : List Value) : Prop where
  S : ∀ v ∈ Ls, IsS v
  at' : Ls.map chars = Tn.map fun v => lastL (chars v)
theorem Lasts.len (h : Lasts Tn Ls) : Ls.length = Tn.length := by
  have := congrArg List.length h.at'
  simpa using this
theorem Lasts.get (h : Lasts Tn Ls) {i : Nat} (hi : i < Tn.length) : chars (Ls.getD i .none) = lastL (chars (Tn.getD i .none)) := by
  have hl := h.len
  have e := congrArg (fun l : List (List Nat) => l[i]?) h.at'
  simp only [List.getElem?_map] at e
  rw [List.getElem?_eq_getElem hi, List.getElem?_eq_getElem (by omega)] at e
  rw [List.getD_eq_getElem?_getD, List.getD_eq_getElem?_getD, List.getElem?_eq_getElem hi, List.getElem?_eq_getElem (by omega)]
  simpa using e
theorem Lasts.letter (h : Lasts Tn Ls) {v : Value} (hi : idx v < Tn.length) : letterOf Ls v = mkS (lastL (turnOf Tn v)) := by
  unfold letterOf turnOf
  rw [← h.get hi]
  exact (mkS_of _).symm

structure Ways (x : Str) (Tn W : List Value) : Prop where
  I : ∀ v ∈ W, ∃ (i : Nat) (t : Tok), v = .int (i : Int) t ∧ i < x.length
  len : W.length = x.length
  back : W.map (fun v => backL (turnOf Tn v)) = Tn.map chars

theorem nats_pairwise {R : Value → Value → Prop} {R' : Nat → Nat → Prop} {vs : List Value} {is : List Nat} (h : Nats vs is) (hp : is.Pairwise R') (hr : ∀ (i j : Nat) t t', i ∈ is → j ∈ is → R' i j → R (.int (i : Int) t) (.int (j : Int) t')) : vs.Pairwise R := by
  induction h with
  | nil => exact .nil
  | @cons i t vs is hn ih =>
    obtain ⟨h1, h2⟩ := List.pairwise_cons.mp hp
    refine List.pairwise_cons.mpr ⟨fun v hv => ?_, ih h2 fun i j t t' hi hj => hr i j t t' (.tail _ hi) (.tail _ hj)⟩
    clear ih h2 hp
    suffices ∀ {vs is : List _}, Nats vs is → v ∈ vs → ∃ j t', v = .int ((j : Nat) : Int) t' ∧ j ∈ is by
      obtain ⟨j, t', rfl, hj⟩ := this hn hv
      exact hr i j t t' (.head _) (.tail _ hj) (h1 j hj)
    intro vs is hn hv
    induction hn with
    | nil => cases hv
    | cons _ ih =>
      rcases List.mem_cons.mp hv with rfl | hv
      · exact ⟨_, _, rfl, .head _⟩
      · obtain ⟨j, t', e, hj⟩ := ih hv
        exact ⟨j, t', e, .tail _ hj⟩
theorem nats_mem {vs : List Value} {is : List Nat} (h : Nats vs is) {v : Value} (hv : v ∈ vs) : ∃ (j : Nat) (t' : Tok), v = .int (j : Int) t' ∧ j ∈ is := by
  induction h with
  | nil => cases hv
  | cons _ ih =>
    rcases List.mem_cons.mp hv with rfl | hv
    · exact ⟨_, _, rfl, .head _⟩
    · obtain ⟨j, t', e, hj⟩ := ih hv
      exact ⟨j, t', e, .tail _ hj⟩
theorem nats_map {β : Type} {g : Nat → β} {vs : List Value} {is : List Nat} (h : Nats vs is) : vs.map (fun v => g (idx v)) = is.map g := by
  induction h with
  | nil => rfl
  | @cons i t vs is _ ih =>
    rw [List.map_cons, List.map_cons, ih]
    have e : idx (.int (i : Int) t) = i := by show ((i : Int)).toNat = i; omega
    rw [e]
theorem range_getD {β : Type} (g : Value → β) : ∀ (l : List Value), (List.range l.length).map (fun i => g (l.getD i .none)) = l.map g := by
  intro l
  apply List.ext_getElem
  · simp
  · intro i h1 h2
    simp at h1 h2
    simp [h2]

theorem ways_of (h0 : 0 < x.length) (h : Turns x Tn) (hL : Lasts Tn Ls) (hv : Nats vs (List.range x.length)) : Ways x Tn (sortV (cmpL Ls) vs) := by
  have hp := sortV_perm (cmp := cmpL Ls) vs
  have hlen := h.len
  refine ⟨fun v hv' => ?_, ?_, ?_⟩
  · obtain ⟨j, t, e, hj⟩ := nats_mem hv (hp.mem_iff.mp hv')
    exact ⟨j, t, e, List.mem_range.mp hj⟩
  · rw [hp.length_eq, hv.length, List.length_range]
  · let key : Value → Str := fun v => mkS (backL (turnOf Tn v))
    have e1 : sortV (cmpL Ls) vs = sortV (fun u v => cmpT (key u) (key v)) vs := by
      refine sortV_congr _ (nats_pairwise hv List.pairwise_lt_range fun i j t t' hi hj hij => ?_)
      have hi' : i < Tn.length := by have := List.mem_range.mp hi; omega
      have hj' : j < Tn.length := by have := List.mem_range.mp hj; omega
      have ei : idx (.int (i : Int) t) = i := by show ((i : Int)).toNat = i; omega
      have ej : idx (.int (j : Int) t') = j := by show ((j : Int)).toNat = j; omega
      have ti : turnOf Tn (.int (i : Int) t) = chars Tn[i] := by unfold turnOf; rw [ei, List.getD_eq_getElem?_getD, List.getElem?_eq_getElem hi']; rfl
      have tj : turnOf Tn (.int (j : Int) t') = chars Tn[j] := by unfold turnOf; rw [ej, List.getD_eq_getElem?_getD, List.getElem?_eq_getElem hj']; rfl
      unfold cmpL
      rw [hL.letter (by rw [ei]; exact hi'), hL.letter (by rw [ej]; exact hj'), cmpT_le, cmpT_le]
      show (¬ lastL _ < lastL _ ↔ ¬ backL _ < backL _)
      rw [ti, tj]
      refine by_last (h.ne h0 (List.getElem_mem _)) ?_ (h.le hi' hj' hij)
      rw [h.clen (List.getElem_mem _), h.clen (List.getElem_mem _)]
    rw [e1]
    have e2 : (sortV (fun u v => cmpT (key u) (key v)) vs).map key = sortV cmpT (vs.map key) := sortV_map key vs
    have e3 : vs.map key = (Tn.map chars).map fun u => mkS (backL u) := by
      have := nats_map (g := fun i => mkS (backL (chars (Tn.getD i .none)))) hv
      refine this.trans ?_
      rw [← hlen, range_getD (fun v => mkS (backL (chars v))), List.map_map]; rfl
    have e4 : ((Tn.map chars).map fun u => mkS (backL u)).Perm (Tn.map strOf) := by
      have hl := len_chars x
      have p1 : ((Tn.map chars).map backL).Perm (Tn.map chars) := by
        refine (h.rots.map backL).trans ?_
        rw [hl]
        refine (rots_back (by omega)).trans ?_
        rw [← hl]
        exact h.rots.symm
      have p2 := p1.map mkS
      refine (List.Perm.of_eq ?_).trans (p2.trans (List.Perm.of_eq ?_))
      · simp only [List.map_map]; rfl
      · rw [List.map_map]; exact List.map_congr_left fun v _ => mkS_of v
    have e5 : sortV cmpT (vs.map key) = Tn.map strOf := by
      refine srt_unique (R := fun a b => cmpT a b ≤ 0) (fun h1 h2 => cmpT_antisymm h1 h2) ?_ (sortV_srt cmpT_total (fun h1 h2 => cmpT_trans h1 h2) _) h.srt
      refine (sortV_perm _).trans ?_
      rw [e3]; exact e4
    have e6 := e2.trans e5
    have e7 := congrArg (List.map fun e : Str => e.cps.toList) e6
    rw [List.map_map, List.map_map] at e7
    exact e7

theorem Ways.get (hW : Ways x Tn W) (hlen : Tn.length = x.length) {k : Nat} (hk : k < x.length) : ∃ (i : Nat) (t : Tok), i < x.length ∧ W[k]? = some (.int (i : Int) t) ∧ backL (chars (Tn.getD i .none)) = chars (Tn.getD k .none) := by
  have hkW : k < W.length := by rw [hW.len]; exact hk
  obtain ⟨i, t, e, hi⟩ := hW.I W[k] (List.getElem_mem _)
  refine ⟨i, t, hi, by rw [List.getElem?_eq_getElem hkW, e], ?_⟩
  have h2 := congrArg (fun l : List (List Nat) => l[k]?) hW.back
  simp only [List.getElem?_map] at h2
  rw [List.getElem?_eq_getElem hkW, List.getElem?_eq_getElem (by omega), e] at h2
  have ei : idx (.int (i : Int) t) = i := by show ((i : Int)).toNat = i; omega
  simp only [Option.map_some, Option.some.injEq, turnOf, ei] at h2
  rw [h2, List.getD_eq_getElem?_getD, List.getElem?_eq_getElem (by omega)]; rfl

theorem take_back {u : List Nat} (h : u ≠ []) : (backL u).take 1 = lastL u := by
  obtain ⟨v, a, rfl⟩ := snoc_of h
  rw [backL_snoc, lastL_snoc]; rfl
theorem letters_first (h0 : 0 < x.length) (h : Turns x Tn) (hL : Lasts Tn Ls) (hW : Ways x Tn W) : W.map (letterOf Ls) = Tn.map fun v => mkS ((chars v).take 1) := by
  have e1 : W.map (letterOf Ls) = (W.map fun v => backL (turnOf Tn v)).map fun u => mkS (u.take 1) := by
    rw [List.map_map]
    refine List.map_congr_left fun v hv => ?_
    obtain ⟨i, t, rfl, hi⟩ := hW.I v hv
    have ei : idx (.int (i : Int) t) = i := by show ((i : Int)).toNat = i; omega
    have hi' : i < Tn.length := by rw [h.len]; exact hi
    rw [hL.letter (by rw [ei]; exact hi')]
    have ti : turnOf Tn (.int (i : Int) t) = chars Tn[i] := by unfold turnOf; rw [ei, List.getD_eq_getElem?_getD, List.getElem?_eq_getElem hi']; rfl
    show mkS (lastL (turnOf Tn _)) = mkS ((backL (turnOf Tn _)).take 1)
    rw [take_back (by rw [ti]; exact h.ne h0 (List.getElem_mem _))]
  rw [e1, hW.back, List.map_map]; rfl

theorem lasts_perm (h0 : 0 < x.length) (h : Turns x Tn) (hL : Lasts Tn Ls) : (Ls.map strOf).Perm (signs x) := by
  have hl := len_chars x
  have e1 : Ls.map strOf = ((Tn.map chars).map backL).map fun u => mkS (u.take 1) := by
    have : Ls.map strOf = (Ls.map chars).map mkS := by rw [List.map_map]; exact (List.map_congr_left fun v _ => (mkS_of v).symm)
    rw [this, hL.at', List.map_map, List.map_map, List.map_map]
    refine List.map_congr_left fun v hv => ?_
    show mkS (lastL (chars v)) = mkS ((backL (chars v)).take 1)
    rw [take_back (h.ne h0 hv)]
  have p1 : ((Tn.map chars).map backL).Perm ((List.range x.length).map (rotL x.cps.toList)) := by
    refine (h.rots.map backL).trans ?_
    rw [hl]
    exact rots_back (by omega)
  rw [e1]
  refine (p1.map _).trans (List.Perm.of_eq ?_)
  rw [List.map_map]
  unfold signs
  apply List.ext_getElem
  · simp [hl]
  · intro i h1 h2
    simp only [List.length_map, List.length_range] at h1
    simp only [List.getElem_map, List.getElem_range, Function.comp_apply]
    rw [rot_cons (by omega)]; rfl

structure AtTurn (x : Str) (Tn : List Value) (k p : Nat) (f : Str) : Prop where
  lt : p < x.length
  turn : chars (Tn.getD p .none) = rotL x.cps.toList k
  found : f.cps.toList = x.cps.toList.take k
theorem getD_mem {l : List Value} {i : Nat} (h : i < l.length) : l.getD i .none ∈ l := by
  rw [List.getD_eq_getElem?_getD, List.getElem?_eq_getElem h]; exact List.getElem_mem _
theorem at_next (h0 : 0 < x.length) (h : Turns x Tn) (hL : Lasts Tn Ls) {k p i : Nat} {t : Tok} {f : Str} (hk : k < x.length) (ha : AtTurn x Tn k p f) (hi : i < x.length) (hb : backL (chars (Tn.getD i .none)) = chars (Tn.getD p .none)) :
    AtTurn x Tn (k + 1) i (f ++ strOf (Ls.getD i .none)) := by
  have hl := len_chars x
  have hi' : i < Tn.length := by rw [h.len]; exact hi
  have hne := h.ne h0 (getD_mem hi')
  have e1 : chars (Tn.getD i .none) = rotL x.cps.toList (k + 1) := by
    rw [← on_back hne, hb, ha.turn, on_rot (by omega)]
  refine ⟨hi, e1, ?_⟩
  have e2 : (strOf (Ls.getD i .none)).cps.toList = lastL (chars (Tn.getD i .none)) := hL.get hi'
  rw [e1, last_rot (by omega)] at e2
  have e3 : (f ++ strOf (Ls.getD i .none)).cps.toList = f.cps.toList ++ (strOf (Ls.getD i .none)).cps.toList := by simp [Str.cps_append]
  rw [e3, ha.found, e2, List.take_succ_eq_append_getElem (by omega)]
theorem at_start {j : Nat} (h : Turns x Tn) (hj : j < Tn.length) (e : (Tn.map strOf)[j]? = some x) : AtTurn x Tn 0 j ⟨#[]⟩ := by
  refine ⟨by rw [← h.len]; exact hj, ?_, by simp⟩
  rw [List.getElem?_map, List.getElem?_eq_getElem hj] at e
  simp only [Option.map_some, Option.some.injEq] at e
  rw [List.getD_eq_getElem?_getD, List.getElem?_eq_getElem hj]
  show (strOf Tn[j]).cps.toList = _
  rw [e]; simp [rotL]
theorem at_end {p : Nat} {f : Str} (ha : AtTurn x Tn x.length p f) : f = x := by
  have e := ha.found
  rw [len_chars x, List.take_length] at e
  rw [← mkS_chars f, e, mkS_chars]
theorem text_there (h0 : 0 < x.length) (h : Turns x Tn) : x ∈ Tn.map strOf := by
  rw [h.perm.mem_iff]
  refine List.mem_map.mpr ⟨0, List.mem_range.mpr h0, ?_⟩
  rw [rotS_mk (Nat.zero_le _)]
  have : rotL x.cps.toList 0 = x.cps.toList := by simp [rotL]
  rw [this, mkS_chars]
end

theorem item_zero {e : Str} (h : 0 < e.length) : Txt.item e 0 = mkS (e.cps.toList.take 1) := by
  have hl := len_chars e
  rw [item_at (n := 0) (Int.le_refl 0) (by omega) rfl]
  cases e with
  | mk c =>
    cases hc : c.toList with
    | nil => rw [hc] at hl; simp at hl; omega
    | cons a r =>
      have : c = (a :: r).toArray := by rw [← hc]
      subst this
      simp [mkS]
theorem item_minus {e : Str} (h : 0 < e.length) : Txt.item e (-1) = mkS (lastL e.cps.toList) := by
  have hl := len_chars e
  have hne : e.cps.toList ≠ [] := by
    intro q; rw [q] at hl; simp at hl; omega
  obtain ⟨v, a, hv⟩ := snoc_of hne
  have e1 : e = ⟨#[]⟩ ++ ⟨(v ++ [a]).toArray⟩ := by
    rw [← mkS_chars e, hv]
    show mkS (v ++ [a]) = _
    apply Str.ext'
    simp [mkS, Str.cps_append]
  rw [hv, lastL_snoc]
  conv => lhs; rw [e1]
  rw [item_last_right]; rfl
end

/-! C8a -/
section
section
variable {prog : Program} {w : World} {A : Around} {E : Value → Shared → Prop} {s : Shared} {h₀ : Heap} {L : Addr} {m : Str → Option Value} {news : List (Addr × Obj)} {Q : Value → Shared → Prop}

theorem signs_at {x : Str} {acc : Array Value} (h : ItemsOf (SignAt x) acc x.cps.size) : StrsAre acc.toList (signs x) := by
  obtain ⟨h1, h2⟩ := h
  have hS : ∀ v ∈ acc.toList, IsS v := by
    intro v hv
    obtain ⟨j, hj, rfl⟩ := List.mem_iff_getElem.mp hv
    obtain ⟨c, u, _, e⟩ := h2 j acc.toList[j] (by simp [Array.getElem?_eq_getElem (by simpa using hj : j < acc.size)])
    exact ⟨_, _, e⟩
  have e : acc.toList.map strOf = signs x := by
    unfold signs
    apply List.ext_getElem
    · simp [h1]
    · intro i a b
      simp only [List.length_map, Array.length_toList] at a
      obtain ⟨c, u, hc, e⟩ := h2 i acc[i] (Array.getElem?_eq_getElem a)
      rw [Array.getElem?_eq_getElem (by omega)] at hc
      simp only [List.getElem_map, Array.getElem_toList]
      rw [e]
      show (⟨#[c]⟩ : Str) = ⟨#[x.cps[i]]⟩
      rw [Option.some.inj hc]
  rw [← e]
  exact strsAre_of hS

theorem sorted_text {x : Str} {t : Tok} (hh : A.handled = none) (h64 : x.length < 64)
    (h : ∀ a n ws h' tk', Ext s.heap h' → s.heap.get? a = none → h'.get? a = some (W.listOf ws.toArray n) → SortedS (signs x) ws → Q (.ref a) { s with heap := h', toks := tk' }) :
    wpAny (model prog w) A (call (.builtin "sorted") [.str x t]) Q E s := by
  refine Calls.call_function_entry kind_sorted plain_sorted entry_sorted (args_sorted1 _) ?_
  unfold Builtin.«sorted»
  refine wpAny_bind (m := checkCount "sorted" 1 1 _) (wpAny_pure ?_)
  have hcps : x.cps.size < 64 := h64
  refine wpAny_bind (wpAny_collect_str (by exact hh) x t (fun s' acc k g d o hI => ?_) (by rw [sizeLine_eq]; omega))
  obtain ⟨hp', gs', dr', tk', os'⟩ := s'
  simp only at k g d o
  subst g d o
  have hS := signs_at hI
  have hsz : acc.toList.length < 64 := by rw [Array.length_toList, hI.1]; exact hcps
  refine wpAny_bind (wpAny_newList ?_ (hsz := by rw [sizeLine_eq]; omega))
  have hoL : (hp'.push (seqObj "list" acc.toList.toArray 0)).get? hp'.objs.size = some (seqObj "list" acc.toList.toArray 0) := Heap.get?_push_size _ rfl
  refine wpAny_bind (wpAny_holding (wpAny_call_entry slot_list_sort ⟨_, hoL, rfl⟩ entry_list_sort (list_sort_treeK strKind_oneLt hoL hS.keysOf (fun v₁ v₂ rest e => keyKind_strs (by rw [← e]; exact hS)) hsz fun st' hp hs => ⟨_, rfl, ?_⟩) (args_list_sort _)))
  refine wpAny_pure ⟨_, rfl, ?_⟩
  obtain ⟨ss', b1, b2, b3⟩ := sorted_out_str hS hp hs
  obtain ⟨c1, c2⟩ := strsAre_to b1
  subst c2
  obtain ⟨e, he⟩ := sortedHeap_at (out := (arrOf st').map (·.2)) hoL
  refine h _ e ((arrOf st').map (·.2)).toList _ _ (fun b o hb => ?_) ?_ (by rw [Array.toArray_toList]; exact he) ⟨c1, srt_of_sortedS _ b3, b2⟩
  · have hb' := k b o hb
    have hlt := Heap.lt_size hb'
    rw [sortedHeap_old (Nat.ne_of_lt hlt) (by rw [size_push']; exact Nat.lt_succ_of_lt hlt), Heap.get?_push_of_some _ hb']
  · cases q : s.heap.get? hp'.objs.size with
    | none => rfl
    | some o => exact absurd (Heap.lt_size (k _ _ q)) (Nat.lt_irrefl _)

theorem sorted_text_L {x : Str} {t : Tok} (hh : A.handled = none) (F : Fr h₀ L s.heap m) (N : News h₀ L s.heap news) (h64 : x.length < 64)
    (h : ∀ a n ws h' tk', Fr h₀ L h' m → News h₀ L h' ((a, W.listOf ws.toArray n) :: news) → (∀ p ∈ news, @Ne Nat p.1 a) → SortedS (signs x) ws → Q (.ref a) { s with heap := h', toks := tk' }) :
    wpAny (model prog w) A (call (.builtin "sorted") [.str x t]) Q E s :=
  sorted_text hh h64 fun a n ws h' tk' k ha ho hS => h a n ws h' tk' (frK F k) (news_add F (nwK N k) k ha ho) (news_off N ha) hS

noncomputable def sameAs (x : Str) (y : Value) : Bool := strOf y == x
theorem index_strs {l : Addr} {vs : List Value} {x : Str} {t : Tok} (hl : s.heap.IsList l vs.toArray) (hS : ∀ v ∈ vs, IsS v) (hx : x ∈ vs.map strOf) (hz : vs.length ≤ 1000)
    (h : ∀ (j : Nat) (tj : Tok) tk, j < vs.length → (vs.map strOf)[j]? = some x → Q (.int (j : Int) tj) { s with toks := tk }) :
    wpAny (model prog w) A (call (.builtin "list.index") [.ref l, .str x t]) Q E s := by
  obtain ⟨⟨cls, dd, data, sl⟩, ho, hc, n, hd⟩ := id hl
  simp only at hc hd
  subst hc hd
  obtain ⟨v, hv, hvx⟩ := List.mem_map.mp hx
  have hj : vs.findIdx (sameAs x) < vs.length := List.findIdx_lt_length_of_exists ⟨v, hv, by unfold sameAs; rw [hvx]; simp⟩
  have hit : sameAs x vs[vs.findIdx (sameAs x)] = true := List.findIdx_getElem
  refine call_meets PySem.F.slot_list_index ⟨_, ho, rfl⟩ PySem.F.entry_list_index (PySem.F.args_list_index_2 _ _)
    (SeqAt.list_indexAt l vs.toArray n dd sl (.str x t) (sameAs x) (vs.findIdx (sameAs x)) (by simpa using hj) (by omega) (by simpa using hit) (fun i hi hlt => by
      have := List.not_of_lt_findIdx hlt
      simpa using this)) ⟨ho, fun y hy => ?_, h _ _ _ hj ?_⟩
  · obtain ⟨e, te, rfl⟩ := hS y (by simpa using hy)
    exact SeqAt.EqAt.str_str e te x t
  · rw [List.getElem?_map, List.getElem?_eq_getElem hj]
    have : strOf vs[vs.findIdx (sameAs x)] = x := by
      have := hit
      unfold sameAs at this
      rwa [beq_iff_eq] at this
    rw [Option.map_some, this]
end
end

/-! C8 -/
section

theorem topRead_ghost {h : Heap} {tabs : List (Addr × Addr)} {p : Program} {loose : List Str} {mg mb : Str → Option Value} (hT : TabsAt tabs h) (T : TopRead p loose mg mb h) : TopRead p loose mg mb (ghostOf h tabs) :=
  ⟨ghost_ns hT T.g, ghost_ns hT T.b, let ⟨mc, a, r⟩ := T.nolimit; ⟨mc, ghost_ns hT a, r⟩, T.builtins, T.free⟩

section
variable {w : World} {mg mb : Str → Option Value} {dp un : Nat} {fr : Option (List Env)} {gd : Option (List Code)} {s : Shared} {Q E : Value → Shared → Prop}


noncomputable def RotV (x : Str) (v y : Value) : Prop := ∃ (i : Nat) (t t' : Tok), v = .int (i : Int) t ∧ y = .str (rotS x i) t'
theorem rots_go {x : Str} {vs ys : List Value} (hp : Paired (RotV x) vs ys) : ∀ {is : List Nat}, Nats vs is → (∀ v ∈ ys, IsS v) ∧ ys.map strOf = is.map (rotS x) := by
  induction hp with
  | nil => intro is h; cases h; simp
  | cons h _ ih =>
    intro is hn
    obtain ⟨i, t, t', rfl, rfl⟩ := h
    cases hn with
    | cons hn =>
      obtain ⟨h1, h2⟩ := ih hn
      refine ⟨fun v hv => ?_, by simp [h2, strOf]⟩
      rcases List.mem_cons.mp hv with rfl | hv
      · exact ⟨_, _, rfl⟩
      · exact h1 v hv
theorem filter_all (vs : List Value) : vs.filter (fun _ => true) = vs := by simp
theorem rots_of {x : Str} {vs ys : List Value} (hn : Nats vs (List.range x.length)) (hp : Paired (RotV x) (vs.filter fun _ => true) ys) : RotL x ys := by
  rw [filter_all] at hp
  obtain ⟨h1, h2⟩ := rots_go hp hn
  exact ⟨h1, h2⟩
theorem turns_L {h₀ : Heap} {L : Addr} {m : Str → Option Value} {news : List (Addr × Obj)} {l : Addr} {vl : List Value} {x : Str} (F : Fr h₀ L s.heap m) (N : News h₀ L s.heap news) (G : GH w mg mb s.heap) (hd : dp + 17 < recursionLimit) (hu : un + 110 < cLine)
   (hl : s.heap.IsList l vl.toArray) (hR : RotL x vl) (hz : x.length ≤ 60) (h0 : 0 < x.length)
   (hret : ∀ a n Tn h' tk', Turns x Tn → Fr h₀ L h' m → News h₀ L h' ((a, W.listOf Tn.toArray n) :: news) → (∀ p ∈ news, @Ne Nat p.1 a) → Q (.ref a) { s with heap := h', toks := tk' }) :
   wpAny (model PySem.Challenge.rw_sz0087_01.row.prog w) (AR dp un fr gd) (call (.ref 227) [.ref l]) Q E s := by
  have hlen := hR.len
  refine sorted_by_text_ok G hd hu hl hR.S (by omega) (by rintro rfl; simp at hlen; omega) fun a n h' tk' k ha ho => ?_
  exact hret a n _ h' tk' (turns_of hR) (frK F k) (news_add F (nwK N k) k ha ho) (news_off N ha)
noncomputable def LastV (v y : Value) : Prop := ∃ (e : Str) (t t' : Tok), v = .str e t ∧ y = .str (Txt.item e (-1)) t'
noncomputable def FirstV (v y : Value) : Prop := ∃ (e : Str) (t t' : Tok), v = .str e t ∧ y = .str (Txt.item e 0) t'
theorem lasts_of {x : Str} {Tn ys : List Value} (h0 : 0 < x.length) (h : Turns x Tn) (hp : Paired LastV (Tn.filter fun _ => true) ys) : Lasts Tn ys := by
  rw [filter_all] at hp
  have hall : ∀ v ∈ Tn, 0 < (strOf v).length := fun v hv => by
    have h1 := h.clen hv
    have h2 := len_chars (strOf v)
    unfold chars at h1
    omega
  clear h
  induction hp with
  | nil => exact ⟨by simp, rfl⟩
  | cons h _ ih =>
    obtain ⟨e, t, t', rfl, rfl⟩ := h
    have ih := ih fun v hv => hall v (.tail _ hv)
    have h1 := hall _ (.head _)
    refine ⟨fun v hv => ?_, ?_⟩
    · rcases List.mem_cons.mp hv with rfl | hv
      · exact ⟨_, _, rfl⟩
      · exact ih.S v hv
    · rw [List.map_cons, List.map_cons, ih.at']
      congr 1
      show (Txt.item e (-1)).cps.toList = lastL e.cps.toList
      have h2 : 0 < e.length := h1
      rw [item_minus h2, chars_mkS]
theorem Turns.pos {x : Str} {Tn : List Value} (h0 : 0 < x.length) (h : Turns x Tn) {e : Str} {te : Tok} (hP : Value.str e te ∈ Tn) : 1 ≤ e.length ∧ e.length ≤ x.length := by
  have h1 := h.clen hP
  have h2 := len_chars e
  have : (chars (.str e te)).length = e.cps.toList.length := rfl
  omega


noncomputable def InTurn (x : Str) (v : Value) : Prop := ∃ (i : Nat) (t : Tok), v = .int (i : Int) t ∧ i < x.length
theorem rangeKs_range (n : Nat) : rangeKs 0 n = (List.range n).map fun (i : Nat) => (i : Int) := by
  apply List.ext_getElem
  · simp [rangeKs]
  · intro i h1 h2
    simp [rangeKs]
theorem nats_of_ints {vs : List Value} : ∀ {is : List Nat}, IntsAre vs (is.map fun (i : Nat) => (i : Int)) → Nats vs is := by
  induction vs with
  | nil => intro is h; cases is with | nil => exact .nil | cons _ _ => cases h
  | cons v vs ih =>
    intro is h
    cases is with
    | nil => cases h
    | cons i is => cases h with | cons _ _ h => exact .cons (ih h)
theorem nats_range {vs : List Value} {n : Nat} (h : IntsAre vs (rangeKs 0 ((n : Int) - 0).toNat)) : Nats vs (List.range n) := by
  have e : ((n : Int) - 0).toNat = n := by omega
  rw [e, rangeKs_range] at h
  exact nats_of_ints h
theorem ways_L {h₀ : Heap} {L : Addr} {m : Str → Option Value} {news : List (Addr × Obj)} {l f : Addr} {x : Str} {vs Tn Ls : List Value} (F : Fr h₀ L s.heap m) (N : News h₀ L s.heap news) (G : GH w mg mb s.heap) (hd : dp + 15 < recursionLimit) (hu : un + 100 < cLine)
   (hl : s.heap.IsList l vs.toArray) (hI : IntsAre vs (rangeKs 0 ((x.length : Int) - 0).toNat)) (hT : Turns x Tn) (hL : Lasts Tn Ls) (hz : x.length ≤ 60) (h0 : 0 < x.length) (O : OrdOk w mg mb f s.heap (cmpL Ls) (InTurn x))
   (hret : ∀ a n V h' tk', Ways x Tn V → Fr h₀ L h' m → News h₀ L h' ((a, W.listOf V.toArray n) :: news) → (∀ p ∈ news, @Ne Nat p.1 a) → Q (.ref a) { s with heap := h', toks := tk' }) :
   wpAny (model PySem.Challenge.rw_sz0087_01.row.prog w) (AR dp un fr gd) (call (.ref 213) [.ref l, .ref f]) Q E s := by
  have hn := nats_range hI
  have hlen := hn.length
  rw [List.length_range] at hlen
  refine sorted_members_ok G hd hu hl O (fun v hv => ?_) (by omega) (by rintro rfl; simp at hlen; omega) fun a n h' tk' k ha ho => ?_
  · obtain ⟨j, t, e, hj⟩ := nats_mem hn hv
    exact ⟨j, t, e, List.mem_range.mp hj⟩
  · exact hret a n _ h' tk' (ways_of h0 hT hL hn) (frK F k) (news_add F (nwK N k) k ha ho) (news_off N ha)

theorem enterN {name qual : Str} {params : Arguments} {body : List Stmt} {scope : Scope} {cl : List (Str × Addr)} {doc pm ctv : Value} {c' f : Addr} {args : List Value} {binds : List (Str × Value)}
    (G : GH w mg mb s.heap) (ho : s.heap.get? f = some (fnMade name qual params body scope cl doc pm c' ctv)) (hcd : s.heap.CodeRec (.ref c') qual) (hroom : dp < recursionLimit)
    (hbind : BindsTo s (fnX name qual params body scope cl .none .none doc pm none (.ref c') ctv) ⟨args, []⟩ binds) (hloc : ∀ y ∈ binds, scope.names.lookup y.1 = some .local)
    (hco : scope.isCoroutine = false) (hgen : scope.isGenerator = false) (hk : scope.kind = .function)
    (hcell : ∀ x ∈ scope.names, x.2 ≠ .cell)
    (h : ∀ L' h₁, Fr s.heap L' h₁ (fun y => binds.reverse.lookup y) →
      wpAny (model PySem.Challenge.rw_sz0087_01.row.prog w) ((AR dp un fr gd).deeper (envX qual scope L' f (.ref c') cl)) (execs body (envX qual scope L' f (.ref c') cl))
        (fun fl s' => Q (match fl with | .ret v => v | _ => .none) s') (fun _ _ => False)
        { s with heap := h₁, toks := s.toks + binds.length }) :
    wpAny (model PySem.Challenge.rw_sz0087_01.row.prog w) (AR dp un fr gd) (call (.ref f) args) Q E s := by
  refine wpAny_call ?_
  refine codeAny_call_def (fd := fnX name qual params body scope cl .none .none doc pm none (.ref c') ctv) (body := body) (binds := binds) hroom ho rfl G.T.nolimit hcd rfl hbind hcell hloc (fun h₁ hns hk₁ => ?_) hco hgen hk
  exact wpAny_mono (h s.heap.objs.size h₁ ⟨hns, hk₁, Nat.le_refl _⟩) (fun _ _ x => x) (fun _ _ x => x.elim)
theorem nameX_FB {M : Model} {A : Around} {h₀ : Heap} {L a c : Addr} {m : Str → Option Value} {cn : Str} {cs : Scope} {ccd : Value} {cl : List (Str × Addr)} {x : Str} {pos : Pos} {v : Value} (F : Fr h₀ L s.heap m) (hc : cl.lookup x = some c) (hv : ∃ o, h₀.get? c = some o ∧ o.data = .cell (some v)) (h : Q v s)
    (hk : cs.kind = .function) (hx : (envX cn cs L a ccd cl).kindOf x = some .free) (hb : (x == ("__debug__" : Str)) = false) (hn : (x == ("__classdict__" : Str)) = false) :
    wpAny M A (eval (.Name x pos) (envX cn cs L a ccd cl)) Q E s := by
  obtain ⟨o, e, d⟩ := hv
  exact wpAny_Name (wpAny_loadName_free hk hx hc ⟨o, F.keep _ _ e, d⟩ h hn) hb

structure Picks (Ls V As : List Value) : Prop where
  S : ∀ v ∈ As, IsS v
  txt : As.map strOf = V.map (letterOf Ls)
structure Firsts (Tn Bs : List Value) : Prop where
  S : ∀ v ∈ Bs, IsS v
  txt : Bs.map strOf = Tn.map fun v => mkS ((chars v).take 1)
noncomputable def PickV (Ls : List Value) (v y : Value) : Prop := y = Ls.getD (idx v) .none
theorem picks_of {Ls V As : List Value} {n : Nat} (hL : ∀ v ∈ Ls, IsS v) (hlen : Ls.length = n) (hV : ∀ v ∈ V, ∃ (i : Nat) (t : Tok), v = .int (i : Int) t ∧ i < n) (hp : Paired (PickV Ls) (V.filter fun _ => true) As) : Picks Ls V As := by
  rw [filter_all] at hp
  induction hp with
  | nil => exact ⟨by simp, rfl⟩
  | @cons a b _ _ h _ ih =>
    have ih := ih fun v hv => hV v (.tail _ hv)
    obtain ⟨i, t, e, hi⟩ := hV a (.head _)
    refine ⟨fun v hv => ?_, ?_⟩
    · rcases List.mem_cons.mp hv with rfl | hv
      · subst e
        have ei : idx (.int (i : Int) t) = i := by show ((i : Int)).toNat = i; omega
        rw [h, ei]
        exact hL _ (getD_mem (by omega))
      · exact ih.S v hv
    · rw [List.map_cons, List.map_cons, ih.txt, h]; rfl
theorem picks_ways {x : Str} {Tn Ls V As : List Value} (hT : Turns x Tn) (hL : Lasts Tn Ls) (hW : Ways x Tn V) (hp : Paired (PickV Ls) (V.filter fun _ => true) As) : Picks Ls V As :=
  picks_of hL.S (by rw [hL.len, hT.len]) hW.I hp
theorem firsts_of {x : Str} {Tn Bs : List Value} (h0 : 0 < x.length) (h : Turns x Tn) (hp : Paired FirstV (Tn.filter fun _ => true) Bs) : Firsts Tn Bs := by
  rw [filter_all] at hp
  have hall : ∀ v ∈ Tn, 0 < (strOf v).length := fun v hv => by
    have h1 := h.clen hv
    have h2 := len_chars (strOf v)
    unfold chars at h1
    omega
  clear h
  induction hp with
  | nil => exact ⟨by simp, rfl⟩
  | cons h _ ih =>
    obtain ⟨e, t, t', rfl, rfl⟩ := h
    have ih := ih fun v hv => hall v (.tail _ hv)
    have h1 : 0 < e.length := hall _ (.head _)
    refine ⟨fun v hv => ?_, ?_⟩
    · rcases List.mem_cons.mp hv with rfl | hv
      · exact ⟨_, _, rfl⟩
      · exact ih.S v hv
    · rw [List.map_cons, List.map_cons, ih.txt]
      congr 1
      show Txt.item e 0 = mkS (e.cps.toList.take 1)
      exact item_zero h1
theorem firsts_same {x : Str} {Tn Ls V As Bs : List Value} (h0 : 0 < x.length) (hT : Turns x Tn) (hL : Lasts Tn Ls) (hW : Ways x Tn V) (hA : Picks Ls V As) (hB : Firsts Tn Bs) : SameL As Bs :=
  same_strs hA.S hB.S (by rw [hA.txt, hB.txt]; exact letters_first h0 hT hL hW)
theorem letters_same {x : Str} {Tn Ls ws ws' : List Value} (h0 : 0 < x.length) (hT : Turns x Tn) (hL : Lasts Tn Ls) (h1 : SortedS (Ls.map strOf) ws) (h2 : SortedS (signs x) ws') : SameL ws ws' :=
  h2.same h1.S h1.srt (h1.perm.trans (lasts_perm h0 hT hL))
theorem Lasts.sz {x : Str} {Tn Ls : List Value} (hT : Turns x Tn) (hL : Lasts Tn Ls) : Ls.length = x.length := by rw [hL.len, hT.len]
theorem item_nat {prog : Program} {A : Around} {value slice : PySem.Expr} {a : Addr} {l : List Value} {i : Nat} {u : Tok} {y : Value} (hl : s.heap.IsList a l.toArray) (hx : l[i]? = some y) (hz : l.length ≤ 100000) (h : Q y s)
    (hs : subscripted slice false (.ref a) (.int (i : Int) u) = operate [.ref a, .int (i : Int) u] (getItem (.ref a) (.int (i : Int) u))) (hg : ∀ r, letTemporaryGo value (.ref a) r = pure ()) :
    wpAny (model prog w) A (subscriptTail value slice (.ref a) (.int (i : Int) u)) Q E s :=
  item_known hl (Int.natCast_nonneg i) hz (by rw [Int.toNat_natCast]; exact hx) h hs hg
theorem item_pick {prog : Program} {A : Around} {value slice : PySem.Expr} {a : Addr} {l : List Value} {i : Nat} {u : Tok} (hl : s.heap.IsList a l.toArray) (hi : i < l.length) (hz : l.length ≤ 100000) (h : ∀ y, PickV l (.int (i : Int) u) y → Q y s)
    (hs : subscripted slice false (.ref a) (.int (i : Int) u) = operate [.ref a, .int (i : Int) u] (getItem (.ref a) (.int (i : Int) u))) (hg : ∀ r, letTemporaryGo value (.ref a) r = pure ()) :
    wpAny (model prog w) A (subscriptTail value slice (.ref a) (.int (i : Int) u)) Q E s := by
  refine item_nat hl (List.getElem?_eq_getElem hi) hz (h _ ?_) hs hg
  unfold PickV
  have ei : idx (.int (i : Int) u) = i := by show ((i : Int)).toNat = i; omega
  rw [ei, List.getD_eq_getElem?_getD, List.getElem?_eq_getElem hi]; rfl

noncomputable abbrev lst9 {Tn Ls : List Value} (_ : Lasts Tn Ls) : List Value := Ls

noncomputable def TurnJ (x : Str) (Tn : List Value) (m₁ : Str → Option Value) (news : List (Addr × Obj)) (k : Nat) (m : Str → Option Value) (nx : List (Addr × Obj)) : Prop :=
  nx = news ∧ ∃ (p : Nat) (f : Str) (tp tf : Tok), m (Str.ofString "place") = some (.int (p : Int) tp) ∧ m (Str.ofString "found") = some (.str f tf) ∧ AtTurn x Tn k p f ∧
    ∀ z, z ≠ Str.ofString "turn" → z ≠ Str.ofString "place" → z ≠ Str.ofString "found" → m z = m₁ z
theorem turn_iter {prog : Program} {A : Around} {env : Env} {h₀ : Heap} {Q : Flow → Shared → Prop} {r : Addr} {t₀ u₀ v₀ tp₀ tf₀ : Tok} {body : List Stmt} {x : Str} {Tn Ls V : List Value} {p₀ : Nat} {m₁ : Str → Option Value} {news : List (Addr × Obj)}
    (hT : Turns x Tn) (hL : Lasts Tn Ls) (hW : Ways x Tn V) (h0 : 0 < x.length) (hz : x.length ≤ 60) (hr : IsRange s.heap r 0 (x.length : Int) 1 t₀ u₀ v₀) (hh : A.handled = none)
    (F : Fr h₀ env.locals s.heap m₁) (N : News h₀ env.locals s.heap news) (hp₀ : p₀ < Tn.length) (hx₀ : (Tn.map strOf)[p₀]? = some x) (e1 : m₁ (Str.ofString "place") = some (.int (p₀ : Int) tp₀)) (e2 : m₁ (Str.ofString "found") = some (.str (Str.ofString "") tf₀))
    (turn : ∀ (k p i : Nat) (t tp tf ti tc : Tok) (f c : Str) h tk I oI, k < x.length → p < x.length → V[p]? = some (.int (i : Int) ti) → i < x.length → Ls[i]? = some (.str c tc) → f.length ≤ x.length → c.length ≤ 1 → AtTurn x Tn (k + 1) i (f ++ c) →
      (∀ q ∈ news, @Ne Nat q.1 I) →
      Fr h₀ env.locals h (fun z => if z = Str.ofString "turn" then some (.int (k : Int) t) else if z = Str.ofString "place" then some (.int (p : Int) tp) else if z = Str.ofString "found" then some (.str f tf) else m₁ z) →
      News h₀ env.locals h ((I, oI) :: news) →
      wpAny (model prog w) A (execs body env) (RPost h₀ env.locals I oI (TurnJ x Tn m₁ news (k + 1)) { s with heap := h, toks := tk } Q) E { s with heap := h, toks := tk })
    (done : ∀ (p : Nat) (tp tf : Tok) (u : Str → Option Value) h tk,
      Fr h₀ env.locals h (fun z => if z = Str.ofString "turn" then u z else if z = Str.ofString "place" then some (.int (p : Int) tp) else if z = Str.ofString "found" then some (.str x tf) else m₁ z) →
      News h₀ env.locals h news → Q .next { s with heap := h, toks := tk }) :
    wpAny (model prog w) A (pyIter (.ref r)) (fun it s₂ => LoopAtV prog w A h₀ env (Str.ofString "turn") body Q E it s₂) E s := by
  have hlen := hT.len
  have hn : Builtin.Range.rangeSize 0 (x.length : Int) 1 = ((x.length : Nat) : Int) := size_nat _
  have norm : ∀ {m : Str → Option Value} {p : Nat} {f : Str} {tp tf : Tok}, m (Str.ofString "place") = some (.int (p : Int) tp) → m (Str.ofString "found") = some (.str f tf) →
      (∀ z, z ≠ Str.ofString "turn" → z ≠ Str.ofString "place" → z ≠ Str.ofString "found" → m z = m₁ z) →
      m = fun z => if z = Str.ofString "turn" then m z else if z = Str.ofString "place" then some (.int (p : Int) tp) else if z = Str.ofString "found" then some (.str f tf) else m₁ z := by
    intro m p f tp tf a1 a2 a3
    funext z
    by_cases q1 : z = Str.ofString "turn"
    · rw [if_pos q1]
    · rw [if_neg q1]
      by_cases q2 : z = Str.ofString "place"
      · rw [if_pos q2, q2, a1]
      · rw [if_neg q2]
        by_cases q3 : z = Str.ofString "found"
        · rw [if_pos q3, q3, a2]
        · rw [if_neg q3]; exact a3 z q1 q2 q3
  refine iter_rangeJ (n := x.length) (TurnJ x Tn m₁ news) hh hr ?_ hn F N ?_ ?_ ?_
  · exact small_nat (le_K hz rfl)
  · exact ⟨rfl, p₀, Str.ofString "", tp₀, tf₀, e1, e2, at_start hT hp₀ hx₀, fun _ _ _ _ => rfl⟩
  · rintro k t m nx h tk I oI hk ⟨rfl, p, f, tp, tf, a1, a2, ha, a3⟩ hI Fk Nk
    have e0 : (0 : Int) + (k : Int) * 1 = (k : Int) := by omega
    rw [e0] at Fk
    have em : (fun y => if y = Str.ofString "turn" then some (Value.int (k : Int) t) else m y) = fun z => if z = Str.ofString "turn" then some (.int (k : Int) t) else if z = Str.ofString "place" then some (.int (p : Int) tp) else if z = Str.ofString "found" then some (.str f tf) else m₁ z := by
      funext z
      have := congrFun (norm a1 a2 a3) z
      by_cases q1 : z = Str.ofString "turn"
      · rw [if_pos q1, if_pos q1]
      · rw [if_neg q1] at this ⊢
        rw [if_neg q1]; exact this
    rw [em] at Fk
    obtain ⟨i, ti, hi, hVp, hb⟩ := hW.get hlen ha.lt
    have hn2 := at_next (t := 0) h0 hT hL hk ha hi hb
    have hLi : i < Ls.length := by rw [hL.len]; omega
    obtain ⟨c, tc, hc⟩ := hL.S Ls[i] (List.getElem_mem _)
    have hc' : Ls[i]? = some (.str c tc) := by rw [List.getElem?_eq_getElem hLi, hc]
    have hs : strOf (Ls.getD i .none) = c := by rw [List.getD_eq_getElem?_getD, hc']; rfl
    rw [hs] at hn2
    have hfl : f.length ≤ x.length := by
      have h1 := congrArg List.length ha.found
      rw [List.length_take, ← len_chars, ← len_chars] at h1
      omega
    have hcl : c.length ≤ 1 := by
      have h1 := hL.get (i := i) (by omega)
      have h2 : chars (Ls.getD i .none) = c.cps.toList := by unfold chars; rw [hs]
      rw [h2] at h1
      have h3 := congrArg List.length h1
      rw [← len_chars] at h3
      unfold lastL at h3
      rw [List.length_drop] at h3
      omega
    exact turn k p i t tp tf ti tc f c h tk I oI hk ha.lt hVp hi hc' hfl hcl hn2 hI Fk Nk
  · rintro m nx h tk ⟨rfl, p, f, tp, tf, a1, a2, ha, a3⟩ Fk Nk
    have e := at_end ha
    subst e
    exact done p tp tf m h tk (norm a1 a2 a3 ▸ Fk) Nk
theorem turn_post {h₀ h' : Heap} {L I : Addr} {oI : Obj} {m' m₁ : Str → Option Value} {news : List (Addr × Obj)} {x f : Str} {Tn : List Value} {k i : Nat} {tk : Nat} {tp tf : Tok} {Q : Flow → Shared → Prop} (F : Fr h₀ L h' m') (N : News h₀ L h' ((I, oI) :: news)) (hI : ∀ q ∈ news, @Ne Nat q.1 I) (ha : AtTurn x Tn (k + 1) i f)
    (e1 : m' (Str.ofString "place") = some (.int (i : Int) tp)) (e2 : m' (Str.ofString "found") = some (.str f tf)) (e3 : ∀ z, z ≠ Str.ofString "turn" → z ≠ Str.ofString "place" → z ≠ Str.ofString "found" → m' z = m₁ z) :
    RPost h₀ L I oI (TurnJ x Tn m₁ news (k + 1)) s Q .next { s with heap := h', toks := tk } :=
  ⟨h', tk, m', news, rfl, F, N, hI, rfl, i, f, tp, tf, e1, e2, ha, e3⟩


theorem cell_list {h₀ h h1 : Heap} {L c D : Addr} {news : List (Addr × Obj)} {o : Obj} {ys : List Value} {k : Nat} (N : News h₀ L h news) (e : Ext h h1) (hd : o.data = .cell (some (.ref D))) (hc : (c, o) ∈ news) (hm : (D, W.listOf ys.toArray k) ∈ news) :
    (∃ o, h1.get? c = some o ∧ o.data = .cell (some (.ref D))) ∧ h1.IsList D ys.toArray :=
  ⟨⟨o, e _ _ (N _ hc).1, hd⟩, ⟨_, e _ _ (N _ hm).1, rfl, _, rfl⟩⟩
theorem letter_at {Ls : List Value} {i : Nat} {t te : Tok} {e : Str} (h : Ls[i]? = some (.str e te)) : letterOf Ls (.int (i : Int) t) = e := by
  have ei : idx (.int (i : Int) t) = i := by show ((i : Int)).toNat = i; omega
  unfold letterOf
  rw [ei, List.getD_eq_getElem?_getD, h]; rfl
theorem cmpL_at {Ls : List Value} {i j : Nat} {t t' te te' : Tok} {e e' : Str} (h : Ls[i]? = some (.str e te)) (h' : Ls[j]? = some (.str e' te')) : cmpT e e' = cmpL Ls (.int (i : Int) t) (.int (j : Int) t') := by
  unfold cmpL
  rw [letter_at h, letter_at h']
theorem str_there {Ls : List Value} {i n : Nat} (hS : ∀ v ∈ Ls, IsS v) (hz : Ls.length = n) (h : i < n) : ∃ e t, Ls[i]? = some (.str e t) := by
  have hi : i < Ls.length := by omega
  obtain ⟨e, t, he⟩ := hS Ls[i] (List.getElem_mem _)
  exact ⟨e, t, by rw [List.getElem?_eq_getElem hi, he]⟩


set_option maxHeartbeats 600000 in
theorem turnings_right_ok {x : Str} {tx : Tok} {pT : Program} {loT : List Str} {mean : ExcName → Option Value} (G : GH w mg mb s.heap) (TT : Top pT loT mean mg mb s.heap) (hT : TabsAt [(279, 277)] s.heap)
   (hd : dp + 30 < recursionLimit) (hu : un + 200 < cLine) (hx : x.length ≤ 60) (h0 : 0 < x.length)
   (hret : ∀ h' tk', GrownAt 277 h' → (∀ b o, b ≠ 277 → s.heap.get? b = some o → h'.get? b = some o) → Q (.bool true) { s with heap := h', toks := tk' }) :
   wpAny (model PySem.Challenge.rw_sz0087_01.row.prog w) (AR dp un fr gd) (call (.ref 280) [.str x tx]) Q E s := by
  k_with_none
  k_with "call builtin:len" => (k_here; (with_reducible show wpAny _ _ (call (Value.builtin "len") [Value.ref _]) _ _ _); k_dflt (refine' len_vs ?k1 ?k2 ?_; (case k1 => is_list); (case k2 => omega); k_whole))
  k_with "subscriptTail" => (k_here; (with_reducible show wpAny _ _ (subscriptTail _ _ (Value.ref _) (Value.int (Nat.cast _) _)) _ _ _); k_dflt (refine' item_vs ?k1 ?k2 ?k3 ?_ ?k4 ?k5; (case k1 => is_list); (case k2 => omega); (case k3 => omega); (case k4 => with_unfolding_all rfl); (case k5 => intro _; with_unfolding_all rfl); k_whole))
  k_with "subscriptTail Name Slice ref ref" => (k_here; k_dflt (refine' slice_fromL ?k1 ?k2 ?k3 ?k4 ?_ ?k5 ?k6; (case k1 => assumption); (case k2 => assumption); (case k3 => is_list); (case k4 => omega); (case k5 => with_unfolding_all rfl); (case k6 => intro _; with_unfolding_all rfl); k_whole); intro l' h' F' N' l1; (try k_lt l1); (try k_sweep))
  k_with "call builtin:list.extend" => (k_here; k_dflt (refine' extend_two ?k1 ?k2 ?k3 ?k4 ?k5 ?_; (case k1 => assumption); (case k2 => assumption); (case k3 => k_ne); (case k4 => (try simp only [List.length_append, List.length_drop]); omega); (case k5 => (try simp only [List.length_append, List.length_drop]); omega); k_whole); intro n' h' F' N'; (try k_sweep))
  k_with "call ref" => (k_here; (with_reducible show wpAny _ _ (call (Value.ref 227) _) _ _ _); (k_dflt (refine' turns_L ?F ?N ?G ?hd ?hu ?hl ?hR ?hz ?h0 ?_; (case F => assumption); (case N => assumption); (case G => (first | assumption | exact GH.keeps (by assumption) (Fr.keep (by assumption)))); (case hd => (first | assumption | exact room_d (by assumption) rfl | exact room_u (by assumption) rfl | omega | (dsimp only [AR, Around.deeper] at *; omega))); (case hu => (first | assumption | exact room_d (by assumption) rfl | exact room_u (by assumption) rfl | omega | (dsimp only [AR, Around.deeper] at *; omega))); (case hl => is_list); (case hR => assumption); (case hz => assumption); (case h0 => assumption); k_whole)); intro a n Tn h' tk' hTn F' N' hne'; (try simp only [List.forall_mem_cons, List.forall_mem_nil, and_true] at hne'); (repeat (obtain ⟨_, hne'⟩ := hne')); (try k_sweep))
  k_with "eval Name" => (k_here; (with_reducible show wpAny _ _ (eval (PySem.Expr.Name _ _) (compEnvC _ _ _ _)) _ _ _); (rename Fr _ _ _ _ => kF); k_dflt (refine' nameG_B kF ?X ?T ?e ?v ?n ?_ ?g ?b ?k ?x ?d; (case g => rfl); (case b => rfl); (case k => rfl); (case x => rfl); (case d => decide); (case X => k_asm); (case T => k_asm); (case e => k_is); (case v => boot_fast); (case n => decide); k_whole))
  k_with "eval ListComp" => (k_here; (with_reducible show wpAny _ _ (eval (PySem.Expr.ListComp (PySem.Expr.Subscript (PySem.Expr.Name _ _) _ _) _ _ _) _) _ _ _); (k_dflt (refine' comp_V (fun _ => true) FirstV ?hclos ?hcell ?hkind ?hnames ?hx ?hopen4 ?hs; (case hclos => with_unfolding_all rfl); (case hcell => decide); (case hkind => rfl); (case hnames => decide); (case hx => rfl); (case hs => intro _; with_unfolding_all rfl))))
  k_with "eval ListComp" => (k_here; (with_reducible show wpAny _ _ (eval (PySem.Expr.ListComp (PySem.Expr.BinOp _ _ _ _) _ _ _) _) _ _ _); (rename Txts _ _ => tx9); (k_dflt (refine' comp_V (fun _ => true) (RotV (txt1 tx9)) ?hclos ?hcell ?hkind ?hnames ?hx ?hopen1 ?hs; (case hclos => with_unfolding_all rfl); (case hcell => decide); (case hkind => rfl); (case hnames => decide); (case hx => rfl); (case hs => intro _; with_unfolding_all rfl))))
  k_with "call type:range" => (k_here; (with_reducible show wpAny _ _ (call _ [_]) _ _ _); k_dflt (refine' range1_L ?k1 ?k2 ?_; (case k1 => assumption); (case k2 => assumption); k_whole); intro r' h' tk' t1 u1 v1 hR' F' N' kE'; (try k_sweep))
  k_with "pyIter ref" => (k_here; (with_reducible show wpAny _ _ (pyIter _) (FreeV _ _ _ _ _ _ _ _ _ _ (RotV _) _) _ _); (k_dflt (refine' range_V ?hh ?hr ?hz ?hF ?hN ⟨?testsA, ?eltA⟩ ?restA; (case hh => rfl); (case hr => assumption); (case hz => first | exact le_K (by assumption) rfl | exact lt_K (by assumption) rfl | omega); (case hF => assumption); (case hN => assumption); (case testsA => intro C v s₃ m₃ E' hP hns hm Fe Ne; exact no_tests rfl); (case' eltA => intro C v s₃ m₃ E' hP hpv hns hm Fe Ne; (have hC := InC.mk (h₀ := s₃.heap) (h := s₃.heap) (fun _ _ e => e)); (obtain ⟨i, t, hi, hv⟩ := hP); subst hv; (dsimp only [envOfC] at Fe Ne)); (case' restA => intro D k ys vs h' tk Fr' Nw' hne' hnats' hpair'; (dsimp only [envOfC] at Fr' Nw'); (try simp only [List.forall_mem_cons, List.forall_mem_nil, and_true] at hne'); (repeat (obtain ⟨_, hne'⟩ := hne')); (have hRot := rots_of hnats' hpair'); clear hnats' hpair'))))
  k_with "subscriptTail Name Slice str ref" => (k_here; (rename InC _ _ => hC9); (k_dflt ((first | refine' slice_sn_X ?k1 ?_ ?k2 ?k3 | refine' slice_ns_X ?k1 ?_ ?k2 ?k3 | refine' slice_ss_X ?k1 ?_ ?k2 ?k3); (case k1 => first | exact le_K (by assumption) rfl | omega); (case k2 => with_unfolding_all rfl); (case k3 => intro _; with_unfolding_all rfl); k_whole)); intro h' t' k kE'; ((rename Fr _ _ _ _ => fA'); (rename News _ _ _ _ => nA'); (rename Heap.Ns _ _ _ => sA'); (rename InC _ _ => cA'); (have fB' := frK fA' kE'); (have nB' := nwK nA' kE'); (have sB' := nsK sA' kE'); (have cB' := incK cA' kE'); (try dsimp only); (clear fA' nA' sA' cA'); (try k_fold)))
  k_with "call builtin:list.index" => (k_here; (with_reducible show wpAny _ _ (call (Value.builtin _) [Value.ref _, Value.str _ _]) _ _ _); (k_dflt (refine' index_strs ?hl ?hS ?hx ?hz ?_; (case hl => is_list); (case hS => exact Turns.S (by assumption)); (case hx => exact text_there (by assumption) (by assumption)); (case hz => exact len_le (Turns.len (by assumption)) (by assumption) rfl); k_whole)); intro j tj tk hj hjx)
  k_with "eval ListComp" => (k_here; (with_reducible show wpAny _ _ (eval (PySem.Expr.ListComp (PySem.Expr.Subscript _ (PySem.Expr.UnaryOp _ _ _) _) _ _ _) _) _ _ _); (k_dflt (refine' comp_V (fun _ => true) LastV ?hclos ?hcell ?hkind ?hnames ?hx ?hopen2 ?hs; (case hclos => with_unfolding_all rfl); (case hcell => decide); (case hkind => rfl); (case hnames => decide); (case hx => rfl); (case hs => intro _; with_unfolding_all rfl))))
  k_with "pyIter ref" => (k_here; (with_reducible show wpAny _ _ (pyIter _) (FreeV _ _ _ _ _ _ _ _ _ _ LastV _) _ _); (k_dflt (refine' list_V ?hh ?hl ?hz ?hF ?hN ⟨?testsB, ?eltB⟩ ?restB; (case hh => rfl); (case hl => is_list); (case hz => exact len_le (Turns.len (by assumption)) (by assumption) rfl); (case hF => assumption); (case hN => assumption); (case testsB => intro C v s₃ m₃ E' hP hns hm Fe Ne; exact no_tests rfl); (case' eltB => intro C v s₃ m₃ E' hP hpv hns hm Fe Ne; (have hC := InC.mk (h₀ := s₃.heap) (h := s₃.heap) (fun _ _ e => e)); (obtain ⟨e, te, hv⟩ := Turns.S (by assumption) _ hP); subst hv; (have he9 := Turns.pos (by assumption) (by assumption) hP); (dsimp only [envOfC] at Fe Ne)); (case' restB => intro D k ys h' tk Fr' Nw' hne' hpair'; (dsimp only [envOfC] at Fr' Nw'); (try simp only [List.forall_mem_cons, List.forall_mem_nil, and_true] at hne'); (repeat (obtain ⟨_, hne'⟩ := hne')); (have hLs := lasts_of (by assumption) (by assumption) hpair'); clear hpair'))))
  k_with "call ref" => (k_here; (with_reducible show wpAny _ _ (call (Value.ref 213) _) _ _ _); (k_dflt (refine' ways_L ?F ?N ?G ?hd ?hu ?hl ?hI ?hT ?hL ?hz ?h0 ?hOrd ?hWays; (case F => assumption); (case N => assumption); (case G => (first | assumption | exact GH.keeps (by assumption) (Fr.keep (by assumption)))); (case hd => (first | assumption | exact room_d (by assumption) rfl | exact room_u (by assumption) rfl | omega | (dsimp only [AR, Around.deeper] at *; omega))); (case hu => (first | assumption | exact room_d (by assumption) rfl | exact room_u (by assumption) rfl | omega | (dsimp only [AR, Around.deeper] at *; omega))); (case hl => is_list); (case hI => assumption); (case hT => assumption); (case hL => assumption); (case hz => assumption); (case h0 => assumption); (case' hWays => intro a n W h' tk' hWs F' N' hne'; (try simp only [List.forall_mem_cons, List.forall_mem_nil, and_true] at hne'); (repeat (obtain ⟨_, hne'⟩ := hne')); (try k_sweep)))))
  k_with "eval ListComp" => (k_here; (with_reducible show wpAny _ _ (eval (PySem.Expr.ListComp (PySem.Expr.Subscript (PySem.Expr.Name _ _) (PySem.Expr.Name _ _) _) _ _ _) _) _ _ _); (k_dflt (refine' comp_V (fun _ => true) (PickV (lst9 (by assumption : Lasts _ _))) ?hclos ?hcell ?hkind ?hnames ?hx ?hopen3 ?hs; (case hclos => with_unfolding_all rfl); (case hcell => decide); (case hkind => rfl); (case hnames => decide); (case hx => rfl); (case hs => intro _; with_unfolding_all rfl))))
  k_with "pyIter ref" => (k_here; (with_reducible show wpAny _ _ (pyIter _) (FreeV _ _ _ _ _ _ _ _ _ _ (PickV _) _) _ _); (k_dflt (refine' list_V ?hh ?hl ?hz ?hF ?hN ⟨?testsC, ?eltC⟩ ?restC; (case hh => rfl); (case hl => is_list); (case hz => exact len_le (Ways.len (by assumption)) (by assumption) rfl); (case hF => assumption); (case hN => assumption); (case testsC => intro C v s₃ m₃ E' hP hns hm Fe Ne; exact no_tests rfl); (case' eltC => intro C v s₃ m₃ E' hP hpv hns hm Fe Ne; (have hC := InC.mk (h₀ := s₃.heap) (h := s₃.heap) (fun _ _ e => e)); (obtain ⟨i, t, hv, hi⟩ := Ways.I (by assumption) _ hP); subst hv; (dsimp only [envOfC] at Fe Ne)); (case' restC => intro D k ys h' tk Fr' Nw' hne' hpair'; (dsimp only [envOfC] at Fr' Nw'); (try simp only [List.forall_mem_cons, List.forall_mem_nil, and_true] at hne'); (repeat (obtain ⟨_, hne'⟩ := hne')); (have hAs := picks_ways (by assumption) (by assumption) (by assumption) hpair'); clear hpair'))))
  k_with "subscriptTail" => (k_here; (with_reducible show wpAny _ _ (subscriptTail _ _ (Value.ref _) (Value.int (Nat.cast _) _)) _ _ _); (rename InC _ _ => hC9); (k_dflt (refine' item_pick ?hl ?hi ?hz ?_ ?k4 ?k5; (case hl => is_list); (case hi => exact lt_len (Lasts.sz (by assumption) (by assumption)) (by assumption)); (case hz => first | exact len_le (Lasts.sz (by assumption) (by assumption)) (by assumption) rfl | exact len_lt (Lasts.sz (by assumption) (by assumption)) (by assumption) rfl); (case k4 => with_unfolding_all rfl); (case k5 => intro _; with_unfolding_all rfl); k_whole; intro y hy)))
  k_with "pyIter ref" => (k_here; (with_reducible show wpAny _ _ (pyIter _) (FreeV _ _ _ _ _ _ _ _ _ _ FirstV _) _ _); (k_dflt (refine' list_V ?hh ?hl ?hz ?hF ?hN ⟨?testsD, ?eltD⟩ ?restD; (case hh => rfl); (case hl => is_list); (case hz => exact len_le (Turns.len (by assumption)) (by assumption) rfl); (case hF => assumption); (case hN => assumption); (case testsD => intro C v s₃ m₃ E' hP hns hm Fe Ne; exact no_tests rfl); (case' eltD => intro C v s₃ m₃ E' hP hpv hns hm Fe Ne; (have hC := InC.mk (h₀ := s₃.heap) (h := s₃.heap) (fun _ _ e => e)); (obtain ⟨e, te, hv⟩ := Turns.S (by assumption) _ hP); subst hv; (have he9 := Turns.pos (by assumption) (by assumption) hP); (dsimp only [envOfC] at Fe Ne)); (case' restD => intro D k ys h' tk Fr' Nw' hne' hpair'; (dsimp only [envOfC] at Fr' Nw'); (try simp only [List.forall_mem_cons, List.forall_mem_nil, and_true] at hne'); (repeat (obtain ⟨_, hne'⟩ := hne')); (have hBs := firsts_of (by assumption) (by assumption) hpair'); clear hpair'; (have hSame9 := firsts_same (by assumption) (by assumption) (by assumption) (by assumption) (by assumption) hBs)))))
  k_with "call builtin:sorted" => (k_here; (with_reducible show wpAny _ _ (call (Value.builtin "sorted") [Value.ref _]) _ _ _); (k_dflt (refine' sorted_strs_L ?F ?N ?hl ?hS ?hz ?_; (case F => assumption); (case N => assumption); (case hl => is_list); (case hS => exact Lasts.S (by assumption)); (case hz => first | exact len_le (Lasts.sz (by assumption) (by assumption)) (by assumption) rfl | exact len_lt (Lasts.sz (by assumption) (by assumption)) (by assumption) rfl); k_whole)); intro a n ws h' F' N' l1 hS'; (try k_lt l1); (try k_sweep))
  k_with "call builtin:sorted" => (k_here; (with_reducible show wpAny _ _ (call (Value.builtin "sorted") [Value.str _ _]) _ _ _); (k_dflt (refine' sorted_text_L ?hh ?F ?N ?hz ?_; (case hh => rfl); (case F => assumption); (case N => assumption); (case hz => first | exact le_K (by assumption) rfl | exact lt_K (by assumption) rfl | omega); k_whole)); intro a n ws h' tk' F' N' hne' hS'; (try simp only [List.forall_mem_cons, List.forall_mem_nil, and_true] at hne'); (repeat (obtain ⟨_, hne'⟩ := hne')); (have hSame9 := letters_same (by assumption) (by assumption) (by assumption) (by assumption) hS'); (try k_sweep))
  k_with "compareOp NotEq ref ref" => (k_here; (with_reducible show wpAny _ _ (compareOp CmpOp.NotEq (Value.ref _) (Value.ref _)) _ _ _); (k_dflt (refine' ne_same ?hl ?hb ?hs ?hu ?_; (case hl => is_list); (case hb => is_list); (case hs => assumption); (case hu => (first | assumption | exact room_d (by assumption) rfl | exact room_u (by assumption) rfl | omega | (dsimp only [AR, Around.deeper] at *; omega))); k_whole)))
  k_with "pyIter ref" => (k_here; (with_reducible show wpAny _ _ (pyIter _) (fun it s₂ => LoopAtV _ _ _ _ _ _ _ _ _ it s₂) _ _); (k_dflt (refine' turn_iter ?hT ?hL ?hW ?h0 ?hz ?hr ?hh ?hF ?hN ?hp ?hx ?he1 ?he2 ?turnE ?doneE; (case hT => assumption); (case hL => assumption); (case hW => assumption); (case h0 => assumption); (case hz => assumption); (case hr => assumption); (case hh => rfl); (case hF => assumption); (case hN => assumption); (case hp => assumption); (case hx => assumption); (case he1 => rfl); (case he2 => rfl); (case' turnE => intro k p i t tp tf ti tc f c h tk I oI hk hp hVp hi hLi hfl hcl hat hIn Fw Nw; (dsimp only [envOfC] at Fw Nw); (have hIn2 := hIn); (try simp only [List.forall_mem_cons, List.forall_mem_nil, and_true] at hIn2)); (case' doneE => intro p tp tf u h tk Fw Nw; (dsimp only [envOfC] at Fw Nw)))))
  k_with "subscriptTail" => (k_here; (with_reducible show wpAny _ _ (subscriptTail _ _ (Value.ref _) (Value.int (Nat.cast _) _)) _ _ _); (k_dflt (refine' item_nat ?hl ?hx ?hz ?_ ?k4 ?k5; (case hl => is_list); (case hx => assumption); (case hz => first | exact len_le (Ways.len (by assumption)) (by assumption) rfl | first | exact len_le (Lasts.sz (by assumption) (by assumption)) (by assumption) rfl | exact len_lt (Lasts.sz (by assumption) (by assumption)) (by assumption) rfl); (case k4 => with_unfolding_all rfl); (case k5 => intro _; with_unfolding_all rfl); k_whole)))
  k_with "eval Name" => (k_here; (with_reducible show wpAny _ _ (eval (PySem.Expr.Name _ _) (envX _ _ _ _ _ _)) _ _ _); k_dflt (refine' nameX_FB ?F ?c ?v ?_ ?hk ?hx ?hb ?hn; (case F => assumption); (case c => rfl); (case v => assumption); (case hk => rfl); (case hx => rfl); (case hb => decide); (case hn => decide); k_whole))
  k_with "call ref" => (k_here; (with_reducible show wpAny _ _ (call (Value.ref 201) _) _ _ _); k_dflt (refine' compare_ok ?kG ?kd ?ku ?_; (case kG => (first | assumption | exact GH.keeps (by assumption) (Fr.keep (by assumption)))); (case kd => (first | assumption | exact room_d (by assumption) rfl | exact room_u (by assumption) rfl | omega | (dsimp only [AR, Around.deeper] at *; omega))); (case ku => (first | assumption | exact room_d (by assumption) rfl | exact room_u (by assumption) rfl | omega | (dsimp only [AR, Around.deeper] at *; omega))); k_whole); intro t' h' tk' kE'; ((rename Fr _ _ _ _ => fA'); (rename News _ _ _ _ => nA'); (have fB' := frK fA' kE'); (have nB' := nwK nA' kE'); (try dsimp only); (clear fA' nA'); (try k_fold)))
  have X := G.X
  have T := G.T
  have about : Txts x x := ⟨⟩
  (k_dflt (
    refine' enterC (binds := [("text", .str x tx)]) (by assumption) ?ho ?hcd ?hroom ?hbind ?hkind ?hnd ?hco ?hgen ?hk ?_
    (case ho => k_is)
    (case hcd => k_is)
    (case hroom => omega)
    (case hbind => exact BindsTo.of_eq rfl)
    (case hkind => exact rfl)
    (case hnd => decide +kernel)
    (case hco => exact rfl)
    (case hgen => exact rfl)
    (case hk => exact rfl)
    intro L' h₁ tk cells F' N' Y'
    k_cells Y'
    (try dsimp only)))
  rename Fr _ _ _ _ => F'
  rename News _ _ _ _ => N'
  have X2 := ghost_K hT X (by kernel_rfl)
  have T2 := ghost_top hT TT
  have T3 := topRead_ghost hT T
  have G2 : GH w mg mb (ghostOf s.heap [(279, 277)]) := ⟨X2, T3⟩
  have C2 := (ghost_code hT).1
  have l0 := ghost_lt hT F'
  have N2 := ghost_news hT F' N'
  have F2 := ghost_fr hT F'
  simp only [tabNews, List.map_cons, List.map_nil, List.nil_append, List.cons_append] at N2
  simp only [tabNews, List.map_cons, List.map_nil] at l0
  k_lt l0
  clear F' N' X T G TT
  k_steps
  all_goals try first | exact ⟨_, _, _, rfl, rfl⟩ | exact keepsC (by assumption) | rfl
  rotate_left 3
  · have gS := Lasts.S (by assumption : Lasts _ _)
    have gZ := Lasts.sz (by assumption) (by assumption : Lasts _ _)
    refine ⟨⟨_, _, (by assumption : News _ _ _ _).get (by k_mem) , rfl⟩, ?_⟩
    rename News _ _ _ _ => N9
    rename _ = Data.cell (some (Value.ref _)) => hD9
    intro dp1 un1 fr1 gd1 s1 Q1 E1 u v k1 G1 hu1 hv1 hd1 hun1 hret1
    obtain ⟨hcell1, hl1⟩ := cell_list N9 k1 hD9 (by k_mem) (by k_mem)
    obtain ⟨i1, ti1, rfl, hi1⟩ := hu1
    obtain ⟨j1, tj1, rfl, hj1⟩ := hv1
    obtain ⟨e1, te1, he1⟩ := str_there gS gZ hi1
    obtain ⟨e2, te2, he2⟩ := str_there gS gZ hj1
    have X := G1.X
    have T := G1.T
    refine enterN (binds := [("x", .int (i1 : Int) ti1), ("y", .int (j1 : Int) tj1)]) G1 (k1 _ _ (N9.get (by k_mem))) ((codeRec_news N9 (by k_mem) (by assumption) (by assumption)).keeps k1) (by omega) (BindsTo.of_eq rfl) (locs rfl) rfl rfl rfl (by decide) ?_
    clear N9 X2 T2 T3 G2 C2
    intro L1 h1 F1
    have N1 := nnil F1
    (try dsimp only)
    k_steps
    exact retI (s := s1) hret1 (cmpL_at he1 he2).symm (Fr.keep (by assumption))
  · rw [beq_self_eq_true]
    refine hret _ _ (GrownAt.of (by assumption) (by k_mem)) fun b o hb e => Fr.keep (by assumption) _ _ (ghost_ne e (by simpa using hb))
  · exact turn_post (by assumption) (by assumption) (by assumption) (by assumption) rfl rfl (by intro z h1 h2 h3; simp [h1, h2, h3])
  · rename PickV _ _ _ => hy9
    exact hy9
end
end

/-! C9a -/
section

theorem hide_none (h : Heap) (a : Addr) : (hideAll h [a]).get? a = none := hideAll_none _ (.head _)
theorem hide_gh {w : World} {mg mb : Str → Option Value} {h₀ h : Heap} {a : Addr} (G : GH w mg mb h₀) (k : Ext h₀ h) (ha : h₀.get? a = none) : GH w mg mb (hideAll h [a]) := by
  refine G.keeps fun b o e => hideAll_get _ (k _ _ e) ?_
  intro hb
  rw [List.mem_singleton.mp hb, ha] at e
  cases e
theorem hide_fr {h h₁ : Heap} {L a : Addr} {m : Str → Option Value} (F : Fr h L h₁ m) : Fr (hideAll h [a]) L h₁ m :=
  ⟨F.ns, fun b o e => F.keep b o (of_hideAll _ e), Nat.le_trans (Nat.le_of_eq (hideAll_size _ _)) F.above⟩
theorem hide_news {h h₁ : Heap} {L a : Addr} {o : Obj} {m : Str → Option Value} (F : Fr h L h₁ m) (e : h.get? a = some o) : News (hideAll h [a]) L h₁ [(a, o)] := by
  intro p hp
  rw [List.mem_singleton.mp hp]
  exact ⟨F.keep _ _ e, Nat.ne_of_lt (Nat.lt_of_lt_of_le (Heap.lt_size e) F.above), hide_none _ _⟩
theorem hide_ne {h : Heap} {a b : Addr} {o : Obj} (hb : b ≠ a) (e : h.get? b = some o) : (hideAll h [a]).get? b = some o := hideAll_get _ e (by simpa using hb)

section
variable {w : World} {mg mb : Str → Option Value} {dp un : Nat} {fr : Option (List Env)} {gd : Option (List Code)} {s : Shared} {Q E : Value → Shared → Prop}

theorem sieve_end {a l L : Addr} {n : Nat} {c : Nat} {many z : Int} {tr t' : Tok} {h' : Heap} {m : Str → Option Value} {tk' : Nat} (h0 : 0 < many)
   (hret : ∀ (r : Nat) (tr t' : Tok) h' tk', (r : Int) < many → h'.get? a = some (W.listOf #[.ref l, .int ((n + 1 : Nat) : Int) t'] c) → (∀ b o, b ≠ a → s.heap.get? b = some o → h'.get? b = some o) → Q (.int (r : Int) tr) { s with heap := h', toks := tk' })
   (F : Fr (hideAll s.heap [a]) L h' m) (N : News (hideAll s.heap [a]) L h' [(a, W.listOf #[.ref l, .int ((n : Int) + 1) t'] c)]) : Q (.int (z.fmod many) tr) { s with heap := h', toks := tk' } := by
  have e : z.fmod many = ((z.fmod many).toNat : Int) := by
    have := Int.fmod_nonneg_of_pos z h0
    omega
  have hlt := Int.fmod_lt_of_pos z h0
  rw [e]
  refine hret _ _ t' _ _ (by omega) (N _ (.head _)).1 fun b o hb h => F.keep _ _ (hide_ne hb h)

set_option maxHeartbeats 600000 in
theorem sieve_ok {h₀ : Heap} {a l : Addr} {vs : List Value} {ns : List Int} {n : Nat} {t u : Tok} {c : Nat} {many : Int} (G : GH w mg mb h₀) (k : Ext h₀ s.heap) (ha : h₀.get? a = none) (hd : dp + 3 < recursionLimit) (hu : un + 40 < cLine)
   (ho : s.heap.get? a = some (W.listOf #[.ref l, .int (n : Int) t] c)) (hl : s.heap.IsList l vs.toArray) (hla : l ≠ a) (hI : IntsAre vs ns) (hz : vs.length ≤ 100) (hn : n ≤ 1000) (h0 : 0 < many) (hm : many ≤ 100)
   (hret : ∀ (r : Nat) (tr t' : Tok) h' tk', (r : Int) < many → h'.get? a = some (W.listOf #[.ref l, .int ((n + 1 : Nat) : Int) t'] c) → (∀ b o, b ≠ a → s.heap.get? b = some o → h'.get? b = some o) → Q (.int (r : Int) tr) { s with heap := h', toks := tk' }) :
   wpAny (model PySem.Challenge.rw_sz0087_01.row.prog w) (AR dp un fr gd) (call (.ref 256) [.ref a, .int many u]) Q E s := by
  k_with_none
  k_with "call builtin:len" => (k_here; (with_reducible show wpAny _ _ (call (Value.builtin "len") [Value.ref _]) _ _ _); k_dflt (refine' len_vs ?k1 ?k2 ?_; (case k1 => is_list); (case k2 => omega); k_whole))
  k_with "subscriptTail" => (k_here; (with_reducible show wpAny _ _ (subscriptTail _ _ (Value.ref _) (Value.int (Nat.cast _) _)) _ _ _); k_dflt (refine' item_vs ?k1 ?k2 ?k3 ?_ ?k4 ?k5; (case k1 => is_list); (case k2 => omega); (case k3 => omega); (case k4 => with_unfolding_all rfl); (case k5 => intro _; with_unfolding_all rfl); k_whole))
  k_with "subscriptTail Name Slice ref ref" => (k_here; k_dflt (refine' slice_fromL ?k1 ?k2 ?k3 ?k4 ?_ ?k5 ?k6; (case k1 => assumption); (case k2 => assumption); (case k3 => is_list); (case k4 => omega); (case k5 => with_unfolding_all rfl); (case k6 => intro _; with_unfolding_all rfl); k_whole); intro l' h' F' N' l1; (try k_lt l1); (try k_sweep))
  k_with "call builtin:list.extend" => (k_here; k_dflt (refine' extend_two ?k1 ?k2 ?k3 ?k4 ?k5 ?_; (case k1 => assumption); (case k2 => assumption); (case k3 => k_ne); (case k4 => (try simp only [List.length_append, List.length_drop]); omega); (case k5 => (try simp only [List.length_append, List.length_drop]); omega); k_whole); intro n' h' F' N'; (try k_sweep))
  have G1 : GH w mg mb s.heap := G.keeps k
  (k_dflt (
    refine' enter (binds := [("mesh", .ref a), ("many", .int many u)]) (by assumption) ?ho ?hcd ?hroom ?hbind ?hloc ?hco ?hgen ?hk ?hcell ?_
    (case ho => k_is)
    (case hcd => k_is)
    (case hroom => omega)
    (case hbind => exact BindsTo.of_eq rfl)
    (case hloc => exact locs rfl)
    (case hco => exact rfl)
    (case hgen => exact rfl)
    (case hk => exact rfl)
    (case hcell => decide)
    intro L' h₁ F'
    have N' := nnil F'
    (try dsimp only)))
  rename Fr _ _ _ _ => F'
  rename News _ _ _ _ => N9
  clear N9
  have F2 := hide_fr (a := a) F'
  have N2 := hide_news F' ho
  have G2 := hide_gh G k ha
  have X := G2.X
  have T := G2.T
  have hl2 : (hideAll s.heap [a]).IsList l vs.toArray := by
    obtain ⟨o, h1, h2⟩ := hl
    exact ⟨o, hide_ne hla h1, h2⟩
  clear F' G1 hl
  k_steps
  all_goals exact sieve_end (s := s) h0 hret (by assumption) (by assumption)
end
end

/-! C9b -/
section
noncomputable abbrev meshObj (l : Addr) (z : Int) (t : Tok) (c : Nat) : Obj := W.listOf #[.ref l, .int z t] c

theorem butFr {h₀ h h' : Heap} {L a : Addr} {o : Obj} {m : Str → Option Value} {rest : List (Addr × Obj)} (F : Fr h₀ L h m) (N : News h₀ L h ((a, o) :: rest)) (k : ∀ b o, b ≠ a → h.get? b = some o → h'.get? b = some o) : Fr h₀ L h' m := by
  obtain ⟨_, hL, hn⟩ := N _ (.head _)
  refine ⟨F.ns.at' fun o e => k _ o (fun q => hL q.symm) e, fun b o e => k b o ?_ (F.keep _ _ e), F.above⟩
  rintro rfl
  simp only at hn
  rw [hn] at e; cases e
theorem butNews {h₀ h h' : Heap} {L a : Addr} {o o' : Obj} {rest : List (Addr × Obj)} (N : News h₀ L h ((a, o) :: rest)) (hoff : ∀ p ∈ rest, p.1 ≠ a) (ho : h'.get? a = some o') (k : ∀ b o, b ≠ a → h.get? b = some o → h'.get? b = some o) : News h₀ L h' ((a, o') :: rest) := by
  intro p hp
  rcases List.mem_cons.mp hp with rfl | hp
  · exact ⟨ho, (N _ (.head _)).2⟩
  · exact ⟨k _ _ (hoff p hp) (N p (.tail _ hp)).1, (N p (.tail _ hp)).2⟩

section
variable {w : World} {mg mb : Str → Option Value} {dp un : Nat} {fr : Option (List Env)} {gd : Option (List Code)} {s : Shared} {Q E : Value → Shared → Prop}

theorem sieve_L {h₀ : Heap} {L a l : Addr} {m : Str → Option Value} {rest : List (Addr × Obj)} {vs : List Value} {ns : List Int} {z : Int} {t u : Tok} {c : Nat} {many : Int} (F : Fr h₀ L s.heap m) (N : News h₀ L s.heap ((a, meshObj l z t c) :: rest)) (hoff : ∀ p ∈ rest, p.1 ≠ a)
   (G : GH w mg mb h₀) (hd : dp + 3 < recursionLimit) (hu : un + 40 < cLine) (hl : s.heap.IsList l vs.toArray) (hla : l ≠ a) (hI : IntsAre vs ns) (hz : vs.length ≤ 100) (hz0 : 0 ≤ z) (hz1 : z ≤ 1000) (h0 : 0 < many) (hm : many ≤ 100)
   (hret : ∀ (r : Nat) (tr t' : Tok) h' tk', (r : Int) < many → Fr h₀ L h' m → News h₀ L h' ((a, meshObj l (z + 1) t' c) :: rest) → (∀ b o, b ≠ a → s.heap.get? b = some o → h'.get? b = some o) → Q (.int (r : Int) tr) { s with heap := h', toks := tk' }) :
   wpAny (model PySem.Challenge.rw_sz0087_01.row.prog w) (AR dp un fr gd) (call (.ref 256) [.ref a, .int many u]) Q E s := by
  obtain ⟨n, rfl⟩ : ∃ n : Nat, z = n := ⟨z.toNat, by omega⟩
  refine sieve_ok G F.keep (N _ (.head _)).2.2 hd hu (N _ (.head _)).1 hl hla hI hz (by omega) h0 hm fun r tr t' h' tk' hr ho k => ?_
  exact hret r tr t' h' tk' hr (butFr F N k) (butNews N hoff (by rw [ho]; rfl) k) k
end

structure InB (a : Addr) (h₀ h : Heap) : Prop where
  ext : ∀ b o, b ≠ a → h₀.get? b = some o → h.get? b = some o
theorem InB.step {a : Addr} {h₀ h h' : Heap} (i : InB a h₀ h) (k : ∀ b o, b ≠ a → h.get? b = some o → h'.get? b = some o) : InB a h₀ h' := ⟨fun b o hb e => k b o hb (i.ext b o hb e)⟩

noncomputable def OneS (y : Value) : Prop := ∃ (e : Str) (t : Tok), y = .str e t ∧ e.length = 1

section
variable {prog : Program} {w : World} {A : Around} {E : Value → Shared → Prop} {env : Env} {s : Shared} {h₀ : Heap} {m : Str → Option Value}

noncomputable def FreeJ (prog : Program) (w : World) (A : Around) (env : Env) (scope : Scope) (cl : List (Str × Addr)) (x : Str) (elt : PySem.Expr) (Q : Value → Shared → Prop) (it : Value) (s₂ : Shared) : Prop :=
  ∃ Inv me, ValJ prog w A env scope cl x elt me Inv Q it s₂

theorem comp_J {elt iter : PySem.Expr} {x : Str} {px : Pos} {scope : Scope} {cl : List (Str × Addr)} {pos : Pos} {Q : Value → Shared → Prop}
    (hclos : closureFor scope env = pure cl) (hcell : ∀ y ∈ scope.names, y.2 ≠ .cell) (hkind : scope.kind = .function)
    (hnames : ∀ y ∈ scope.names, y.2 = .local → scope.names.lookup y.1 = some .local) (hx : scope.names.lookup x = some .local)
    (h : wpAny (model prog w) A (eval iter env) (fun xv s₁ => wpAny (model prog w) A (pyIter xv) (FreeJ prog w A env scope cl x elt Q) E s₁) E s)
    (hs : ∀ x, foldedSetIterable iter env x = pure x) :
    wpAny (model prog w) A (eval (.ListComp elt [⟨.Name x px, iter, [], 0⟩] scope pos) env) Q E s := by
  rw [eval_ListComp]
  refine wpAny_comprehension_free (use := none) rfl hs hclos hkind hnames (wpAny_mono h (fun xv s₁ h₁ => wpAny_mono h₁ (fun it s₂ h₂ => ?_) fun _ _ e => e) fun _ _ e => e)
  obtain ⟨Inv, me, I, fp, wr, n, P, St, rfl, W, hsz, hst, hfp, hme, hfm, hq, hQ⟩ := h₂
  refine comp_blockJ (me := me) (RR := fun acc C => compPost (model prog w) A E none Q acc C) W hsz Inv hcell hkind hx hst hfp hme hfm hq ?_
  intro D C h' tk m' ys hD hC hDC hn hpl hlen hI hk
  refine ⟨m', hn, fun h'' hs'' => hQ C D h'' tk ys hD hC hDC (hpl.extBut hs''.extBut hDC) hlen (hq.stab _ _ _ _ _ _ hI fun b o hbC _ _ e => hs''.extBut b o hbC e) fun b o hbf hbm e => hs''.extBut b o (by rintro rfl; rw [hC] at e; cases e) (hk b o hbf hbm e)⟩

theorem range_J {scope : Scope} {cl : List (Str × Addr)} {x : Str} {elt : PySem.Expr} {r a l : Addr} {n : Int} {z : Int} {t : Tok} {c : Nat} {rest : List (Addr × Obj)} {t₀ u₀ v₀ : Tok} {Q : Value → Shared → Prop}
    (hh : A.handled = none) (hr : IsRange s.heap r 0 n 1 t₀ u₀ v₀) (hn0 : 0 ≤ n) (hz : n ≤ 1000) (F : Fr h₀ env.locals s.heap m) (N : News h₀ env.locals s.heap ((a, meshObj l z t c) :: rest)) (hoff : ∀ p ∈ rest, p.1 ≠ a)
    (helt : ∀ C s₃ m₃ z' t' E', z ≤ z' → z' ≤ z + n → s₃.heap.Ns C m₃ → InB a s₃.heap s₃.heap → Fr h₀ env.locals s₃.heap m → News h₀ env.locals s₃.heap ((a, meshObj l z' t' c) :: rest) →
      wpAny (model prog w) A (eval elt (compEnvC scope cl C env)) (fun y s₄ => OneS y ∧ ∃ t'' h' tk', s₄ = { s₃ with heap := h', toks := tk' } ∧ h'.get? a = some (meshObj l (z' + 1) t'' c) ∧ ∀ b o, b ≠ a → s₃.heap.get? b = some o → h'.get? b = some o) E' s₃)
    (hrest : ∀ (D : Addr) h' tk (ys : List Value) (t' : Tok), Fr h₀ env.locals h' m → News h₀ env.locals h' ((a, meshObj l (z + n) t' c) :: rest) → h'.IsList D ys.toArray → (ys.length : Int) = n → (∀ y ∈ ys, OneS y) → Q (.ref D) { s with heap := h', toks := tk }) :
    wpAny (model prog w) A (pyIter (.ref r)) (FreeJ prog w A env scope cl x elt Q) E s := by
  obtain ⟨n, rfl⟩ : ∃ k : Nat, n = k := ⟨n.toNat, by omega⟩
  have hn : Builtin.Range.rangeSize 0 (n : Int) 1 = (n : Int) := size_nat n
  refine wpAny_pyIter_range hr ?_ ?_
  · exact small_nat (by omega)
  · have WW : Walks prog w A s.heap.objs.size [s.heap.objs.size] [s.heap.objs.size] n (fun i v => i < n ∧ ∃ t, v = .int ((0 : Int) + (i : Int) * 1) t)
      (fun i h => IsRangeIter h s.heap.objs.size ((0 : Int) + (i : Nat) * 1) ((n : Int) - (i : Nat)) 1) := (Walks.range hh _ 0 1 n).bound
    have alt : a < s.heap.objs.size := Heap.lt_size (N _ (.head _)).1
    have hane : a ≠ s.heap.objs.size := Nat.ne_of_lt alt
    have hLI : env.locals ≠ s.heap.objs.size := Nat.ne_of_lt F.ns.lt
    have hna : h₀.get? a = none := (N _ (.head _)).2.2
    have hLa : a ≠ env.locals := (N _ (.head _)).2.1
    have pushed : ∀ b o, s.heap.get? b = some o → (s.heap.push { cls := .type "range_iterator", data := .fields #[rawInt 0, rawInt (Builtin.Range.rangeSize 0 (n : Int) 1), rawInt 1] }).get? b = some o := fun _ _ e => Heap.get?_push_of_some _ e
    have up : ∀ {h' : Heap}, (∀ b o, b ∉ [s.heap.objs.size] → b ∉ [a] → (s.heap.push { cls := .type "range_iterator", data := .fields #[rawInt 0, rawInt (Builtin.Range.rangeSize 0 (n : Int) 1), rawInt 1] }).get? b = some o → h'.get? b = some o) → ∀ b o, b ≠ a → s.heap.get? b = some o → h'.get? b = some o := by
      intro h' hk b o hb e
      refine hk b o ?_ (by simpa using hb) (Heap.get?_push_of_some _ e)
      intro hb
      exact absurd (Heap.lt_size e) ((List.mem_singleton.mp hb) ▸ Nat.lt_irrefl _)
    refine ⟨fun C D i ys h => C ≠ a ∧ D ≠ a ∧ ys.size = i ∧ (∀ y ∈ ys.toList, OneS y) ∧ ∃ t', h.get? a = some (meshObj l (z + i) t' c), [a], _, _, _, n, _, _, rfl, WW, by omega, (by show IsRangeIter _ _ _ _ _; rw [hn]; simpa using Heap.get?_push_size _ rfl), ?_, ?_, ?_, ⟨?_, ?_, ?_⟩, ?_⟩
    · intro b hb
      show b < (s.heap.push _).objs.size
      rw [Heap.size_push, List.mem_singleton.mp hb]
      exact Nat.lt_succ_self _
    · intro b hb
      show b < (s.heap.push _).objs.size
      rw [Heap.size_push, List.mem_singleton.mp hb]
      exact Nat.lt_succ_of_lt alt
    · intro b hb hb'
      rw [List.mem_singleton.mp hb] at hb'
      exact hane (List.mem_singleton.mp hb').symm
    · intro C D h hC hD hk
      have hlt : a < (s.heap.push { cls := .type "range_iterator", data := .fields #[rawInt 0, rawInt (Builtin.Range.rangeSize 0 (n : Int) 1), rawInt 1] }).objs.size := by rw [Heap.size_push]; exact Nat.lt_succ_of_lt alt
      refine ⟨fun q => ?_, fun q => ?_, rfl, by simp, t, ?_⟩
      · subst q; exact absurd (Nat.lt_of_lt_of_le hlt hC) (Nat.lt_irrefl _)
      · subst q; exact absurd (Nat.lt_of_lt_of_le hlt hD) (Nat.lt_irrefl _)
      · rw [hk _ _ (pushed _ _ (N _ (.head _)).1)]; simp
    · rintro C D i ys h h' ⟨h1, h2, h3, h4, t', h5⟩ hk
      exact ⟨h1, h2, h3, h4, t', hk _ _ (Ne.symm h1) (by simpa using hane) (Ne.symm h2) h5⟩
    · rintro C D i v s₃ m₃ ys E' _ _ _ hi _ ⟨h1, h2, h3, h4, t', h5⟩ hns _ hpl hk ⟨h, tk, rfl⟩
      have k3 := up (h' := h) hk
      have F₃ := butFr F N k3
      have N₃ := butNews N hoff h5 k3
      refine wpAny_mono (helt C _ m₃ (z + i) t' E' (by omega) (by omega) hns ⟨fun _ _ _ e => e⟩ F₃ N₃) ?_ fun _ _ e => e
      rintro y s₄ ⟨hy, t'', h', tk', rfl, h6, h7⟩
      refine ⟨⟨h1, h2, by rw [Array.size_push, h3], ?_, t'', by rw [h6, show z + (i : Int) + 1 = z + ((i + 1 : Nat) : Int) by omega]⟩, h', tk', rfl, fun b o hb e => h7 b o (by simpa using hb) e⟩
      intro y' hy'
      rw [Array.toList_push] at hy'
      rcases List.mem_append.mp hy' with hy' | hy'
      · exact h4 y' hy'
      · rw [List.mem_singleton.mp hy']; exact hy
    · rintro C D h' tk ys _ _ _ hpl hlen ⟨_, _, _, h4, t', h5⟩ hk
      have k3 := up (h' := h') hk
      exact hrest D h' tk ys.toList t' (butFr F N k3) (butNews N hoff h5 k3) (by rw [Array.toArray_toList]; exact hpl.isList) (by rw [Array.length_toList, hlen]) h4

theorem OneS.isS {y : Value} (h : OneS y) : IsS y := let ⟨e, t, h, _⟩ := h; ⟨e, t, h⟩
theorem ones_len {ys : List Value} (h : ∀ y ∈ ys, OneS y) : ∀ a ∈ ys.map strOf, a.length = 1 := by
  intro a ha
  obtain ⟨y, hy, rfl⟩ := List.mem_map.mp ha
  obtain ⟨e, t, rfl, h1⟩ := h y hy
  exact h1
theorem ones_sum : ∀ {l : List Str}, (∀ a ∈ l, a.length = 1) → (l.map (·.length)).sum = l.length
  | [], _ => rfl
  | x :: r, h => by
    rw [List.map_cons, List.sum_cons, ones_sum (fun a ha => h a (.tail _ ha)), h x (.head _), List.length_cons]; omega
theorem join_L {D : Addr} {ys : List Value} {t : Tok} {Q : Value → Shared → Prop} (hl : s.heap.IsList D ys.toArray) (hO : ∀ y ∈ ys, OneS y) (hz : ys.length ≤ 1000)
    (h : ∀ (e : Str) t' k, e.length = ys.length → Q (.str e t') { s with toks := k }) : wpAny (model prog w) A (call (.builtin "str.join") [.str (Str.ofString "") t, .ref D]) Q E s := by
  have h1 := ones_len hO
  refine join_listW hl (ys := ys.map strOf) (by simpa using strsAre_of fun v hv => (hO v hv).isS) (by decide) ?_ fun t' k => h _ t' k ?_
  · rw [ones_sum h1, List.length_map]; omega
  · rw [KT.join_ones _ h1, List.length_map]
end

theorem turnings_right_L {w : World} {mg mb : Str → Option Value} {dp un : Nat} {fr : Option (List Env)} {gd : Option (List Code)} {s : Shared} {Q E : Value → Shared → Prop} {h₀ : Heap} {L : Addr} {m : Str → Option Value} {news : List (Addr × Obj)}
   {x : Str} {tx : Tok} {pT : Program} {loT : List Str} {mean : ExcName → Option Value} (F : Fr h₀ L s.heap m) (N : News h₀ L s.heap news) (hm : (277, tabObj #[]) ∈ news) (G : GH w mg mb h₀) (TT : Top pT loT mean mg mb h₀) (hC : CodeHd h₀ 279 277)
   (hd : dp + 30 < recursionLimit) (hu : un + 200 < cLine) (hx : x.length ≤ 60) (h0 : 0 < x.length)
   (hret : ∀ h' tk', GrownAt 277 h' → Fr h₀ L h' m → Q (.bool true) { s with heap := h', toks := tk' }) :
   wpAny (model PySem.Challenge.rw_sz0087_01.row.prog w) (AR dp un fr gd) (call (.ref 280) [.str x tx]) Q E s := by
  have hn := (N _ hm).2.2
  have hL := (N _ hm).2.1
  refine turnings_right_ok (G.keeps F.keep) (TT.keeps F.keep) (fun q hq => ?_) hd hu hx h0 fun h' tk' g k => hret h' tk' g ⟨F.ns.at' fun o e => k _ o (fun q => hL q.symm) e, fun b o e => k b o ?_ (F.keep _ _ e), F.above⟩
  · rw [List.mem_singleton.mp hq]
    exact ⟨hC.keeps F.keep, (N _ hm).1⟩
  · rintro rfl
    simp only at hn
    rw [hn] at e; cases e
end

/-! C9 -/
section
theorem caller_AR : ∃ dp un fr gd, callerA = AR dp un fr gd ∧ dp + 50 < recursionLimit ∧ un + 400 < cLine := ⟨_, _, _, _, rfl, by decide, by decide⟩
theorem hide_post {M : Model} {A : Around} {t : Sem Flow} {Q : Flow → Shared → Prop} {E : Value → Shared → Prop} {s : Shared} {g h₀ : Heap} {L : Addr} {m₀ : Str → Option Value} (F : Fr g L h₀ m₀)
    (hret : ∀ h' tk' (m : Str → Option Value), GrownAt 277 h' → Fr g L h' m → Q (.ret (.bool true)) { s with heap := h', toks := tk' })
    (h : ∀ Q' : Flow → Shared → Prop, (∀ h' tk' (m : Str → Option Value), GrownAt 277 h' → Fr g L h' m → Q' (.ret (.bool true)) { s with heap := h', toks := tk' }) → wpAny M A t Q' (fun _ _ => False) s) : wpAny M A t Q E s :=
  wpAny_mono (h Q hret) (fun _ _ x => x) (fun _ _ x => x.elim)
theorem grown_one {h : Heap} (g : GrownAt 277 h) : GrownAll [(279, 277)] h := ⟨g, trivial⟩
theorem off3 {a b c d : Addr} {o o' o'' : Obj} (h1 : @LT.lt Nat _ b a) (h2 : @LT.lt Nat _ c a) (h3 : @LT.lt Nat _ d a) : ∀ p ∈ [(b, o), (c, o'), (d, o'')], p.1 ≠ a := by
  intro p hp
  simp only [List.mem_cons, List.not_mem_nil, or_false] at hp
  rcases hp with rfl | rfl | rfl
  · exact Nat.ne_of_lt h1
  · exact Nat.ne_of_lt h2
  · exact Nat.ne_of_lt h3




set_option maxHeartbeats 4000000 in
theorem the_law : PySem.Challenge.rw_sz0087_01.Holds := by
  k_with_none
  k_with "call builtin:len" => (k_here; (with_reducible show wpAny _ _ (call (Value.builtin "len") [Value.ref _]) _ _ _); k_dflt (refine' len_vs ?k1 ?k2 ?_; (case k1 => is_list); (case k2 => omega); k_whole))
  k_with "subscriptTail" => (k_here; (with_reducible show wpAny _ _ (subscriptTail _ _ (Value.ref _) (Value.int (Nat.cast _) _)) _ _ _); k_dflt (refine' item_vs ?k1 ?k2 ?k3 ?_ ?k4 ?k5; (case k1 => is_list); (case k2 => omega); (case k3 => omega); (case k4 => with_unfolding_all rfl); (case k5 => intro _; with_unfolding_all rfl); k_whole))
  k_with "subscriptTail Name Slice ref ref" => (k_here; k_dflt (refine' slice_fromL ?k1 ?k2 ?k3 ?k4 ?_ ?k5 ?k6; (case k1 => assumption); (case k2 => assumption); (case k3 => is_list); (case k4 => omega); (case k5 => with_unfolding_all rfl); (case k6 => intro _; with_unfolding_all rfl); k_whole); intro l' h' F' N' l1; (try k_lt l1); (try k_sweep))
  k_with "call builtin:list.extend" => (k_here; k_dflt (refine' extend_two ?k1 ?k2 ?k3 ?k4 ?k5 ?_; (case k1 => assumption); (case k2 => assumption); (case k3 => k_ne); (case k4 => (try simp only [List.length_append, List.length_drop]); omega); (case k5 => (try simp only [List.length_append, List.length_drop]); omega); k_whole); intro n' h' F' N'; (try k_sweep))
  k_with "eval Name" => (k_here; (with_reducible show wpAny _ _ (eval (PySem.Expr.Name _ _) (compEnvC _ _ _ _)) _ _ _); (rename Fr _ _ _ _ => kF); k_dflt (refine' nameG_K kF ?k1 ?k2 ?k3 ?_ ?k4 ?k5 ?k6 ?k7; (case k4 => rfl); (case k5 => rfl); (case k6 => rfl); (case k7 => decide); (case k1 => assumption); (case k2 => k_asm); (case k3 => k_is); k_whole))
  k_with "eval ListComp" => (k_here; (k_dflt (refine' comp_J ?hclos ?hcell ?hkind ?hnames ?hx ?hopenJ ?hs; (case hclos => with_unfolding_all rfl); (case hcell => decide); (case hkind => rfl); (case hnames => decide); (case hx => rfl); (case hs => intro _; with_unfolding_all rfl))))
  k_with "eval ListComp" => (k_here; (k_dflt (refine' comp_J ?hclos ?hcell ?hkind ?hnames ?hx ?hopenJB ?hs; (case hclos => with_unfolding_all rfl); (case hcell => decide); (case hkind => rfl); (case hnames => decide); (case hx => rfl); (case hs => intro _; with_unfolding_all rfl))))
  k_with "call type:range" => (k_here; (with_reducible show wpAny _ _ (call _ [_]) _ _ _); k_dflt (refine' range1_L ?k1 ?k2 ?_; (case k1 => assumption); (case k2 => assumption); k_whole); intro r' h' tk' t1 u1 v1 hR' F' N' kE'; (try k_sweep))
  k_with "call ref" => (k_here; (with_reducible show wpAny _ _ (call (Value.ref 256) _) _ _ _); (k_dflt (refine' sieve_L ?F ?N ?hoff ?G ?hd ?hu ?hl ?hla ?hI ?hz ?hz0 ?hz1 ?h0 ?hm ?_; (case F => assumption); (case N => assumption); (case G => assumption); (case hd => (first | assumption | exact room_d (by assumption) rfl | exact room_u (by assumption) rfl | omega | (dsimp only [AR, Around.deeper] at *; omega))); (case hu => (first | assumption | exact room_d (by assumption) rfl | exact room_u (by assumption) rfl | omega | (dsimp only [AR, Around.deeper] at *; omega))); (case hl => is_list); (case hI => assumption); (case hoff => (refine' off3 ?_ ?_ ?_ <;> omega)); (case hla => exact Nat.ne_of_lt (by omega)); (case hz => ((have hi9 := IntsAre.length (by assumption : IntsAre _ (List.take _ _))); omega)); (case hz0 => omega); (case hz1 => omega); (case h0 => omega); (case hm => omega); k_whole)); intro r tr t' h' tk' hr F' N' kB)
  k_with "call ref" => (k_here; (with_reducible show wpAny _ _ (call (Value.ref 256) _) _ _ _); (rename InB _ _ _ => iB); (k_dflt (refine' sieve_L ?F ?N ?hoff ?G ?hd ?hu ?hl ?hla ?hI ?hz ?hz0 ?hz1 ?h0 ?hm ?_; (case F => assumption); (case N => assumption); (case G => assumption); (case hd => (first | assumption | exact room_d (by assumption) rfl | exact room_u (by assumption) rfl | omega | (dsimp only [AR, Around.deeper] at *; omega))); (case hu => (first | assumption | exact room_d (by assumption) rfl | exact room_u (by assumption) rfl | omega | (dsimp only [AR, Around.deeper] at *; omega))); (case hl => is_list); (case hI => assumption); (case hoff => (refine' off3 ?_ ?_ ?_ <;> omega)); (case hla => exact Nat.ne_of_lt (by omega)); (case hz => ((have hi9 := IntsAre.length (by assumption : IntsAre _ (List.take _ _))); omega)); (case hz0 => omega); (case hz1 => omega); (case h0 => omega); (case hm => omega); k_whole)); intro r tr t' h' tk' hr F' N' kB; (have iB2 := InB.step iB kB))
  k_with "pyIter ref" => (k_here; (with_reducible show wpAny _ _ (pyIter _) (FreeJ _ _ _ _ _ _ _ _ _) _ _); (k_dflt (refine' range_J ?hh ?hr ?hn ?hz ?F ?N ?hoff ?eltJ ?restJ; (case hh => rfl); (case hr => assumption); (case hn => omega); (case hz => omega); (case F => assumption); (case N => assumption); (case hoff => (refine' off3 ?_ ?_ ?_ <;> omega)); (case' eltJ => intro C s₃ m₃ z' t' E' hz1 hz2 hns hB Fe Ne; (dsimp only [envOfC] at Fe Ne)); (case' restJ => intro D h' tk ys t' Fr' Nw' hDl hlen hOne; (dsimp only [envOfC] at Fr' Nw')))))
  k_with "pyIter ref" => (k_here; (with_reducible show wpAny _ _ (pyIter _) (FreeJ _ _ _ _ _ _ _ _ _) _ _); (k_dflt (refine' range_J ?hh ?hr ?hn ?hz ?F ?N ?hoff ?eltJB ?restJB; (case hh => rfl); (case hr => assumption); (case hn => omega); (case hz => omega); (case F => assumption); (case N => assumption); (case hoff => (refine' off3 ?_ ?_ ?_ <;> omega)); (case' eltJB => intro C s₃ m₃ z' t' E' hz1 hz2 hns hB Fe Ne; (dsimp only [envOfC] at Fe Ne)); (case' restJB => intro D h' tk ys t' Fr' Nw' hDl hlen hOne; (dsimp only [envOfC] at Fr' Nw')))))
  k_with "call builtin:str.join" => (k_here; (with_reducible show wpAny _ _ (call (Value.builtin "str.join") [Value.str _ _, Value.ref _]) _ _ _); (k_dflt (refine' join_L ?hl ?hO ?hz ?_; (case hl => assumption); (case hO => assumption); (case hz => omega); k_whole)); intro e t' k he)
  k_with "call ref" => (k_here; (with_reducible show wpAny _ _ (call (Value.ref 275) _) _ _ _); (k_dflt (refine' endings_right_ok ?G ?hd ?hu ?hx ?hy ?h0 ?_; (case G => (first | assumption | exact GH.keeps (by assumption) (Fr.keep (by assumption)))); (case hd => (first | assumption | exact room_d (by assumption) rfl | exact room_u (by assumption) rfl | omega | (dsimp only [AR, Around.deeper] at *; omega))); (case hu => (first | assumption | exact room_d (by assumption) rfl | exact room_u (by assumption) rfl | omega | (dsimp only [AR, Around.deeper] at *; omega))); (case hx => omega); (case hy => omega); (case h0 => omega); k_whole)); intro h' tk' kE'; ((rename Fr _ _ _ _ => fA'); (rename News _ _ _ _ => nA'); (have fB' := frK fA' kE'); (have nB' := nwK nA' kE'); (try dsimp only); (clear fA' nA'); (try k_fold)))
  k_with "call ref" => (k_here; (with_reducible show wpAny _ _ (call (Value.ref 280) _) _ _ _); (k_dflt (refine' turnings_right_L ?F ?N ?m ?G ?T ?C ?hd ?hu ?hx ?h0 ?_; (case F => assumption); (case N => assumption); (case m => k_mem); (case G => assumption); (case T => assumption); (case C => assumption); (case hd => (first | assumption | exact room_d (by assumption) rfl | exact room_u (by assumption) rfl | omega | (dsimp only [AR, Around.deeper] at *; omega))); (case hu => (first | assumption | exact room_d (by assumption) rfl | exact room_u (by assumption) rfl | omega | (dsimp only [AR, Around.deeper] at *; omega))); (case hx => omega); (case h0 => omega); k_whole)); intro h' tk' hG9 F9; (try k_sweep))
  k_with "GrownAll" => exact grown_one (by assumption)
  w_on
  o_law
  refine holds_open (q := view) (loose := []) (Xt := fun s => xlAt view [] s && recOk (RowW.records PySem.Challenge.rw_sz0087_01.row.toRowW) s) (XP := XL view []) (Yf := Hook.obs (kmHook K as as_eq [277])) (Ya := Hook.val (kmHook K as as_eq [277])) (YP := Hook.says (kmHook K as as_eq [277])) (N := 4894) left_row (Hook.of (kmHook K as as_eq [277])) (Hook.keeps (kmHook K as as_eq [277])) (fun s e => xl_of s (Bool.and_eq_true_iff.mp e).1) XL.keeps (by rfl) (by rfl) (by rfl) (fun s e => recFacts_of (Bool.and_eq_true_iff.mp e).2) (by rfl) (by first | assumption | decide +kernel) (by decide +kernel) ⟨rfl, rfl, rfl, rfl, rfl, by decide +kernel⟩ ?hw ?hc
  case hw => w_witness2
  k_go0
  obtain ⟨dp, un, fr, gd, hAR, hdp, hun⟩ := caller_AR
  rw [hAR]
  have T9 := topRead_ghost hT9 (topRead_of (by assumption))
  have G9 := GH.mk (by assumption) T9
  rename Fr _ _ _ _ => F9
  rename News _ _ _ _ => N9
  refine hide_post F9 ?_ ?_
  · clear F9 N9
    intro h' tk' m9 hG9 F9
    k_steps
  intro Q9 hQ9
  k_steps
  all_goals try exact hQ9 _ _ _ (by assumption) (by assumption)
  all_goals try first
    | exact ⟨_, _, rfl, by assumption⟩
    | exact News.get (by assumption) (.head _)
    | (apply InB.ext (by assumption) <;> assumption)
end

end Mine
end

theorem PySem.Challenge.cw_sz0087_01_holds : PySem.Challenge.rw_sz0087_01.Holds := by
  exact Mine.the_law
