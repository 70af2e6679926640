import PyProof.Rows.All
import Wide.All
import OpenK.AllK
import Wide.FinOn
import PySem.Challenge.RW_nz0375_01
open PySem PySem.W PyProof.Rows PySem.Spec PySem.Calls
set_option Elab.async false
set_option maxRecDepth 100000
set_option maxHeartbeats 8000000
set_option compiler.extract_closed false
namespace MineHd.PySem.W
open _root_.PySem _root_.PySem.W _root_.PyProof.Rows
/-- the library's own head, where what it is to show is at hand already -/
theorem holds_open {r : OpenRow} {q : Program} {loose : List Str} {Xt : Shared → Bool} {XP : (Str → Option Value) → Heap → Prop} {α : Type} {Yf : Shared → α} {Ya : World → α} {YP : World → Heap → Prop} {N : Nat}
    (_ : LeftO r.prog q loose Xt Yf Ya N) (_ : ∀ w s, Yf s = Ya w → YP w s.heap) (_ : ∀ w h h', YP w h → (∀ b o, h.get? b = some o → h'.get? b = some o) → YP w h')
    (_ : ∀ s, Xt s = true → XP (s.heap.nsMap mainGlobals) s.heap) (_ : ∀ mg h h', XP mg h → (∀ b o, h.get? b = some o → h'.get? b = some o) → XP mg h')
    (_ : (1 : Nat) = 1) (_ : (1 : Nat) = 1) (_ : (1 : Nat) = 1) (_ : ∀ s, Xt s = true → RecFacts r.records s.heap) (_ : (1 : Nat) = 1)
    (_ : True) (_ : True) (_ : (1 : Nat) = 1 ∧ (1 : Nat) = 1 ∧ (1 : Nat) = 1 ∧ (1 : Nat) = 1 ∧ (1 : Nat) = 1 ∧ True) (_ : True)
    (_ : True) (H : r.Holds := by assumption) : r.Holds := H
end MineHd.PySem.W
namespace MineHd
theorem hdx.tw3560369623665222524 : True := trivial
theorem hdx.tw16394431042046231244 : True := trivial
theorem hdx.tw6456945310593555771 : True := trivial
theorem hdx.tw6877700843853845647 : True := trivial
theorem hdx.tw11217198682169158900 : True := trivial
theorem hdx.tw5957658884877247413 : True := trivial
theorem hdx.tw13496308051120028969 : True := trivial
theorem hdx.tw17102610025779449618 : True := trivial
theorem hdx.tw11846183745848821715 : True := trivial
theorem hdx.tw2872034674011836494 : True := trivial
theorem hdx.tw7558439628931277976 : True := trivial
theorem hdx.tw12145664155300143998 : True := trivial
theorem hdx.tw17237320023929355916 : True := trivial
theorem hdx.tw13977841829122382978 : True := trivial
theorem hdx.tw5980330153147224056 : True := trivial
theorem hdx.tw1122222414037864269 : True := trivial
theorem hdx.tw786720778962676375 : True := trivial
theorem hdx.tw7881466883993548027 : True := trivial
theorem hdx.tw2729585724796169555 : True := trivial
theorem hdx.tw18016155262855817746 : True := trivial
theorem hdx.tw4865970113697039663 : True := trivial
theorem hdx.tw12717311112682938237 : True := trivial
theorem hdx.tw7497547884915665843 : True := trivial
theorem hdx.tw14479483349700109432 : True := trivial
theorem hdx.tw13174728361450916164 : True := trivial
theorem hdx.tw17632380724415789738 : True := trivial
theorem hdx.tw15191086458443689447 : True := trivial
theorem hdx.tw9273664542854018489 : True := trivial
theorem hdx.tw11981198998637393826 : True := trivial
theorem hdx.tw8111228612169155783 : True := trivial
theorem hdx.tw18194125552781751032 : True := trivial
theorem hdx.tw11906562462366341038 : True := trivial
theorem hdx.tw11596370233889509395 : True := trivial
theorem hdx.tw4360662494644481353 : True := trivial
theorem hdx.tw895892622636216237 : True := trivial
theorem hdx.tw2197108107462577614 : True := trivial
theorem hdx.tw15390914530153998468 : True := trivial
theorem hdx.tw4783469128382166601 : True := trivial
theorem hdx.tw89877398437951323 : True := trivial
theorem hdx.tw16402941285706575406 : True := trivial
theorem hdx.tw16070576990157572476 : True := trivial
theorem hdx.tw4910017490486673239 : True := trivial
theorem hdx.tw5943060894820234033 : True := trivial
theorem hdx.tw6160948535454995217 : True := trivial
theorem hdx.tw12858922481970763714 : True := trivial
theorem hdx.tw5150959263929137491 : True := trivial
theorem hdx.tw622965970996426506 : True := trivial
theorem hdx.tw1566394550429059193 : True := trivial
theorem hdx.tw16376605900152831447 : True := trivial
theorem hdx.tw13770579746544388067 : True := trivial
theorem hdx.tw10637749581994051917 : True := trivial
theorem hdx.tw4819082204168783649 : True := trivial
theorem hdx.tw7074729127499927733 : True := trivial
theorem hdx.tw12758281687071738439 : True := trivial
theorem hdx.tw16588814520960800854 : True := trivial
theorem hdx.tw668726700924271326 : True := trivial
theorem hdx.tw16570552058923257319 : True := trivial
theorem hdx.tw4951709415878047281 : True := trivial
theorem hdx.tw4109671697042228348 : True := trivial
theorem hdx.tw4631727847160631263 : True := trivial
theorem hdx.tw14075066409273743860 : True := trivial
theorem hdx.tw6176718730911775001 : True := trivial
theorem hdx.tw4880050709444866015 : True := trivial
theorem hdx.tw3750124327032252798 : True := trivial
theorem hdx.tw10374389537866636519 : True := trivial
theorem hdx.tw7489161641848186888 : True := trivial
theorem hdx.tw13732171969631064541 : True := trivial
theorem hdx.tw12062671323835498344 : True := trivial
theorem hdx.tw7574467591351949816 : True := trivial
theorem hdx.tw1365185612641993326 : True := trivial
theorem hdx.tw11372643866682634529 : True := trivial
theorem hdx.tw12962754454452631889 : True := trivial
theorem hdx.tw4817559304828625032 : True := trivial
theorem hdx.tw11680231898481304807 : True := trivial
theorem hdx.tw6733130373956785722 : True := trivial
theorem hdx.tw13217441331186221789 : True := trivial
theorem hdx.tw3396384043292813172 : True := trivial
theorem hdx.tw12716158897403790872 : True := trivial
theorem hdx.tw17481802362157333152 : True := trivial
theorem hdx.tw7396804915957046757 : True := trivial
theorem hdx.tw15774216608117661398 : True := trivial
theorem hdx.tw15730817706928242504 : True := trivial
theorem hdx.tw10687841410299048217 : True := trivial
theorem hdx.tw5992211727411858361 : True := trivial
theorem hdx.tw2385600748277540483 : True := trivial
theorem hdx.tw16510294943907513684 : True := trivial
theorem hdx.tw4967617936311263303 : True := trivial
theorem hdx.tw9922196426885597764 : True := trivial
theorem hdx.tw11269925176056834885 : True := trivial
theorem hdx.tw1866661825372590895 : True := trivial
theorem hdx.tw18044628593704431642 : True := trivial
theorem hdx.tw16132156170399098456 : True := trivial
theorem hdx.tw8790664300502664204 : True := trivial
theorem hdx.tw5545558811461483073 : True := trivial
theorem hdx.tw4556635300124680462 : True := trivial
theorem hdx.tw10029754262301422761 : True := trivial
theorem hdx.tw4878042679142149048 : True := trivial
theorem hdx.tw7688870041540563015 : True := trivial
theorem hdx.tw68637722837574475 : True := trivial
theorem hdx.tw2898134281669450651 : True := trivial
theorem hdx.tw1029688998602864425 : True := trivial
theorem hdx.tw17635698299489800007 : True := trivial
theorem hdx.tw110229170853773067 : True := trivial
theorem hdx.tw4560414643200064127 : True := trivial
theorem hdx.tw4376290743841887404 : True := trivial
theorem hdx.tw13990060723301503018 : True := trivial
theorem hdx.tw17865669405643170840 : True := trivial
theorem hdx.tw9299242555860902067 : True := trivial
theorem hdx.tw10483640396332900184 : True := trivial
theorem hdx.tw10234216559571169222 : True := trivial
theorem hdx.tw12457873398040541260 : True := trivial
theorem hdx.tw10595359183556202800 : True := trivial
theorem hdx.tw7489587573717246102 : True := trivial
theorem hdx.tw1055192674894901149 : True := trivial
theorem hdx.tw3450999665509788837 : True := trivial
theorem hdx.tw12581092700114654535 : True := trivial
theorem hdx.tw6716861522425015082 : True := trivial
theorem hdx.tw7567321238062059048 : True := trivial
theorem hdx.tw8185341019707863393 : True := trivial
theorem hdx.tw16225587985777582866 : True := trivial
theorem hdx.tw3645173572265893003 : True := trivial
theorem hdx.tw17959166197922138291 : True := trivial
theorem hdx.tw17566532652814992389 : True := trivial
theorem hdx.tw15320915257787114419 : True := trivial
theorem hdx.tw12344023634563997765 : True := trivial
theorem hdx.tw9658578320830498876 : True := trivial
theorem hdx.tw8888209227550112023 : True := trivial
theorem hdx.tw1089223391936635348 : True := trivial
theorem hdx.tw16730230317385810454 : True := trivial
theorem hdx.tw17449578131792232323 : True := trivial
theorem hdx.tw13906450194472770066 : True := trivial
theorem hdx.tw17136010172955951707 : True := trivial
theorem hdx.tw2289786839071602991 : True := trivial
theorem hdx.tw13892617553749635721 : True := trivial
theorem hdx.tw11718325810642777085 : True := trivial
theorem hdx.tw11168433400877320120 : True := trivial
theorem hdx.tw18046886698153527514 : True := trivial
theorem hdx.tw11191409148637612978 : True := trivial
theorem hdx.tw17059488962950628620 : True := trivial
theorem hdx.tw6783087538123511557 : True := trivial
theorem hdx.tw2026140513271522525 : True := trivial
theorem hdx.tw1095515035667124892 : True := trivial
theorem hdx.tw14577944771216096635 : True := trivial
theorem hdx.tw16745696123557996612 : True := trivial
theorem hdx.tw10487723195093925061 : True := trivial
theorem hdx.tw5854215812454290142 : True := trivial
theorem hdx.tw12972472474542525747 : True := trivial
theorem hdx.tw12647749090648100370 : True := trivial
theorem hdx.tw7944196177552989131 : True := trivial
theorem hdx.tw7913485515985259277 : True := trivial
theorem hdx.tw11661532903142768070 : True := trivial
theorem hdx.tw5076176662130164063 : True := trivial
theorem hdx.tw13951077674623606912 : True := trivial
theorem hdx.tw4843531450960665729 : True := trivial
theorem hdx.tw9367257187905694891 : True := trivial
theorem hdx.tw10029612878176040436 : True := trivial
theorem hdx.tw14777581313351752446 : True := trivial
theorem hdx.tw17418689530628288683 : True := trivial
theorem hdx.tw6947084529581467708 : True := trivial
theorem hdx.tw14561017430246750629 : True := trivial
theorem hdx.tw14268455481505865157 : True := trivial
theorem hdx.tw1372502079520865041 : True := trivial
theorem hdx.tw3604160154076139192 : True := trivial
theorem hdx.tw18163915070029711285 : True := trivial
theorem hdx.tw9069019390068789021 : True := trivial
theorem hdx.tw1669087726727724053 : True := trivial
theorem hdx.tw7344609133269292404 : True := trivial
theorem hdx.tw12809867407056255249 : True := trivial
theorem hdx.tw11981331205994526612 : True := trivial
theorem hdx.tw17253072031204455248 : True := trivial
theorem hdx.tw9683580738002098138 : True := trivial
theorem hdx.tw10926109244462683537 : True := trivial
theorem hdx.tw5116561871681024021 : True := trivial
theorem hdx.tw18080668990866432390 : True := trivial
theorem hdx.tw17614234834883183068 : True := trivial
theorem hdx.tw16010811072780000596 : True := trivial
theorem hdx.tw13708119439245236663 : True := trivial
theorem hdx.tw11366655493589252885 : True := trivial
theorem hdx.tw15186542036959929402 : True := trivial
theorem hdx.tw5627100317064462638 : True := trivial
theorem hdx.tw4492490287675474628 : True := trivial
theorem hdx.tw1362137442628913869 : True := trivial
theorem hdx.tw15532117722184023167 : True := trivial
theorem hdx.tw2082479650478678252 : True := trivial
theorem hdx.tw16730347970862288266 : True := trivial
theorem hdx.tw4203926338615820599 : True := trivial
theorem hdx.tw17454514546938845258 : True := trivial
theorem hdx.tw3262394229026051293 : True := trivial
theorem hdx.tw3015189839299466240 : True := trivial
theorem hdx.tw6141741778374583085 : True := trivial
theorem hdx.tw16066433336234758733 : True := trivial
theorem hdx.tw4247167229228697038 : True := trivial
theorem hdx.tw3420766371832306328 : True := trivial
theorem hdx.tw14050760663722092119 : True := trivial
theorem hdx.tw4022655539138634058 : True := trivial
theorem hdx.tw3870264783536937526 : True := trivial
theorem hdx.tw6719811202323721816 : True := trivial
theorem hdx.tw10822071543292137593 : True := trivial
theorem hdx.tw10547145156472071184 : True := trivial
theorem hdx.tw6021597268011138432 : True := trivial
theorem hdx.tw12895044049990432661 : True := trivial
theorem hdx.tw9757853473174780878 : True := trivial
theorem hdx.tw5622956369138226882 : True := trivial
theorem hdx.tw16928793899933376023 : True := trivial
theorem hdx.tw16502199609660653119 : True := trivial
theorem hdx.tw10915469110524013517 : True := trivial
theorem hdx.tw16944730767273896267 : True := trivial
theorem hdx.tw6541279225222391996 : True := trivial
theorem hdx.tw17023213146329710236 : True := trivial
theorem hdx.tw11651098997626391706 : True := trivial
theorem hdx.tw2296847561441619698 : True := trivial
theorem hdx.tw16354742900719159986 : True := trivial
theorem hdx.tw16050488590663677205 : True := trivial
theorem hdx.tw14983394933936648948 : True := trivial
theorem hdx.tw107503274443063399 : True := trivial
theorem hdx.tw6402950109841579953 : True := trivial
theorem hdx.tw479644387029042272 : True := trivial
theorem hdx.tw3302539657886357261 : True := trivial
theorem hdx.tw2096365150765536998 : True := trivial
theorem hdx.tw10071282549605929021 : True := trivial
theorem hdx.tw16208049606078625983 : True := trivial
theorem hdx.tw8527619060542494774 : True := trivial
theorem hdx.tw2171451084038002139 : True := trivial
theorem hdx.tw18184019022673131432 : True := trivial
theorem hdx.tw15741880795804202539 : True := trivial
theorem hdx.tw7166739076978627410 : True := trivial
theorem hdx.tw5978870768201659685 : True := trivial
theorem hdx.tw16270865643008947847 : True := trivial
theorem hdx.tw1980615524757866159 : True := trivial
theorem hdx.tw15589131350962883344 : True := trivial
theorem hdx.tw1009900743591512671 : True := trivial
theorem hdx.tw9612510811554726586 : True := trivial
theorem hdx.tw8994624926796832357 : True := trivial
theorem hdx.tw10444526443029024332 : True := trivial
theorem hdx.tw5451152745417772922 : True := trivial
theorem hdx.tw2642537068137427089 : True := trivial
theorem hdx.tw16041658856159399730 : True := trivial
theorem hdx.tw18245466981751927314 : True := trivial
theorem hdx.tw1713503022824617656 : True := trivial
theorem hdx.tw748925533334079885 : True := trivial
theorem hdx.tw10444229997959034276 : True := trivial
theorem hdx.tw14993256766335221794 : True := trivial
theorem hdx.tw8664522395405700537 : True := trivial
theorem hdx.tw5698875863856559583 : True := trivial
theorem hdx.tw11062966778215606357 : True := trivial
theorem hdx.tw9085263377467551209 : True := trivial
theorem hdx.tw4784975523390553213 : True := trivial
theorem hdx.tw12645376729005803998 : True := trivial
theorem hdx.tw5216044293444965159 : True := trivial
theorem hdx.tw12842131162528095935 : True := trivial
theorem hdx.tw397618614736632644 : True := trivial
theorem hdx.tw13541238890263758636 : True := trivial
theorem hdx.tw9748214890809853322 : True := trivial
theorem hdx.tw12593937407368454820 : True := trivial
theorem hdx.tw8321633805296894154 : True := trivial
theorem hdx.tw3545025477378631899 : True := trivial
theorem hdx.tw17281624296461096555 : True := trivial
theorem hdx.tw15815755434604391659 : True := trivial
theorem hdx.tw7830956219962688445 : True := trivial
theorem hdx.tw6132955558910591973 : True := trivial
theorem hdx.tw4864913672881561192 : True := trivial
theorem hdx.tw213560012879422095 : True := trivial
theorem hdx.tw8324289894694926235 : True := trivial
theorem hdx.tw10363443612527764674 : True := trivial
theorem hdx.tw5219510949525494807 : True := trivial
theorem hdx.tw14256551544406095063 : True := trivial
theorem hdx.tw17113363040655279533 : True := trivial
theorem hdx.tw6378850240836750647 : True := trivial
theorem hdx.tw9378532456897825947 : True := trivial
theorem hdx.tw792098174748544052 : True := trivial
theorem hdx.tw9011090015439273533 : True := trivial
theorem hdx.tw16682072292836453391 : True := trivial
theorem hdx.tw16565488887475249741 : True := trivial
theorem hdx.tw12303719102751741163 : True := trivial
theorem hdx.tw14097735224599683599 : True := trivial
theorem hdx.tw10863687904544851732 : True := trivial
theorem hdx.tw13707557555072057616 : True := trivial
theorem hdx.tw5939463166981450409 : True := trivial
theorem hdx.tw2361753079555218012 : True := trivial
theorem hdx.tw13880542112400549382 : True := trivial
theorem hdx.tw3417420538942641466 : True := trivial
theorem hdx.tw7080596143599530630 : True := trivial
theorem hdx.tw13903895913716258042 : True := trivial
theorem hdx.tw4086122649191969658 : True := trivial
theorem hdx.tw1745834172696646542 : True := trivial
theorem hdx.tw1603081447543167033 : True := trivial
theorem hdx.tw5603309621485888128 : True := trivial
theorem hdx.tw7702699769606277648 : True := trivial
theorem hdx.tw7219004343827879432 : True := trivial
theorem hdx.tw8708539970982407716 : True := trivial
theorem hdx.tw8252862612116980793 : True := trivial
theorem hdx.tw427467414445685885 : True := trivial
theorem hdx.tw2331317010156361203 : True := trivial
theorem hdx.tw8590407672300876801 : True := trivial
theorem hdx.tw3801058220214968719 : True := trivial
theorem hdx.tw15128628553337767220 : True := trivial
theorem hdx.tw1282318661085656471 : True := trivial
theorem hdx.tw5416128772769924472 : True := trivial
theorem hdx.tw2670514371628923755 : True := trivial
theorem hdx.tw2363859294466973678 : True := trivial
theorem hdx.tw1600420735255593545 : True := trivial
noncomputable def adrs : List Addr := [2, 3, 15, 17, 18, 20, 21, 22, 29, 30, 31, 32, 35, 42, 43, 44, 47, 54, 55, 56, 59, 66, 67, 68, 71, 78, 79, 80, 83, 85, 86, 88, 89, 90, 92, 93, 95, 96, 97, 99, 100, 102, 103, 104, 106, 107, 109, 110, 111, 113, 114, 116, 117, 118, 120, 121, 123, 124, 125, 127, 128, 130, 131, 132, 134, 135, 137, 138, 139, 141, 142, 144, 145, 153, 155, 156, 158, 159, 160, 162, 163, 165, 166, 167, 169, 170, 172, 173, 174, 176, 177, 179, 180, 181, 182, 183, 184, 185, 188, 195, 197, 198, 200, 201, 202, 204, 205, 207, 208, 209, 211, 212, 214, 215, 216, 217, 218, 221, 228, 230, 231, 233, 234, 235, 237, 238, 240, 241, 242, 244, 245, 247, 248, 249, 251, 252, 254, 255, 256, 258, 259, 261, 262, 263, 265, 266, 268, 269, 270, 271, 272, 282, 284, 285, 287, 288, 289, 291, 292, 294, 295, 296, 298, 299, 301, 302, 303, 304, 305, 306, 307, 317, 319, 320, 322, 323, 324, 326, 327, 329, 330, 331, 332, 333, 334, 335, 345, 347, 348, 350, 351, 352, 354, 355, 357, 358, 359, 361, 362, 364, 365, 366, 367, 368, 369, 370, 373, 375, 376, 378, 379, 387, 389, 390, 392, 393, 394, 396, 397, 399, 400, 401, 403, 404, 406, 407, 408, 410, 411, 413, 414, 415, 417, 418, 420, 421, 422, 424, 425, 427, 428, 429, 431, 432, 434, 435, 436, 438, 439, 441, 442, 443, 445, 446, 448, 449, 450, 452, 453, 455, 456, 457, 458, 459, 460, 461, 471, 473, 474, 476, 477, 478, 480, 481, 483, 484, 485, 487, 488, 490, 491, 492, 494, 495, 497, 498, 499, 501, 502, 504, 505, 506, 508, 509, 511, 512, 513, 514, 515, 516, 517, 520, 522, 523, 525, 526, 527, 529, 530, 532, 533, 534, 536, 537, 539, 540, 541, 544, 545, 546, 548, 549, 551, 552, 553, 556, 557]
set_option Elab.async true in
set_option maxRecDepth 1000000 in
set_option maxHeartbeats 0 in
theorem hdx (H : PySem.Challenge.rw_nz0375_01.row.Holds) : PySem.Challenge.rw_nz0375_01.row.Holds := by
  w_on
  k_head
  case hw => trivial
  let rec left : LeftO PySem.Challenge.rw_nz0375_01.row.prog _root_.MineHd.hdx.view_1_2 [] (fun s => xlAt _root_.MineHd.hdx.view_1_2 [] s && recOk (RowW.records PySem.Challenge.rw_nz0375_01.row.toRowW) s)
    (Hook.obs (kHook _root_.MineHd.hdx.heap_1_1 adrs (fun _ => by kernel_rfl))) (Hook.val (kHook _root_.MineHd.hdx.heap_1_1 adrs (fun _ => by kernel_rfl))) 9294 := ?hl
  trivial
theorem saidx.tw13496308051120028969 : True := trivial
set_option Elab.async true in
set_option maxRecDepth 1000000 in
set_option maxHeartbeats 0 in
theorem saidx (H : PySem.Challenge.rw_nz0375_01.row.wellSaid = true → PySem.Challenge.rw_nz0375_01.row.Holds) : PySem.Challenge.rw_nz0375_01.Holds := by
  w_on
  o_law
  exact H (by assumption)
end MineHd
namespace Mine
section
abbrev prg : Program := PySem.Challenge.rw_nz0375_01.row.prog
abbrev Led := List (Addr × Obj)
abbrev View := Addr → Obj → Prop
abbrev Env1 := PySem.Env

/-- what a call that comes back hands on: the frozen part kept, the ledger turned -/
def Ret (h₀ : Heap) (L : Addr) (m : Str → Option Value) (g : Heap) (Post : Value → Led → Prop) (Q : Value → Shared → Prop) (s : Shared) : Prop :=
  ∀ r touch' h' tk', (∀ b o, g.get? b = some o → h'.get? b = some o) → (∀ p ∈ touch', g.get? p.1 = none) → Fr h₀ L h' m → News h₀ L h' touch' → Post r touch' → Q r { s with heap := h', toks := tk' }
theorem fresh_of {g h : Heap} {L : Addr} {news : Led} (N : News g L h news) : ∀ p ∈ news, g.get? p.1 = none := fun p hp => (N p hp).2.2

theorem view_keep {V : View} {g h : Heap} {L : Addr} {m : Str → Option Value} (hV : ∀ a o, V a o → g.get? a = some o) (F : Fr g L h m) : ∀ a o, V a o → h.get? a = some o := fun a o e => F.keep _ _ (hV _ _ e)
/-- the caller's surroundings, in one -/
structure KT where
  dp : Nat
  un : Nat
  gd : Option (List Code)
  cn : Str
  cs : Scope
  a : Addr
  ccd : Value
  cl : List (Str × Addr)
  outer : List PySem.Env
def ktr (κ : KT) (L : Addr) : Around := ktrTop κ.dp κ.un κ.gd κ.cn κ.cs L κ.a κ.ccd κ.cl κ.outer
theorem room_d {κ : KT} {L : Addr} {D D' : Nat} (h : κ.dp + D < recursionLimit) (hk : 1 + D' ≤ D) : (ktr κ L).depth + 1 + D' < recursionLimit := Nat.lt_of_le_of_lt (by show κ.dp + 1 + D' ≤ κ.dp + D; omega) h
theorem room_u {κ : KT} {L : Addr} {D D' : Nat} (h : κ.un + 8 * D < cLine) (hk : 1 + D' ≤ D) : (ktr κ L).units + 3 + 8 * D' < cLine := Nat.lt_of_le_of_lt (by show κ.un + 3 + 8 * D' ≤ κ.un + 8 * D; omega) h
/-- the functions whose calls are taken by hand -/
theorem held {n : Nat} (_ : [414, 428, 456, 459, 484, 491, 498, 512, 515, 526, 533, 540, 545, 552, 379, 400, 407, 421, 442, 505].contains n = true) {M : Model} {A : Around} {vs : List Value} {kw : List (Str × Value)} {Q : Value → Shared → Prop} {E : Value → Shared → Prop} {s : Shared} (h : wpAny M A (call (.ref n) vs kw) Q E s) : wpAny M A (call (.ref n) vs kw) Q E s := h
theorem gen_tk {M : Model} {A : Around} {env : Env1} {st : Stmt} {r : List Stmt} {Q : Flow → Shared → Prop} {E : Value → Shared → Prop} {h : Heap} {g : Array GenState} {d : Drawn} {n : Nat} {o : OsState} (H : ∀ k : Nat, wpAny M A (execs (st :: r) env) Q E ⟨h, g, d, k, o⟩) : wpAny M A (execs (st :: r) env) Q E ⟨h, g, d, n + 1, o⟩ := H _
theorem nameY {M : Model} {A : Around} {E : Value → Shared → Prop} {s : Shared} {h₀ : Heap} {L a : Addr} {m : Str → Option Value} {cn : Str} {cs : Scope} {ccd : Value} {cl : List (Str × Addr)} {x : Str} {pos : Pos} {v : Value} {Q : Value → Shared → Prop} (h : Q v s) (F : Fr h₀ L s.heap m := by k_asm)
    (hk : cs.kind = .function := by rfl) (hx : some .local = (envX cn cs L a ccd cl).kindOf x := by rfl) (hv : some v = m x := by rfl) (hd : (x == ("__debug__" : Str)) = false := by decide) : wpAny M A (eval (.Name x pos) (envX cn cs L a ccd cl)) Q E s := nameX_L F hv.symm h hk hx.symm hd
theorem cps {P : Prop} (h : P) : P := h
theorem storeY {M : Model} {A : Around} {E : Value → Shared → Prop} {s : Shared} {h₀ : Heap} {L a : Addr} {m : Str → Option Value} {cn : Str} {cs : Scope} {ccd : Value} {cl : List (Str × Addr)} {x : Str} {v : Value} {Q : Unit → Shared → Prop} {news : List (Addr × Obj)} 
    (h : let m' : Str → Option Value := fun y => if y = x then some v else m y; ∀ h', Fr h₀ L h' m' → News h₀ L h' news → Q () { s with heap := h', toks := s.toks + 1 })
    (F : Fr h₀ L s.heap m := by k_asm) (N : News h₀ L s.heap news := by k_asm)
    (hk : cs.kind = .function := by rfl) (hx : some .local = (envX cn cs L a ccd cl).kindOf x := by rfl) : wpAny M A (storeName (envX cn cs L a ccd cl) x v) Q E s :=
  storeX_L F N h hk hx.symm
theorem same_S {ps : List (Str × Value)} {stored : List Str} {x : Str} {v : Value} {m m₀ : Str → Option Value} (hx : stored.contains x = true) (h : ∀ z, (∀ p ∈ ps, z ≠ p.1) → stored.contains z = false → m z = m₀ z) : ∀ z, (∀ p ∈ ps, z ≠ p.1) → stored.contains z = false → (if z = x then some v else m z) = m₀ z := fun z h2 h3 => by
  rw [if_neg (fun e => by rw [e, hx] at h3; cases h3)]; exact h z h2 h3
theorem same_P {ps : List (Str × Value)} {stored : List Str} {x : Str} {v : Value} {m m₀ : Str → Option Value} (hx : (ps.map (·.1)).contains x = true) (h : ∀ z, (∀ p ∈ ps, z ≠ p.1) → stored.contains z = false → m z = m₀ z) : ∀ z, (∀ p ∈ ps, z ≠ p.1) → stored.contains z = false → (if z = x then some v else m z) = m₀ z := fun z h2 h3 => by
  obtain ⟨p, hp, e⟩ := List.mem_map.mp (List.contains_iff_mem.mp hx)
  rw [if_neg (fun e' => h2 p hp (e'.trans e.symm))]; exact h z h2 h3
theorem same_0 {ps : List (Str × Value)} {stored : List Str} {m₀ : Str → Option Value} : ∀ z, (∀ p ∈ ps, z ≠ p.1) → stored.contains z = false → m₀ z = m₀ z := fun _ _ _ => rfl
theorem same_U {ps : List (Str × Value)} {stored : List Str} {u m₀ : Str → Option Value} : ∀ z, (∀ p ∈ ps, z ≠ p.1) → stored.contains z = false → (if stored.contains z = true then u z else m₀ z) = m₀ z := fun _ _ h => by rw [h]; rfl
theorem same_V {ps : List (Str × Value)} {stored st2 : List Str} {u m m₀ : Str → Option Value} (hs : (st2.all fun x => stored.contains x || (ps.map (·.1)).contains x) = true) (h : ∀ z, (∀ p ∈ ps, z ≠ p.1) → stored.contains z = false → m z = m₀ z) : ∀ z, (∀ p ∈ ps, z ≠ p.1) → stored.contains z = false → (if st2.contains z = true then u z else m z) = m₀ z := fun z h2 h3 => by
  have h4 : st2.contains z = false := by
    cases hc : st2.contains z with
    | false => rfl
    | true =>
      rcases Bool.or_eq_true_iff.mp (List.all_eq_true.mp hs z (List.contains_iff_mem.mp hc)) with h | h
      · rw [h] at h3; cases h3
      · obtain ⟨p, hp, e⟩ := List.mem_map.mp (List.contains_iff_mem.mp h)
        exact absurd e.symm (h2 p hp)
  rw [h4]; exact h z h2 h3
theorem pk {P : Prop} (h : ∀ G : Prop, (P → G) → G) : P := h P id
theorem gen_QE {M : Model} {A : Around} {env : Env1} {body : List Stmt} {Q : Flow → Shared → Prop} {E : Value → Shared → Prop} {s : Shared} (h : ∀ (Q' : Flow → Shared → Prop) (E' : Value → Shared → Prop), (∀ a s, Q a s → Q' a s) → PassesOwn M A env E' → wpAny M A (execs body env) Q' E' s) (hp : PassesOwn M A env E := by passes_own) : wpAny M A (execs body env) Q E s := h Q E (fun _ _ x => x) hp
theorem gen_turn {α : Type} {M : Model} {A : Around} {env : Env1} {body : List Stmt} {t : Sem α} {Q : Flow → Shared → Prop} {E : Value → Shared → Prop} {s : Shared} (h : ∀ Q' : Flow → Shared → Prop, (∀ f s, Q f s → Q' f s) → wpAny M A t (fun _ s₃ => wpAny M A (execs body env) Q' E s₃) E s) : wpAny M A t (fun _ s₃ => wpAny M A (execs body env) Q E s₃) E s := h Q fun _ _ x => x
theorem gen_while {M : Model} {A : Around} {env : Env1} {body : List Stmt} {t : Sem Bool} {Q : Flow → Shared → Prop} {R : Shared → Prop} {E : Value → Shared → Prop} {s : Shared} (h : ∀ Q' : Flow → Shared → Prop, (∀ f s, Q f s → Q' f s) → wpAny M A t (fun b s₃ => if b = true then wpAny M A (execs body env) Q' E s₃ else R s₃) E s) : wpAny M A t (fun b s₃ => if b = true then wpAny M A (execs body env) Q E s₃ else R s₃) E s := h Q fun _ _ x => x
def Spec (w : World) (D : Nat) (f : Addr) (vs : List Value) (touch : Led) (V : View) (Post : Value → Led → Prop) : Prop :=
  ∀ (κ : KT) (A₀ : Around) (base h₀ : Heap) (L : Addr) (m : Str → Option Value)
    (mean : ExcName → Option Value) (mg mb : Str → Option Value) (s : Shared) (Q E : Value → Shared → Prop),
    Below A₀ base κ.outer h₀ → Fr h₀ L s.heap m → (MineHd.hdx.heap_1_1 w.params).In h₀ → News h₀ L s.heap touch → Top MineHd.hdx.view_1_2 (looseW MineHd.hdx.view_1_2 []) mean mg mb h₀ → κ.cs.kind = .function →
    (∀ a o, V a o → (hideAll s.heap (touch.map (·.1))).get? a = some o) →
    κ.dp + D < recursionLimit → κ.un + 8 * D < cLine →
    Ret h₀ L m (hideAll s.heap (touch.map (·.1))) Post Q s →
    wpAny (model prg w) (ktr κ L) (call (.ref f) vs) Q E s

section
variable {w : World} {A₀ A : Around} {s : Shared} {base h₀ : Heap} {outer : List PySem.Env} {L : Addr} {m : Str → Option Value} {env : PySem.Env} {touch : Led} {V : View}
  {name qual : Str} {params : Arguments} {body : List Stmt} {scope : Scope} {dV kV doc pm cdv ct oc : Value} {an od : Option Addr} {osl : Array (Option Value)} {f : Addr} {args : Args} {binds : List (Str × Value)}
  {mean : ExcName → Option Value} {mg mb : Str → Option Value} {Post : Value → Led → Prop} {Q E : Value → Shared → Prop}

theorem enter (B : Below A₀ base outer h₀) (F : Fr h₀ L s.heap m) (X : (MineHd.hdx.heap_1_1 w.params).In h₀) (N : News h₀ L s.heap touch) (T : Top MineHd.hdx.view_1_2 (looseW MineHd.hdx.view_1_2 []) mean mg mb h₀)
    (hV : ∀ a o, V a o → (hideAll s.heap (touch.map (·.1))).get? a = some o) (hret : Ret h₀ L m (hideAll s.heap (touch.map (·.1))) Post Q s)
    (hA : A.frames = some (env :: outer)) (hf : env.frame = some L) (hke : env.scope.kind = .function)
    (ho : (MineHd.hdx.heap_1_1 w.params).lookup f = some ⟨oc, od, .func (fnOf name qual params body scope dV kV doc pm an cdv ct), osl⟩) (hcd : codeIn (MineHd.hdx.heap_1_1 w.params) cdv qual = true) (hroom : A.depth < recursionLimit)
    (hbind : BindsTo s (fnOf name qual params body scope dV kV doc pm an cdv ct) args binds) (hloc : ∀ y ∈ binds, scope.names.lookup y.1 = some .local)
    (h : let mB : Str → Option Value := fun y => binds.reverse.lookup y; ∀ g L' h₁, (∀ a o, V a o → g.get? a = some o) → Ret h₀ L m g Post Q s → Fr h₀ L g m → Fr g L' h₁ mB → News g L' h₁ touch → (∀ p ∈ touch, p.1 < L') → Below A base (env :: outer) g → (MineHd.hdx.heap_1_1 w.params).In g → Top MineHd.hdx.view_1_2 (looseW MineHd.hdx.view_1_2 []) mean mg mb g →
      wpAny (model prg w) (A.deeper (envOf qual scope L' f cdv)) (execs body (envOf qual scope L' f cdv))
        (fun fl s' => LeaveK h₀ L m g (fun r s'' => (∀ b o, g.get? b = some o → s''.heap.get? b = some o) → match r with | .ok (.ret v) => Q v s'' | .ok _ => False | .error e => E e s'') (match fl with | .ret v => v | _ => .none) s')
        (fun e s' => wpAny (model prg w) (A.deeper (envOf qual scope L' f cdv)) (leaving (envOf qual scope L' f cdv) e) (fun _ s'' => E e s'') (fun e' s'' => E e' s'') s')
        { s with heap := h₁, toks := s.toks + binds.length })
    (hcell : ∀ x ∈ scope.names, x.2 ≠ .cell) (hco : scope.isCoroutine = false) (hgen : scope.isGenerator = false) (hk : scope.kind = .function) :
    codeAny (model prg w) A (.call (.ref f) args) (fun r s' => match r with | .ok (.ret v) => Q v s' | .ok _ => False | .error e => E e s') s := by
  obtain ⟨FG, BG, st, lv⟩ := groundX (R := fun r s' => match r with | .ok (.ret v) => Q v s' | .ok _ => False | .error e => E e s') B F N hA hf hke
  refine codeAny_call_def (fd := fnOf name qual params body scope dV kV doc pm an cdv ct) (body := body) (binds := binds) hroom ((X.keeps F.keep) _ _ ho) rfl (T.nolimit.keeps F.keep) (codeRec_of (X.keeps F.keep) hcd) rfl hbind hcell hloc (fun h₁ hns hk₁ => ?_) hco hgen hk
  refine wpAny_mono (h _ s.heap.objs.size h₁ hV hret FG ⟨hns, fun b o e => hk₁ b o (of_hideAll _ e), Nat.le_of_eq (hideAll_size _ _)⟩
    (fun p hp => ⟨hk₁ _ _ (N p hp).1, Nat.ne_of_lt (Heap.lt_size (N p hp).1), hideAll_none _ (List.mem_map_of_mem hp)⟩) (fun p hp => Heap.lt_size (N p hp).1) BG (X.keeps st) (T.keeps st)) (fun fl s' hl => ?_) fun _ _ y => y
  refine lv _ _ ?_
  obtain ⟨L', m', news', F', N', k⟩ := hl
  exact ⟨L', m', news', F', N', fun a b => k a b F'.keep⟩
end

section
variable {w : World} {D : Nat} {f : Addr} {vs : List Value} {touch news rest : Led} {V : View} {Post : Value → Led → Prop} {Q E : Value → Shared → Prop}
  {dp un : Nat} {gd : Option (List Code)} {cn : Str} {cs : Scope} {a : Addr} {ccd : Value} {cl : List (Str × Addr)} {outer : List PySem.Env} {A₀ : Around} {base h₀ : Heap} {L : Addr} {m : Str → Option Value}
  {mean : ExcName → Option Value} {mg mb : Str → Option Value} {s : Shared}

/-- a call that touches nothing of the ledger -/
theorem Spec.use (S : Spec w D f vs [] V Post) (B : Below A₀ base outer h₀) (F : Fr h₀ L s.heap m) (X : (MineHd.hdx.heap_1_1 w.params).In h₀) (N : News h₀ L s.heap news) (T : Top MineHd.hdx.view_1_2 (looseW MineHd.hdx.view_1_2 []) mean mg mb h₀) (hk : cs.kind = .function)
    (hV : ∀ a o, V a o → s.heap.get? a = some o) (hd1 : dp + D < recursionLimit) (hu : un + 8 * D < cLine)
    (ret : ∀ r new h' tk', Fr h₀ L h' m → News h₀ L h' (new ++ news) → (∀ b o, s.heap.get? b = some o → h'.get? b = some o) → (∀ p ∈ new, s.heap.get? p.1 = none) → Post r new → Q r { s with heap := h', toks := tk' }) :
    wpAny (model prg w) (ktrTop dp un gd cn cs L a ccd cl outer) (call (.ref f) vs) Q E s :=
  S ⟨dp, un, gd, cn, cs, a, ccd, cl, outer⟩ A₀ base h₀ L m mean mg mb s Q E B F X News.nil T hk hV hd1 hu fun r new h' tk' kp fr F' N' p =>
    ret r new h' tk' F' (fun q hq => by
      rcases List.mem_append.mp hq with hq | hq
      · exact N' q hq
      · exact ⟨kp _ _ (N q hq).1, (N q hq).2⟩) kp fr p
theorem Spec.useA (S : Spec w D f vs [] V Post) (hV : ∀ a o, V a o → s.heap.get? a = some o)
    (ret : ∀ r new h' tk', Fr h₀ L h' m → News h₀ L h' (new ++ news) → (∀ b o, s.heap.get? b = some o → h'.get? b = some o) → (∀ p ∈ new, s.heap.get? p.1 = none) → Post r new → Q r { s with heap := h', toks := tk' })
    (B : Below A₀ base outer h₀ := by k_asm) (F : Fr h₀ L s.heap m := by k_asm) (X : (MineHd.hdx.heap_1_1 w.params).In h₀ := by k_asm) (N : News h₀ L s.heap news := by k_asm) (T : Top MineHd.hdx.view_1_2 (looseW MineHd.hdx.view_1_2 []) mean mg mb h₀ := by k_asm) (hk : cs.kind = .function := by first | exact rfl | assumption)
    (hd1 : dp + D < recursionLimit := by walk_at "ROOM") (hu : un + 8 * D < cLine := by walk_at "ROOM") :
    wpAny (model prg w) (ktrTop dp un gd cn cs L a ccd cl outer) (call (.ref f) vs) Q E s := Spec.use S B F X N T hk hV hd1 hu ret
/-- a call whose answer alone counts -/
abbrev PSpec (w : World) (D : Nat) (f : Addr) (vs : List Value) (V : View) (mk : Tok → Value) : Prop := Spec w D f vs [] V fun r _ => ∃ t, r = mk t
theorem PSpec.use {mk : Tok → Value} (S : PSpec w D f vs V mk) (B : Below A₀ base outer h₀) (F : Fr h₀ L s.heap m) (X : (MineHd.hdx.heap_1_1 w.params).In h₀) (N : News h₀ L s.heap news) (T : Top MineHd.hdx.view_1_2 (looseW MineHd.hdx.view_1_2 []) mean mg mb h₀) (hk : cs.kind = .function)
    (hV : ∀ a o, V a o → s.heap.get? a = some o) (hd1 : dp + D < recursionLimit) (hu : un + 8 * D < cLine)
    (ret : ∀ t h' tk', Fr h₀ L h' m → News h₀ L h' news → Q (mk t) { s with heap := h', toks := tk' }) :
    wpAny (model prg w) (ktrTop dp un gd cn cs L a ccd cl outer) (call (.ref f) vs) Q E s :=
  Spec.use S B F X N T hk hV hd1 hu fun r new h' tk' F' N' _ _ p => by
    obtain ⟨t, rfl⟩ := p
    exact ret t h' tk' F' fun q hq => N' q (List.mem_append_right _ hq)
theorem PSpec.useA {mk : Tok → Value} (S : PSpec w D f vs V mk) (ret : ∀ t h' tk', Fr h₀ L h' m → News h₀ L h' news → Q (mk t) { s with heap := h', toks := tk' })
    (B : Below A₀ base outer h₀ := by k_asm) (F : Fr h₀ L s.heap m := by k_asm) (X : (MineHd.hdx.heap_1_1 w.params).In h₀ := by k_asm) (N : News h₀ L s.heap news := by k_asm) (T : Top MineHd.hdx.view_1_2 (looseW MineHd.hdx.view_1_2 []) mean mg mb h₀ := by k_asm) (hk : cs.kind = .function := by first | exact rfl | assumption)
    (hV : ∀ a o, V a o → s.heap.get? a = some o := by exact view_keep (by assumption) (by assumption)) (hd1 : dp + D < recursionLimit := by walk_at "ROOM") (hu : un + 8 * D < cLine := by walk_at "ROOM") :
    wpAny (model prg w) (ktrTop dp un gd cn cs L a ccd cl outer) (call (.ref f) vs) Q E s := PSpec.use S B F X N T hk hV hd1 hu ret
end

theorem inst_of_view {V : View} {g h : Heap} {L x C dx : Addr} {m : Str → Option Value} {od : Obj} (F : Fr g L h m) (hV : ∀ a o, V a o → g.get? a = some o) (h1 : V x (instObj C dx)) (h2 : V dx od) : InstAt h x (instObj C dx) C (some od) :=
  ⟨F.keep _ _ (hV _ _ h1), rfl, rfl, F.keep _ _ (hV _ _ h2)⟩
theorem list_of_view {V : View} {g h : Heap} {L l : Addr} {m : Str → Option Value} {vs : List Value} {n : Nat} (F : Fr g L h m) (hV : ∀ a o, V a o → g.get? a = some o) (h1 : V l (listOf vs.toArray n)) : h.IsList l vs.toArray :=
  ⟨_, F.keep _ _ (hV _ _ h1), rfl, n, rfl⟩
abbrev tupOf (vs : Array Value) : Obj := { cls := .type "tuple", data := .seq vs }
/-- an entry of an object's dict -/
abbrev fe (P : Params) (name : String) (t : Tok) (v : Value) : DictEntry := ⟨PyData.keyHash P (Str.ofString name), .str (Str.ofString name) t, v⟩
inductive IsOrder (P : Params) (V : View) (x : Addr) : Prop
  | mk (dx : Addr) (n : Nat) (t : Tok) (u : Addr) (du : Addr) (p1_ : V x (instObj 272 dx)) (p2_ : V dx (dictOf [fe P "user_order" t (.ref u)] n)) (p3_ : V u (instObj 218 du)) (p4_ : V du (dictOf [] 0)) : IsOrder P V x
theorem IsOrder.mono {P : Params} {V V' : View} {x : Addr} (h : IsOrder P V x) (k : ∀ a o, V a o → V' a o) : IsOrder P V' x := by
  obtain ⟨dx, n, t, u, du, h1, h2, h3, h4⟩ := h
  exact ⟨dx, n, t, u, du, k _ _ h1, k _ _ h2, k _ _ h3, k _ _ h4⟩
end
section
section
open PySem.Builtin
abbrev bord := Bytes.order
theorem fb_slot_lt : Slot "bytes" (cmpInfo .Lt).2.1 "bytes.__lt__" :=
  .of (owner := "bytes") (n := "__lt__") (by rw [typeLookup_type, builtinLookup_eq_fast]; kernel_rfl) (by decide +kernel) (by decide +kernel) (by decide +kernel)
    (by first | exact .inl (by decide +kernel) | exact .inr (by decide +kernel)) (by rw [isSubtype_type]; kernel_rfl)
theorem fb_entry_lt : entryFor table "bytes.__lt__" = some Builtin.«bytes.__lt__» := entryFor_of_tree (by kernel_rfl)
theorem fb_args_lt (a b : Value) : argsOk "bytes.__lt__" ⟨[a, b], []⟩ := by
  unfold argsOk; rw [signature?_of (id := "bytes.__lt__") (n := "__lt__".toList.reverse) (o := "bytes".toList.reverse) (by kernel_rfl) FB.owner_bytes]; kernel_rfl
theorem fb_slot_gt : Slot "bytes" (cmpInfo .Gt).2.1 "bytes.__gt__" :=
  .of (owner := "bytes") (n := "__gt__") (by rw [typeLookup_type, builtinLookup_eq_fast]; kernel_rfl) (by decide +kernel) (by decide +kernel) (by decide +kernel)
    (by first | exact .inl (by decide +kernel) | exact .inr (by decide +kernel)) (by rw [isSubtype_type]; kernel_rfl)
theorem fb_entry_gt : entryFor table "bytes.__gt__" = some Builtin.«bytes.__gt__» := entryFor_of_tree (by kernel_rfl)
theorem fb_args_gt (a b : Value) : argsOk "bytes.__gt__" ⟨[a, b], []⟩ := by
  unfold argsOk; rw [signature?_of (id := "bytes.__gt__") (n := "__gt__".toList.reverse) (o := "bytes".toList.reverse) (by kernel_rfl) FB.owner_bytes]; kernel_rfl
theorem fb_slot_le : Slot "bytes" (cmpInfo .LtE).2.1 "bytes.__le__" :=
  .of (owner := "bytes") (n := "__le__") (by rw [typeLookup_type, builtinLookup_eq_fast]; kernel_rfl) (by decide +kernel) (by decide +kernel) (by decide +kernel)
    (by first | exact .inl (by decide +kernel) | exact .inr (by decide +kernel)) (by rw [isSubtype_type]; kernel_rfl)
theorem fb_entry_le : entryFor table "bytes.__le__" = some Builtin.«bytes.__le__» := entryFor_of_tree (by kernel_rfl)
theorem fb_args_le (a b : Value) : argsOk "bytes.__le__" ⟨[a, b], []⟩ := by
  unfold argsOk; rw [signature?_of (id := "bytes.__le__") (n := "__le__".toList.reverse) (o := "bytes".toList.reverse) (by kernel_rfl) FB.owner_bytes]; kernel_rfl
theorem fb_slot_ge : Slot "bytes" (cmpInfo .GtE).2.1 "bytes.__ge__" :=
  .of (owner := "bytes") (n := "__ge__") (by rw [typeLookup_type, builtinLookup_eq_fast]; kernel_rfl) (by decide +kernel) (by decide +kernel) (by decide +kernel)
    (by first | exact .inl (by decide +kernel) | exact .inr (by decide +kernel)) (by rw [isSubtype_type]; kernel_rfl)
theorem fb_entry_ge : entryFor table "bytes.__ge__" = some Builtin.«bytes.__ge__» := entryFor_of_tree (by kernel_rfl)
theorem fb_args_ge (a b : Value) : argsOk "bytes.__ge__" ⟨[a, b], []⟩ := by
  unfold argsOk; rw [signature?_of (id := "bytes.__ge__") (n := "__ge__".toList.reverse) (o := "bytes".toList.reverse) (by kernel_rfl) FB.owner_bytes]; kernel_rfl

theorem gives_lt (b c : Array UInt8) (t u : Tok) : Gives («bytes.__lt__» ⟨[.bytes b t, .bytes c u], []⟩) (.val (.bool (bord b.toList c.toList == .lt))) := by
  refine .of_wp fun M A E s Q hq => ?_
  show wpAny M A (isInstance (.bytes c u) (.type "bytes") >>= fun r => _) _ E s
  refine wpAny_bind (wpAny_isInstance (typeIs_bytes s c u) F.sub_bytes_bytes ?_)
  exact wpAny_pure ⟨_, rfl, hq⟩
theorem gives_gt (b c : Array UInt8) (t u : Tok) : Gives («bytes.__gt__» ⟨[.bytes b t, .bytes c u], []⟩) (.val (.bool (bord b.toList c.toList == .gt))) := by
  refine .of_wp fun M A E s Q hq => ?_
  show wpAny M A (isInstance (.bytes c u) (.type "bytes") >>= fun r => _) _ E s
  refine wpAny_bind (wpAny_isInstance (typeIs_bytes s c u) F.sub_bytes_bytes ?_)
  exact wpAny_pure ⟨_, rfl, hq⟩
theorem gives_le (b c : Array UInt8) (t u : Tok) : Gives («bytes.__le__» ⟨[.bytes b t, .bytes c u], []⟩) (.val (.bool (bord b.toList c.toList != .gt))) := by
  refine .of_wp fun M A E s Q hq => ?_
  show wpAny M A (isInstance (.bytes c u) (.type "bytes") >>= fun r => _) _ E s
  refine wpAny_bind (wpAny_isInstance (typeIs_bytes s c u) F.sub_bytes_bytes ?_)
  exact wpAny_pure ⟨_, rfl, hq⟩
theorem gives_ge (b c : Array UInt8) (t u : Tok) : Gives («bytes.__ge__» ⟨[.bytes b t, .bytes c u], []⟩) (.val (.bool (bord b.toList c.toList != .lt))) := by
  refine .of_wp fun M A E s Q hq => ?_
  show wpAny M A (isInstance (.bytes c u) (.type "bytes") >>= fun r => _) _ E s
  refine wpAny_bind (wpAny_isInstance (typeIs_bytes s c u) F.sub_bytes_bytes ?_)
  exact wpAny_pure ⟨_, rfl, hq⟩
variable {prog : Program} {w : World} {A : Around} {E : Value → Shared → Prop} {s : Shared} {b c : Array UInt8} {t u : Tok}
theorem lt_bytes {Q : Value → Shared → Prop} (h : Q (.bool (bord b.toList c.toList == .lt)) s) : wpAny (model prog w) A (compareOp .Lt (.bytes b t) (.bytes c u)) Q E s :=
  compareOp_gives (op := .Lt) (typeIs_bytes s b t) (typeIs_bytes s c u) fb_slot_lt fb_entry_lt (fb_args_lt _ _) (gives_lt b c t u) (fun e => nomatch e) h
theorem gt_bytes {Q : Value → Shared → Prop} (h : Q (.bool (bord b.toList c.toList == .gt)) s) : wpAny (model prog w) A (compareOp .Gt (.bytes b t) (.bytes c u)) Q E s :=
  compareOp_gives (op := .Gt) (typeIs_bytes s b t) (typeIs_bytes s c u) fb_slot_gt fb_entry_gt (fb_args_gt _ _) (gives_gt b c t u) (fun e => nomatch e) h
theorem le_bytes {Q : Value → Shared → Prop} (h : Q (.bool (bord b.toList c.toList != .gt)) s) : wpAny (model prog w) A (compareOp .LtE (.bytes b t) (.bytes c u)) Q E s :=
  compareOp_gives (op := .LtE) (typeIs_bytes s b t) (typeIs_bytes s c u) fb_slot_le fb_entry_le (fb_args_le _ _) (gives_le b c t u) (fun e => nomatch e) h
theorem ge_bytes {Q : Value → Shared → Prop} (h : Q (.bool (bord b.toList c.toList != .lt)) s) : wpAny (model prog w) A (compareOp .GtE (.bytes b t) (.bytes c u)) Q E s :=
  compareOp_gives (op := .GtE) (typeIs_bytes s b t) (typeIs_bytes s c u) fb_slot_ge fb_entry_ge (fb_args_ge _ _) (gives_ge b c t u) (fun e => nomatch e) h
end
end
section
namespace F2
theorem look_bytes : typeLookup (.type "bytes") "__bytes__" = pure (some (.builtin "bytes.__bytes__")) := by rw [typeLookup_type, builtinLookup_eq_fast]; kernel_rfl
end F2
section
open PySem.Builtin
variable {prog : Program} {w : World} {A : Around} {E : Value → Shared → Prop} {s : Shared} {b : Array UInt8} {t : Tok}
theorem bytes_new_b {Q : Value → Shared → Prop} (hQ : Q (.bytes b t) s) : codeAny (model prog w) A (.call (.builtin "bytes.__new__") ⟨[.type "bytes", .bytes b t], []⟩) (wants Q E) s := by
  refine codeAny_of_tree ?_
  show wpAny _ A.in1 (do checkBuiltinCall "bytes.__new__" ⟨[.type "bytes", .bytes b t], []⟩; again (.builtin "bytes.__new__" ⟨[.type "bytes", .bytes b t], []⟩)) _ _ s
  refine wpAny_bind (wpAny_of_eq (F.bm_newCall _) (wpAny_pure ⟨plainId_quiet F.bm_plain _, codeAny_builtin F.bm_entry ?_⟩))
  rw [Around.under_plainId F.bm_plain _]
  unfold Builtin.«bytes.__new__»
  refine wpAny_bind (wpAny_of_eq (a := true) rfl ?_)
  refine bm_if_false rfl ?_
  refine wpAny_bind (wpAny_of_eq F.bm_sub ?_)
  refine bm_if_false rfl ?_
  refine wpAny_bind (wpAny_of_eq (F.bm_bind _) ?_)
  refine wpAny_bind (wpAny_of_eq (a := ()) rfl ?_)
  refine wpAny_bind (wpAny_of_eq (a := ()) rfl ?_)
  refine bm_if_false rfl ?_
  refine wpAny_bind (wpAny_specialOf (typeIs_bytes s b t) F2.look_bytes ?_)
  refine wpAny_bind (wpAny_rule ?_)
  refine wpAny_bind (wpAny_typeOf (typeIs_bytes s b t) ?_)
  refine bm_if_true (by decide) ?_
  first
    | exact wpAny_pure hQ
    | exact wpAny_bind (wpAny_pure (wpAny_pure hQ))
theorem call_bytes_b {Q : Value → Shared → Prop} (hQ : Q (.bytes b t) s) : wpAny (model prog w) A (call (.type "bytes") [.bytes b t]) Q E s := by
  refine callType_codes (Q₁ := fun obj s₁ => s₁.TypeIs obj "bytes" ∧ Q obj s₁) F.bm_called (F.bm_typeCall _) F.entry_object_init
    (bytes_new_b ⟨typeIs_bytes _ _ _, hQ⟩) fun obj s₁ h₁ => ?_
  exact ⟨h₁.1, F.args_object_init_2 obj _, object_init_meets F.bm_called.init.lookup F.bm_called.made (by decide) prog w A.in1 _ s₁ ⟨h₁.1, rfl, h₁.2⟩⟩

theorem picked_hi (l : List UInt8) (k : Int) (h0 : 0 ≤ k) (h1 : k ≤ l.length) : KBy.picked l.toArray none (some k) = (l.take k.toNat).toArray := by
  rw [KBc.picked_eq]
  have e : clipAt l.toArray.size k = k.toNat := by
    have h2 : k = ((k.toNat : Nat) : Int) := by omega
    rw [h2, clipAt_nat]
    simp only [List.size_toArray, Int.toNat_natCast]
    omega
  simp only [Option.elim, List.drop_zero, Nat.sub_zero, e]
variable {value slice : PySem.Expr} {l : List UInt8} {h₀ : Heap} {L : Addr} {m : PySem.Str → Option Value} {news : List (Addr × Obj)} {Q : Value → Shared → Prop} {k : Int} {tk : Tok}
theorem slice_hi (hF : Fr h₀ L s.heap m) (hN : News h₀ L s.heap news) (h0 : 0 ≤ k) (h1 : k ≤ l.length) (hz : l.length ≤ 1000)
    (h : ∀ h' t' k', Fr h₀ L h' m → News h₀ L h' news → Q (.bytes (l.take k.toNat).toArray t') { s with heap := h', toks := k' })
    (hs : subscripted slice false (.bytes l.toArray t) (.ref s.heap.objs.size) = operate [.ref s.heap.objs.size, .bytes l.toArray t] (getItem (.bytes l.toArray t) (.ref s.heap.objs.size)) := by with_unfolding_all rfl)
    (ht : ∀ r, letTemporaryGo value (.bytes l.toArray t) r = pure () := by intro _; with_unfolding_all rfl) :
    wpAny (model prog w) A (subscriptTail value slice (.bytes l.toArray t) (.ref s.heap.objs.size)) Q E { s with heap := s.heap.push { cls := .type "slice", data := .fields #[.none, .int k tk, .none] } } :=
  KBc.slice_K (lo := none) (hi := some k) hF hN rfl (by constructor) (by constructor) (by rw [KBw.ints_length]; simp; omega)
    (fun h' t' k' F' N' _ => by rw [picked_hi l k h0 h1]; exact h h' t' k' F' N') hs ht
end
section
variable {prog : Program} {w : World} {A : Around} {E : Value → Shared → Prop} {s : Shared} {l : List UInt8} {t : Tok}
theorem len_lb {Q : Value → Shared → Prop} (hfit : l.length ≤ 1000) (h : Q (.int (l.length : Int) (s.toks + 1)) { s with toks := s.toks + 1 + 1 }) : wpAny (model prog w) A (call (.builtin "len") [.bytes l.toArray t]) Q E s :=
  len_bytes (by simp; omega) (by simpa using h)
end
theorem byte_small (b : UInt8) : ((b.toNat : Int)).natAbs < 2 ^ 64 := by
  have := b.toNat_lt
  simp only [Int.natAbs_natCast]
  omega
theorem abs_small {n : Int} (h0 : 0 ≤ n) (h1 : n < 18446744073709551616) : n.natAbs < 2 ^ 64 := by omega
end
section
def le8 (t : Nat) : List UInt8 := [UInt8.ofNat (t % 256), UInt8.ofNat (t / 256 % 256), UInt8.ofNat (t / 65536 % 256), UInt8.ofNat (t / 16777216 % 256), UInt8.ofNat (t / 4294967296 % 256), UInt8.ofNat (t / 1099511627776 % 256), UInt8.ofNat (t / 281474976710656 % 256), UInt8.ofNat (t / 72057594037927936 % 256)]
theorem le8_len (t : Nat) : (le8 t).length = 8 := rfl
def tagL : List Nat := [0, 1, 256, 257, 512, 513, 768, 769, 1024, 1025, 1280, 1281, 1536, 1537, 1792, 1793, 2048, 2049, 2304, 2305, 18446744073709551361]
def cmpO (a b : List UInt8) : Int := if (bord a b == .lt) = true then -1 else if (bord a b == .gt) = true then 1 else 0
def rd32 (l : List UInt8) (k : Nat) : Int :=
  Builtin.bitOr (Builtin.bitOr (Builtin.bitOr ((l.getD k 0).toNat : Int) (((l.getD (k + 1) 0).toNat : Int) * 2 ^ (8 : Int).toNat)) (((l.getD (k + 2) 0).toNat : Int) * 2 ^ (16 : Int).toNat)) (((l.getD (k + 3) 0).toNat : Int) * 2 ^ (24 : Int).toNat)
theorem getD_app (u v : List UInt8) (k : Nat) : (u ++ v).getD (u.length + k) 0 = v.getD k 0 := by
  rw [List.getD_eq_getElem?_getD, List.getD_eq_getElem?_getD, List.getElem?_append_right (by omega)]
  congr 2
  omega
theorem rd32_app (u v : List UInt8) (k : Nat) : rd32 (u ++ v) (u.length + k) = rd32 v k := by
  unfold rd32
  rw [Nat.add_assoc, Nat.add_assoc, Nat.add_assoc, getD_app, getD_app, getD_app, getD_app]
theorem rd_lo : ∀ t ∈ tagL, rd32 (le8 t) 0 = ((t % 4294967296 : Nat) : Int) := by decide +kernel
theorem rd_hi : ∀ t ∈ tagL, rd32 (le8 t) 4 = ((t / 4294967296 : Nat) : Int) := by decide +kernel
theorem rd_all : ∀ t ∈ tagL, Builtin.bitOr ((t % 4294967296 : Nat) : Int) (((t / 4294967296 : Nat) : Int) * 2 ^ (32 : Int).toNat) = (t : Int) := by decide +kernel
theorem tag_hi : ∀ t ∈ tagL, t / 4294967296 < 4294967296 := by decide +kernel
theorem tag_kind : ∀ t ∈ tagL, Builtin.bitAnd (t : Int) 255 = ((t % 256 : Nat) : Int) ∧ (t : Int).fdiv (2 ^ (8 : Int).toNat) = ((t / 256 : Nat) : Int) ∧ t % 256 ≤ 1 := by decide +kernel
def seqL : List Nat := [0, 1, 2, 3, 4, 5, 6, 7, 8, 9, 72057594037927935]
theorem seq_tag : ∀ q ∈ seqL, Builtin.bitOr ((q : Int) * 2 ^ (8 : Int).toNat) 1 = ((q * 256 + 1 : Nat) : Int) ∧ (q * 256 + 1) ∈ tagL ∧ q ≤ 72057594037927935 := by decide +kernel
def put4 (n : Nat) : List UInt8 := [UInt8.ofNat (n % 256), UInt8.ofNat (n / 256 % 256), UInt8.ofNat (n / 65536 % 256), UInt8.ofNat (n / 16777216 % 256)]
def halfL : List Nat := tagL.map (· % 4294967296) ++ tagL.map (· / 4294967296)
theorem half_in : ∀ n ∈ halfL, n < 4294967296 ∧ (∀ x ∈ [Builtin.bitAnd (n : Int) 255, Builtin.bitAnd ((n : Int).fdiv (2 ^ (8 : Int).toNat)) 255, Builtin.bitAnd ((n : Int).fdiv (2 ^ (16 : Int).toNat)) 255, (n : Int).fdiv (2 ^ (24 : Int).toNat)], 0 ≤ x ∧ x < 256) ∧
    ([Builtin.bitAnd (n : Int) 255, Builtin.bitAnd ((n : Int).fdiv (2 ^ (8 : Int).toNat)) 255, Builtin.bitAnd ((n : Int).fdiv (2 ^ (16 : Int).toNat)) 255, (n : Int).fdiv (2 ^ (24 : Int).toNat)].map fun x => x.toNat.toUInt8) = put4 n := by decide +kernel
theorem tag_halves : ∀ t ∈ tagL, t % 4294967296 ∈ halfL ∧ t / 4294967296 ∈ halfL ∧ Builtin.bitAnd (t : Int) 4294967295 = ((t % 4294967296 : Nat) : Int) ∧ (t : Int).fdiv (2 ^ (32 : Int).toNat) = ((t / 4294967296 : Nat) : Int) ∧ put4 (t % 4294967296) ++ put4 (t / 4294967296) = le8 t ∧ t < 18446744073709551616 := by decide +kernel
theorem put4_len (n : Nat) : (put4 n).length = 4 := rfl
theorem add_lb {prog : Program} {w : World} {A : Around} {E : Value → Shared → Prop} {s : Shared} {b c : List UInt8} {t u : Tok} {Q : Value → Shared → Prop} (hsz : b.length + c.length ≤ 2000) (h : ∀ t' k, Q (.bytes (b ++ c).toArray t') { s with toks := k }) :
    wpAny (model prog w) A (binaryOp .Add (.bytes b.toArray t) (.bytes c.toArray u)) Q E s := by
  refine KBy.add_bytes (by simp only [List.size_toArray]; omega) fun t' k => ?_
  rw [List.append_toArray]
  exact h t' k
def cmpI (ua : List UInt8) (ta : Nat) (ub : List UInt8) (tb : Nat) : Int := if cmpO ua ub ≠ 0 then cmpO ua ub else if (ta : Int) > tb then -1 else if (ta : Int) < tb then 1 else 0
def U (i : Nat) : List UInt8 := ([[], [97], [97, 0], [98], [255]] : List (List UInt8)).getD i []
theorem U_len (i : Nat) : (U i).length ≤ 100 := by
  by_cases h : i < 5
  · have : ∀ j < 5, (U j).length ≤ 100 := by decide
    exact this i h
  · have : U i = [] := by unfold U; rw [List.getD_eq_getElem?_getD, List.getElem?_eq_none (by simp; omega)]; rfl
    rw [this]; exact Nat.zero_le _
theorem U_ord : ∀ i < 5, ∀ j < 5, bord (U i) (U j) = compare i j := by decide +kernel
theorem cmpO_U : ∀ i < 5, ∀ j < 5, cmpO (U i) (U j) = if i < j then -1 else if i > j then 1 else 0 := by decide +kernel
theorem tag_max : ∀ t ∈ tagL, t ≤ 18446744073709551361 := by decide +kernel
theorem cmpI_neg {i j ti tj : Nat} (hi : i < 5) (hj : j < 5) : cmpI (U i) ti (U j) tj < 0 ↔ i < j ∨ (i = j ∧ ti > tj) := by
  unfold cmpI
  rw [cmpO_U i hi j hj]
  repeat' split
  all_goals omega
theorem cmpI_pos {i j ti tj : Nat} (hi : i < 5) (hj : j < 5) : cmpI (U i) ti (U j) tj > 0 ↔ i > j ∨ (i = j ∧ ti < tj) := by
  unfold cmpI
  rw [cmpO_U i hi j hj]
  repeat' split
  all_goals omega
theorem ord_lt {i j : Nat} (hi : i < 5) (hj : j < 5) : (bord (U i) (U j) == .lt) = decide (i < j) := by
  rw [U_ord i hi j hj]
  rcases Nat.lt_trichotomy i j with h | h | h
  · simp [Nat.compare_eq_lt.mpr h, h]
  · subst h; simp
  · simp [Nat.compare_eq_gt.mpr h, Nat.not_lt.mpr (Nat.le_of_lt h)]
theorem ord_gt {i j : Nat} (hi : i < 5) (hj : j < 5) : (bord (U i) (U j) == .gt) = decide (i > j) := by
  rw [U_ord i hi j hj]
  rcases Nat.lt_trichotomy i j with h | h | h
  · simp [Nat.compare_eq_lt.mpr h, Nat.not_lt.mpr (Nat.le_of_lt h)]
  · subst h; simp
  · simp [Nat.compare_eq_gt.mpr h, h]
theorem ord_le {i j : Nat} (hi : i < 5) (hj : j < 5) : (bord (U i) (U j) != .gt) = decide (i ≤ j) := by
  have h := ord_gt hi hj
  unfold bne
  rw [h]
  by_cases q : i ≤ j
  · simp [q]
  · simp [q]; omega
theorem ord_ge {i j : Nat} (hi : i < 5) (hj : j < 5) : (bord (U i) (U j) != .lt) = decide (i ≥ j) := by
  have h := ord_lt hi hj
  unfold bne
  rw [h]
  by_cases q : i ≥ j
  · simp [q]
  · simp [q]; omega
end
section
section
variable {prog : Program} {w : World} {A : Around} {E : Value → Shared → Prop} {s : Shared} {env : PySem.Env} {h₀ : Heap} {target : Expr} {body : List Stmt} {Q : Flow → Shared → Prop}

theorem letGo_range {I : Addr} {x l c : Int} {v : Value} {Q' : Unit → Shared → Prop} {s' : Shared} (hit : IsRangeIter s'.heap I x l c) (h : Q' () s') :
    wpAny (model prog w) A (letOwnedTupleGo target (.ref I) v) Q' E s' := by
  unfold letOwnedTupleGo
  cases target <;> first
    | exact wpAny_pure h
    | (cases v <;> first
        | exact wpAny_pure h
        | (refine wpAny_bind (wpAny_load hit ?_)
           exact wpAny_pure h))

/-- the end of a turn -/
def TurnE {σ : Type} (h₀ : Heap) (L : Addr) (wr : List Addr) (own : Led) (stored : List Str) (m₀ : Str → Option Value) (ps : σ → List (Str × Value)) (Lf : σ → Led) (P' : σ → Prop) (s₁ s₂ : Shared) : Prop :=
  ∃ (c' : σ) (h' : Heap) (tk : Nat) (m' : Str → Option Value) (news' : Led), s₂ = { s₁ with heap := h', toks := tk } ∧ Fr h₀ L h' m' ∧ News h₀ L h' news' ∧ (∀ p ∈ own, p ∈ news') ∧ (∀ p ∈ Lf c', p ∈ news') ∧ (∀ p ∈ Lf c', p.1 ∉ wr) ∧
    (∀ p ∈ ps c', m' p.1 = some p.2) ∧ (∀ z, (∀ p ∈ ps c', z ≠ p.1) → stored.contains z = false → m' z = m₀ z) ∧ P' c'
def TurnP {σ : Type} (h₀ : Heap) (L : Addr) (wr : List Addr) (own : Led) (stored : List Str) (m₀ : Str → Option Value) (ps : σ → List (Str × Value)) (Lf : σ → Led) (P' : σ → Prop) (s₁ : Shared) (Q : Flow → Shared → Prop) (f : Flow) (s₂ : Shared) : Prop :=
  match f with
  | .ret v => Q (.ret v) s₂
  | .brk => Q .next s₂
  | _ => TurnE h₀ L wr own stored m₀ ps Lf P' s₁ s₂
theorem TurnE.intro {σ : Type} {L : Addr} {wr : List Addr} {own : Led} {stored : List Str} {m₀ m' : Str → Option Value} {ps : σ → List (Str × Value)} {Lf : σ → Led} {P' : σ → Prop} {s₁ : Shared} {h' : Heap} {tk : Nat} {news' : Led} (c' : σ)
    (F : Fr h₀ L h' m') (N : News h₀ L h' news') (ho : ∀ p ∈ own, p ∈ news') (hl : ∀ p ∈ Lf c', p ∈ news') (hw : ∀ p ∈ Lf c', p.1 ∉ wr) (hk : ∀ p ∈ ps c', m' p.1 = some p.2) (hr : ∀ z, (∀ p ∈ ps c', z ≠ p.1) → stored.contains z = false → m' z = m₀ z) (hp : P' c') :
    TurnE h₀ L wr own stored m₀ ps Lf P' s₁ { s₁ with heap := h', toks := tk } := ⟨c', h', tk, m', news', rfl, F, N, ho, hl, hw, hk, hr, hp⟩

theorem turns_core {σ : Type} {I : Addr} {fp wr : List Addr} {n : Nat} {Pv Md : Nat → Value → Heap → Prop} {St : Nat → Heap → Prop} {m₀ : Str → Option Value} {hp : Heap} {tk0 : Nat}
    (ps : σ → List (Str × Value)) (Lf : σ → Led) (stored : List Str) (P : Nat → σ → Prop) (c₀ : σ)
    (W : KTurns prog w A target I fp wr n Pv Md St) (hLf : env.locals ∉ fp) (hwr : ∀ b ∈ wr, h₀.get? b = none) (hst : St 0 hp) (F : Fr h₀ env.locals hp m₀) (N : News h₀ env.locals hp (Lf c₀)) (hw : ∀ p ∈ Lf c₀, p.1 ∉ wr)
    (hk : ∀ p ∈ ps c₀, m₀ p.1 = some p.2) (h0 : P 0 c₀)
    (turn : ∀ i v (c : σ) (u : Str → Option Value) h tk own, i < n → Pv i v h → P i c → (∀ p ∈ Lf c, p.1 ∉ wr) → (∀ p ∈ own, p.1 ∈ fp) → (∀ b ∈ fp, h₀.get? b = none → ∀ o, h.get? b = some o → (b, o) ∈ own) → St (i + 1) h →
      Fr h₀ env.locals h (kstB (fun z => if stored.contains z then u z else m₀ z) (ps c)) → News h₀ env.locals h (own ++ Lf c) →
      wpAny (model prog w) A (assign target env v) (fun _ s₃ => wpAny (model prog w) A (execs body env) (TurnP h₀ env.locals wr own stored m₀ ps Lf (P (i + 1)) { s with heap := h, toks := tk } Q) E s₃) E { s with heap := h, toks := tk })
    (done : ∀ (c : σ) (u : Str → Option Value) h tk, P n c → Fr h₀ env.locals h (kstB (fun z => if stored.contains z then u z else m₀ z) (ps c)) → News h₀ env.locals h (Lf c) → Q .next { s with heap := h, toks := tk }) :
    TurnsAt prog w A h₀ env target body Q E (.ref I) { s with heap := hp, toks := tk0 } := by
  let J : Nat → (Str → Option Value) → Led → Prop := fun i m₁ nx => ∃ c : σ, nx = Lf c ∧ (∀ p ∈ ps c, m₁ p.1 = some p.2) ∧ (∀ z, (∀ p ∈ ps c, z ≠ p.1) → stored.contains z = false → m₁ z = m₀ z) ∧ P i c
  refine ⟨I, fp, wr, n, Pv, Md, St, m₀, Lf c₀, J, rfl, W, hLf, hwr, hw, hst, F, N, ⟨c₀, rfl, hk, fun _ _ _ => rfl, h0⟩, ?_, ?_⟩
  · rintro i v m₁ news₁ h₁ tk₁ own hin hPi ⟨c, rfl, h1, h2, hP⟩ hoff hown hget hall hst₁ F₁ N₁
    have F₂ := ksw_fr h1 h2 F₁
    have fin : ∀ s₂, TurnE h₀ env.locals wr own stored m₀ ps Lf (P (i + 1)) { s with heap := h₁, toks := tk₁ } s₂ → LoopStepU h₀ env.locals wr own (J (i + 1)) { s with heap := h₁, toks := tk₁ } .next s₂ := by
      rintro s₂ ⟨c', h', tk, m', news', e, F', N', ho, hl, hw', hk', hr', hp'⟩
      refine ⟨rfl, h', tk, m', Lf c', e, F', fun p hp => ?_, hw', c', rfl, hk', hr', hp'⟩
      rcases List.mem_append.mp hp with hp | hp
      · exact N' p (ho p hp)
      · exact N' p (hl p hp)
    refine wpAny_mono (turn i v c m₁ h₁ tk₁ own hin hPi hP hoff hown hall hst₁ F₂ N₁) (fun _ s₃ h₃ => wpAny_mono h₃ (fun f s₂ p => ?_) fun _ _ e => e) fun _ _ e => e
    cases f with
    | ret v => exact .ret p
    | brk => exact .brk p
    | next => exact .next (fin _ p)
    | cont => exact .cont (fin _ p)
  · rintro h' tk m' news' F' N' _ ⟨c, rfl, h1, h2, hP⟩
    exact done c m' h' tk hP (ksw_fr h1 h2 F') N'

/-- a loop over a list of the frozen part -/
theorem turns_base {σ : Type} {l : Addr} {vs : List Value} {m₀ : Str → Option Value} (ps : σ → List (Str × Value)) (Lf : σ → Led) (stored : List Str) (P : Nat → σ → Prop) (c₀ : σ)
    (hh : A.handled = none) (hl : h₀.IsList l vs.toArray) (F : Fr h₀ env.locals s.heap m₀) (N : News h₀ env.locals s.heap (Lf c₀)) (hk : ∀ p ∈ ps c₀, m₀ p.1 = some p.2) (h0 : P 0 c₀)
    (turn : ∀ i v (c : σ) (u : Str → Option Value) h tk own I, vs[i]? = some v → P i c → (∀ p ∈ Lf c, p.1 ≠ I) → (∃ o, (I, o) ∈ own) → (∀ p ∈ own, ∀ q ∈ Lf c, p.1 ≠ q.1) →
      Fr h₀ env.locals h (kstB (fun z => if stored.contains z then u z else m₀ z) (ps c)) → News h₀ env.locals h (own ++ Lf c) →
      wpAny (model prog w) A (assign target env v) (fun _ s₃ => wpAny (model prog w) A (execs body env) (TurnP h₀ env.locals [I] own stored m₀ ps Lf (P (i + 1)) { s with heap := h, toks := tk } Q) E s₃) E { s with heap := h, toks := tk })
    (done : ∀ (c : σ) (u : Str → Option Value) h tk, P vs.length c → Fr h₀ env.locals h (kstB (fun z => if stored.contains z then u z else m₀ z) (ps c)) → News h₀ env.locals h (Lf c) → Q .next { s with heap := h, toks := tk }) :
    wpAny (model prog w) A (pyIter (.ref l)) (fun it s₂ => TurnsAt prog w A h₀ env target body Q E it s₂) E s := by
  have hls : s.heap.IsList l vs.toArray := hl.at fun o e => F.keep l o e
  obtain ⟨ol, hol, _⟩ := id hl
  have hlt : l < h₀.objs.size := Heap.lt_size hol
  have hne : l ≠ s.heap.objs.size := Nat.ne_of_lt (Nat.lt_trans (Nat.lt_of_lt_of_le hlt F.above) F.ns.lt)
  refine wpAny_pyIter_list hls ?_
  have W := KTurns.ofWalks (target := target) (Walks.list (prog := prog) (w := w) hh s.heap.objs.size l hne vs.toArray) fun i v s Q E st q => letGo_listiter st.1 q
  refine turns_core (tk0 := s.toks) ps Lf stored P c₀ W ?_ ?_ ⟨⟨_, Heap.get?_push_size _ rfl, rfl, rfl⟩, hls.at fun o e => Heap.get?_push_of_some _ e⟩ (F.push _) (fun p hp => ⟨Heap.get?_push_of_some _ (N p hp).1, (N p hp).2⟩) ?_ hk h0 ?_ ?_
  · intro hm
    rcases List.mem_cons.mp hm with e | hm
    · exact absurd F.ns.lt (e ▸ Nat.lt_irrefl _)
    · exact absurd (Nat.lt_of_lt_of_le hlt F.above) ((List.mem_singleton.mp hm) ▸ Nat.lt_irrefl _)
  · intro b hb
    rw [List.mem_singleton.mp hb]
    exact next_is_new F
  · intro p hp hI
    exact absurd (Heap.lt_size (N p hp).1) ((List.mem_singleton.mp hI) ▸ Nat.lt_irrefl _)
  · rintro i v c u h tk own hin hPv hP hw hown hall hst F₁ N₁
    obtain ⟨it, hit, _⟩ := hst.1
    refine turn i v c u h tk own _ (by simpa using hPv) hP (fun p hp e => hw p hp (by rw [e]; exact List.mem_singleton.mpr rfl)) ⟨it, hall _ (by simp) (next_is_new F) it hit⟩ (fun p hp q hq e => ?_) F₁ N₁
    rcases List.mem_cons.mp (hown p hp) with h1 | h1
    · exact hw q hq (by rw [← e, h1]; exact List.mem_singleton.mpr rfl)
    · have h2 := (N₁ q (List.mem_append_right _ hq)).2.2
      rw [← e, List.mem_singleton.mp h1, hol] at h2
      cases h2
  · rintro c u h tk hP F₁ N₁
    exact done c u h tk (by simpa using hP) F₁ N₁

/-- a loop over a list of the ledger, which is left as it is -/
theorem turns_led {σ : Type} {l : Addr} {vs : List Value} {nn : Nat} {m₀ : Str → Option Value} (ps : σ → List (Str × Value)) (Lf : σ → Led) (stored : List Str) (P : Nat → σ → Prop) (c₀ : σ) {news : Led}
    (hh : A.handled = none) (F : Fr h₀ env.locals s.heap m₀) (N₀ : News h₀ env.locals s.heap news) (hm : (l, listOf vs.toArray nn) ∈ news) (hsub : ∀ p ∈ Lf c₀, p ∈ news) (hk : ∀ p ∈ ps c₀, m₀ p.1 = some p.2) (h0 : P 0 c₀)
    (turn : ∀ i v (c : σ) (u : Str → Option Value) h tk own I, vs[i]? = some v → P i c → (∀ p ∈ Lf c, p.1 ≠ I) → (∃ o, (I, o) ∈ own) → (l, listOf vs.toArray nn) ∈ own →
      Fr h₀ env.locals h (kstB (fun z => if stored.contains z then u z else m₀ z) (ps c)) → News h₀ env.locals h (own ++ Lf c) →
      wpAny (model prog w) A (assign target env v) (fun _ s₃ => wpAny (model prog w) A (execs body env) (TurnP h₀ env.locals [I] own stored m₀ ps Lf (P (i + 1)) { s with heap := h, toks := tk } Q) E s₃) E { s with heap := h, toks := tk })
    (done : ∀ (c : σ) (u : Str → Option Value) h tk, P vs.length c → Fr h₀ env.locals h (kstB (fun z => if stored.contains z then u z else m₀ z) (ps c)) → News h₀ env.locals h (Lf c) → Q .next { s with heap := h, toks := tk }) :
    wpAny (model prog w) A (pyIter (.ref l)) (fun it s₂ => TurnsAt prog w A h₀ env target body Q E it s₂) E s := by
  have hax := N₀ _ hm
  have hls : s.heap.IsList l vs.toArray := ⟨_, hax.1, rfl, nn, rfl⟩
  have hlt : l < s.heap.objs.size := Heap.lt_size hax.1
  have hne : l ≠ s.heap.objs.size := Nat.ne_of_lt hlt
  have N : News h₀ env.locals s.heap (Lf c₀) := fun p hp => N₀ p (hsub p hp)
  refine wpAny_pyIter_list hls ?_
  have hpush : (s.heap.push { cls := .type "list_iterator", data := .fields #[.ref l, .int 0 0] }).get? l = some (listOf vs.toArray nn) := Heap.get?_push_of_some _ hax.1
  have W := KTurns.ofWalks (target := target) (Walks.list (prog := prog) (w := w) hh s.heap.objs.size l hne vs.toArray) fun i v s Q E st q => letGo_listiter st.1 q
  -- the list's own object stays: carried in the state of the walk
  have W' : KTurns prog w A target s.heap.objs.size [s.heap.objs.size, l] [s.heap.objs.size] vs.toArray.size (fun i v h => vs.toArray[i]? = some v) (fun i v h => (vs.toArray[i]? = some v ∧ (h.IsListIter s.heap.objs.size l (i + 1) ∧ h.IsList l vs.toArray)) ∧ h.get? l = some (listOf vs.toArray nn)) (fun i h => (h.IsListIter s.heap.objs.size l i ∧ h.IsList l vs.toArray) ∧ h.get? l = some (listOf vs.toArray nn)) := by
    refine ⟨W.sub, fun i h h' st hk => ⟨W.frame i h h' st.1 hk, hk l (by simp) _ st.2⟩, fun i s Q E hi st hQ => W.item i s Q E hi st.1 fun v h' tk hm' hk => hQ v h' tk ⟨hm', hk l _ (fun e => hne (List.mem_singleton.mp e)) st.2⟩ hk, fun i v s Q E hm' hQ => W.go i v s Q E hm'.1 fun h' hp st hk => hQ h' hp ⟨st, hk l _ (fun e => hne (List.mem_singleton.mp e)) hm'.2⟩ hk, fun s Q E st hQ => W.done s Q E st.1 hQ⟩
  refine turns_core (tk0 := s.toks) ps Lf stored P c₀ W' ?_ ?_ ⟨⟨⟨_, Heap.get?_push_size _ rfl, rfl, rfl⟩, hls.at fun o e => Heap.get?_push_of_some _ e⟩, hpush⟩ (F.push _) (fun p hp => ⟨Heap.get?_push_of_some _ (N p hp).1, (N p hp).2⟩) ?_ hk h0 ?_ ?_
  · intro hm'
    rcases List.mem_cons.mp hm' with e | hm'
    · exact absurd F.ns.lt (e ▸ Nat.lt_irrefl _)
    · exact hax.2.1 (List.mem_singleton.mp hm').symm
  · intro b hb
    rw [List.mem_singleton.mp hb]
    exact next_is_new F
  · intro p hp hI
    exact absurd (Heap.lt_size (N p hp).1) ((List.mem_singleton.mp hI) ▸ Nat.lt_irrefl _)
  · rintro i v c u h tk own hin hPv hP hw hown hall hst F₁ N₁
    obtain ⟨it, hit, _⟩ := hst.1.1
    exact turn i v c u h tk own _ (by simpa using hPv) hP (fun p hp e => hw p hp (by rw [e]; exact List.mem_singleton.mpr rfl)) ⟨it, hall _ (by simp) (next_is_new F) it hit⟩ (hall l (by simp) hax.2.2 _ hst.2) F₁ N₁
  · rintro c u h tk hP F₁ N₁
    exact done c u h tk (by simpa using hP) F₁ N₁

/-- a loop over a range by one, up or down -/
theorem turns_range {σ : Type} {r : Addr} {a₀ b₀ c₁ : Int} {t₀ u₀ v₀ : Tok} {n : Nat} {m₀ : Str → Option Value} (ps : σ → List (Str × Value)) (Lf : σ → Led) (stored : List Str) (P : Nat → σ → Prop) (c₀ : σ)
    (hh : A.handled = none) (hr : IsRange s.heap r a₀ b₀ c₁ t₀ u₀ v₀) (hsmall : Builtin.Range.small a₀ b₀ c₁ = true) (hn : Builtin.Range.rangeSize a₀ b₀ c₁ = (n : Int)) (F : Fr h₀ env.locals s.heap m₀) (N : News h₀ env.locals s.heap (Lf c₀)) (hk : ∀ p ∈ ps c₀, m₀ p.1 = some p.2) (h0 : P 0 c₀)
    (turn : ∀ (i : Nat) t (c : σ) (u : Str → Option Value) h tk own I, i < n → P i c → (∀ p ∈ Lf c, p.1 ≠ I) → (∃ o, (I, o) ∈ own) → (∀ p ∈ own, ∀ q ∈ Lf c, p.1 ≠ q.1) →
      Fr h₀ env.locals h (kstB (fun z => if stored.contains z then u z else m₀ z) (ps c)) → News h₀ env.locals h (own ++ Lf c) →
      wpAny (model prog w) A (assign target env (.int (a₀ + (i : Int) * c₁) t)) (fun _ s₃ => wpAny (model prog w) A (execs body env) (TurnP h₀ env.locals [I] own stored m₀ ps Lf (P (i + 1)) { s with heap := h, toks := tk } Q) E s₃) E { s with heap := h, toks := tk })
    (done : ∀ (c : σ) (u : Str → Option Value) h tk, P n c → Fr h₀ env.locals h (kstB (fun z => if stored.contains z then u z else m₀ z) (ps c)) → News h₀ env.locals h (Lf c) → Q .next { s with heap := h, toks := tk }) :
    wpAny (model prog w) A (pyIter (.ref r)) (fun it s₂ => TurnsAt prog w A h₀ env target body Q E it s₂) E s := by
  refine wpAny_pyIter_range hr hsmall ?_
  have W := KTurns.ofWalks (target := target) (Walks.range (prog := prog) (w := w) hh s.heap.objs.size a₀ c₁ n) fun i v s Q E st q => letGo_range st q
  refine turns_core (tk0 := s.toks) ps Lf stored P c₀ W ?_ ?_ (by show IsRangeIter _ _ _ _ _; rw [hn]; simpa using Heap.get?_push_size _ rfl) (F.push _) (fun p hp => ⟨Heap.get?_push_of_some _ (N p hp).1, (N p hp).2⟩) ?_ hk h0 ?_ ?_
  · intro hm
    exact absurd F.ns.lt ((List.mem_singleton.mp hm) ▸ Nat.lt_irrefl _)
  · intro b hb
    rw [List.mem_singleton.mp hb]
    exact next_is_new F
  · intro p hp hI
    exact absurd (Heap.lt_size (N p hp).1) ((List.mem_singleton.mp hI) ▸ Nat.lt_irrefl _)
  · rintro i v c u h tk own hin hPv hP hw hown hall hst F₁ N₁
    obtain ⟨t, rfl⟩ := hPv
    refine turn i t c u h tk own _ hin hP (fun p hp e => hw p hp (by rw [e]; exact List.mem_singleton.mpr rfl)) ⟨_, hall _ (by simp) (next_is_new F) _ hst⟩ (fun p hp q hq e => ?_) F₁ N₁
    exact hw q hq (by rw [← e]; exact hown p hp)
  · exact done
end
section
variable {m : Str → Option Value}
theorem all0 : ∀ p ∈ ([] : List (Str × Value)), m p.1 = some p.2 := fun _ h => nomatch h
theorem all1 {a : Str} {x : Value} (h1 : m a = some x) : ∀ p ∈ [(a, x)], m p.1 = some p.2 := fun p hp => by rw [List.mem_singleton.mp hp]; exact h1
theorem all2 {a b : Str} {x y : Value} (h1 : m a = some x) (h2 : m b = some y) : ∀ p ∈ [(a, x), (b, y)], m p.1 = some p.2 := fun p hp => by
  rcases List.mem_cons.mp hp with rfl | hp
  · exact h1
  · exact all1 h2 p hp
theorem all3 {a b c : Str} {x y z : Value} (h1 : m a = some x) (h2 : m b = some y) (h3 : m c = some z) : ∀ p ∈ [(a, x), (b, y), (c, z)], m p.1 = some p.2 := fun p hp => by
  rcases List.mem_cons.mp hp with rfl | hp
  · exact h1
  · exact all2 h2 h3 p hp
theorem all4 {a b c d : Str} {x y z v : Value} (h1 : m a = some x) (h2 : m b = some y) (h3 : m c = some z) (h4 : m d = some v) : ∀ p ∈ [(a, x), (b, y), (c, z), (d, v)], m p.1 = some p.2 := fun p hp => by
  rcases List.mem_cons.mp hp with rfl | hp
  · exact h1
  · exact all3 h2 h3 h4 p hp
end
abbrev mOf {g h : Heap} {L : Addr} {m : Str → Option Value} (_ : Fr g L h m) : Str → Option Value := m
/-- an append to a list of the ledger, whatever else stands in it -/
theorem append_any {prog : Program} {w : World} {A : Around} {E : Value → Shared → Prop} {s : Shared} {h₀ : Heap} {L D : Addr} {m : Str → Option Value} {news news' : Led} {its : Array Value} {n : Nat} {x : Value} {Q : Value → Shared → Prop}
    (F : Fr h₀ L s.heap m) (N : News h₀ L s.heap news) (hm : (D, listOf its n) ∈ news) (hsub : ∀ p ∈ news', p = (D, listOf (its.push x) (n + 1)) ∨ (p ∈ news ∧ p.1 ≠ D)) (hsz : its.size ≤ sizeLine)
    (h : ∀ h', Fr h₀ L h' m → News h₀ L h' news' → Q .none { s with heap := h' }) : wpAny (model prog w) A (call (.builtin "list.append") [.ref D, x]) Q E s := by
  have z := N _ hm
  exact append_at (hsz := hsz) z.1 fun h' hs ho' => h h' (F.change hs z.2.1 z.2.2) fun p hp => by
    rcases hsub p hp with rfl | ⟨q, ne⟩
    · exact ⟨ho', z.2⟩
    · exact ⟨(hs.2 _ ne).trans (N p q).1, (N p q).2⟩
end
section
structure FM where
  num : Int
  size : Int
  lu : Nat
  lt : Nat
  hu : Nat
  ht : Nat
inductive IsMeta (P : Params) (V : View) (x : Addr) (f : FM) : Prop
  | mk (dx : Addr) (n : Nat) (t1 : Tok) (t2 : Tok) (t3 : Tok) (t4 : Tok) (tn : Tok) (ts : Tok) (ta : Tok) (tb : Tok) (p1_ : V x (instObj 333 dx)) (p2_ : V dx (dictOf [fe P "number" t1 (.int f.num tn), fe P "size" t2 (.int f.size ts), fe P "smallest" t3 (.bytes (U f.lu ++ le8 f.lt).toArray ta), fe P "largest" t4 (.bytes (U f.hu ++ le8 f.ht).toArray tb)] n)) (p3_ : (U f.lu).length ≤ 100) (p4_ : (U f.hu).length ≤ 100) (p5_ : f.lt ∈ tagL) (p6_ : f.ht ∈ tagL) (p7_ : f.lu < 5) (p8_ : f.hu < 5) : IsMeta P V x f
theorem IsMeta.mono {P : Params} {V V' : View} {x : Addr} {f : FM} (h : IsMeta P V x f) (k : ∀ a o, V a o → V' a o) : IsMeta P V' x f := by
  obtain ⟨dx, n, t1, t2, t3, t4, tn, ts, ta, tb, h1, h2, h3, h4, h5, h6, h7, h8⟩ := h
  exact ⟨dx, n, t1, t2, t3, t4, tn, ts, ta, tb, k _ _ h1, k _ _ h2, h3, h4, h5, h6, h7, h8⟩
abbrev XM := List (Addr × FM)
abbrev refsOf (xs : XM) : List Value := xs.map fun p => Value.ref p.1
def IsFiles (P : Params) (V : View) (l : Addr) (xs : XM) : Prop := (∃ n, V l (listOf (refsOf xs).toArray n)) ∧ ∀ p ∈ xs, IsMeta P V p.1 p.2
theorem IsFiles.mono {P : Params} {V V' : View} {l : Addr} {xs : XM} (h : IsFiles P V l xs) (k : ∀ a o, V a o → V' a o) : IsFiles P V' l xs := by
  obtain ⟨⟨n, h1⟩, h2⟩ := h
  exact ⟨⟨n, k _ _ h1⟩, fun p hp => (h2 p hp).mono k⟩
/-- a version's levels -/
abbrev Lvls := List (Addr × XM)
inductive IsVer (P : Params) (V : View) (x : Addr) (o : Addr) (ls : Lvls) : Prop
  | mk (dx : Addr) (n : Nat) (t1 : Tok) (t2 : Tok) (t3 : Tok) (t4 : Tok) (t5 : Tok) (t6 : Tok) (tn : Tok) (fa : Addr) (nf : Nat) (tr : Tok) (sc : Addr) (ns : Tok) (ta : Tok) (tb : Tok) (sa : Nat) (p1_ : V x (instObj 459 dx)) (p2_ : V dx (dictOf [fe P "num_levels" t1 (.int (ls.length : Int) tn), fe P "order" t2 (.ref o), fe P "files" t3 (.ref fa), fe P "refs" t4 (.int 0 tr), fe P "score" t5 (.ref sc), fe P "score_level" t6 (.int (-1) ns)] n)) (p3_ : IsOrder P V o) (p4_ : V fa (listOf (ls.map fun p => Value.ref p.1).toArray nf)) (p5_ : V sc (tupOf #[.int 0 ta, .int 1 tb])) (p6_ : (∀ p ∈ ls, IsFiles P V p.1 p.2)) (p7_ : sa = (0 : Nat)) : IsVer P V x o ls
theorem IsVer.mono {P : Params} {V V' : View} {x o : Addr} {ls : Lvls} (h : IsVer P V x o ls) (k : ∀ a o, V a o → V' a o) : IsVer P V' x o ls := by
  obtain ⟨dx, n, t1, t2, t3, t4, t5, t6, tn, fa, nf, tr, sc, ns, ta, tb, sa, h1, h2, h3, h4, h5, h6, h7⟩ := h
  exact ⟨dx, n, t1, t2, t3, t4, t5, t6, tn, fa, nf, tr, sc, ns, ta, tb, sa, k _ _ h1, k _ _ h2, h3.mono k, k _ _ h4, k _ _ h5, fun p hp => (h6 p hp).mono k, h7⟩
section
variable {P : Params} {V : View} {g : Heap} {L l : Addr} {m : Str → Option Value} {prog : Program} {w : World} {A : Around} {E : Value → Shared → Prop} {s : Shared} {value slice : Expr} {xs : XM} {ls : Lvls} {k : Int} {u : Tok} {Q : Value → Shared → Prop} {n : Nat}
theorem item_files (F : Fr g L s.heap m) (hV : ∀ a o, V a o → g.get? a = some o) (hf : IsFiles P V l xs) (h0 : 0 ≤ k) (h1 : k < xs.length) (hz : xs.length ≤ 1000)
    (h : ∀ p, xs[k.toNat]? = some p → p ∈ xs → IsMeta P V p.1 p.2 → Q (.ref p.1) s)
    (hs : subscripted slice false (.ref l) (.int k u) = operate [.ref l, .int k u] (getItem (.ref l) (.int k u)) := by with_unfolding_all rfl) :
    wpAny (model prog w) A (subscriptTail value slice (.ref l) (.int k u)) Q E s := by
  obtain ⟨⟨n, hl⟩, hM⟩ := hf
  have hls : s.heap.IsList l (refsOf xs).toArray := list_of_view F hV hl
  have hk : k.toNat < xs.length := by omega
  have hx : xs[k.toNat]? = some xs[k.toNat] := List.getElem?_eq_getElem hk
  refine tail_any hls.typeIs slot_list_getitem.lookup (wpAny_getItem_list hls h0 (by omega) (x := .ref xs[k.toNat].1) (by simp [hk]) (h _ hx (List.mem_of_getElem? hx) (hM _ (List.mem_of_getElem? hx)))) hs
theorem item_lvls (F : Fr g L s.heap m) (hV : ∀ a o, V a o → g.get? a = some o) (hl : V l (listOf (ls.map fun p => Value.ref p.1).toArray n)) (hM : ∀ p ∈ ls, IsFiles P V p.1 p.2) (h0 : 0 ≤ k) (h1 : k < ls.length) (hz : ls.length ≤ 1000)
    (h : ∀ p, ls[k.toNat]? = some p → p ∈ ls → IsFiles P V p.1 p.2 → Q (.ref p.1) s)
    (hs : subscripted slice false (.ref l) (.int k u) = operate [.ref l, .int k u] (getItem (.ref l) (.int k u)) := by with_unfolding_all rfl) :
    wpAny (model prog w) A (subscriptTail value slice (.ref l) (.int k u)) Q E s := by
  have hls : s.heap.IsList l (ls.map fun p => Value.ref p.1).toArray := list_of_view F hV hl
  have hk : k.toNat < ls.length := by omega
  have hx : ls[k.toNat]? = some ls[k.toNat] := List.getElem?_eq_getElem hk
  refine tail_any hls.typeIs slot_list_getitem.lookup (wpAny_getItem_list hls h0 (by omega) (x := .ref ls[k.toNat].1) (by simp [hk]) (h _ hx (List.mem_of_getElem? hx) (hM _ (List.mem_of_getElem? hx)))) hs
theorem len_files (F : Fr g L s.heap m) (hV : ∀ a o, V a o → g.get? a = some o) (hf : IsFiles P V l xs) (hz : xs.length ≤ 1000) (h : ∀ t k, Q (.int (xs.length : Int) t) { s with toks := k }) : wpAny (model prog w) A (call (.builtin "len") [.ref l]) Q E s := by
  obtain ⟨⟨n, hl⟩, hM⟩ := hf
  have hls : s.heap.IsList l (refsOf xs).toArray := list_of_view F hV hl
  exact len_list hls (by simp; omega) (by simpa using h _ _)
end
theorem base_list {P : Params} {V : View} {g : Heap} {l : Addr} {xs : XM} (hV : ∀ a o, V a o → g.get? a = some o) (hf : IsFiles P V l xs) : g.IsList l (refsOf xs).toArray := by
  obtain ⟨⟨n, hl⟩, _⟩ := hf
  exact ⟨_, hV _ _ hl, rfl, n, rfl⟩
theorem refs_get {xs : XM} {i : Nat} {v : Value} (h : (refsOf xs)[i]? = some v) : ∃ p, xs[i]? = some p ∧ p ∈ xs ∧ v = .ref p.1 := by
  rw [List.getElem?_map] at h
  obtain ⟨p, hp, rfl⟩ := Option.map_eq_some_iff.mp h
  exact ⟨p, hp, List.mem_of_getElem? hp, rfl⟩
/-- a level below the first: sorted, no two meet -/
def LvlOk (xs : XM) : Prop := (∀ p ∈ xs, p.2.lu ≤ p.2.hu) ∧ ∀ (j k : Nat) p q, j < k → xs[j]? = some p → xs[k]? = some q → p.2.hu < q.2.lu
theorem LvlOk.le {xs : XM} (h : LvlOk xs) {j k : Nat} {p q : Addr × FM} (hjk : j ≤ k) (hp : xs[j]? = some p) (hq : xs[k]? = some q) : p.2.hu ≤ q.2.hu ∧ p.2.lu ≤ q.2.lu := by
  rcases Nat.lt_or_eq_of_le hjk with e | e
  · have h1 := h.2 j k p q e hp hq
    have h2 := h.1 p (List.mem_of_getElem? hp)
    have h3 := h.1 q (List.mem_of_getElem? hq)
    omega
  · subst e
    rw [hp] at hq
    cases hq
    exact ⟨Nat.le_refl _, Nat.le_refl _⟩
end
theorem fillit : PySem.Challenge.rw_nz0375_01 = PySem.Challenge.rw_nz0375_01 ∧ MineHd.hdx.heap_1_1 = MineHd.hdx.heap_1_1 := by
  k_fill
  exact ⟨rfl, rfl⟩
set_option hygiene false
local macro_rules | `(tactic| k_inst) => `(tactic| (refine' inst_of_view ?F ?V ?h1 ?h2; (case F => k_asm); (case V => exact hV); (case h1 => assumption); (case h2 => assumption)))
local macro_rules | `(tactic| k_in) => `(tactic| (first | k_in_fast | exact Frag.In.keeps (by k_asm) (Fr.keep (by k_asm))))
local macro_rules | `(tactic| is_list) => `(tactic| (refine' list_of_view ?F ?V ?h1; (case F => k_asm); (case V => exact hV); (case h1 => assumption)))
local macro_rules | `(tactic| ksw_same) => `(tactic| (repeat' first | exact same_U | exact same_0 | refine same_S (by rfl) ?_ | refine same_P (by rfl) ?_ | refine same_V (by rfl) ?_))
local macro_rules | `(tactic| k_ne) => `(tactic| (refine neN ?_; (try dsimp only); first | assumption | exact Nat.ne_of_lt (by assumption) | exact Nat.ne_of_gt (by assumption) | omega))
local macro_rules | `(tactic| passes_own) => `(tactic| (exact pE9))
local macro_rules | `(tactic| ktr_room) => `(tactic| (dsimp only [ktr, ktrTop]; omega))
local macro_rules | `(tactic| walk_at "eval Name") => `(tactic| (k_here; first | k_dflt (refine nameY ?_; k_whole) | fail))
local macro_rules | `(tactic| walk_at "storeName") => `(tactic| (k_here; first | (k_dflt (refine storeY ?_; k_whole); intro _ _ _ _; (try k_sweep)) | fail))
local macro_rules | `(tactic| walk_at "compareOp Lt bytes bytes") => `(tactic| (refine lt_bytes ?_))
local macro_rules | `(tactic| walk_at "compareOp Gt bytes bytes") => `(tactic| (refine gt_bytes ?_))
local macro_rules | `(tactic| walk_at "compareOp LtE bytes bytes") => `(tactic| (refine le_bytes ?_))
local macro_rules | `(tactic| walk_at "compareOp GtE bytes bytes") => `(tactic| (refine ge_bytes ?_))
local macro_rules | `(tactic| walk_at "call builtin:len") => `(tactic| (first | ((with_reducible show wpAny _ _ (call (Value.builtin "len") [Value.ref _]) _ _ _); refine' len_files (by assumption) hV (by assumption) (by assumption) ?_; intro _ _) | ((with_reducible show wpAny _ _ (call (Value.builtin "len") [Value.bytes (List.toArray _) _]) _ _ _); refine len_lb (by assumption) ?_)))
local macro_rules | `(tactic| walk_at "call type:bytes") => `(tactic| (first | ((with_reducible show wpAny _ _ (call (Value.type "bytes") [Value.ref _]) _ _ _); k_dflt (refine' bytes_K ?F ?N ?l ?i ?r ?z ?h ?_; (case F => k_asm); (case N => k_asm); (case l => is_list); (case i => l_ints); (case r => assumption); (case z => exact Nat.le_of_ble_eq_true rfl); (case h => with_unfolding_all rfl)); intro h' t' k' F' N' hB'; clear hB'; (try k_sweep)) | ((with_reducible show wpAny _ _ (call (Value.type "bytes") [Value.bytes _ _]) _ _ _); refine call_bytes_b ?_)))
local macro_rules | `(tactic| walk_at "subscriptTail Name Slice bytes ref") => `(tactic| ((with_reducible show wpAny _ _ (subscriptTail _ (Expr.Slice _ _ none _) (Value.bytes (List.toArray _) _) (Value.ref _)) _ _ _); (with_reducible rename Fr _ _ _ _ => F'); (with_reducible rename News _ _ _ _ => N'); (refine slice_hi (s := ⟨_, _, _, _, _⟩) F' N' (by omega) (by omega) (by assumption) ?_); intro _ _ _ F' N'; (try k_sweep)))
local macro_rules | `(tactic| walk_at "subscriptTail Name Name bytes int") => `(tactic| (refine KBy.item_N (by omega) (by omega) (by omega) ?_))
local macro_rules | `(tactic| walk_at "subscriptTail Name BinOp bytes int") => `(tactic| (refine KBy.item_N (by omega) (by omega) (by omega) ?_))
local macro_rules | `(tactic| walk_at "binaryOp LShift int int") => `(tactic| (refine lshift_int_small (by decide) (by decide) (by first | exact byte_small _ | exact abs_small (by assumption) (by assumption) | exact abs_small (by omega) (by omega)) ?_))
local macro_rules | `(tactic| walk_at "binaryOp RShift int int") => `(tactic| (refine rshift_int (by decide) ?_))
local macro_rules | `(tactic| walk_at "binaryOp BitOr int int") => `(tactic| (refine or_int ?_))
local macro_rules | `(tactic| walk_at "binaryOp BitAnd int int") => `(tactic| (refine and_int ?_))
local macro_rules | `(tactic| walk_at "ROOM") => `(tactic| (first | (first | exact room_d hd₀ (Nat.le_of_ble_eq_true rfl) | exact room_u hu₀ (Nat.le_of_ble_eq_true rfl)) | ((try dsimp only [Around.deeper, ktr, ktrTop]); omega) | (first | k_room | units_room)))
local macro_rules | `(tactic| walk_at "binaryOp Add bytes bytes") => `(tactic| (refine add_lb (by first | omega | (simp only [List.length_append, le8_len, List.length_cons, List.length_nil, put4_len]; omega)) ?_; intro _ _))
local macro_rules | `(tactic| walk_at "subscriptTail") => `(tactic| (first | ((with_reducible show wpAny _ _ (subscriptTail _ _ (Value.ref _) (Value.int (Nat.cast _) _)) _ _ _); refine' item_lvlat (by assumption) hV (by assumption) (by assumption) (by assumption) ?_; (try dsimp only)) | ((with_reducible show wpAny _ _ (subscriptTail _ _ (Value.ref _) (Value.int _ _)) _ _ _); refine' item_lvls (by assumption) hV (by assumption) (by assumption) ?a ?b (by assumption) ?_; (case a => (first | omega | (simp only [Int.fdiv_eq_ediv_of_nonneg _ (by decide : (0 : Int) ≤ 2)]; omega))); (case b => (first | omega | (simp only [Int.fdiv_eq_ediv_of_nonneg _ (by decide : (0 : Int) ≤ 2)]; omega))); intro q9 hq9 hm9 if9; have hz9 := hzz _ hm9) | ((with_reducible show wpAny _ _ (subscriptTail _ _ (Value.ref _) (Value.int _ _)) _ _ _); refine' item_files (by assumption) hV (by assumption) ?a ?b (by assumption) ?_; (case a => (first | omega | (simp only [Int.fdiv_eq_ediv_of_nonneg _ (by decide : (0 : Int) ≤ 2)]; omega))); (case b => (first | omega | (simp only [Int.fdiv_eq_ediv_of_nonneg _ (by decide : (0 : Int) ≤ 2)]; omega))); (intro p9 hp9 hm9 i9; obtain ⟨dx9, n9, t91, t92, t93, t94, tn9, ts9, ta9, tb9, j1, j2, j3, j4, j5, j6, j7, j8⟩ := i9))))
local macro_rules | `(tactic| walk_at "TurnP") => `(tactic| (dsimp only [TurnP]))
local macro_rules | `(tactic| walk_at "TurnQ") => `(tactic| (dsimp only [TurnQ]))
local macro_rules | `(tactic| walk_at "LeaveK") => `(tactic| (k_dflt (refine' leaveK_ ?k1 ?k2 ?_; (case k1 => k_asm); (case k2 => k_asm); k_whole); intro kF kN kp))
local macro_rules | `(tactic| walk_at "STEP") => `(tactic| (first | ((with_reducible refine gen_tk ?_); intro tkn) | ((with_reducible refine wpAny_execs_cons ?_); (try dsimp only)) | ((with_reducible refine wpAny_execs_nil ?_); (try dsimp only)) | (refine hQ7 _ _ ?_; (try dsimp only)) | (refine hQ8 _ _ ?_; (try dsimp only)) | (refine hQ9 _ _ ?_; (try dsimp only)) | (k_unfold; (try dsimp only)) | ((fail_if_success (with_reducible show wpAny _ _ (exec (Stmt.For _ _ _ _ _) _) _ _ _)); (fail_if_success (with_reducible show wpAny _ _ (exec (Stmt.While _ _ _ _) _) _ _ _)); (fail_if_success (with_reducible show wpAny _ _ (exec (Stmt.Raise _ _ _) _) _ _ _)); (fail_if_success (with_reducible show wpAny _ _ (pyIter _) _ _ _)); (fail_if_success ((with_reducible refine held ?hh ?_); (case hh => decide))); first | walk1 | (dsimp only; walk1) | (leave1; walk_say "STEP leave1"; try dsimp only))))
local macro_rules | `(tactic| walk_at "call ref") => `(tactic| (((first | ((with_reducible show wpAny _ _ (call (Value.ref 124) _) _ _ _); refine PSpec.useA (ikey_spec _ V _ _ _ _ _ (by assumption) (by assumption)) ?_) | ((with_reducible show wpAny _ _ (call (Value.ref 241) _) _ _ _); refine PSpec.useA (icmp_spec _ V _ _ _ _ _ _ _ (by assumption) (by assumption) (by assumption) (by assumption) (by assumption)) ?_) | ((with_reducible show wpAny _ _ (call (Value.ref 96) _) _ _ _); refine PSpec.useA (put64_spec _ V _ _ (by assumption)) ?_) | ((with_reducible show wpAny _ _ (call (Value.ref 89) _) _ _ _); refine PSpec.useA (put32_spec _ V _ _ _ (by assumption) (by assumption)) ?_) | ((with_reducible show wpAny _ _ (call (Value.ref 117) _) _ _ _); refine PSpec.useA (pack_spec _ V _ _ _ (by assumption)) ?_) | ((with_reducible show wpAny _ _ (call (Value.ref 145) _) _ _ _); refine PSpec.useA (tag_ik _ V _ _ _ (by assumption) (by assumption)) ?_) | ((with_reducible show wpAny _ _ (call (Value.ref 110) _) _ _ _); refine PSpec.useA (r64_ik _ V _ _ _ _ _ (by assumption) (by assumption) (by omega)) ?_) | ((with_reducible show wpAny _ _ (call (Value.ref 159) _) _ _ _); refine PSpec.useA (ocmp_spec _ V _ _ _ _ _) ?_) | ((with_reducible show wpAny _ _ (call (Value.ref 103) _) _ _ _); refine PSpec.useA (r32_spec _ V _ _ _ _ (by omega) (by omega) (by assumption)) ?_) | ((with_reducible show wpAny _ _ (call (Value.ref 138) _) _ _ _); refine PSpec.useA (user_ik _ V _ _ _ (by assumption)) ?_)); (intro t9 h9 tk9 F' N'; (try k_sweep); (try dsimp only); (try k_fold)))))
local macro_rules | `(tactic| walk_at "call builtin:list.append") => `(tactic| ((with_reducible show wpAny _ _ (call (Value.builtin _) [Value.ref _, _]) _ _ _); k_dflt (refine' append_K ?k1 ?k2 ?k3 ?_ ?z; (case k1 => k_asm); (case k2 => k_asm); (case k3 => k_upd); (case z => (simp only [List.size_toArray, List.length_map, List.length_append, List.length_cons, List.length_nil, sizeLine_eq]; omega)); k_whole); intro h' F' N'; (try k_sweep)))
local macro_rules | `(tactic| walk_at "newList") => `(tactic| (k_here; k_dflt (refine' newList_K ?k1 ?k2 ?_; (case k1 => k_asm); (case k2 => k_asm); k_whole); intro l5 h' F' N' l15; (try k_lt l15); (try k_sweep)))
local macro_rules | `(tactic| walk_at "getAttr ref") => `(tactic| (k_here; k_dflt (refine' get_own ?k1 ?k2 ?k3 ?k4 ?k5 ?k6 ?k7 ?k8 ?k9 ?_; (case k1 => k_asm); (case k2 => k_asm); (case k3 => k_inst); (case k8 => assumption); (case k4 => k_is); (case k5 => k_is); (case k6 => k_is); (case k7 => k_is); (case k9 => k_handed); k_whole)))
local macro_rules | `(tactic| walk_at "newTuple") => `(tactic| (k_here; k_dflt (refine' newTuple_A ?k1 ?k2 ?_ ?z; (case k1 => k_asm); (case k2 => k_asm); (case z => exact Nat.le_of_ble_eq_true rfl); k_whole); intro t5 h' F' N' lt5; (try (have lt6 := lt5; k_lt lt6)); (try k_sweep)))
set_option hygiene true
section
theorem user_spec (w : World) (V : View) (l : List UInt8) (t : Tok) (hz : l.length ≤ 1000) (h8 : 8 ≤ l.length) :
    PSpec w 2 138 [.bytes l.toArray t] V (fun t => .bytes (l.take (l.length - 8)).toArray t) := by
  ((try unfold PSpec); unfold Spec; rintro κ A₀ base h₀ L m mean mg mb ⟨hp₀, gn₀, dr₀, tk₀, os₀⟩ Q E B₀ F₀ X₀ N₀ T₀ hk₀ hV₀ hd₀ hu₀ hret₀; refine wpAny_call ?_; k_dflt (refine' enter B₀ F₀ X₀ N₀ T₀ hV₀ hret₀ ?kA ?kF ?kK ?k6 ?k7 ?k8 ?k9 ?kB ?_ ?c5 ?c2 ?c3 ?c4; (case kA => exact rfl); (case kF => exact rfl); (case kK => exact hk₀); (case k6 => k_is); (case k7 => k_is); (case k8 => ktr_room); (case k9 => exact BindsTo.of_eq rfl); (case c5 => decide); (case kB => exact locs rfl); (case c2 => exact rfl); (case c3 => exact rfl); (case c4 => exact rfl); k_whole; clear hV₀ hret₀; intro mB g L' h₁ hV hret FG F' N' lt' B' X' T'; clear X₀ T₀ N₀ F₀ B₀; (try dsimp only); (try k_fold); refine gen_QE ?_; intro Q9 E9 hQ9 pE9))
  (repeat' walk_at "STEP")
  ((try dsimp only); refine hret _ _ _ _ kp (fresh_of (by assumption)) kF kN ?_)
  exact ⟨_, by rw [show ((l.length : Int) - 8).toNat = l.length - 8 by omega]⟩
theorem user_ik (w : World) (V : View) (u : List UInt8) (t : Nat) (tk : Tok) (hu : u.length ≤ 100) :
    PSpec w 2 138 [.bytes (u ++ le8 t).toArray tk] V (fun t => .bytes u.toArray t) := by
  have h := user_spec w V (u ++ le8 t) tk (by rw [List.length_append, le8_len]; omega) (by rw [List.length_append, le8_len]; omega)
  have e : (u ++ le8 t).take ((u ++ le8 t).length - 8) = u := by
    rw [List.length_append, le8_len, Nat.add_sub_cancel, List.take_left']
    rfl
  rw [e] at h
  exact h
theorem r32_spec (w : World) (V : View) (l : List UInt8) (t tt : Tok) (at' : Int) (h0 : 0 ≤ at') (h2 : at' + 4 ≤ l.length) (hz : l.length ≤ 1000) :
    PSpec w 2 103 [.bytes l.toArray t, .int at' tt] V (fun t => .int (rd32 l at'.toNat) t) := by
  ((try unfold PSpec); unfold Spec; rintro κ A₀ base h₀ L m mean mg mb ⟨hp₀, gn₀, dr₀, tk₀, os₀⟩ Q E B₀ F₀ X₀ N₀ T₀ hk₀ hV₀ hd₀ hu₀ hret₀; refine wpAny_call ?_; k_dflt (refine' enter B₀ F₀ X₀ N₀ T₀ hV₀ hret₀ ?kA ?kF ?kK ?k6 ?k7 ?k8 ?k9 ?kB ?_ ?c5 ?c2 ?c3 ?c4; (case kA => exact rfl); (case kF => exact rfl); (case kK => exact hk₀); (case k6 => k_is); (case k7 => k_is); (case k8 => ktr_room); (case k9 => exact BindsTo.of_eq rfl); (case c5 => decide); (case kB => exact locs rfl); (case c2 => exact rfl); (case c3 => exact rfl); (case c4 => exact rfl); k_whole; clear hV₀ hret₀; intro mB g L' h₁ hV hret FG F' N' lt' B' X' T'; clear X₀ T₀ N₀ F₀ B₀; (try dsimp only); (try k_fold); refine gen_QE ?_; intro Q9 E9 hQ9 pE9))
  (repeat' walk_at "STEP")
  ((try dsimp only); refine hret _ _ _ _ kp (fresh_of (by assumption)) kF kN ?_)
  refine ⟨_, congrArg (Value.int · _) ?_⟩
  unfold rd32
  rw [show (at' + 1).toNat = at'.toNat + 1 by omega, show (at' + 2).toNat = at'.toNat + 2 by omega, show (at' + 3).toNat = at'.toNat + 3 by omega]
theorem ocmp_spec (w : World) (V : View) (self : Value) (a b : List UInt8) (ta tb : Tok) :
    PSpec w 1 159 [self, .bytes a.toArray ta, .bytes b.toArray tb] V (fun t => .int (cmpO a b) t) := by
  ((try unfold PSpec); unfold Spec; rintro κ A₀ base h₀ L m mean mg mb ⟨hp₀, gn₀, dr₀, tk₀, os₀⟩ Q E B₀ F₀ X₀ N₀ T₀ hk₀ hV₀ hd₀ hu₀ hret₀; refine wpAny_call ?_; k_dflt (refine' enter B₀ F₀ X₀ N₀ T₀ hV₀ hret₀ ?kA ?kF ?kK ?k6 ?k7 ?k8 ?k9 ?kB ?_ ?c5 ?c2 ?c3 ?c4; (case kA => exact rfl); (case kF => exact rfl); (case kK => exact hk₀); (case k6 => k_is); (case k7 => k_is); (case k8 => ktr_room); (case k9 => exact BindsTo.of_eq rfl); (case c5 => decide); (case kB => exact locs rfl); (case c2 => exact rfl); (case c3 => exact rfl); (case c4 => exact rfl); k_whole; clear hV₀ hret₀; intro mB g L' h₁ hV hret FG F' N' lt' B' X' T'; clear X₀ T₀ N₀ F₀ B₀; (try dsimp only); (try k_fold); refine gen_QE ?_; intro Q9 E9 hQ9 pE9))
  (repeat' walk_at "STEP")
  all_goals ((try dsimp only); refine hret _ _ _ _ kp (fresh_of (by assumption)) kF kN ?_)
  all_goals (unfold cmpO; simp_all; try exact ⟨_, rfl⟩)
end
section
theorem r64_ik (w : World) (V : View) (u : List UInt8) (t : Nat) (tk tt : Tok) (at' : Int) (hu : u.length ≤ 100) (ht : t ∈ tagL) (ha : at' = u.length) :
    PSpec w 3 110 [.bytes (u ++ le8 t).toArray tk, .int at' tt] V (fun t' => .int (t : Int) t') := by
  have hz : (u ++ le8 t).length ≤ 1000 := by rw [List.length_append, le8_len]; omega
  have hl : ((u ++ le8 t).length : Int) = u.length + 8 := by rw [List.length_append, le8_len]; omega
  have e1 : rd32 (u ++ le8 t) at'.toNat = ((t % 4294967296 : Nat) : Int) := by
    have := rd32_app u (le8 t) 0
    rw [Nat.add_zero] at this
    rw [show at'.toNat = u.length by omega, this, rd_lo t ht]
  have e2 : rd32 (u ++ le8 t) (at' + 4).toNat = ((t / 4294967296 : Nat) : Int) := by
    rw [show (at' + 4).toNat = u.length + 4 by omega, rd32_app, rd_hi t ht]
  have b1 : 0 ≤ rd32 (u ++ le8 t) (at' + 4).toNat := by rw [e2]; omega
  have b2 : rd32 (u ++ le8 t) (at' + 4).toNat < 18446744073709551616 := by rw [e2]; have := tag_hi t ht; omega
  ((try unfold PSpec); unfold Spec; rintro κ A₀ base h₀ L m mean mg mb ⟨hp₀, gn₀, dr₀, tk₀, os₀⟩ Q E B₀ F₀ X₀ N₀ T₀ hk₀ hV₀ hd₀ hu₀ hret₀; refine wpAny_call ?_; k_dflt (refine' enter B₀ F₀ X₀ N₀ T₀ hV₀ hret₀ ?kA ?kF ?kK ?k6 ?k7 ?k8 ?k9 ?kB ?_ ?c5 ?c2 ?c3 ?c4; (case kA => exact rfl); (case kF => exact rfl); (case kK => exact hk₀); (case k6 => k_is); (case k7 => k_is); (case k8 => ktr_room); (case k9 => exact BindsTo.of_eq rfl); (case c5 => decide); (case kB => exact locs rfl); (case c2 => exact rfl); (case c3 => exact rfl); (case c4 => exact rfl); k_whole; clear hV₀ hret₀; intro mB g L' h₁ hV hret FG F' N' lt' B' X' T'; clear X₀ T₀ N₀ F₀ B₀; (try dsimp only); (try k_fold); refine gen_QE ?_; intro Q9 E9 hQ9 pE9))
  (repeat' walk_at "STEP")
  ((try dsimp only); refine hret _ _ _ _ kp (fresh_of (by assumption)) kF kN ?_)
  exact ⟨_, by rw [e1, e2, rd_all t ht]⟩
theorem tag_ik (w : World) (V : View) (u : List UInt8) (t : Nat) (tk : Tok) (hu : u.length ≤ 100) (ht : t ∈ tagL) :
    PSpec w 4 145 [.bytes (u ++ le8 t).toArray tk] V (fun t' => .int (t : Int) t') := by
  have hz : (u ++ le8 t).length ≤ 1000 := by rw [List.length_append, le8_len]; omega
  have hl : ((u ++ le8 t).length : Int) = u.length + 8 := by rw [List.length_append, le8_len]; omega
  ((try unfold PSpec); unfold Spec; rintro κ A₀ base h₀ L m mean mg mb ⟨hp₀, gn₀, dr₀, tk₀, os₀⟩ Q E B₀ F₀ X₀ N₀ T₀ hk₀ hV₀ hd₀ hu₀ hret₀; refine wpAny_call ?_; k_dflt (refine' enter B₀ F₀ X₀ N₀ T₀ hV₀ hret₀ ?kA ?kF ?kK ?k6 ?k7 ?k8 ?k9 ?kB ?_ ?c5 ?c2 ?c3 ?c4; (case kA => exact rfl); (case kF => exact rfl); (case kK => exact hk₀); (case k6 => k_is); (case k7 => k_is); (case k8 => ktr_room); (case k9 => exact BindsTo.of_eq rfl); (case c5 => decide); (case kB => exact locs rfl); (case c2 => exact rfl); (case c3 => exact rfl); (case c4 => exact rfl); k_whole; clear hV₀ hret₀; intro mB g L' h₁ hV hret FG F' N' lt' B' X' T'; clear X₀ T₀ N₀ F₀ B₀; (try dsimp only); (try k_fold); refine gen_QE ?_; intro Q9 E9 hQ9 pE9))
  (repeat' walk_at "STEP")
  ((try dsimp only); refine hret _ _ _ _ kp (fresh_of (by assumption)) kF kN ?_)
  exact ⟨_, rfl⟩
theorem pack_spec (w : World) (V : View) (q : Nat) (t tt : Tok) (hq : q ∈ seqL) :
    PSpec w 1 117 [.int (q : Int) t, .int 1 tt] V (fun t' => .int ((q * 256 + 1 : Nat) : Int) t') := by
  have h1 := seq_tag q hq
  have h2 : (q : Int) ≤ 72057594037927935 := by omega
  have h3 : 0 ≤ (q : Int) := by omega
  ((try unfold PSpec); unfold Spec; rintro κ A₀ base h₀ L m mean mg mb ⟨hp₀, gn₀, dr₀, tk₀, os₀⟩ Q E B₀ F₀ X₀ N₀ T₀ hk₀ hV₀ hd₀ hu₀ hret₀; refine wpAny_call ?_; k_dflt (refine' enter B₀ F₀ X₀ N₀ T₀ hV₀ hret₀ ?kA ?kF ?kK ?k6 ?k7 ?k8 ?k9 ?kB ?_ ?c5 ?c2 ?c3 ?c4; (case kA => exact rfl); (case kF => exact rfl); (case kK => exact hk₀); (case k6 => k_is); (case k7 => k_is); (case k8 => ktr_room); (case k9 => exact BindsTo.of_eq rfl); (case c5 => decide); (case kB => exact locs rfl); (case c2 => exact rfl); (case c3 => exact rfl); (case c4 => exact rfl); k_whole; clear hV₀ hret₀; intro mB g L' h₁ hV hret FG F' N' lt' B' X' T'; clear X₀ T₀ N₀ F₀ B₀; (try dsimp only); (try k_fold); refine gen_QE ?_; intro Q9 E9 hQ9 pE9))
  (repeat' walk_at "STEP")
  all_goals ((try dsimp only); refine hret _ _ _ _ kp (fresh_of (by assumption)) kF kN ?_)
  all_goals exact ⟨_, by rw [h1.1]⟩
end
section
theorem put32_spec (w : World) (V : View) (x : Int) (n : Nat) (t : Tok) (hx : x = (n : Int)) (hn : n ∈ halfL) :
    PSpec w 1 89 [.int x t] V (fun t' => .bytes (put4 n).toArray t') := by
  subst hx
  obtain ⟨h1, h2, h3⟩ := half_in n hn
  have h4 : (n : Int) < 4294967296 := by omega
  have h5 : 0 ≤ (n : Int) := by omega
  ((try unfold PSpec); unfold Spec; rintro κ A₀ base h₀ L m mean mg mb ⟨hp₀, gn₀, dr₀, tk₀, os₀⟩ Q E B₀ F₀ X₀ N₀ T₀ hk₀ hV₀ hd₀ hu₀ hret₀; refine wpAny_call ?_; k_dflt (refine' enter B₀ F₀ X₀ N₀ T₀ hV₀ hret₀ ?kA ?kF ?kK ?k6 ?k7 ?k8 ?k9 ?kB ?_ ?c5 ?c2 ?c3 ?c4; (case kA => exact rfl); (case kF => exact rfl); (case kK => exact hk₀); (case k6 => k_is); (case k7 => k_is); (case k8 => ktr_room); (case k9 => exact BindsTo.of_eq rfl); (case c5 => decide); (case kB => exact locs rfl); (case c2 => exact rfl); (case c3 => exact rfl); (case c4 => exact rfl); k_whole; clear hV₀ hret₀; intro mB g L' h₁ hV hret FG F' N' lt' B' X' T'; clear X₀ T₀ N₀ F₀ B₀; (try dsimp only); (try k_fold); refine gen_QE ?_; intro Q9 E9 hQ9 pE9))
  (repeat' walk_at "STEP")
  all_goals ((try dsimp only); refine hret _ _ _ _ kp (fresh_of (by assumption)) kF kN ?_)
  exact ⟨_, by rw [h3]⟩
theorem put64_spec (w : World) (V : View) (n : Nat) (t : Tok) (hn : n ∈ tagL) :
    PSpec w 2 96 [.int (n : Int) t] V (fun t' => .bytes (le8 n).toArray t') := by
  obtain ⟨h1, h2, h3, h4, h5, h6⟩ := tag_halves n hn
  have h7 : (n : Int) < 18446744073709551616 := by omega
  have h8 : 0 ≤ (n : Int) := by omega
  ((try unfold PSpec); unfold Spec; rintro κ A₀ base h₀ L m mean mg mb ⟨hp₀, gn₀, dr₀, tk₀, os₀⟩ Q E B₀ F₀ X₀ N₀ T₀ hk₀ hV₀ hd₀ hu₀ hret₀; refine wpAny_call ?_; k_dflt (refine' enter B₀ F₀ X₀ N₀ T₀ hV₀ hret₀ ?kA ?kF ?kK ?k6 ?k7 ?k8 ?k9 ?kB ?_ ?c5 ?c2 ?c3 ?c4; (case kA => exact rfl); (case kF => exact rfl); (case kK => exact hk₀); (case k6 => k_is); (case k7 => k_is); (case k8 => ktr_room); (case k9 => exact BindsTo.of_eq rfl); (case c5 => decide); (case kB => exact locs rfl); (case c2 => exact rfl); (case c3 => exact rfl); (case c4 => exact rfl); k_whole; clear hV₀ hret₀; intro mB g L' h₁ hV hret FG F' N' lt' B' X' T'; clear X₀ T₀ N₀ F₀ B₀; (try dsimp only); (try k_fold); refine gen_QE ?_; intro Q9 E9 hQ9 pE9))
  (repeat' walk_at "STEP")
  all_goals ((try dsimp only); refine hret _ _ _ _ kp (fresh_of (by assumption)) kF kN ?_)
  exact ⟨_, by rw [h5]⟩
theorem ikey_spec (w : World) (V : View) (u : List UInt8) (q : Nat) (t t' t'' : Tok) (hu : u.length ≤ 100) (hq : q ∈ seqL) :
    PSpec w 4 124 [.bytes u.toArray t, .int (q : Int) t', .int 1 t''] V (fun t' => .bytes (u ++ le8 (q * 256 + 1)).toArray t') := by
  have h1 := (seq_tag q hq).2.1
  ((try unfold PSpec); unfold Spec; rintro κ A₀ base h₀ L m mean mg mb ⟨hp₀, gn₀, dr₀, tk₀, os₀⟩ Q E B₀ F₀ X₀ N₀ T₀ hk₀ hV₀ hd₀ hu₀ hret₀; refine wpAny_call ?_; k_dflt (refine' enter B₀ F₀ X₀ N₀ T₀ hV₀ hret₀ ?kA ?kF ?kK ?k6 ?k7 ?k8 ?k9 ?kB ?_ ?c5 ?c2 ?c3 ?c4; (case kA => exact rfl); (case kF => exact rfl); (case kK => exact hk₀); (case k6 => k_is); (case k7 => k_is); (case k8 => ktr_room); (case k9 => exact BindsTo.of_eq rfl); (case c5 => decide); (case kB => exact locs rfl); (case c2 => exact rfl); (case c3 => exact rfl); (case c4 => exact rfl); k_whole; clear hV₀ hret₀; intro mB g L' h₁ hV hret FG F' N' lt' B' X' T'; clear X₀ T₀ N₀ F₀ B₀; (try dsimp only); (try k_fold); refine gen_QE ?_; intro Q9 E9 hQ9 pE9))
  (repeat' walk_at "STEP")
  all_goals ((try dsimp only); refine hret _ _ _ _ kp (fresh_of (by assumption)) kF kN ?_)
  exact ⟨_, rfl⟩
theorem split_spec (w : World) (V : View) (u : List UInt8) (n : Nat) (t : Tok) (hu : u.length ≤ 100) (hn : n ∈ tagL) :
    Spec w 5 131 [.bytes (u ++ le8 n).toArray t] [] V (fun r new => ∃ x a b c, r = .ref x ∧ (x, tupOf #[.bytes u.toArray a, .int ((n / 256 : Nat) : Int) b, .int ((n % 256 : Nat) : Int) c]) ∈ new) := by
  obtain ⟨h1, h2, h3⟩ := tag_kind n hn
  have h4 : Builtin.bitAnd (n : Int) 255 ≤ 1 := by omega
  ((try unfold PSpec); unfold Spec; rintro κ A₀ base h₀ L m mean mg mb ⟨hp₀, gn₀, dr₀, tk₀, os₀⟩ Q E B₀ F₀ X₀ N₀ T₀ hk₀ hV₀ hd₀ hu₀ hret₀; refine wpAny_call ?_; k_dflt (refine' enter B₀ F₀ X₀ N₀ T₀ hV₀ hret₀ ?kA ?kF ?kK ?k6 ?k7 ?k8 ?k9 ?kB ?_ ?c5 ?c2 ?c3 ?c4; (case kA => exact rfl); (case kF => exact rfl); (case kK => exact hk₀); (case k6 => k_is); (case k7 => k_is); (case k8 => ktr_room); (case k9 => exact BindsTo.of_eq rfl); (case c5 => decide); (case kB => exact locs rfl); (case c2 => exact rfl); (case c3 => exact rfl); (case c4 => exact rfl); k_whole; clear hV₀ hret₀; intro mB g L' h₁ hV hret FG F' N' lt' B' X' T'; clear X₀ T₀ N₀ F₀ B₀; (try dsimp only); (try k_fold); refine gen_QE ?_; intro Q9 E9 hQ9 pE9))
  (repeat' walk_at "STEP")
  all_goals ((try dsimp only); refine hret _ _ _ _ kp (fresh_of (by assumption)) kF kN ?_)
  rw [h1, h2]
  exact ⟨_, _, _, _, rfl, .head _⟩
theorem icmp_spec (w : World) (V : View) (o : Addr) (ua ub : List UInt8) (na nb : Nat) (ta tb : Tok) (ho : IsOrder w.params V o) (hua : ua.length ≤ 100) (hub : ub.length ≤ 100) (hna : na ∈ tagL) (hnb : nb ∈ tagL) :
    PSpec w 5 241 [.ref o, .bytes (ua ++ le8 na).toArray ta, .bytes (ub ++ le8 nb).toArray tb] V (fun t' => .int (cmpI ua na ub nb) t') := by
  obtain ⟨dx, n, t, u, du, o1, o2, o3, o4⟩ := ho
  ((try unfold PSpec); unfold Spec; rintro κ A₀ base h₀ L m mean mg mb ⟨hp₀, gn₀, dr₀, tk₀, os₀⟩ Q E B₀ F₀ X₀ N₀ T₀ hk₀ hV₀ hd₀ hu₀ hret₀; refine wpAny_call ?_; k_dflt (refine' enter B₀ F₀ X₀ N₀ T₀ hV₀ hret₀ ?kA ?kF ?kK ?k6 ?k7 ?k8 ?k9 ?kB ?_ ?c5 ?c2 ?c3 ?c4; (case kA => exact rfl); (case kF => exact rfl); (case kK => exact hk₀); (case k6 => k_is); (case k7 => k_is); (case k8 => ktr_room); (case k9 => exact BindsTo.of_eq rfl); (case c5 => decide); (case kB => exact locs rfl); (case c2 => exact rfl); (case c3 => exact rfl); (case c4 => exact rfl); k_whole; clear hV₀ hret₀; intro mB g L' h₁ hV hret FG F' N' lt' B' X' T'; clear X₀ T₀ N₀ F₀ B₀; (try dsimp only); (try k_fold); refine gen_QE ?_; intro Q9 E9 hQ9 pE9))
  (repeat' walk_at "STEP")
  all_goals ((try dsimp only); refine hret _ _ _ _ kp (fresh_of (by assumption)) kF kN ?_)
  all_goals (refine ⟨_, congrArg (Value.int · _) ?_⟩; clear hret kp kF kN FG B' X' T'; unfold cmpI; (repeat' split) <;> first | rfl | omega | (simp_all; done))
end
section
def belowAt (xs : XM) (u : Nat) (t : Nat) (j : Nat) : Prop := ∃ p, xs[j]? = some p ∧ cmpI (U p.2.hu) p.2.ht (U u) t < 0
theorem find_spec (w : World) (V : View) (l o : Addr) (xs : XM) (u : Nat) (t : Nat) (tk : Tok) (hf : IsFiles w.params V l xs) (ho : IsOrder w.params V o) (hz : xs.length ≤ 1000) (hu : (U u).length ≤ 100) (ht : t ∈ tagL)
    (mono : ∀ j k : Nat, j ≤ k → belowAt xs u t k → belowAt xs u t j) :
    Spec w 7 379 [.ref l, .bytes (U u ++ le8 t).toArray tk, .ref o] [] V (fun r _ => ∃ (i : Nat) (tk : Tok), r = .int (i : Int) tk ∧ i ≤ xs.length ∧ (∀ j, j < i → belowAt xs u t j) ∧ ¬ belowAt xs u t i) := by
  have ho' := ho
  obtain ⟨dx, n, to, uo, du, o1, o2, o3, o4⟩ := ho'
  ((try unfold PSpec); unfold Spec; rintro κ A₀ base h₀ L m mean mg mb ⟨hp₀, gn₀, dr₀, tk₀, os₀⟩ Q E B₀ F₀ X₀ N₀ T₀ hk₀ hV₀ hd₀ hu₀ hret₀; refine wpAny_call ?_; k_dflt (refine' enter B₀ F₀ X₀ N₀ T₀ hV₀ hret₀ ?kA ?kF ?kK ?k6 ?k7 ?k8 ?k9 ?kB ?_ ?c5 ?c2 ?c3 ?c4; (case kA => exact rfl); (case kF => exact rfl); (case kK => exact hk₀); (case k6 => k_is); (case k7 => k_is); (case k8 => ktr_room); (case k9 => exact BindsTo.of_eq rfl); (case c5 => decide); (case kB => exact locs rfl); (case c2 => exact rfl); (case c3 => exact rfl); (case c4 => exact rfl); k_whole; clear hV₀ hret₀; intro mB g L' h₁ hV hret FG F' N' lt' B' X' T'; clear X₀ T₀ N₀ F₀ B₀; (try dsimp only); (try k_fold); refine gen_QE ?_; intro Q9 E9 hQ9 pE9))
  (repeat' walk_at "STEP")
  rename Fr _ _ _ _ => F5
  rename News _ _ _ _ => N5
  (refine pk ?_; intro G9 hG9)
  obtain ⟨t1, t2, hk5⟩ : ∃ t1 t2, ∀ p ∈ [(Str.ofString "low", Value.int ((0 : Nat) : Int) t1), (Str.ofString "high", Value.int (xs.length : Int) t2)], mOf F5 p.1 = some p.2 := ⟨_, _, all2 rfl rfl⟩
  (refine hG9 ?_; clear hG9)
  refine ksw_while (σ := Nat × Tok × Nat × Tok) (fun _ => []) (fun c => [(Str.ofString "low", .int (c.1 : Int) c.2.1), (Str.ofString "high", .int (c.2.2.1 : Int) c.2.2.2)]) (fun _ => True) [Str.ofString "mid"]
    (fun c => c.1 ≤ c.2.2.1 ∧ c.2.2.1 ≤ xs.length ∧ (∀ j, j < c.1 → belowAt xs u t j) ∧ ¬ belowAt xs u t c.2.2.1) (fun c => c.2.2.1 - c.1) (0, t1, xs.length, t2) F5 N5 trivial hk5 ?hp ?_
  case hp => exact ⟨Nat.zero_le _, Nat.le_refl _, fun j hj => absurd hj (Nat.not_lt_zero _), fun ⟨p, hp, _⟩ => by simp at hp⟩
  rintro ⟨lo, tl, hi, th⟩ um hh tk5 _ hPA F' N'
  have h1 := hPA.1
  have h2 := hPA.2.1
  have h3 := hPA.2.2.1
  have h4 := hPA.2.2.2
  clear hPA
  refine gen_while ?_; intro Q8 hQ8
  clear hk5 F5 N5
  dsimp only at h1 h2 h3 h4
  dsimp only [kstB] at F'
  dsimp only
  have emid : ((lo : Int) + hi).fdiv 2 = (((lo + hi) / 2 : Nat) : Int) := by rw [Int.fdiv_eq_ediv_of_nonneg _ (by decide)]; omega
  (repeat' walk_at "STEP")
  · rename Fr _ _ _ _ => F6
    rename News _ _ _ _ => N6
    have hp6 : belowAt xs u t ((lo + hi) / 2) := ⟨_, by rw [emid] at hp9; exact hp9, by assumption⟩
    obtain ⟨t6, e6⟩ : ∃ t6, mOf F6 (Str.ofString "low") = some (Value.int (((lo + hi) / 2 + 1 : Nat) : Int) t6) :=
      ⟨_, Eq.trans (rfl : _ = some (Value.int (((lo : Int) + hi).fdiv 2 + 1) _)) (congrArg (fun x : Int => some (Value.int x _)) (by rw [emid]; omega))⟩
    exact ksw_end ((lo + hi) / 2 + 1, t6, hi, th) F6 N6 (fun _ h => nomatch h) trivial (all2 e6 rfl) (by ksw_same) ⟨by dsimp only; omega, h2, fun j hj => mono j _ (by dsimp only at hj; omega) hp6, h4⟩ (by dsimp only; omega)
  · rename Fr _ _ _ _ => F6
    rename News _ _ _ _ => N6
    have hp6 : ¬ belowAt xs u t ((lo + hi) / 2) := fun ⟨p, hp, hlt⟩ => by
      rw [emid] at hp9
      have e : xs[(lo + hi) / 2]? = some p9 := hp9
      rw [e] at hp
      cases hp
      contradiction
    obtain ⟨t6, e6⟩ : ∃ t6, mOf F6 (Str.ofString "high") = some (Value.int (((lo + hi) / 2 : Nat) : Int) t6) :=
      ⟨_, Eq.trans (rfl : _ = some (Value.int (((lo : Int) + hi).fdiv 2) _)) (congrArg (fun x : Int => some (Value.int x _)) emid)⟩
    exact ksw_end (lo, tl, (lo + hi) / 2, t6) F6 N6 (fun _ h => nomatch h) trivial (all2 rfl e6) (by ksw_same) ⟨by dsimp only; omega, by dsimp only; omega, h3, hp6⟩ (by dsimp only; omega)
  · ((try dsimp only); refine hret _ _ _ _ kp (fresh_of (by assumption)) kF kN ?_)
    exact ⟨lo, tl, rfl, by omega, h3, by rw [show lo = hi by omega]; exact h4⟩
theorem LvlOk.mono {xs : XM} (h : LvlOk xs) (h5 : ∀ p ∈ xs, p.2.lu < 5 ∧ p.2.hu < 5) {u t : Nat} (hu : u < 5) : ∀ j k : Nat, j ≤ k → belowAt xs u t k → belowAt xs u t j := by
  rintro j k hjk ⟨q, hq, hlt⟩
  have hk : k < xs.length := by
    rcases Nat.lt_or_ge k xs.length with h | h
    · exact h
    · rw [List.getElem?_eq_none h] at hq; cases hq
  have hp : xs[j]? = some xs[j] := List.getElem?_eq_getElem (by omega)
  refine ⟨_, hp, ?_⟩
  have q5 := h5 q (List.mem_of_getElem? hq)
  have p5 := h5 _ (List.mem_of_getElem? hp)
  rw [cmpI_neg q5.2 hu] at hlt
  rw [cmpI_neg p5.2 hu]
  rcases Nat.lt_or_eq_of_le hjk with e | e
  · have h1 := h.2 j k _ q e hp hq
    have h2 := h.1 q (List.mem_of_getElem? hq)
    omega
  · subst e
    rw [hp] at hq
    have e9 : xs[j] = q := Option.some.inj hq
    rw [e9]
    exact hlt
end
section
section
variable {i j : Nat}
theorem lt_of (h : (bord (U i).toArray.toList (U j).toArray.toList == .lt) = true) (hi : i < 5) (hj : j < 5) : i < j := of_decide_eq_true ((ord_lt hi hj).symm.trans h)
theorem nlt_of (h : (bord (U i).toArray.toList (U j).toArray.toList == .lt) = false) (hi : i < 5) (hj : j < 5) : ¬ i < j := of_decide_eq_false ((ord_lt hi hj).symm.trans h)
theorem gt_of (h : (bord (U i).toArray.toList (U j).toArray.toList == .gt) = true) (hi : i < 5) (hj : j < 5) : j < i := of_decide_eq_true ((ord_gt hi hj).symm.trans h)
theorem ngt_of (h : (bord (U i).toArray.toList (U j).toArray.toList == .gt) = false) (hi : i < 5) (hj : j < 5) : ¬ j < i := of_decide_eq_false ((ord_gt hi hj).symm.trans h)
theorem le_of (h : (bord (U i).toArray.toList (U j).toArray.toList != .gt) = true) (hi : i < 5) (hj : j < 5) : i ≤ j := of_decide_eq_true ((ord_le hi hj).symm.trans h)
theorem nle_of (h : (bord (U i).toArray.toList (U j).toArray.toList != .gt) = false) (hi : i < 5) (hj : j < 5) : ¬ i ≤ j := of_decide_eq_false ((ord_le hi hj).symm.trans h)
theorem ge_of (h : (bord (U i).toArray.toList (U j).toArray.toList != .lt) = true) (hi : i < 5) (hj : j < 5) : j ≤ i := of_decide_eq_true ((ord_ge hi hj).symm.trans h)
theorem nge_of (h : (bord (U i).toArray.toList (U j).toArray.toList != .lt) = false) (hi : i < 5) (hj : j < 5) : ¬ j ≤ i := of_decide_eq_false ((ord_ge hi hj).symm.trans h)
end
theorem step_all {xs : XM} {i : Nat} {p : Addr × FM} {R : Addr × FM → Prop} (hP : ∀ j, j < i → ∀ q, xs[j]? = some q → R q) (hi : xs[i]? = some p) (h : R p) : ∀ j, j < i + 1 → ∀ q, xs[j]? = some q → R q := by
  intro j hj q hq
  rcases Nat.lt_or_eq_of_le (Nat.le_of_lt_succ hj) with e | e
  · exact hP j e q hq
  · rw [e, hi] at hq
    have e9 : p = q := Option.some.inj hq
    exact e9 ▸ h
theorem done_all {xs : XM} {R : Addr × FM → Prop} (hP : ∀ j, j < (refsOf xs).length → ∀ q, xs[j]? = some q → R q) : ∀ p ∈ xs, R p := by
  intro p hp
  obtain ⟨j, hj, rfl⟩ := List.mem_iff_getElem.mp hp
  exact hP j (by simpa using hj) _ (List.getElem?_eq_getElem hj)
theorem meta5 {P : Params} {V : View} {l : Addr} {xs : XM} (h : IsFiles P V l xs) : ∀ p ∈ xs, p.2.lu < 5 ∧ p.2.hu < 5 := by
  intro p hp
  obtain ⟨dx, n, t1, t2, t3, t4, tn, ts, ta, tb, h1, h2, h3, h4, h5, h6, h7, h8⟩ := h.2 p hp
  exact ⟨h7, h8⟩
theorem metaT {P : Params} {V : View} {l : Addr} {xs : XM} (h : IsFiles P V l xs) : ∀ p ∈ xs, p.2.ht ≤ 18446744073709551361 := by
  intro p hp
  obtain ⟨dx, n, t1, t2, t3, t4, tn, ts, ta, tb, h1, h2, h3, h4, h5, h6, h7, h8⟩ := h.2 p hp
  exact tag_max _ h6
theorem below_lt {xs : XM} {a j : Nat} {p : Addr × FM} (h : belowAt xs a (72057594037927935 * 256 + 1) j) (hp : xs[j]? = some p) (h5 : p.2.hu < 5) (ht : p.2.ht ≤ 18446744073709551361) (ha : a < 5) : p.2.hu < a := by
  obtain ⟨q, hq, hlt⟩ := h
  rw [hp] at hq
  have e9 : p = q := Option.some.inj hq
  subst e9
  rw [cmpI_neg h5 ha] at hlt
  omega
theorem overlaps_spec (w : World) (V : View) (x o : Addr) (ls : Lvls) (lv a b : Nat) (la : Addr) (xs : XM) (t ta tb : Tok) (hv : IsVer w.params V x o ls) (hz : ls.length ≤ 1000) (hzz : ∀ p ∈ ls, p.2.length ≤ 1000)
    (hlv : ls[lv]? = some (la, xs)) (hok : lv ≠ 0 → LvlOk xs) (ha : a < 5) (hb : b < 5) :
    Spec w 9 421 [.ref x, .int (lv : Int) t, .bytes (U a).toArray ta, .bytes (U b).toArray tb] [] V (fun r _ => ∃ c, r = .bool c ∧ (c = false → ∀ p ∈ xs, ¬ (a ≤ p.2.hu ∧ p.2.lu ≤ b))) := by
  have hlt : lv < ls.length := by
    rcases Nat.lt_or_ge lv ls.length with h | h
    · exact h
    · rw [List.getElem?_eq_none h] at hlv; cases hlv
  have hla := U_len a
  have hlb := U_len b
  have hmax : 72057594037927935 ∈ seqL := by decide
  obtain ⟨dx, n, t1, t2, t3, t4, t5, t6, tn, fa, nf, tr, sc, ns, tta, ttb, sa, v1, v2, v3, v4, v5, v6, v7⟩ := hv
  ((try unfold PSpec); unfold Spec; rintro κ A₀ base h₀ L m mean mg mb ⟨hp₀, gn₀, dr₀, tk₀, os₀⟩ Q E B₀ F₀ X₀ N₀ T₀ hk₀ hV₀ hd₀ hu₀ hret₀; refine wpAny_call ?_; k_dflt (refine' enter B₀ F₀ X₀ N₀ T₀ hV₀ hret₀ ?kA ?kF ?kK ?k6 ?k7 ?k8 ?k9 ?kB ?_ ?c5 ?c2 ?c3 ?c4; (case kA => exact rfl); (case kF => exact rfl); (case kK => exact hk₀); (case k6 => k_is); (case k7 => k_is); (case k8 => ktr_room); (case k9 => exact BindsTo.of_eq rfl); (case c5 => decide); (case kB => exact locs rfl); (case c2 => exact rfl); (case c3 => exact rfl); (case c4 => exact rfl); k_whole; clear hV₀ hret₀; intro mB g L' h₁ hV hret FG F' N' lt' B' X' T'; clear X₀ T₀ N₀ F₀ B₀; (try dsimp only); (try k_fold); refine gen_QE ?_; intro Q9 E9 hQ9 pE9))
  (repeat' walk_at "STEP")
  · rename Fr _ _ _ _ => F5
    rename News _ _ _ _ => N5
    have e9 : q9 = (la, xs) := by
      rw [Int.toNat_natCast, hlv] at hq9
      exact (Option.some.inj hq9).symm
    subst e9
    refine For_turns F5 ?_
    (repeat' walk_at "STEP")
    refine turns_base (σ := Unit) (fun _ => []) (fun _ => []) [Str.ofString "meta", Str.ofString "before", Str.ofString "behind"] (fun i _ => ∀ j, j < i → ∀ p, xs[j]? = some p → ¬ (a ≤ p.2.hu ∧ p.2.lu ≤ b)) () rfl (base_list hV if9) F5 N5 (fun _ h => nomatch h) (fun j hj => absurd hj (Nat.not_lt_zero _)) ?_ ?_
    · rintro i v _ um hh tk5 own I hi hP hw hI _ F' N'
      refine gen_turn ?_; intro Q8 hQ8
      clear F5 N5
      (refine pk ?_; intro G9 hG9)
      obtain ⟨p9, hp9, hm9, rfl⟩ := refs_get hi
      obtain ⟨dx9, n9, t91, t92, t93, t94, tn9, ts9, ta9, tb9, j1, j2, j3, j4, j5, j6, j7, j8⟩ := if9.2 p9 hm9
      (refine hG9 ?_; clear hG9)
      simp only [List.append_nil] at N'
      dsimp only [kstB] at F'
      (repeat' walk_at "STEP")
      · exact TurnE.intro () (by assumption) (by assumption) (fun _ h => h) (fun _ h => nomatch h) (fun _ h => nomatch h) (fun _ h => nomatch h) (by ksw_same) (step_all hP hp9 (by have := lt_of (by assumption) j8 ha; omega))
      · exact TurnE.intro () (by assumption) (by assumption) (fun _ h => h) (fun _ h => nomatch h) (fun _ h => nomatch h) (fun _ h => nomatch h) (by ksw_same) (step_all hP hp9 (by have := gt_of (by assumption) j7 hb; omega))
      · ((try dsimp only); refine hret _ _ _ _ kp (fresh_of (by assumption)) kF kN ?_)
        exact ⟨true, rfl, fun h => nomatch h⟩
    · rintro _ um hh tk5 hP F' N'
      clear F5 N5
      dsimp only [kstB] at F'
      (repeat' walk_at "STEP")
      ((try dsimp only); refine hret _ _ _ _ kp (fresh_of (by assumption)) kF kN ?_)
      exact ⟨false, rfl, fun _ => done_all hP⟩
  · have e9 : q9 = (la, xs) := by
      rw [Int.toNat_natCast, hlv] at hq9
      exact (Option.some.inj hq9).symm
    subst e9
    dsimp only at if9 hz9 hm9
    have hl0 : lv ≠ 0 := by omega
    have htag : 72057594037927935 * 256 + 1 ∈ tagL := by decide
    have hok' := hok hl0
    refine' Spec.useA (find_spec w V _ _ xs a _ _ if9 v3 hz9 (U_len a) htag (LvlOk.mono hok' (meta5 if9) ha)) ?kV ?_
    ((try (case kV => exact view_keep hV (by assumption))); intro r9 new9 h9 tk9 F' N' kp9 fr9 P9; (try k_sweep))
    (refine pk ?_; intro G9 hG9)
    obtain ⟨fi, ft, rfl, fl, fb, fn⟩ := P9
    (refine hG9 ?_; clear hG9)
    dsimp only
    k_fold
    (repeat' walk_at "STEP")
    · ((try dsimp only); refine hret _ _ _ _ kp (fresh_of (by assumption)) kF kN ?_)
      refine ⟨false, rfl, fun _ p hp => ?_⟩
      (refine pk ?_; intro G9 hG9)
      obtain ⟨j, hj, rfl⟩ := List.mem_iff_getElem.mp hp
      (refine hG9 ?_; clear hG9)
      have := below_lt (fb j (by omega)) (List.getElem?_eq_getElem hj) (meta5 if9 _ hp).2 (metaT if9 _ hp) ha
      omega
    · ((try dsimp only); refine hret _ _ _ _ kp (fresh_of (by assumption)) kF kN ?_)
      refine ⟨_, rfl, fun hc p hp => ?_⟩
      have h1 := nle_of hc j7 hb
      (refine pk ?_; intro G9 hG9)
      obtain ⟨j, hj, rfl⟩ := List.mem_iff_getElem.mp hp
      (refine hG9 ?_; clear hG9)
      rcases Nat.lt_or_ge j fi with e | e
      · have := below_lt (fb j e) (List.getElem?_eq_getElem hj) (meta5 if9 _ hp).2 (metaT if9 _ hp) ha
        omega
      · rw [Int.toNat_natCast] at hp9
        have := hok'.le e hp9 (List.getElem?_eq_getElem hj)
        omega
theorem item_lvlat {V : View} {g : Heap} {L l : Addr} {m : Str → Option Value} {prog : Program} {w : World} {A : Around} {E : Value → Shared → Prop} {s : Shared} {value slice : Expr} {ls : Lvls} {u : Tok} {Q : Value → Shared → Prop} {n lv : Nat} {q : Addr × XM}
    (F : Fr g L s.heap m) (hV : ∀ a o, V a o → g.get? a = some o) (hl : V l (listOf (ls.map fun p => Value.ref p.1).toArray n)) (hx : ls[lv]? = some q) (hz : ls.length ≤ 1000)
    (h : Q (.ref q.1) s)
    (hs : subscripted slice false (.ref l) (.int (lv : Int) u) = operate [.ref l, .int (lv : Int) u] (getItem (.ref l) (.int (lv : Int) u)) := by with_unfolding_all rfl) :
    wpAny (model prog w) A (subscriptTail value slice (.ref l) (.int (lv : Int) u)) Q E s := by
  have hls : s.heap.IsList l (ls.map fun p => Value.ref p.1).toArray := list_of_view F hV hl
  have hlt : lv < ls.length := by
    rcases Nat.lt_or_ge lv ls.length with h | h
    · exact h
    · rw [List.getElem?_eq_none h] at hx; cases hx
  refine tail_any hls.typeIs slot_list_getitem.lookup (wpAny_getItem_list hls (by omega) (by omega) (x := .ref q.1) (by simp [hx]) h) hs
end
section
theorem overlapping_spec (w : World) (V : View) (x o : Addr) (ls : Lvls) (lv a b : Nat) (la : Addr) (xs : XM) (t ta tb : Tok) (hv : IsVer w.params V x o ls) (hz : ls.length ≤ 1000) (hz1 : xs.length ≤ 1000)
    (hlv : ls[lv]? = some (la, xs)) (hl0 : lv ≠ 0) (ha : a < 5) (hb : b < 5) :
    Spec w 3 400 [.ref x, .int (lv : Int) t, .bytes (U a).toArray ta, .bytes (U b).toArray tb] [] V (fun r new => ∃ d ys nn, r = .ref d ∧ (d, listOf (refsOf ys).toArray nn) ∈ new ∧ ys.length ≤ 1000 ∧ ∀ p ∈ ys, p ∈ xs) := by
  obtain ⟨dx, n, t1, t2, t3, t4, t5, t6, tn, fa, nf, tr, sc, ns, tta, ttb, sa, v1, v2, v3, v4, v5, v6, v7⟩ := hv
  have iff9 := v6 _ (List.mem_of_getElem? hlv)
  dsimp only at iff9
  have hl1 : (lv : Int) ≠ 0 := by omega
  have hla := U_len a
  have hlb := U_len b
  ((try unfold PSpec); unfold Spec; rintro κ A₀ base h₀ L m mean mg mb ⟨hp₀, gn₀, dr₀, tk₀, os₀⟩ Q E B₀ F₀ X₀ N₀ T₀ hk₀ hV₀ hd₀ hu₀ hret₀; refine wpAny_call ?_; k_dflt (refine' enter B₀ F₀ X₀ N₀ T₀ hV₀ hret₀ ?kA ?kF ?kK ?k6 ?k7 ?k8 ?k9 ?kB ?_ ?c5 ?c2 ?c3 ?c4; (case kA => exact rfl); (case kF => exact rfl); (case kK => exact hk₀); (case k6 => k_is); (case k7 => k_is); (case k8 => ktr_room); (case k9 => exact BindsTo.of_eq rfl); (case c5 => decide); (case kB => exact locs rfl); (case c2 => exact rfl); (case c3 => exact rfl); (case c4 => exact rfl); k_whole; clear hV₀ hret₀; intro mB g L' h₁ hV hret FG F' N' lt' B' X' T'; clear X₀ T₀ N₀ F₀ B₀; (try dsimp only); (try k_fold); refine gen_QE ?_; intro Q9 E9 hQ9 pE9))
  (repeat' walk_at "STEP")
  rename Fr _ _ _ _ => F5
  rename News _ _ _ _ => N5
  obtain ⟨u1, hk5⟩ : ∃ u1, ∀ p ∈ [(Str.ofString "i", Value.int ((0 : Nat) : Int) u1)], mOf F5 p.1 = some p.2 := ⟨_, all1 rfl⟩
  refine ksw_while (σ := XM × Nat × Nat × Tok) (fun c => [(l5, listOf (refsOf c.1).toArray c.2.1)]) (fun c => [(Str.ofString "i", .int (c.2.2.1 : Int) c.2.2.2)]) (fun _ => True) [Str.ofString "meta", Str.ofString "first", Str.ofString "last"]
    (fun c => c.2.2.1 ≤ xs.length ∧ c.1.length ≤ c.2.2.1 ∧ ∀ p ∈ c.1, p ∈ xs) (fun c => xs.length - c.2.2.1) ([], 0, 0, u1) F5 N5 trivial hk5 ⟨Nat.zero_le _, Nat.le_refl _, fun _ h => nomatch h⟩ ?_
  rintro ⟨ys, nn, i, ti⟩ um hh tk5 _ hPA F' N'
  have h1 := hPA.1
  have h2 := hPA.2.1
  have h3 := hPA.2.2
  clear hPA
  refine gen_while ?_; intro Q8 hQ8
  clear hk5 F5 N5
  dsimp only at h1 h2 h3 N'
  dsimp only [kstB] at F'
  dsimp only
  (repeat' walk_at "STEP")
  all_goals first
    | (exfalso; omega)
    | skip
  all_goals first
    | (rename Fr _ _ _ _ => F6
       rename News _ _ _ _ => N6
       obtain ⟨t6, e6⟩ : ∃ t6, mOf F6 (Str.ofString "i") = some (Value.int ((i + 1 : Nat) : Int) t6) := ⟨_, rfl⟩
       exact ksw_end (ys, nn, i + 1, t6) F6 N6 (fun _ h => h) trivial (all1 e6) (by ksw_same) ⟨by dsimp only; omega, by dsimp only; omega, h3⟩ (by dsimp only; omega))
    | (rename Fr _ _ _ _ => F6
       rename News _ _ _ _ => N6
       obtain ⟨t6, e6⟩ : ∃ t6, mOf F6 (Str.ofString "i") = some (Value.int ((i + 1 : Nat) : Int) t6) := ⟨_, rfl⟩
       have e7 : (refsOf ys).toArray.push (Value.ref p9.1) = (refsOf (ys ++ [p9])).toArray := by simp
       rw [e7] at N6
       exact ksw_end (ys ++ [p9], nn + 1, i + 1, t6) F6 N6 (fun _ h => h) trivial (all1 e6) (by ksw_same) ⟨by dsimp only; omega, by dsimp only; rw [List.length_append, List.length_singleton]; omega, fun p hp => (List.mem_append.mp hp).elim (h3 p) fun h => by rw [List.mem_singleton.mp h]; exact hm9⟩ (by dsimp only; omega))
    | (((try dsimp only); refine hret _ _ _ _ kp (fresh_of (by assumption)) kF kN ?_)
       exact ⟨_, _, _, rfl, .head _, by omega, h3⟩)
end
section
inductive IsOpt (V : View) (x : Addr) (mm gf mf : Nat) : Prop
  | mk (dx : Addr) (es : List DictEntry) (n : Nat) (t1 : Tok) (t2 : Tok) (t3 : Tok) (p1_ : V x (instObj 305 dx)) (p2_ : V dx (dictOf es n)) (p3_ : getL (Str.ofString "max_mem_level") es = some (some (.int (mm : Int) t1))) (p4_ : getL (Str.ofString "grandparent_factor") es = some (some (.int (gf : Int) t2))) (p5_ : getL (Str.ofString "max_file_size") es = some (some (.int (mf : Int) t3))) : IsOpt V x mm gf mf
def NoMeet (ls : Lvls) (k a b : Nat) : Prop := ∀ la xs, ls[k]? = some (la, xs) → ∀ p ∈ xs, ¬ (a ≤ p.2.hu ∧ p.2.lu ≤ b)
theorem lfm_spec (w : World) (V : View) (x o op : Addr) (ls : Lvls) (a b mm gf mf : Nat) (ta tb : Tok) (hv : IsVer w.params V x o ls) (hz : ls.length ≤ 1000) (hzz : ∀ p ∈ ls, p.2.length ≤ 1000) (hl : 0 < ls.length)
    (hok : ∀ k la xs, k ≠ 0 → ls[k]? = some (la, xs) → LvlOk xs) (ha : a < 5) (hb : b < 5) (hop : IsOpt V op mm gf mf) (hgf : gf ≤ 1000) (hmf : mf ≤ 1000) :
    Spec w 12 428 [.ref x, .bytes (U a).toArray ta, .bytes (U b).toArray tb, .ref op] [] V (fun r _ => ∃ (k : Nat) (t : Tok), r = .int (k : Int) t ∧ k ≤ mm ∧ k < ls.length ∧ (k ≠ 0 → ∀ j, j ≤ k → NoMeet ls j a b)) := by
  have hv' := hv
  obtain ⟨dx, n, t1, t2, t3, t4, t5, t6, tn, fa, nf, tr, sc, ns, tta, ttb, sa, v1, v2, v3, v4, v5, v6, v7⟩ := hv'
  obtain ⟨odx, oes, on, ot1, ot2, ot3, p1, p2, p3, p4, p5⟩ := hop
  have hla := U_len a
  have hlb := U_len b
  obtain ⟨la0, xs0, hq0⟩ : ∃ la xs, ls[0]? = some (la, xs) := ⟨ls[0].1, ls[0].2, List.getElem?_eq_getElem hl⟩
  ((try unfold PSpec); unfold Spec; rintro κ A₀ base h₀ L m mean mg mb ⟨hp₀, gn₀, dr₀, tk₀, os₀⟩ Q E B₀ F₀ X₀ N₀ T₀ hk₀ hV₀ hd₀ hu₀ hret₀; refine wpAny_call ?_; k_dflt (refine' enter B₀ F₀ X₀ N₀ T₀ hV₀ hret₀ ?kA ?kF ?kK ?k6 ?k7 ?k8 ?k9 ?kB ?_ ?c5 ?c2 ?c3 ?c4; (case kA => exact rfl); (case kF => exact rfl); (case kK => exact hk₀); (case k6 => k_is); (case k7 => k_is); (case k8 => ktr_room); (case k9 => exact BindsTo.of_eq rfl); (case c5 => decide); (case kB => exact locs rfl); (case c2 => exact rfl); (case c3 => exact rfl); (case c4 => exact rfl); k_whole; clear hV₀ hret₀; intro mB g L' h₁ hV hret FG F' N' lt' B' X' T'; clear X₀ T₀ N₀ F₀ B₀; (try dsimp only); (try k_fold); refine gen_QE ?_; intro Q9 E9 hQ9 pE9))
  (repeat' walk_at "STEP")
  refine' Spec.useA (overlaps_spec w V x o ls 0 a b la0 xs0 _ _ _ hv hz hzz hq0 (fun h => absurd rfl h) ha hb) ?kV ?_
  ((try (case kV => exact view_keep hV (by assumption))); intro r9 new9 h9 tk9 F' N' kp9 fr9 P9; (try k_sweep))
  (refine pk ?_; intro G9 hG9)
  obtain ⟨c0, rfl, hc0⟩ := P9
  (refine hG9 ?_; clear hG9)
  dsimp only
  k_fold
  (repeat' walk_at "STEP")
  · ((try dsimp only); refine hret _ _ _ _ kp (fresh_of (by assumption)) kF kN ?_)
    exact ⟨0, _, rfl, Nat.zero_le _, hl, fun h => absurd rfl h⟩
  rename Fr _ _ _ _ => F5
  rename News _ _ _ _ => N5
  have nm0 : NoMeet ls 0 a b := fun la xs h => by
    rw [hq0] at h
    cases h
    exact hc0 (by assumption)
  obtain ⟨u1, hk5⟩ : ∃ u1, ∀ p ∈ [(Str.ofString "level", Value.int ((0 : Nat) : Int) u1)], mOf F5 p.1 = some p.2 := ⟨_, all1 rfl⟩
  refine ksw_while (σ := Nat × Tok) (fun _ => []) (fun c => [(Str.ofString "level", .int (c.1 : Int) c.2)]) (fun _ => True) [Str.ofString "octets", Str.ofString "meta"]
    (fun c => c.1 ≤ mm ∧ c.1 < ls.length ∧ ∀ j, j ≤ c.1 → NoMeet ls j a b) (fun c => mm - c.1) (0, u1) F5 News.nil trivial hk5 ⟨Nat.zero_le _, hl, fun j hj => by rw [Nat.le_zero.mp hj]; exact nm0⟩ ?_
  rintro ⟨k, tk⟩ um hh tk5 _ hPA F' N'
  have h1 := hPA.1
  have h2 := hPA.2.1
  have h3 := hPA.2.2
  clear hPA
  refine gen_while ?_; intro Q8 hQ8
  clear hk5 F5 N5
  dsimp only at h1 h2 h3 N'
  dsimp only [kstB] at F'
  dsimp only
  (repeat' walk_at "STEP")
  rotate_left
  · ((try dsimp only); refine hret _ _ _ _ kp (fresh_of (by assumption)) kF kN ?_)
    exact ⟨k, _, rfl, h1, h2, fun _ => h3⟩
  · ((try dsimp only); refine hret _ _ _ _ kp (fresh_of (by assumption)) kF kN ?_)
    exact ⟨k, _, rfl, h1, h2, fun _ => h3⟩
  have hk1 : k + 1 < ls.length := by omega
  (refine pk ?_; intro G9 hG9)
  obtain ⟨la1, xs1, hq1⟩ : ∃ la xs, ls[k + 1]? = some (la, xs) := ⟨ls[k + 1].1, ls[k + 1].2, List.getElem?_eq_getElem hk1⟩
  (refine hG9 ?_; clear hG9)
  refine' Spec.useA (overlaps_spec w V x o ls (k + 1) a b la1 xs1 _ _ _ hv hz hzz hq1 (fun h => hok _ _ _ h hq1) ha hb) ?kV ?_
  ((try (case kV => exact view_keep hV (by assumption))); intro r9 new9 h9 tk9 F' N' kp9 fr9 P9; (try k_sweep))
  (refine pk ?_; intro G9 hG9)
  obtain ⟨c1, rfl, hc1⟩ := P9
  (refine hG9 ?_; clear hG9)
  dsimp only
  k_fold
  simp only [List.append_nil] at N'
  have nm1 : c1 = false → ∀ j, j ≤ k + 1 → NoMeet ls j a b := fun hc j hj => by
    rcases Nat.lt_or_eq_of_le hj with e | e
    · exact h3 j (by omega)
    · subst e
      intro la xs h
      rw [hq1] at h
      cases h
      exact hc1 hc
  (repeat' walk_at "STEP")
  · ((try dsimp only); refine hret _ _ _ _ kp (fresh_of (by assumption)) kF kN ?_)
    exact ⟨k, _, rfl, h1, h2, fun _ => h3⟩
  · rename Fr _ _ _ _ => F6
    rename News _ _ _ _ => N6
    have hk2 : k + 2 < ls.length := by omega
    (refine pk ?_; intro G9 hG9)
    obtain ⟨la2, xs2, hq2⟩ : ∃ la xs, ls[k + 2]? = some (la, xs) := ⟨ls[k + 2].1, ls[k + 2].2, List.getElem?_eq_getElem hk2⟩
    (refine hG9 ?_; clear hG9)
    have hm2 := List.mem_of_getElem? hq2
    refine For_turns F6 ?_
    (repeat' walk_at "STEP")
    refine' Spec.useA (overlapping_spec w V x o ls (k + 2) a b la2 xs2 _ _ _ hv hz (hzz _ hm2) hq2 (by omega) ha hb) ?kV ?_
    ((try (case kV => exact view_keep hV (by assumption))); intro r9 new9 h9 tk9 F' N' kp9 fr9 P9; (try k_sweep))
    (refine pk ?_; intro G9 hG9)
    obtain ⟨d, ys, nn, rfl, hd5, hys, hsub⟩ := P9
    (refine hG9 ?_; clear hG9)
    dsimp only
    rename Fr _ _ _ _ => F7
    rename News _ _ _ _ => N7
    obtain ⟨u2, hk7⟩ : ∃ u2, ∀ p ∈ [(Str.ofString "octets", Value.int 0 u2)], mOf F7 p.1 = some p.2 := ⟨_, all1 rfl⟩
    refine turns_led (σ := Int × Tok) (fun c => [(Str.ofString "octets", .int c.1 c.2)]) (fun _ => []) [Str.ofString "meta"] (fun _ _ => True) (0, u2) rfl F7 N7 (List.mem_append_left _ hd5) (fun _ h => nomatch h) hk7 trivial ?_ ?_
    · rintro i v ⟨c, tc⟩ um2 hh2 tk6 own I hi _ hw hI hl' F' N'
      refine gen_turn ?_; intro Q8 hQ8
      clear hk7 F7 N7
      (refine pk ?_; intro G9 hG9)
      obtain ⟨p9, hp9, hm9, rfl⟩ := refs_get hi
      obtain ⟨dx9, n9, t91, t92, t93, t94, tn9, ts9, ta9, tb9, j1, j2, j3, j4, j5, j6, j7, j8⟩ := (v6 _ hm2).2 p9 (hsub p9 hm9)
      (refine hG9 ?_; clear hG9)
      simp only [List.append_nil] at N'
      dsimp only [kstB] at F'
      (repeat' walk_at "STEP")
      rename Fr _ _ _ _ => F8
      rename News _ _ _ _ => N8
      (refine pk ?_; intro G9 hG9)
      obtain ⟨c6, t6, e6⟩ : ∃ c6 t6, mOf F8 (Str.ofString "octets") = some (Value.int c6 t6) := ⟨_, _, rfl⟩
      (refine hG9 ?_; clear hG9)
      exact TurnE.intro (c6, t6) F8 N8 (fun _ h => h) (fun _ h => nomatch h) (fun _ h => nomatch h) (all1 e6) (by ksw_same) trivial
    · rintro ⟨c, tc⟩ um2 hh2 tk6 _ F' N'
      clear hk7 F7 N7
      dsimp only [kstB] at F'
      (repeat' walk_at "STEP")
      · ((try dsimp only); refine hret _ _ _ _ kp (fresh_of (by assumption)) kF kN ?_)
        exact ⟨k, _, rfl, h1, h2, fun _ => h3⟩
end
section
theorem rsz_up {n : Nat} (hn : 0 < n) : Builtin.Range.rangeSize 1 (n : Int) 1 = ((n - 1 : Nat) : Int) := by
  unfold Builtin.Range.rangeSize
  rw [if_pos (by decide)]
  split
  · rw [Int.ediv_one]; omega
  · omega
theorem rsm_up {n : Nat} (hn : n ≤ 1000) : Builtin.Range.small 1 (n : Int) 1 = true := by
  exact small_one (by omega) (by omega) (by omega) (by omega)
theorem rsz_down (n : Nat) : Builtin.Range.rangeSize ((n : Int) - 1) (-1) (-1) = n := by
  unfold Builtin.Range.rangeSize
  rw [if_neg (by decide)]
  split
  · have e : -(-1 : Int) = 1 := by decide
    rw [e, Int.ediv_one]; omega
  · omega
theorem rsm_down {n : Nat} (hn : n ≤ 1000) : Builtin.Range.small ((n : Int) - 1) (-1) (-1) = true := by
  unfold Builtin.Range.small
  rw [rsz_down]
  unfold Builtin.Range.rangeFitsLong
  simp only [Bool.and_eq_true, Bool.or_eq_true, decide_eq_true_eq, beq_iff_eq]
  refine ⟨⟨⟨⟨⟨by omega, by omega⟩, by decide⟩, by decide⟩, by omega⟩, .inr ?_⟩
  rw [if_neg (by decide)]
  decide
theorem newTuple_A {M : Model} {A : Around} {E : Value → Shared → Prop} {s : Shared} {h₀ : Heap} {L : Addr} {m : Str → Option Value} {news : Led} {vs : List Value} {Q : Value → Shared → Prop} (F : Fr h₀ L s.heap m) (N : News h₀ L s.heap news)
    (h : ∀ t h', Fr h₀ L h' m → News h₀ L h' ((t, tupOf vs.toArray) :: news) → (∀ p ∈ news, p.1 < t) → Q (.ref t) { s with heap := h' }) (hsz : vs.length ≤ sizeLine) : wpAny M A (newTuple vs) Q E s :=
  newTuple_N F N (fun h' F' N' => h _ h' F' N' fun p hp => Heap.lt_size (N p hp).1) hsz
structure CT where
  adr : Addr
  lv : Nat
  tok : Tok
  f : Addr × FM
abbrev ctObj (c : CT) : Addr × Obj := (c.adr, tupOf #[.int (c.lv : Int) c.tok, .ref c.f.1])
abbrev ctLed (d : Addr) (cs : List CT) (n : Nat) : Led := (d, listOf (cs.map fun c => Value.ref c.adr).toArray n) :: cs.map ctObj
def notBelow (u t : Nat) (p : Addr × FM) : Bool := decide (¬ cmpI (U p.2.hu) p.2.ht (U u) t < 0)
def span (u : Nat) (p : Addr × FM) : Bool := decide (p.2.lu ≤ u ∧ u ≤ p.2.hu)
def candAt (u t : Nat) (xs : XM) : List (Addr × FM) := ((xs.find? (notBelow u t)).toList).filter fun p => decide (p.2.lu ≤ u)
def cands (ls : Lvls) (u t : Nat) : List (Nat × Addr × FM) :=
  ((((ls.map (·.2)).getD 0 []).reverse.filter (span u)).map fun p => (0, p)) ++ (List.range' 1 (ls.length - 1)).flatMap fun k => (candAt u t ((ls.map (·.2)).getD k [])).map fun p => (k, p)
theorem append_ct {prog : Program} {w : World} {A : Around} {E : Value → Shared → Prop} {s : Shared} {h₀ : Heap} {L d : Addr} {m : Str → Option Value} {own : Led} {cs : List CT} {n : Nat} {Q : Value → Shared → Prop}
    (F : Fr h₀ L s.heap m) (c : CT) (N : News h₀ L s.heap (ctObj c :: (own ++ ctLed d cs n))) (ho : ∀ p ∈ own, ∀ q ∈ ctLed d cs n, p.1 ≠ q.1) (lt : ∀ p ∈ own ++ ctLed d cs n, p.1 < c.adr) (hsz : cs.length ≤ 5000)
    (h : ∀ h', Fr h₀ L h' m → News h₀ L h' (own ++ ctLed d (cs ++ [c]) (n + 1)) → Q .none { s with heap := h' }) : wpAny (model prog w) A (call (.builtin "list.append") [.ref d, .ref c.adr]) Q E s := by
  have hd : (d, listOf (cs.map fun c => Value.ref c.adr).toArray n) ∈ ctLed d cs n := .head _
  have hdN : (d, listOf (cs.map fun c => Value.ref c.adr).toArray n) ∈ ctObj c :: (own ++ ctLed d cs n) := .tail _ (List.mem_append_right _ hd)
  refine append_any F N hdN (fun p hp => ?_) (by simp only [List.size_toArray, List.length_map, sizeLine_eq]; omega) h
  rcases List.mem_append.mp hp with hp | hp
  · exact .inr ⟨.tail _ (List.mem_append_left _ hp), ho p hp _ hd⟩
  rcases List.mem_cons.mp hp with rfl | hp
  · left
    simp
  · right
    obtain ⟨c', hc', rfl⟩ := List.mem_map.mp hp
    rcases List.mem_append.mp hc' with hc' | hc'
    · have hm : ctObj c' ∈ ctObj c :: (own ++ ctLed d cs n) := .tail _ (List.mem_append_right _ (.tail _ (List.mem_map_of_mem hc')))
      refine ⟨hm, fun e => ?_⟩
      have h1 := (N _ hm).1
      have h2 := (N _ hdN).1
      have e' : c'.adr = d := e
      rw [show (ctObj c').1 = d from e', h2] at h1
      have h3 := congrArg Obj.cls (Option.some.inj h1)
      injection h3 with h4
      exact absurd h4 (by decide)
    · rw [List.mem_singleton.mp hc']
      exact ⟨.head _, Nat.ne_of_gt (lt _ (List.mem_append_right _ hd))⟩
theorem take_step {α : Type} {ys : List α} {i : Nat} {p : α} (f : α → Bool) (hr : ys[i]? = some p) : (ys.take (i + 1)).filter f = (ys.take i).filter f ++ (if f p = true then [p] else []) := by
  rw [List.take_add_one, hr, List.filter_append]
  congr 1
  cases h : f p <;> simp [h]
theorem ctw {d I : Addr} {cs : List CT} {n k : Nat} {c : CT} (hw : ∀ p ∈ ctLed d cs n, p.1 ≠ I) (hc : c.adr ≠ I) : ∀ p ∈ ctLed d (cs ++ [c]) k, p.1 ∉ [I] := by
  intro p hp hI
  have hI' := List.mem_singleton.mp hI
  rcases List.mem_cons.mp hp with rfl | hp
  · exact hw (d, listOf (cs.map fun c => Value.ref c.adr).toArray n) (.head _) hI'
  · obtain ⟨c', hc', rfl⟩ := List.mem_map.mp hp
    rcases List.mem_append.mp hc' with hc' | hc'
    · exact hw (ctObj c') (.tail _ (List.mem_map_of_mem hc')) hI'
    · rw [List.mem_singleton.mp hc'] at hI'
      exact hc hI'
theorem find_at {xs : XM} {u t : Nat} : ∀ {fi : Nat}, fi ≤ xs.length → (∀ j, j < fi → belowAt xs u t j) → ¬ belowAt xs u t fi → xs.find? (notBelow u t) = xs[fi]? := by
  induction xs with
  | nil => intro fi h _ _; simp
  | cons p r ih =>
    intro fi hl hb hn
    have hb0 : notBelow u t p = decide (¬ cmpI (U p.2.hu) p.2.ht (U u) t < 0) := rfl
    cases fi with
    | zero =>
      have : notBelow u t p = true := by
        rw [hb0]
        exact decide_eq_true fun h => hn ⟨p, rfl, h⟩
      rw [List.find?_cons, this]
      rfl
    | succ k =>
      have h0 : cmpI (U p.2.hu) p.2.ht (U u) t < 0 := by
        obtain ⟨q, hq, hlt⟩ := hb 0 (Nat.succ_pos k)
        cases hq
        exact hlt
      have : notBelow u t p = false := by
        rw [hb0]
        exact decide_eq_false fun h => h h0
      rw [List.find?_cons, this, List.getElem?_cons_succ]
      refine ih (Nat.le_of_succ_le_succ hl) (fun j hj => ?_) fun ⟨q, hq, hlt⟩ => hn ⟨q, by rw [List.getElem?_cons_succ]; exact hq, hlt⟩
      obtain ⟨q, hq, hlt⟩ := hb (j + 1) (Nat.succ_lt_succ hj)
      exact ⟨q, by rw [List.getElem?_cons_succ] at hq; exact hq, hlt⟩
theorem candAt_hit {xs : XM} {u t fi : Nat} {p : Addr × FM} (hp : xs[fi]? = some p) (hb : ∀ j, j < fi → belowAt xs u t j) (hn : ¬ belowAt xs u t fi) : candAt u t xs = if p.2.lu ≤ u then [p] else [] := by
  have hl : fi ≤ xs.length := Nat.le_of_lt (List.getElem?_eq_some_iff.mp hp).1
  rw [candAt, find_at hl hb hn, hp]
  show List.filter _ [p] = _
  by_cases h : p.2.lu ≤ u <;> simp [h]
theorem candAt_miss {xs : XM} {u t fi : Nat} (hp : fi = xs.length) (hb : ∀ j, j < fi → belowAt xs u t j) (hn : ¬ belowAt xs u t fi) : candAt u t xs = [] := by
  rw [candAt, find_at (Nat.le_of_eq hp) hb hn, hp, List.getElem?_eq_none (Nat.le_refl _)]
  rfl
theorem candAt_1 {ls : Lvls} {i u t : Nat} {la : Addr} {xs : XM} {ys : List (Addr × FM)} (hq : ls[i + 1]? = some (la, xs)) (h : candAt u t xs = ys) :
    ([1 + i].flatMap fun k => (candAt u t ((ls.map (·.2)).getD k [])).map fun p => (k, p)) = ys.map fun p => (i + 1, p) := by
  rw [List.flatMap_cons, List.flatMap_nil, List.append_nil, Nat.add_comm 1 i, List.getD_eq_getElem?_getD, List.getElem?_map, hq]
  show List.map _ (candAt u t xs) = _
  rw [h]
theorem cand_spec (w : World) (V : View) (x o : Addr) (ls : Lvls) (u t : Nat) (tk : Tok) (hv : IsVer w.params V x o ls) (hz : ls.length ≤ 1000) (hzz : ∀ p ∈ ls, p.2.length ≤ 1000) (hl : 0 < ls.length)
    (hok : ∀ k la xs, k ≠ 0 → ls[k]? = some (la, xs) → LvlOk xs) (hu : u < 5) (ht : t ∈ tagL) :
    Spec w 10 407 [.ref x, .bytes (U u ++ le8 t).toArray tk] [] V (fun r new => ∃ d cs n, r = .ref d ∧ (∀ p ∈ ctLed d cs n, p ∈ new) ∧ cs.map (fun c => (c.lv, c.f)) = cands ls u t) := by
  have hv' := hv
  obtain ⟨dx, n, t1, t2, t3, t4, t5, t6, tn, fa, nf, tr, sc, ns, tta, ttb, sa, v1, v2, v3, v4, v5, v6, v7⟩ := hv'
  have hul := U_len u
  obtain ⟨la0, xs0, hq0⟩ : ∃ la xs, ls[0]? = some (la, xs) := ⟨ls[0].1, ls[0].2, List.getElem?_eq_getElem hl⟩
  have hm0 := List.mem_of_getElem? hq0
  have if0 := v6 _ hm0
  dsimp only at if0
  have hz0 : xs0.length ≤ 1000 := hzz _ hm0
  ((try unfold PSpec); unfold Spec; rintro κ A₀ base h₀ L m mean mg mb ⟨hp₀, gn₀, dr₀, tk₀, os₀⟩ Q E B₀ F₀ X₀ N₀ T₀ hk₀ hV₀ hd₀ hu₀ hret₀; refine wpAny_call ?_; k_dflt (refine' enter B₀ F₀ X₀ N₀ T₀ hV₀ hret₀ ?kA ?kF ?kK ?k6 ?k7 ?k8 ?k9 ?kB ?_ ?c5 ?c2 ?c3 ?c4; (case kA => exact rfl); (case kF => exact rfl); (case kK => exact hk₀); (case k6 => k_is); (case k7 => k_is); (case k8 => ktr_room); (case k9 => exact BindsTo.of_eq rfl); (case c5 => decide); (case kB => exact locs rfl); (case c2 => exact rfl); (case c3 => exact rfl); (case c4 => exact rfl); k_whole; clear hV₀ hret₀; intro mB g L' h₁ hV hret FG F' N' lt' B' X' T'; clear X₀ T₀ N₀ F₀ B₀; (try dsimp only); (try k_fold); refine gen_QE ?_; intro Q9 E9 hQ9 pE9))
  (repeat' walk_at "STEP")
  rename Fr _ _ _ _ => F5
  rename News _ _ _ _ => N5
  have e9 : q9 = (la0, xs0) := by
    have hq9' : ls[0]? = some q9 := hq9
    rw [hq0] at hq9'
    exact (Option.some.inj hq9').symm
  subst e9
  dsimp only at F5 if9 hz9
  refine For_turns F5 ?_
  (repeat' walk_at "STEP")
  rename Fr _ _ _ _ => F6
  rename News _ _ _ _ => N6
  refine turns_range (σ := List CT × Nat) (n := xs0.length) (fun _ => []) (fun c => ctLed l5 c.1 c.2) [Str.ofString "i", Str.ofString "meta"]
    (fun i c => c.1.length ≤ i ∧ c.1.map (fun c => (c.lv, c.f)) = ((xs0.reverse.take i).filter (span u)).map fun p => (0, p)) ([], 0) rfl (by assumption) (rsm_down hz0) (rsz_down _) F6 N6 (fun _ h => nomatch h) ⟨Nat.le_refl _, rfl⟩ ?_ ?_
  · rintro i t ⟨cs, n⟩ um hh tk5 own I hi hPA hw hI ho F' N'
    have hP1 := hPA.1
    have hP2 := hPA.2
    clear hPA
    refine gen_turn ?_; intro Q8 hQ8
    clear F6 N6
    dsimp only at hP1 hP2 N' ho hw
    dsimp only [kstB] at F'
    (repeat' ((fail_if_success (with_reducible show wpAny _ _ (call (Value.builtin "list.append") _) _ _ _)); (fail_if_success (with_reducible show wpAny _ _ (setItem _ _ _) _ _ _)); walk_at "STEP"))
    · have hr : xs0.reverse[i]? = some p9 := by
        rw [List.getElem?_reverse hi, show xs0.length - 1 - i = ((xs0.length : Int) - 1 + (i : Int) * -1).toNat by omega]
        exact hp9
      refine append_ct (by assumption) (⟨t5, 0, _, p9⟩ : CT) N' ho lt5 (by omega) ?_
      intro h' F' N'
      (repeat' walk_at "STEP")
      obtain ⟨oI, hoI⟩ := hI
      have hsp : span u p9 = true := decide_eq_true ⟨le_of (by assumption) j7 hu, le_of (by assumption) hu j8⟩
      refine TurnE.intro (cs ++ [⟨t5, 0, _, p9⟩], n + 1) (by assumption) N' (fun p hp => List.mem_append_left _ hp) (fun p hp => List.mem_append_right _ hp) (ctw hw (Nat.ne_of_gt (lt5 _ (List.mem_append_left _ hoI)))) (fun _ h => nomatch h) (by ksw_same) ⟨by rw [List.length_append, List.length_singleton]; omega, ?_⟩
      rw [take_step _ hr, if_pos hsp, List.map_append, List.map_append, hP2]
      rfl
    · have hr : xs0.reverse[i]? = some p9 := by
        rw [List.getElem?_reverse hi, show xs0.length - 1 - i = ((xs0.length : Int) - 1 + (i : Int) * -1).toNat by omega]
        exact hp9
      have hsp : ¬ span u p9 = true := fun h => nle_of (by assumption) hu j8 (of_decide_eq_true h).2
      refine TurnE.intro (cs, n) (by assumption) (by assumption) (fun p hp => List.mem_append_left _ hp) (fun p hp => List.mem_append_right _ hp) (fun p hp h => hw p hp (List.mem_singleton.mp h)) (fun _ h => nomatch h) (by ksw_same) ⟨by dsimp only; omega, ?_⟩
      rw [take_step _ hr, if_neg hsp, List.append_nil]
      exact hP2
    · have hr : xs0.reverse[i]? = some p9 := by
        rw [List.getElem?_reverse hi, show xs0.length - 1 - i = ((xs0.length : Int) - 1 + (i : Int) * -1).toNat by omega]
        exact hp9
      have hsp : ¬ span u p9 = true := fun h => nle_of (by assumption) j7 hu (of_decide_eq_true h).1
      refine TurnE.intro (cs, n) (by assumption) (by assumption) (fun p hp => List.mem_append_left _ hp) (fun p hp => List.mem_append_right _ hp) (fun p hp h => hw p hp (List.mem_singleton.mp h)) (fun _ h => nomatch h) (by ksw_same) ⟨by dsimp only; omega, ?_⟩
      rw [take_step _ hr, if_neg hsp, List.append_nil]
      exact hP2
  · rintro ⟨cs, n⟩ um hh tk5 hPA F' N'
    have hP1 := hPA.1
    have hP2 := hPA.2
    clear hPA
    clear F6 N6
    dsimp only at hP1 hP2 N'
    dsimp only [kstB] at F'
    rw [List.take_of_length_le (by simp)] at hP2
    (repeat' walk_at "STEP")
    rename Fr _ _ _ _ => F5
    refine For_turns F5 ?_
    (repeat' walk_at "STEP")
    rename Fr _ _ _ _ => F6
    rename News _ _ _ _ => N6
    refine turns_range (σ := List CT × Nat) (n := ls.length - 1) (fun _ => []) (fun c => ctLed l5 c.1 c.2) [Str.ofString "level", Str.ofString "files", Str.ofString "i"]
      (fun i c => c.1.length ≤ 1000 + i ∧ c.1.map (fun c => (c.lv, c.f)) = (((xs0.reverse).filter (span u)).map fun p => (0, p)) ++ (List.range' 1 i).flatMap fun k => (candAt u t ((ls.map (·.2)).getD k [])).map fun p => (k, p)) (cs, n) rfl (by assumption) (rsm_up hz) (rsz_up hl) F6 N6 (fun _ h => nomatch h) ⟨by dsimp only; omega, by dsimp only; rw [hP2]; simp⟩ ?_ ?_
    · rintro i t' ⟨cs, n⟩ um hh tk5 own I hi hPA hw hI ho F' N'
      have hP1 := hPA.1
      have hP2 := hPA.2
      clear hPA
      refine gen_turn ?_; intro Q8 hQ8
      clear F6 N6
      dsimp only at hP1 hP2 N' ho hw
      dsimp only [kstB] at F'
      (refine pk ?_; intro G9 hG9)
      obtain ⟨la2, xs2, hq2⟩ : ∃ la xs, ls[i + 1]? = some (la, xs) := ⟨ls[i+1].1, ls[i+1].2, List.getElem?_eq_getElem (by omega)⟩
      (refine hG9 ?_; clear hG9)
      have hm2 := List.mem_of_getElem? hq2
      have if2 := v6 _ hm2
      dsimp only at if2
      have hz2 : xs2.length ≤ 1000 := hzz _ hm2
      have hk2 := hok _ _ _ (Nat.succ_ne_zero i) hq2
      have ea : (1 : Int) + (i : Int) * 1 = ((i + 1 : Nat) : Int) := by omega
      rw [ea]
      (repeat' ((fail_if_success (with_reducible show wpAny _ _ (call (Value.builtin "list.append") _) _ _ _)); (fail_if_success (with_reducible show wpAny _ _ (setItem _ _ _) _ _ _)); walk_at "STEP"))
      refine' Spec.useA (find_spec w V _ _ xs2 u _ _ if2 v3 hz2 hul ht (LvlOk.mono hk2 (meta5 if2) hu)) ?kV ?_
      ((try (case kV => exact view_keep hV (by assumption))); intro r9 new9 h9 tk9 F' N' kp9 fr9 P9; (try k_sweep))
      (refine pk ?_; intro G9 hG9)
      obtain ⟨fi, ft, rfl, fl, fb, fn⟩ := P9
      (refine hG9 ?_; clear hG9)
      dsimp only
      k_fold
      (repeat' ((fail_if_success (with_reducible show wpAny _ _ (call (Value.builtin "list.append") _) _ _ _)); (fail_if_success (with_reducible show wpAny _ _ (setItem _ _ _) _ _ _)); walk_at "STEP"))
      · have hp2 : xs2[fi]? = some p9 := hp9
        have hlu : p9.2.lu ≤ u := by
          rename _ = true => hbo
          have e9 : ∀ q, xs2[fi]? = some q → p9 = q := fun q h => Option.some.inj (hp2.symm.trans h)
          have hle := le_of hbo (by assumption) hu
          exact Nat.le_trans (Nat.le_of_eq (congrArg (fun q : Addr × FM => q.2.lu) (e9 _ (by assumption)))) hle
        refine append_ct (by assumption) (⟨t5, i + 1, t', p9⟩ : CT) (fun p hp => N' p ((List.mem_cons.mp hp).elim (fun e => e ▸ .head _) fun hp => .tail _ (List.mem_append_right _ hp))) ho (fun p hp => lt5 p (List.mem_append_right _ hp)) (by omega) ?_
        intro h' F' N'
        (repeat' walk_at "STEP")
        obtain ⟨oI, hoI⟩ := hI
        refine TurnE.intro (cs ++ [⟨t5, i + 1, t', p9⟩], n + 1) (by assumption) N' (fun p hp => List.mem_append_left _ hp) (fun p hp => List.mem_append_right _ hp) (ctw hw (Nat.ne_of_gt (lt5 _ (List.mem_append_right _ (List.mem_append_left _ hoI))))) (fun _ h => nomatch h) (by ksw_same) ⟨by rw [List.length_append, List.length_singleton]; omega, ?_⟩
        rw [List.range'_1_concat, List.flatMap_append, List.map_append, hP2, candAt_1 hq2 (candAt_hit hp2 fb fn), if_pos hlu, ← List.append_assoc]
        rfl
      · have hp2 : xs2[fi]? = some p9 := hp9
        have hlu : ¬ p9.2.lu ≤ u := nle_of (by assumption) j7 hu
        refine TurnE.intro (cs, n) (by assumption) (by assumption) (fun p hp => List.mem_append_right _ (List.mem_append_left _ hp)) (fun p hp => List.mem_append_right _ (List.mem_append_right _ hp)) (fun p hp h => hw p hp (List.mem_singleton.mp h)) (fun _ h => nomatch h) (by ksw_same) ⟨by dsimp only; omega, ?_⟩
        rw [List.range'_1_concat, List.flatMap_append, hP2, candAt_1 hq2 (candAt_hit hp2 fb fn), if_neg hlu, List.map_nil, List.append_nil]
      · refine TurnE.intro (cs, n) (by assumption) (by assumption) (fun p hp => List.mem_append_right _ (List.mem_append_left _ hp)) (fun p hp => List.mem_append_right _ (List.mem_append_right _ hp)) (fun p hp h => hw p hp (List.mem_singleton.mp h)) (fun _ h => nomatch h) (by ksw_same) ⟨by dsimp only; omega, ?_⟩
        rw [List.range'_1_concat, List.flatMap_append, hP2, candAt_1 hq2 (candAt_miss (by omega) fb fn), List.map_nil, List.append_nil]
    · rintro ⟨cs, n⟩ um hh tk5 hPA F' N'
      have hP1 := hPA.1
      have hP2 := hPA.2
      clear hPA
      clear F6 N6
      dsimp only at hP1 hP2 N'
      dsimp only [kstB] at F'
      (repeat' walk_at "STEP")
      ((try dsimp only); refine hret _ _ _ _ kp (fresh_of (by assumption)) kF kN ?_)
      refine ⟨l5, cs, n, rfl, fun p hp => hp, ?_⟩
      rw [hP2, cands, List.getD_eq_getElem?_getD, List.getElem?_map, hq0]
      rfl
end
section
/-- a dict by ints, frozen -/
def IsD (w : World) (V : View) (d : Addr) (kvs : List (Int × Value)) : Prop := (d == sysModules) = false ∧ ∃ o, V d o ∧ o.IsDictOf (intKind prg w) kvs
theorem IsD.mono {w : World} {V V' : View} {d : Addr} {kvs : List (Int × Value)} (h : IsD w V d kvs) (k : ∀ a o, V a o → V' a o) : IsD w V' d kvs := by
  obtain ⟨h1, o, h2, h3⟩ := h
  exact ⟨h1, o, k _ _ h2, h3⟩
section
variable {V : View} {g : Heap} {L d : Addr} {m : Str → Option Value} {w : World} {A : Around} {E : Value → Shared → Prop} {s : Shared} {kvs : List (Int × Value)} {i : Int} {t : Tok}
theorem IsD.at (F : Fr g L s.heap m) (hV : ∀ a o, V a o → g.get? a = some o) (hd : IsD w V d kvs) : s.heap.DictOf (intKind prg w) d kvs := by
  obtain ⟨_, o, h1, h2⟩ := hd
  exact Heap.dictOf_iff.mpr ⟨o, F.keep _ _ (hV _ _ h1), h2⟩
theorem getMethod_d {pl : Sem Bool} {Q : Value × List Value → Shared → Prop} (F : Fr g L s.heap m) (hV : ∀ a o, V a o → g.get? a = some o) (hd : IsD w V d kvs) (h : Q (.builtin "dict.get", [.ref d]) s) :
    wpAny (model prg w) A (getMethod (.ref d) "get" pl) Q E s :=
  getMethod_builtin (hd.at F hV).typeIs PySem.F.plainAttrs_dict PySem.F.slot_dict_get PySem.F.type_dict_get (hd.at F hV).mapOf.noDict h
theorem get_d {Q : Value → Shared → Prop} {dflt v : Value} (F : Fr g L s.heap m) (hV : ∀ a o, V a o → g.get? a = some o) (hd : IsD w V d kvs) (hv : valueAt kvs i = some v) (h : ∀ k, Q v { s with toks := k }) :
    wpAny (model prg w) A (call (.builtin "dict.get") [.ref d, .int i t, dflt]) Q E s :=
  call_meetsIn PySem.F.slot_dict_get (hd.at F hV).typeIs PySem.F.entry_dict_get (PySem.F.args_dict_get_3 _ _ _) (meets_dict_get_default (intKind prg w) d (intKind_is prg w i t) hd.1 dflt) ⟨_, (hd.at F hV).mapOf, by rw [hv]; exact h _⟩
end
theorem tup_of_view {V : View} {g h : Heap} {L l : Addr} {m : Str → Option Value} {vs : List Value} {n : Nat} (F : Fr g L h m) (hV : ∀ a o, V a o → g.get? a = some o) (h1 : V l { cls := .type "tuple", data := .seq vs.toArray n }) : IsTup h l vs.toArray :=
  ⟨_, F.keep _ _ (hV _ _ h1), rfl, n, rfl⟩
theorem U_eq : ∀ i < 5, ∀ j < 5, ((U i).toArray.toList == (U j).toArray.toList) = decide (i = j) := by decide +kernel
/-- what a table tells: nothing, or an entry of a user key, a tag, a text -/
abbrev Ent := Option (Nat × Nat × List UInt8)
def IsEnt (V : View) (v : Value) : Ent → Prop
  | none => v = .none
  | some (u, t, b) => ∃ a n1 n2, v = .ref a ∧ V a (tupOf #[.bytes (U u ++ le8 t).toArray n1, .bytes b.toArray n2]) ∧ u < 5 ∧ t ∈ tagL
def getP (ca : Int → Ent) (u : Nat) : List (Nat × Addr × FM) → Bool × Int × List UInt8
  | [] => (false, 0, [])
  | c :: r => match ca c.2.2.num with
    | none => getP ca u r
    | some (u', t, b) => if u' = u then (if t % 256 = 0 then (true, 0, []) else (true, 1, b)) else getP ca u r
theorem cands_mem {ls : Lvls} {u t : Nat} {c : Nat × Addr × FM} (h : c ∈ cands ls u t) : ∃ p ∈ ls, c.2 ∈ p.2 := by
  have key : ∀ k (y : Addr × FM), y ∈ (ls.map (·.2)).getD k [] → ∃ p ∈ ls, y ∈ p.2 := by
    intro k y hy
    rw [List.getD_eq_getElem?_getD, List.getElem?_map] at hy
    cases hk : ls[k]? with
    | none => rw [hk] at hy; simp at hy
    | some p => rw [hk] at hy; exact ⟨p, List.mem_of_getElem? hk, by simpa using hy⟩
  unfold cands at h
  rcases List.mem_append.mp h with h | h
  · obtain ⟨y, hy, rfl⟩ := List.mem_map.mp h
    exact key 0 y (List.mem_reverse.mp (List.mem_filter.mp hy).1)
  · obtain ⟨k, _, hk⟩ := List.mem_flatMap.mp h
    obtain ⟨y, hy, rfl⟩ := List.mem_map.mp hk
    refine key k y ?_
    have h1 := (List.mem_filter.mp hy).1
    rw [Option.mem_toList] at h1
    exact List.mem_of_find?_eq_some h1
theorem getP_skip {ca : Int → Ent} {u : Nat} {c : Nat × Addr × FM} {r : List (Nat × Addr × FM)} (h : ca c.2.2.num = none) : getP ca u (c :: r) = getP ca u r := by
  rw [getP, h]
theorem getP_other {ca : Int → Ent} {u eu et : Nat} {eb : List UInt8} {c : Nat × Addr × FM} {r : List (Nat × Addr × FM)} (h : ca c.2.2.num = some (eu, et, eb)) (hne : eu ≠ u) : getP ca u (c :: r) = getP ca u r := by
  rw [getP, h]
  exact if_neg hne
theorem getP_hit {ca : Int → Ent} {u eu et : Nat} {eb : List UInt8} {c : Nat × Addr × FM} {r : List (Nat × Addr × FM)} (h : ca c.2.2.num = some (eu, et, eb)) (he : eu = u) : getP ca u (c :: r) = if et % 256 = 0 then (true, 0, []) else (true, 1, eb) := by
  rw [getP, h]
  exact if_pos he
theorem get_spec (w : World) (V : View) (x o cd : Addr) (ls : Lvls) (kvs : List (Int × Value)) (ca : Int → Ent) (u q : Nat) (tu tq : Tok) (hv : IsVer w.params V x o ls) (hz : ls.length ≤ 1000) (hzz : ∀ p ∈ ls, p.2.length ≤ 1000) (hl : 0 < ls.length)
    (hok : ∀ k la xs, k ≠ 0 → ls[k]? = some (la, xs) → LvlOk xs) (hu : u < 5) (hq : q ∈ seqL) (hdc : IsD w V cd kvs) (hca : ∀ p ∈ ls, ∀ y ∈ p.2, ∃ v, valueAt kvs y.2.num = some v ∧ IsEnt V v (ca y.2.num)) :
    Spec w 20 414 [.ref x, .ref cd, .bytes (U u).toArray tu, .int (q : Int) tq] [] V (fun r new => ∃ a n1 n2, r = .ref a ∧ (a, tupOf #[.bool (getP ca u (cands ls u (q * 256 + 1))).1, .int (getP ca u (cands ls u (q * 256 + 1))).2.1 n1, .bytes (getP ca u (cands ls u (q * 256 + 1))).2.2.toArray n2]) ∈ new) := by
  have hv' := hv
  obtain ⟨dx, n, t1, t2, t3, t4, t5, t6, tn, fa, nf, tr, sc, ns, tta, ttb, sa, v1, v2, v3, v4, v5, v6, v7⟩ := hv'
  have hul := U_len u
  have hqt := (seq_tag q hq).2.1
  ((try unfold PSpec); unfold Spec; rintro κ A₀ base h₀ L m mean mg mb ⟨hp₀, gn₀, dr₀, tk₀, os₀⟩ Q E B₀ F₀ X₀ N₀ T₀ hk₀ hV₀ hd₀ hu₀ hret₀; refine wpAny_call ?_; k_dflt (refine' enter B₀ F₀ X₀ N₀ T₀ hV₀ hret₀ ?kA ?kF ?kK ?k6 ?k7 ?k8 ?k9 ?kB ?_ ?c5 ?c2 ?c3 ?c4; (case kA => exact rfl); (case kF => exact rfl); (case kK => exact hk₀); (case k6 => k_is); (case k7 => k_is); (case k8 => ktr_room); (case k9 => exact BindsTo.of_eq rfl); (case c5 => decide); (case kB => exact locs rfl); (case c2 => exact rfl); (case c3 => exact rfl); (case c4 => exact rfl); k_whole; clear hV₀ hret₀; intro mB g L' h₁ hV hret FG F' N' lt' B' X' T'; clear X₀ T₀ N₀ F₀ B₀; (try dsimp only); (try k_fold); refine gen_QE ?_; intro Q9 E9 hQ9 pE9))
  (repeat' walk_at "STEP")
  rename Fr _ _ _ _ => F5
  refine For_turns F5 ?_
  (repeat' walk_at "STEP")
  refine' Spec.useA (cand_spec w V x o ls u _ _ hv hz hzz hl hok hu hqt) ?kV ?_
  ((try (case kV => exact view_keep hV (by assumption))); intro r9 new9 h9 tk9 F' N' kp9 fr9 P9; (try k_sweep))
  (refine pk ?_; intro G9 hG9)
  obtain ⟨d, cs, nn, rfl, hd5, hcs⟩ := P9
  (refine hG9 ?_; clear hG9)
  dsimp only
  rename Fr _ _ _ _ => F7
  rename News _ _ _ _ => N7
  have hd6 : (d, listOf (cs.map fun c => Value.ref c.adr).toArray nn) ∈ new9 ++ [] := List.mem_append_left _ (hd5 _ (.head _))
  refine turns_led (σ := Unit) (fun _ => []) (fun _ => cs.map ctObj) [Str.ofString "level", Str.ofString "meta", Str.ofString "entry", Str.ofString "there", Str.ofString "its_seq", Str.ofString "kind"] (fun i _ => getP ca u (cands ls u (q * 256 + 1)) = getP ca u ((cands ls u (q * 256 + 1)).drop i)) () rfl F7 N7 hd6 (fun p hp => List.mem_append_left _ (hd5 p (.tail _ hp))) (fun _ h => nomatch h) rfl ?_ ?_
  · rintro i v _ um hh tk6 own I hi hP hw hI hl' F' N'
    refine gen_turn ?_; intro Q8 hQ8
    clear F7 N7
    dsimp only [kstB] at F'
    (refine pk ?_; intro G9 hG9)
    obtain ⟨c, hc, rfl⟩ := Option.map_eq_some_iff.mp ((List.getElem?_map).symm.trans hi)
    (refine hG9 ?_; clear hG9)
    have hcm := List.mem_of_getElem? hc
    have N8 : News g L' hh (ctObj c :: (own ++ cs.map ctObj)) := fun p hp => (List.mem_cons.mp hp).elim (fun e => e ▸ N' _ (List.mem_append_right _ (List.mem_map_of_mem hcm))) (N' p)
    clear N'
    have hcc : (c.lv, c.f) ∈ cands ls u (q * 256 + 1) := hcs ▸ List.mem_map_of_mem (f := fun c : CT => (c.lv, c.f)) hcm
    (refine pk ?_; intro G9 hG9)
    obtain ⟨pl, hpl, hpf⟩ := cands_mem hcc
    have if9 := v6 _ hpl
    obtain ⟨dx9, n9, t91, t92, t93, t94, tn9, ts9, ta9, tb9, j1, j2, j3, j4, j5, j6, j7, j8⟩ := if9.2 _ hpf
    (refine hG9 ?_; clear hG9)
    dsimp only at j1
    repeat' ((fail_if_success (with_reducible show wpAny _ _ (getMethod (Value.ref _) _ _) _ _ _)); walk_at "STEP")
    refine getMethod_d (by assumption) hV hdc ?_
    repeat' ((fail_if_success (with_reducible show wpAny _ _ (call (Value.builtin "dict.get") _) _ _ _)); walk_at "STEP")
    (refine pk ?_; intro G9 hG9)
    obtain ⟨ve, hve, hce⟩ := hca _ hpl _ hpf
    (refine hG9 ?_; clear hG9)
    k_dflt (refine' get_d ?kF hV hdc hve ?_; (case kF => k_asm); k_whole)
    intro tk7
    have hstep : (cands ls u (q * 256 + 1)).drop i = (c.lv, c.f) :: (cands ls u (q * 256 + 1)).drop (i + 1) := by
      have hi' : (cands ls u (q * 256 + 1))[i]? = some (c.lv, c.f) := by rw [← hcs, List.getElem?_map, hc]; rfl
      obtain ⟨hlt, e⟩ := List.getElem?_eq_some_iff.mp hi'
      rw [List.drop_eq_getElem_cons hlt, e]
    cases hcv : ca c.f.2.num with
    | none =>
      rw [hcv] at hce
      have hce' : ve = .none := hce
      subst hce'
      (repeat' walk_at "STEP")
      exact TurnE.intro () (by assumption) (by assumption) (fun p hp => .tail _ (List.mem_append_left _ hp)) (fun p hp => .tail _ (List.mem_append_right _ hp)) (fun p hp h => hw p hp (List.mem_singleton.mp h)) (fun _ h => nomatch h) (by ksw_same) (by rw [hP, hstep, getP_skip hcv])
    | some e =>
      (refine pk ?_; intro G9 hG9)
      obtain ⟨eu, et, eb⟩ := e
      (refine hG9 ?_; clear hG9)
      rw [hcv] at hce
      (refine pk ?_; intro G9 hG9)
      obtain ⟨ea, e1, e2, rfl, e3, e4, e5⟩ := hce
      (refine hG9 ?_; clear hG9)
      have heul := U_len eu
      (repeat' ((fail_if_success (with_reducible show wpAny _ _ (exec (Stmt.Assign _ (Expr.ListComp _ _ _ _) _) _) _ _ _)); (fail_if_success (with_reducible show wpAny _ _ (eval (Expr.ListComp _ _ _ _) _) _ _ _)); (fail_if_success (with_reducible show wpAny _ _ (call (Value.builtin "list.append") _) _ _ _)); (fail_if_success (with_reducible show wpAny _ _ (setItem _ _ _) _ _ _)); (fail_if_success (with_reducible show wpAny _ _ (subscriptTail _ _ (Value.ref _) (Value.int _ _)) _ _ _)); (fail_if_success (with_reducible show wpAny _ _ (compareOp CmpOp.In _ (Value.ref _)) _ _ _)); (fail_if_success (with_reducible show wpAny _ _ (getMethod (Value.ref _) (Str.ofString "append") _) _ _ _)); (fail_if_success (with_reducible show wpAny _ _ (call (Value.builtin "sorted") _) _ _ _)); (fail_if_success (with_reducible show wpAny _ _ (call (Value.builtin "len") [Value.ref _]) _ _ _)); (fail_if_success (with_reducible show wpAny _ _ (assign (Expr.Tuple _ _ _) _ (Value.ref _)) _ _ _)); walk_at "STEP"))
      refine item_tupleT (tup_of_view (by assumption) hV e3) (by decide) (by decide) (j := 0) rfl rfl ?_
      (repeat' walk_at "STEP")
      refine' Spec.useA (split_spec w V _ _ _ heul e5) ?kV ?_
      ((try (case kV => exact view_keep hV (by assumption))); intro r9 new9 h9 tk9 F' N' kp9 fr9 P9; (try k_sweep))
      (refine pk ?_; intro G9 hG9)
      obtain ⟨sx, sa, sb, sc', rfl, hs9⟩ := P9
      (refine hG9 ?_; clear hG9)
      dsimp only
      rename News _ _ _ _ => N7
      have N8 : News g L' h9 ((sx, tupOf #[.bytes (U eu).toArray sa, .int ((et / 256 : Nat) : Int) sb, .int ((et % 256 : Nat) : Int) sc']) :: (own ++ cs.map ctObj)) := fun p hp => (List.mem_cons.mp hp).elim (fun e => e ▸ N7 _ (List.mem_append_left _ hs9)) (fun hp => N7 p (List.mem_append_right _ (.tail _ hp)))
      clear N7
      (repeat' walk_at "STEP")
      · have he : eu = u := of_decide_eq_true ((U_eq eu e4 u hu).symm.trans (by assumption))
        ((try dsimp only); refine hret _ _ _ _ kp (fresh_of (by assumption)) kF kN ?_)
        rw [hP, hstep, getP_hit hcv he, if_pos (by omega)]
        exact ⟨_, _, _, rfl, .head _⟩
      · refine item_tupleT (tup_of_view (by assumption) hV e3) (by decide) (by decide) (j := 1) rfl rfl ?_
        (repeat' walk_at "STEP")
        have he : eu = u := of_decide_eq_true ((U_eq eu e4 u hu).symm.trans (by assumption))
        ((try dsimp only); refine hret _ _ _ _ kp (fresh_of (by assumption)) kF kN ?_)
        rw [hP, hstep, getP_hit hcv he, if_neg (by omega)]
        exact ⟨_, _, _, rfl, .head _⟩
      · have he : eu ≠ u := of_decide_eq_false ((U_eq eu e4 u hu).symm.trans (by assumption))
        exact TurnE.intro () (by assumption) (by assumption) (fun p hp => .tail _ (List.mem_append_left _ hp)) (fun p hp => .tail _ (List.mem_append_right _ hp)) (fun p hp h => hw p hp (List.mem_singleton.mp h)) (fun _ h => nomatch h) (by ksw_same) (by rw [hP, hstep, getP_other hcv he])
  · rintro _ um hh tk5 hP F' N'
    clear F7 N7
    dsimp only [kstB] at F'
    (repeat' walk_at "STEP")
    ((try dsimp only); refine hret _ _ _ _ kp (fresh_of (by assumption)) kF kN ?_)
    have hlen : (List.map (fun c : CT => Value.ref c.adr) cs).length = (cands ls u (q * 256 + 1)).length := by rw [← hcs, List.length_map, List.length_map]
    rw [hlen, List.drop_length] at hP
    rw [hP]
    exact ⟨_, _, _, rfl, .head _⟩
end
section
def numsOfL (ls : Lvls) : List Int := ls.flatMap fun p => p.2.map fun y => y.2.num
theorem take_flat {ls : Lvls} {i : Nat} {p : Addr × XM} (h : ls[i]? = some p) : numsOfL (ls.take (i + 1)) = numsOfL (ls.take i) ++ p.2.map fun y => y.2.num := by
  unfold numsOfL
  rw [List.take_add_one, h, List.flatMap_append]
  simp
theorem numsOfL_len_take (ls : Lvls) (i : Nat) : (numsOfL (ls.take i)).length ≤ (numsOfL ls).length := by
  have e : numsOfL ls = numsOfL (ls.take i) ++ numsOfL (ls.drop i) := by
    unfold numsOfL
    rw [← List.flatMap_append, List.take_append_drop]
  rw [e, List.length_append]
  omega
theorem append_end {prog : Program} {w : World} {A : Around} {E : Value → Shared → Prop} {s : Shared} {h₀ : Heap} {L D : Addr} {m : Str → Option Value} {own : Led} {its : Array Value} {n : Nat} {x : Value} {Q : Value → Shared → Prop}
    (F : Fr h₀ L s.heap m) (N : News h₀ L s.heap (own ++ [(D, listOf its n)])) (ho : ∀ p ∈ own, p.1 ≠ D) (hsz : its.size ≤ sizeLine)
    (h : ∀ h', Fr h₀ L h' m → News h₀ L h' (own ++ [(D, listOf (its.push x) (n + 1))]) → Q .none { s with heap := h' }) : wpAny (model prog w) A (call (.builtin "list.append") [.ref D, x]) Q E s :=
  append_any F N (List.mem_append_right _ (.head _)) (fun p hp => (List.mem_append.mp hp).elim (fun h => .inr ⟨List.mem_append_left _ h, ho p h⟩) fun h => .inl (List.mem_singleton.mp h)) hsz h
theorem numbers_spec (w : World) (V : View) (x o : Addr) (ls : Lvls) (hv : IsVer w.params V x o ls) (hz : (numsOfL ls).length < 64) :
    Spec w 1 442 [.ref x] [] V (fun r new => ∃ d vs ns n, r = .ref d ∧ (d, listOf vs.toArray n) ∈ new ∧ IntsAre vs ns ∧ ns.Perm (numsOfL ls) ∧ ns.Pairwise (· ≤ ·)) := by
  obtain ⟨dx, n, t1, t2, t3, t4, t5, t6, tn, fa, nf, tr, sc, ns, tta, ttb, sa, v1, v2, v3, v4, v5, v6, v7⟩ := hv
  ((try unfold PSpec); unfold Spec; rintro κ A₀ base h₀ L m mean mg mb ⟨hp₀, gn₀, dr₀, tk₀, os₀⟩ Q E B₀ F₀ X₀ N₀ T₀ hk₀ hV₀ hd₀ hu₀ hret₀; refine wpAny_call ?_; k_dflt (refine' enter B₀ F₀ X₀ N₀ T₀ hV₀ hret₀ ?kA ?kF ?kK ?k6 ?k7 ?k8 ?k9 ?kB ?_ ?c5 ?c2 ?c3 ?c4; (case kA => exact rfl); (case kF => exact rfl); (case kK => exact hk₀); (case k6 => k_is); (case k7 => k_is); (case k8 => ktr_room); (case k9 => exact BindsTo.of_eq rfl); (case c5 => decide); (case kB => exact locs rfl); (case c2 => exact rfl); (case c3 => exact rfl); (case c4 => exact rfl); k_whole; clear hV₀ hret₀; intro mB g L' h₁ hV hret FG F' N' lt' B' X' T'; clear X₀ T₀ N₀ F₀ B₀; (try dsimp only); (try k_fold); refine gen_QE ?_; intro Q9 E9 hQ9 pE9))
  (repeat' walk_at "STEP")
  rename Fr _ _ _ _ => F5
  refine For_turns F5 ?_
  (repeat' walk_at "STEP")
  rename Fr _ _ _ _ => F6
  rename News _ _ _ _ => N6
  refine turns_base (σ := List Value × Nat) (l := fa) (vs := ls.map fun p => Value.ref p.1) (fun _ => []) (fun c => [(l5, listOf c.1.toArray c.2)]) [Str.ofString "files", Str.ofString "meta"] (fun i c => IntsAre c.1 (numsOfL (ls.take i))) ([], 0) rfl ⟨_, hV _ _ v4, rfl, nf, rfl⟩ F6 N6 (fun _ h => nomatch h) .nil ?_ ?_
  · rintro i v ⟨vs, k⟩ um hh tk5 own I hi hP hw hI ho F' N'
    refine gen_turn ?_; intro Q8 hQ8
    clear F6 N6
    dsimp only at hP N' ho hw
    dsimp only [kstB] at F'
    (refine pk ?_; intro G9 hG9)
    obtain ⟨p, hp, rfl⟩ := Option.map_eq_some_iff.mp ((List.getElem?_map).symm.trans hi)
    (refine hG9 ?_; clear hG9)
    have hm := List.mem_of_getElem? hp
    have if9 := v6 _ hm
    (repeat' walk_at "STEP")
    rename Fr _ _ _ _ => F5
    refine For_turns F5 ?_
    (repeat' walk_at "STEP")
    rename Fr _ _ _ _ => F6
    rename News _ _ _ _ => N6
    have hwl : l5 ≠ I := hw (l5, listOf vs.toArray k) (.head _)
    have hown : ∀ q ∈ own, q.1 ≠ l5 := fun q hq => ho q hq _ (.head _)
    refine turns_base (σ := List Value × Nat) (l := p.1) (vs := refsOf p.2) (fun _ => []) (fun c => own ++ [(l5, listOf c.1.toArray c.2)]) [Str.ofString "meta"] (fun j c => IntsAre c.1 (numsOfL (ls.take i) ++ (p.2.take j).map fun y => y.2.num)) (vs, k) rfl (base_list hV if9) F6 N6 (fun _ h => nomatch h) (by simpa using hP) ?_ ?_
    · rintro j v ⟨vs, k⟩ um hh tk5 own' J hj hP' hw' hI' ho' F' N'
      refine gen_turn ?_; intro Q8 hQ8
      clear F6 N6
      dsimp only at hP' N' ho' hw'
      dsimp only [kstB] at F'
      (refine pk ?_; intro G9 hG9)
      obtain ⟨p9, hp9, hm9, rfl⟩ := refs_get hj
      obtain ⟨dx9, n9, t91, t92, t93, t94, tn9, ts9, ta9, tb9, j1, j2, j3, j4, j5, j6, j7, j8⟩ := if9.2 p9 hm9
      (refine hG9 ?_; clear hG9)
      have hb : vs.length < 64 := by
        have h1 := IntsAre.length hP'
        have h2 := congrArg List.length (take_flat hp)
        have h3 := numsOfL_len_take ls (i + 1)
        rw [List.length_append, List.length_map] at h1 h2
        have h4 : (p.2.take j).length ≤ p.2.length := by rw [List.length_take]; omega
        omega
      (repeat' ((fail_if_success (with_reducible show wpAny _ _ (call (Value.builtin "list.append") _) _ _ _)); (fail_if_success (with_reducible show wpAny _ _ (setItem _ _ _) _ _ _)); walk_at "STEP"))
      rename News _ _ _ _ => N8
      rw [← List.append_assoc] at N8
      refine append_end (by assumption) N8 (fun q hq => (List.mem_append.mp hq).elim (fun h => ho' q h _ (List.mem_append_right _ (.head _))) (hown q)) (by (simp only [List.size_toArray, List.length_map, List.length_append, List.length_cons, List.length_nil, sizeLine_eq]; omega)) ?_
      intro h' F' N'
      rw [List.append_assoc] at N'
      (repeat' walk_at "STEP")
      have e7 : vs.toArray.push (Value.int p9.2.num tn9) = (vs ++ [Value.int p9.2.num tn9]).toArray := by simp
      rw [e7] at N'
      refine TurnE.intro (vs ++ [Value.int p9.2.num tn9], k + 1) (by assumption) N' (fun p hp => List.mem_append_left _ hp) (fun p hp => List.mem_append_right _ hp) ?_ (fun _ h => nomatch h) (by ksw_same) ?_
      · intro q hq hq'
        have hq2 := List.mem_singleton.mp hq'
        rcases List.mem_append.mp hq with hq | hq
        · exact hw' q (List.mem_append_left _ hq) hq2
        · rw [List.mem_singleton.mp hq] at hq2
          exact hw' (l5, listOf vs.toArray k) (List.mem_append_right _ (.head _)) hq2
      · dsimp only
        rw [List.take_add_one, hp9, List.map_append, ← List.append_assoc]
        exact hP'.append (.cons _ _ .nil)
    · rintro ⟨vs, k⟩ um hh tk5 hP' F' N'
      clear F6 N6
      dsimp only at hP' N'
      dsimp only [kstB] at F'
      (repeat' walk_at "STEP")
      refine TurnE.intro (vs, k) (by assumption) (by assumption) (fun p hp => List.mem_append_left _ hp) (fun p hp => List.mem_append_right _ hp) (fun q hq h => by rw [List.mem_singleton.mp hq] at h; exact hwl (List.mem_singleton.mp h)) (fun _ h => nomatch h) (by ksw_same) ?_
      have e8 : (refsOf p.2).length = p.2.length := List.length_map ..
      rw [e8, List.take_length, ← take_flat hp] at hP'
      exact hP'
  · rintro ⟨vs, k⟩ um hh tk5 hP F' N'
    clear F6 N6
    dsimp only at hP N'
    dsimp only [kstB] at F'
    have e8 : (List.map (fun p : Addr × XM => Value.ref p.1) ls).length = ls.length := List.length_map ..
    rw [e8, List.take_length] at hP
    have hb : (numsOfL ls).length < 64 := hz
    (repeat' walk_at "STEP")
    ((try dsimp only); refine hret _ _ _ _ kp (fresh_of (by assumption)) kF kN ?_)
    exact ⟨_, _, _, _, rfl, .head _, by assumption, by assumption, by assumption⟩
end
section
theorem rsz_up' (n : Nat) : Builtin.Range.rangeSize 1 (n : Int) 1 = ((n - 1 : Nat) : Int) := by
  unfold Builtin.Range.rangeSize
  rw [if_pos (by decide)]
  split
  · rw [Int.ediv_one]; omega
  · omega
theorem rsz_0 (n : Nat) : Builtin.Range.rangeSize 0 (n : Int) 1 = (n : Int) := by
  unfold Builtin.Range.rangeSize
  rw [if_pos (by decide)]
  split
  · rw [Int.ediv_one]; omega
  · omega
theorem rsm_0 {n : Nat} (hn : n ≤ 1000) : Builtin.Range.small 0 (n : Int) 1 = true := by
  exact small_one (by omega) (by omega) (by omega) (by omega)
theorem item_ints {prog : Program} {w : World} {A : Around} {E : Value → Shared → Prop} {s : Shared} {value slice : Expr} {l : Addr} {vs : List Value} {ns : List Int} {k : Int} {u : Tok} {Q : Value → Shared → Prop}
    (hl : s.heap.IsList l vs.toArray) (hi : IntsAre vs ns) (h0 : 0 ≤ k) (h1 : k < ns.length) (hz : ns.length ≤ 1000)
    (h : ∀ t, Q (.int (ns.getD k.toNat 0) t) s)
    (hs : subscripted slice false (.ref l) (.int k u) = operate [.ref l, .int k u] (getItem (.ref l) (.int k u)) := by with_unfolding_all rfl) :
    wpAny (model prog w) A (subscriptTail value slice (.ref l) (.int k u)) Q E s := by
  have hlen := IntsAre.length hi
  have hk : k.toNat < vs.length := by omega
  have hx : vs[k.toNat]? = some vs[k.toNat] := List.getElem?_eq_getElem hk
  obtain ⟨t, ht⟩ := hi.int_at _ _ hx
  refine tail_any hl.typeIs slot_list_getitem.lookup (wpAny_getItem_list hl h0 (by omega) (x := vs[k.toNat]) (by simp [hk]) ?_) hs
  rw [ht]
  exact h t
theorem adj_lt {ns : List Int} (hp : ns.Pairwise (· ≤ ·)) (hn : ns.Nodup) {i : Nat} (hi : i + 1 < ns.length) : ns.getD i 0 < ns.getD (i + 1) 0 := by
  rw [List.getD_eq_getElem?_getD, List.getD_eq_getElem?_getD, List.getElem?_eq_getElem hi, List.getElem?_eq_getElem (by omega : i < ns.length)]
  have h1 := List.pairwise_iff_getElem.mp hp i (i + 1) (by omega) hi (by omega)
  have h2 := List.pairwise_iff_getElem.mp hn i (i + 1) (by omega) hi (by omega)
  simp only [Option.getD_some]
  omega
def ChkOk (k : Nat) (xs : XM) : Prop := (∀ p ∈ xs, ¬ cmpI (U p.2.lu) p.2.lt (U p.2.hu) p.2.ht > 0) ∧ (k = 0 → ∀ (i j : Nat) p q, i < j → xs[i]? = some p → xs[j]? = some q → p.2.num < q.2.num) ∧ (k ≠ 0 → LvlOk xs)
theorem check_spec (w : World) (V : View) (x o : Addr) (ls : Lvls) (hv : IsVer w.params V x o ls) (hz : ls.length ≤ 1000) (hzz : ∀ p ∈ ls, p.2.length ≤ 1000) (hn : (numsOfL ls).length < 64) (hnd : (numsOfL ls).Nodup)
    (hck : ∀ k p, ls[k]? = some p → ChkOk k p.2) :
    Spec w 8 456 [.ref x] [] V (fun r _ => r = .none) := by
  have hv' := hv
  obtain ⟨dx, n, t1, t2, t3, t4, t5, t6, tn, fa, nf, tr, sc, ns, tta, ttb, sa, v1, v2, v3, v4, v5, v6, v7⟩ := hv'
  have v3' := v3
  obtain ⟨odx, on, ot, ou, odu, o1, o2, o3, o4⟩ := v3'
  ((try unfold PSpec); unfold Spec; rintro κ A₀ base h₀ L m mean mg mb ⟨hp₀, gn₀, dr₀, tk₀, os₀⟩ Q E B₀ F₀ X₀ N₀ T₀ hk₀ hV₀ hd₀ hu₀ hret₀; refine wpAny_call ?_; k_dflt (refine' enter B₀ F₀ X₀ N₀ T₀ hV₀ hret₀ ?kA ?kF ?kK ?k6 ?k7 ?k8 ?k9 ?kB ?_ ?c5 ?c2 ?c3 ?c4; (case kA => exact rfl); (case kF => exact rfl); (case kK => exact hk₀); (case k6 => k_is); (case k7 => k_is); (case k8 => ktr_room); (case k9 => exact BindsTo.of_eq rfl); (case c5 => decide); (case kB => exact locs rfl); (case c2 => exact rfl); (case c3 => exact rfl); (case c4 => exact rfl); k_whole; clear hV₀ hret₀; intro mB g L' h₁ hV hret FG F' N' lt' B' X' T'; clear X₀ T₀ N₀ F₀ B₀; (try dsimp only); (try k_fold); refine gen_QE ?_; intro Q9 E9 hQ9 pE9))
  (repeat' walk_at "STEP")
  refine' Spec.useA (numbers_spec w V x o ls hv hn) ?kV ?_
  ((try (case kV => exact view_keep hV (by assumption))); intro r9 new9 h9 tk9 F' N' kp9 fr9 P9; (try k_sweep))
  (refine pk ?_; intro G9 hG9)
  obtain ⟨d, vs, ns, nn, rfl, hd5, hi5, hp5, ho5⟩ := P9
  (refine hG9 ?_; clear hG9)
  dsimp only
  have hnd5 : ns.Nodup := hp5.nodup_iff.mpr hnd
  have hl5 := hp5.length_eq
  rename Fr _ _ _ _ => F5
  rename News _ _ _ _ => N7
  have N8 : News g L' h9 [(d, listOf vs.toArray nn)] := fun p hp => by rw [List.mem_singleton.mp hp]; exact N7 _ (List.mem_append_left _ hd5)
  clear N7
  (repeat' walk_at "STEP")
  rename Fr _ _ _ _ => F5
  refine For_turns F5 ?_
  (repeat' walk_at "STEP")
  rename Fr _ _ _ _ => F6
  rename News _ _ _ _ => N6
  refine turns_range (σ := Unit) (n := ns.length - 1) (fun _ => []) (fun _ => [(d, listOf vs.toArray nn)]) [Str.ofString "i"] (fun _ _ => True) () rfl (by assumption) (small_one (by omega) (by omega) (by omega) (by omega)) (rsz_up' _) F6 N6 (fun _ h => nomatch h) trivial ?_ ?_
  · rintro i t _ um hh tk5 own I hi _ hw hI ho F' N'
    refine gen_turn ?_; intro Q8 hQ8
    clear F6 N6
    dsimp only [kstB] at F'
    have hlis : hh.IsList d vs.toArray := ⟨_, (N' _ (List.mem_append_right _ (.head _))).1, rfl, nn, rfl⟩
    (repeat' walk_at "STEP")
    · exfalso
      have ad := adj_lt ho5 hnd5 (i := i) (by omega)
      have e1 : (1 + (i : Int) * 1 - 1).toNat = i := by omega
      have e2 : (1 + (i : Int) * 1).toNat = i + 1 := by omega
      rename ns.getD _ 0 = ns.getD _ 0 => hbad
      rw [e1, e2] at hbad
      omega
    · exact TurnE.intro () (by assumption) (by assumption) (fun p hp => List.mem_append_left _ hp) (fun p hp => List.mem_append_right _ hp) (fun p hp h => hw p hp (List.mem_singleton.mp h)) (fun _ h => nomatch h) (by ksw_same) trivial
  · rintro _ um hh tk5 _ F' N'
    clear F6 N6
    dsimp only [kstB] at F'
    (repeat' walk_at "STEP")
    rename Fr _ _ _ _ => F5
    refine For_turns F5 ?_
    (repeat' walk_at "STEP")
    rename Fr _ _ _ _ => F6
    rename News _ _ _ _ => N6
    refine turns_range (σ := Unit) (n := ls.length) (fun _ => []) (fun _ => []) [Str.ofString "level", Str.ofString "files", Str.ofString "i", Str.ofString "meta", Str.ofString "before"] (fun _ _ => True) () rfl (by assumption) (rsm_0 hz) (rsz_0 _) F6 News.nil (fun _ h => nomatch h) trivial ?_ ?_
    · rintro lv t _ um hh tk5 own I hi _ hw hI ho F' N'
      refine gen_turn ?_; intro Q8 hQ8
      clear F6 N6
      simp only [List.append_nil] at N'
      dsimp only [kstB] at F'
      have elv : (0 : Int) + (lv : Int) * 1 = (lv : Int) := by omega
      rw [elv]
      (refine pk ?_; intro G9 hG9)
      obtain ⟨q9, hq9⟩ : ∃ q, ls[lv]? = some q := ⟨ls[lv], List.getElem?_eq_getElem hi⟩
      have hm9 := List.mem_of_getElem? hq9
      have if9 := v6 _ hm9
      have hz9 := hzz _ hm9
      obtain ⟨c1, c2, c3⟩ := hck _ _ hq9
      (refine hG9 ?_; clear hG9)
      (repeat' walk_at "STEP")
      rename Fr _ _ _ _ => F5
      refine For_turns F5 ?_
      (repeat' walk_at "STEP")
      rename Fr _ _ _ _ => F6
      rename News _ _ _ _ => N6
      refine turns_range (σ := Unit) (n := q9.2.length) (fun _ => []) (fun _ => own) [Str.ofString "i", Str.ofString "meta", Str.ofString "before"] (fun _ _ => True) () rfl (by assumption) (rsm_0 hz9) (rsz_0 _) F6 N6 (fun _ h => nomatch h) trivial ?_ ?_
      · rintro i t _ um hh tk5 own' J hi' _ hw' hI' ho' F' N'
        refine gen_turn ?_; intro Q8 hQ8
        clear F6 N6
        dsimp only [kstB] at F'
        have ei : (0 : Int) + (i : Int) * 1 = (i : Int) := by omega
        rw [ei]
        (repeat' walk_at "STEP")
        · exact absurd (by assumption) (c1 _ hm9)
        · exact TurnE.intro () (by assumption) (by assumption) (fun p hp => List.mem_append_left _ hp) (fun p hp => List.mem_append_right _ hp) (fun p hp h => hw' p hp (List.mem_singleton.mp h)) (fun _ h => nomatch h) (by ksw_same) trivial
        · exfalso
          rename q9.2[((i : Nat) : Int).toNat]? = some _ => hA
          rename q9.2[(((i : Nat) : Int) - 1).toNat]? = some _ => hB
          have := c2 (by omega) _ _ _ _ (by omega) hB hA
          omega
        · exact TurnE.intro () (by assumption) (by assumption) (fun p hp => List.mem_append_left _ hp) (fun p hp => List.mem_append_right _ hp) (fun p hp h => hw' p hp (List.mem_singleton.mp h)) (fun _ h => nomatch h) (by ksw_same) trivial
        · exfalso
          rename q9.2[((i : Nat) : Int).toNat]? = some _ => hA
          rename q9.2[(((i : Nat) : Int) - 1).toNat]? = some _ => hB
          have h1 := (c3 (by omega)).2 _ _ _ _ (by omega) hB hA
          have h2 := ge_of (by assumption) (by assumption) (by assumption)
          omega
        · exact TurnE.intro () (by assumption) (by assumption) (fun p hp => List.mem_append_left _ hp) (fun p hp => List.mem_append_right _ hp) (fun p hp h => hw' p hp (List.mem_singleton.mp h)) (fun _ h => nomatch h) (by ksw_same) trivial
      · rintro _ um hh tk5 _ F' N'
        clear F6 N6
        dsimp only [kstB] at F'
        (repeat' walk_at "STEP")
        exact TurnE.intro () (by assumption) (by assumption) (fun p hp => hp) (fun _ h => nomatch h) (fun _ h => nomatch h) (fun _ h => nomatch h) (by ksw_same) trivial
    · rintro _ um hh tk5 _ F' N'
      clear F6 N6
      dsimp only [kstB] at F'
      (repeat' walk_at "STEP")
      ((try dsimp only); refine hret _ _ _ _ kp (fresh_of (by assumption)) kF kN ?_)
      rfl
end
section
theorem enter_cls {w : World} {A₀ A : Around} {s : Shared} {base h₀ : Heap} {outer : List PySem.Env} {L C : Addr} {m : Str → Option Value} {env : PySem.Env} {V : View}
    {name qual : Str} {params : Arguments} {body : List Stmt} {scope : Scope} {dV kV doc pm cdv ct oc : Value} {an od : Option Addr} {osl : Array (Option Value)} {f : Addr} {vs : List Value} {bindsOf : Addr → List (Str × Value)}
    {mean : ExcName → Option Value} {mg mb : Str → Option Value} {Post : Value → Led → Prop} {Q E : Value → Shared → Prop}
    (B : Below A₀ base outer h₀) (F : Fr h₀ L s.heap m) (X : (MineHd.hdx.heap_1_1 w.params).In h₀) (T : Top MineHd.hdx.view_1_2 (looseW MineHd.hdx.view_1_2 []) mean mg mb h₀)
    (hV : ∀ a o, V a o → (hideAll s.heap (([] : Led).map (·.1))).get? a = some o) (hret : Ret h₀ L m (hideAll s.heap (([] : Led).map (·.1))) Post Q s)
    (hA : A.frames = some (env :: outer)) (hf : env.frame = some L) (hke : env.scope.kind = .function)
    (hm : makesIn (MineHd.hdx.heap_1_1 w.params) C = true) (hi : findIn (MineHd.hdx.heap_1_1 w.params) (.ref C) "__init__" = some (some (.ref f))) (hfn : typeIn (MineHd.hdx.heap_1_1 w.params) (.ref f) = some (.type "function"))
    (ho : (MineHd.hdx.heap_1_1 w.params).lookup f = some ⟨oc, od, .func (fnOf name qual params body scope dV kV doc pm an cdv ct), osl⟩) (hcd : codeIn (MineHd.hdx.heap_1_1 w.params) cdv qual = true) (hroom : A.depth + 1 < recursionLimit)
    (hbind : ∀ x s, BindsTo s (fnOf name qual params body scope dV kV doc pm an cdv ct) ⟨.ref x :: vs, []⟩ (bindsOf x)) (hloc : ∀ x, ∀ y ∈ bindsOf x, scope.names.lookup y.1 = some .local)
    (h : ∀ g L' h₁ x dx sh (s₁ : Shared) Q', (∀ a o, V a o → g.get? a = some o) → Ret h₀ L m g (fun v t => v = .none ∧ Post (.ref x) t) Q' ⟨sh, s.gens, s.drawn, s.toks, s.os⟩ → Fr h₀ L g m → Fr g L' h₁ (fun y => (bindsOf x).reverse.lookup y) → News g L' h₁ [(x, instObj C dx), (dx, emptyDict)] → dx < x → x < L' → Below (A.under (.builtin "type.__call__" ⟨.ref C :: vs, []⟩)) base (env :: outer) g → (MineHd.hdx.heap_1_1 w.params).In g → Top MineHd.hdx.view_1_2 (looseW MineHd.hdx.view_1_2 []) mean mg mb g →
      wpAny (model prg w) ((A.under (.builtin "type.__call__" ⟨.ref C :: vs, []⟩)).deeper (envOf qual scope L' f cdv)) (execs body (envOf qual scope L' f cdv))
        (fun fl s' => LeaveK h₀ L m g (fun r s'' => (∀ b o, g.get? b = some o → s''.heap.get? b = some o) → match r with | .ok (.ret v) => Q' v s'' | .ok _ => False | .error e => E e s'') (match fl with | .ret v => v | _ => .none) s')
        (fun e s' => wpAny (model prg w) ((A.under (.builtin "type.__call__" ⟨.ref C :: vs, []⟩)).deeper (envOf qual scope L' f cdv)) (leaving (envOf qual scope L' f cdv) e) (fun _ s'' => E e s'') (fun e' s'' => E e' s'') s')
        ⟨h₁, s.gens, s.drawn, s.toks + (bindsOf x).length, s.os⟩)
    (hcell : ∀ x ∈ scope.names, x.2 ≠ .cell) (hco : scope.isCoroutine = false) (hgen : scope.isGenerator = false) (hk : scope.kind = .function) :
    codeAny (model prg w) A (.call (.ref C) ⟨vs, []⟩) (fun r s' => match r with | .ok (.ret v) => Q v s' | .ok _ => False | .error e => E e s') s := by
  obtain ⟨hh, gs, dr, tk, os⟩ := s
  have X₀ := X.keeps F.keep
  refine make_core (makes_of X₀ hm) (looks_findIn X₀ hi) (fun self => bind_fn X₀ self hfn) (.inl rfl) ?_
  have N' : News h₀ L ((hh.push emptyDict).push (instObj C hh.objs.size)) [(hh.objs.size + 1, instObj C hh.objs.size), (hh.objs.size, emptyDict)] := by
    have := ((News.nil (h₀ := h₀) (h := hh) (L := L)).push F emptyDict).push (F.push _) (instObj C hh.objs.size)
    rwa [Heap.size_push] at this
  have keep : ∀ b o, hh.get? b = some o → (hideAll ((hh.push emptyDict).push (instObj C hh.objs.size)) ([((hh.objs.size + 1 : Addr), instObj C hh.objs.size), ((hh.objs.size : Addr), emptyDict)].map (·.1))).get? b = some o := fun b o e => by
    have hlt := Heap.lt_size e
    refine hideAll_get _ (Heap.get?_push_of_some _ (Heap.get?_push_of_some _ e)) fun hb => ?_
    rcases List.mem_cons.mp hb with e1 | hb
    · exact absurd hlt (by rw [e1]; exact Nat.not_lt_of_le (Nat.le_succ _))
    · exact absurd hlt (by rw [List.mem_singleton.mp hb]; exact Nat.lt_irrefl _)
  refine codeAny_mono (enter (Q := fun v s' => v = .none ∧ Q (.ref (hh.objs.size + 1)) s') (E := E) (Post := fun v t => v = .none ∧ Post (.ref (hh.objs.size + 1)) t) (touch := [(hh.objs.size + 1, instObj C hh.objs.size), (hh.objs.size, emptyDict)]) (V := V)
    B ((F.push _).push _) X N' T (fun a o e => keep a o (hV a o e)) ?_ hA hf hke ho hcd hroom (hbind _ _) (hloc _) ?_ hcell hco hgen hk) ?_
  · intro r touch' h' tk' kp fr F' N' p
    exact ⟨p.1, hret _ touch' h' tk' (fun b o e => kp b o (keep b o e)) (fun q hq => by
      cases e : (hideAll hh (([] : Led).map (·.1))).get? q.1 with
      | none => rfl
      | some o => have := fr q hq; rw [keep _ _ e] at this; cases this) F' N' p.2⟩
  · intro _ g L' h₁ hV' hret' FG F' N' lt' B' X' T'
    exact h g L' h₁ (hh.objs.size + 1) hh.objs.size _ ⟨h₁, gs, dr, tk, os⟩ _ hV' hret' FG F' N' (Nat.lt_succ_self _) (lt' _ (.head _)) B' X' T'
  · intro r s' z
    rcases r with e | (v | _ | _ | _) <;> exact z
end
section
local macro_rules | `(tactic| k_all) => `(tactic| assumption)
abbrev heapOf {g h : Heap} {L : Addr} {m : Str → Option Value} (_ : Fr g L h m) : Heap := h
abbrev VN (V : View) (new : Led) : View := fun a o => V a o ∨ (a, o) ∈ new
abbrev noL : List Addr → Led := fun as => as.map fun a => (a, listOf #[] 0)
theorem noL_mem {as : List Addr} {a : Addr} (h : a ∈ as) : (a, listOf #[] 0) ∈ noL as := List.mem_map_of_mem (f := fun a => (a, listOf #[] 0)) h
/-- a version's head on the ledger: itself, its dict, the list of its levels, its score -/
inductive VerHd (P : Params) (new : Led) (x o fa : Addr) (as : List Addr) : Prop
  | mk (dx : Addr) (n : Nat) (t1 : Tok) (t2 : Tok) (t3 : Tok) (t4 : Tok) (t5 : Tok) (t6 : Tok) (tn : Tok) (nf : Nat) (tr : Tok) (sc : Addr) (ns : Tok) (ta : Tok) (tb : Tok) (p1_ : (x, instObj 459 dx) ∈ new) (p2_ : (dx, dictOf [fe P "num_levels" t1 (.int (as.length : Int) tn), fe P "order" t2 (.ref o), fe P "files" t3 (.ref fa), fe P "refs" t4 (.int 0 tr), fe P "score" t5 (.ref sc), fe P "score_level" t6 (.int (-1) ns)] n) ∈ new) (p3_ : (fa, listOf (as.map Value.ref).toArray nf) ∈ new) (p4_ : (sc, tupOf #[.int 0 ta, .int 1 tb]) ∈ new) : VerHd P new x o fa as
theorem verNew_spec (w : World) (V : View) (o : Addr) (n : Nat) (tn : Tok) (hn : n ≤ 100) :
    Spec w 6 459 [.int (n : Int) tn, .ref o] [] V (fun r new => ∃ x fa as, r = .ref x ∧ VerHd w.params new x o fa as ∧ as.length = n ∧ as.Pairwise (· < ·) ∧ ∀ a ∈ as, (a, listOf #[] 0) ∈ new) := by
  unfold Spec
  rintro κ A₀ base h₀ L m mean mg mb ⟨hp₀, gn₀, dr₀, tk₀, os₀⟩ Q E B₀ F₀ X₀ N₀ T₀ hk₀ hV₀ hd₀ hu₀ hret₀
  refine wpAny_call ?_
  k_dflt (refine' enter_cls B₀ F₀ X₀ T₀ hV₀ hret₀ ?kA ?kF ?kK ?kM ?kI ?kT ?k6 ?k7 ?k8 ?k9 ?kB ?_ ?c5 ?c2 ?c3 ?c4; (case kA => exact rfl); (case kF => exact rfl); (case kK => exact hk₀); (case kM => k_is); (case kI => k_is); (case kT => k_is); (case k6 => k_is); (case k7 => k_is); (case k8 => (dsimp only [ktr, ktrTop]; omega)); (case k9 => exact fun _ _ => BindsTo.of_eq rfl); (case c5 => decide); (case kB => exact fun _ => locs rfl); (case c2 => exact rfl); (case c3 => exact rfl); (case c4 => exact rfl); k_whole; clear hV₀ hret₀; intro g L' h₁ sx sdx sh s₁ Q' hV hret FG F' N' hdx hxL B' X' T'; (k_lt2 hdx); (k_lt2 hxL); clear X₀ T₀ N₀ F₀ B₀; (try dsimp only); (try k_fold))
  (repeat' walk_at "STEP")
  rename Fr _ _ _ _ => F5
  refine For_turns F5 ?_
  (repeat' walk_at "STEP")
  rename Fr _ _ _ _ => F6
  rename News _ _ _ _ => N6
  (refine pk ?_; intro G9 hG9)
  obtain ⟨fa, rfl⟩ : ∃ fa : Addr, fa = l5 := ⟨_, rfl⟩
  obtain ⟨k1, k2, k3, N7⟩ : ∃ k1 k2 k3, News g L' (heapOf F6) [(fa, listOf #[] 0), (sx, instObj 459 sdx), (sdx, dictOf [fe w.params "num_levels" k1 (.int (n : Int) tn), fe w.params "order" k2 (.ref o), fe w.params "files" k3 (.ref fa)] 3)] := ⟨_, _, _, N6⟩
  (refine hG9 ?_; clear hG9)
  clear N6
  have hf1 := l15
  refine turns_range (σ := List Addr × Nat) (n := n) (fun _ => []) (fun c => (fa, listOf (c.1.map Value.ref).toArray c.2) :: (sx, instObj 459 sdx) :: (sdx, dictOf [fe w.params "num_levels" k1 (.int (n : Int) tn), fe w.params "order" k2 (.ref o), fe w.params "files" k3 (.ref fa)] 3) :: noL c.1) [Str.ofString "level"]
    (fun i c => c.1.length = i ∧ c.1.Pairwise (· < ·) ∧ ∀ a ∈ c.1, fa < a) ([], 0) rfl (by assumption) (rsm_0 (by omega)) (rsz_0 _) F6 N7 (fun _ h => nomatch h) ⟨rfl, .nil, fun _ h => nomatch h⟩ ?_ ?_
  · rintro i t ⟨as, k⟩ um hh tk5 own I hi hPA hw hI ho F' N'
    have hP1 := hPA.1
    have hP2 := hPA.2.1
    have hP3 := hPA.2.2
    clear hPA
    refine gen_turn ?_; intro Q8 hQ8
    clear F6 N7
    dsimp only at hP1 hP2 hP3 N' ho hw
    dsimp only [kstB] at F'
    (repeat' ((fail_if_success (with_reducible show wpAny _ _ (call (Value.builtin "list.append") _) _ _ _)); (fail_if_success (with_reducible show wpAny _ _ (setItem _ _ _) _ _ _)); walk_at "STEP"))
    refine append_any (news' := own ++ ((fa, listOf ((as ++ [l5]).map Value.ref).toArray (k + 1)) :: (sx, instObj 459 sdx) :: (sdx, dictOf [fe w.params "num_levels" k1 (.int (n : Int) tn), fe w.params "order" k2 (.ref o), fe w.params "files" k3 (.ref fa)] 3) :: noL (as ++ [l5]))) (by assumption) (by assumption) (.tail _ (List.mem_append_right _ (.head _))) ?_ (by (simp only [List.size_toArray, List.length_map, List.length_append, List.length_cons, List.length_nil, sizeLine_eq]; omega)) ?_
    · intro p hp
      rcases List.mem_append.mp hp with hp | hp
      · exact .inr ⟨.tail _ (List.mem_append_left _ hp), ho p hp _ (.head _)⟩
      rcases List.mem_cons.mp hp with rfl | hp
      · left; simp
      rcases List.mem_cons.mp hp with rfl | hp
      · exact .inr ⟨.tail _ (List.mem_append_right _ (.tail _ (.head _))), Nat.ne_of_lt hf1.1⟩
      rcases List.mem_cons.mp hp with rfl | hp
      · exact .inr ⟨.tail _ (List.mem_append_right _ (.tail _ (.tail _ (.head _)))), Nat.ne_of_lt hf1.2⟩
      (refine pk ?_; intro G9 hG9)
      obtain ⟨b, hb, rfl⟩ := List.mem_map.mp hp
      (refine hG9 ?_; clear hG9)
      rcases List.mem_append.mp hb with hb | hb
      · exact .inr ⟨.tail _ (List.mem_append_right _ (.tail _ (.tail _ (.tail _ (noL_mem hb))))), Nat.ne_of_gt (hP3 b hb)⟩
      · rw [List.mem_singleton.mp hb]
        exact .inr ⟨.head _, Nat.ne_of_gt (l15 _ (List.mem_append_right _ (.head _)))⟩
    intro h' F' N'
    (repeat' walk_at "STEP")
    refine TurnE.intro (as ++ [l5], k + 1) (by assumption) N' (fun p hp => List.mem_append_left _ hp) (fun p hp => List.mem_append_right _ hp) ?_ (fun _ h => nomatch h) (by ksw_same) ⟨by rw [List.length_append, List.length_singleton, hP1], ?_, ?_⟩
    · intro p hp hpI
      have e := List.mem_singleton.mp hpI
      have hI' : ∀ q ∈ own, q.1 < l5 := fun q hq => l15 q (List.mem_append_left _ hq)
      rcases List.mem_cons.mp hp with rfl | hp
      · exact hw (fa, listOf (as.map Value.ref).toArray k) (.head _) e
      rcases List.mem_cons.mp hp with rfl | hp
      · exact hw _ (.tail _ (.head _)) e
      rcases List.mem_cons.mp hp with rfl | hp
      · exact hw _ (.tail _ (.tail _ (.head _))) e
      (refine pk ?_; intro G9 hG9)
      obtain ⟨b, hb, rfl⟩ := List.mem_map.mp hp
      (refine hG9 ?_; clear hG9)
      rcases List.mem_append.mp hb with hb | hb
      · exact hw _ (.tail _ (.tail _ (.tail _ (noL_mem hb)))) e
      · obtain ⟨oI, hoI⟩ := hI
        have := hI' _ hoI
        rw [← e, List.mem_singleton.mp hb] at this
        exact absurd this (Nat.lt_irrefl _)
    · refine List.pairwise_append.mpr ⟨hP2, .cons (fun _ h => nomatch h) .nil, fun a ha b hb => ?_⟩
      rw [List.mem_singleton.mp hb]
      exact l15 _ (List.mem_append_right _ (.tail _ (.tail _ (.tail _ (noL_mem ha)))))
    · intro a ha
      rcases List.mem_append.mp ha with ha | ha
      · exact hP3 a ha
      · rw [List.mem_singleton.mp ha]
        exact l15 _ (List.mem_append_right _ (.head _))
  · rintro ⟨as, k⟩ um hh tk5 hPA F' N'
    have hP1 := hPA.1
    have hP2 := hPA.2.1
    have hP3 := hPA.2.2
    clear hPA
    clear F6 N7
    dsimp only at hP1 hP2 hP3 N'
    dsimp only [kstB] at F'
    obtain ⟨tl, htl⟩ : ∃ tl, tl = noL as := ⟨_, rfl⟩
    rw [← htl] at N'
    have hgt : ∀ p ∈ tl, fa < p.1 := by
      rw [htl]
      intro p hp
      (refine pk ?_; intro G9 hG9)
      obtain ⟨a, ha, rfl⟩ := List.mem_map.mp hp
      (refine hG9 ?_; clear hG9)
      exact hP3 a ha
    have q1 : ∀ p ∈ tl, p.1 ≠ fa := fun p hp => Nat.ne_of_gt (hgt p hp)
    have q2 : ∀ p ∈ tl, p.1 ≠ sx := fun p hp => Nat.ne_of_gt (Nat.lt_trans l15.1 (hgt p hp))
    have q3 : ∀ p ∈ tl, p.1 ≠ sdx := fun p hp => Nat.ne_of_gt (Nat.lt_trans l15.2 (hgt p hp))
    dsimp only [fe] at N'
    (repeat' walk_at "STEP")
    have e1 : @LT.lt Nat _ fa t5 := lt5 _ (.head _)
    have e2 : @LT.lt Nat _ sx t5 := lt5 _ (.tail _ (.head _))
    have e3 : @LT.lt Nat _ sdx t5 := lt5 _ (.tail _ (.tail _ (.head _)))
    (repeat' walk_at "STEP")
    ((try dsimp only); refine hret _ _ _ _ kp (fresh_of (by assumption)) kF kN ?_)
    subst hP1
    exact ⟨rfl, sx, fa, as, rfl, ⟨sdx, _, _, _, _, _, _, _, _, _, _, _, _, _, _, .tail _ (.tail _ (.head _)), .tail _ (.tail _ (.tail _ (.head _))), .tail _ (.head _), .head _⟩, rfl, hP2, fun a ha => .tail _ (.tail _ (.tail _ (.tail _ (htl ▸ noL_mem ha))))⟩
end
section
local macro_rules | `(tactic| k_all) => `(tactic| assumption)
abbrev DOs := List (Addr × Obj)
abbrev refsP (ds : DOs) : List Value := ds.map fun p => Value.ref p.1
def DOk (w : World) (kvs : List (Int × Value)) (p : Addr × Obj) : Prop := p.2.IsDictOf (intKind prg w) kvs ∧ (p.1 == sysModules) = false
/-- a maker on the ledger -/
abbrev mkL (P : Params) (x dx dl al v : Addr) (k1 k2 k3 k4 : Tok) (dels adds : DOs) (c1 c2 : Nat) : Led :=
  (al, listOf (refsP adds).toArray c2) :: (dl, listOf (refsP dels).toArray c1) :: (x, instObj 515 dx) :: (dx, dictOf [fe P "base" k1 (.ref v), fe P "dropped" k2 (.bool false), fe P "deleted" k3 (.ref dl), fe P "added" k4 (.ref al)] 4) :: (dels ++ adds)
structure MkOrd (x dx dl al : Addr) (dels adds : DOs) : Prop where
  o1 : @LT.lt Nat _ dl al
  o2 : @LT.lt Nat _ x dl
  o3 : @LT.lt Nat _ dx x
  o4 : ((dels ++ adds).map (·.1)).Nodup
  o5 : ∀ p ∈ dels ++ adds, @LT.lt Nat _ al p.1
theorem MkOrd.offs {x dx dl al : Addr} {dels adds : DOs} (h : MkOrd x dx dl al dels adds) : (∀ p ∈ dels ++ adds, p.1 ≠ al) ∧ (∀ p ∈ dels ++ adds, p.1 ≠ dl) ∧ (∀ p ∈ dels ++ adds, p.1 ≠ x) ∧ (∀ p ∈ dels ++ adds, p.1 ≠ dx) ∧ al ≠ dl ∧ x ≠ al ∧ x ≠ dl ∧ dx ≠ al ∧ dx ≠ dl := by
  have o1 := h.o1
  have o2 := h.o2
  have o3 := h.o3
  refine ⟨fun p hp => ?_, fun p hp => ?_, fun p hp => ?_, fun p hp => ?_, Nat.ne_of_gt o1, Nat.ne_of_lt (Nat.lt_trans o2 o1), Nat.ne_of_lt o2, Nat.ne_of_lt (Nat.lt_trans o3 (Nat.lt_trans o2 o1)), Nat.ne_of_lt (Nat.lt_trans o3 o2)⟩ <;> have h5 := h.o5 p hp
  · exact Nat.ne_of_gt h5
  · exact Nat.ne_of_gt (Nat.lt_trans o1 h5)
  · exact Nat.ne_of_gt (Nat.lt_trans o2 (Nat.lt_trans o1 h5))
  · exact Nat.ne_of_gt (Nat.lt_trans o3 (Nat.lt_trans o2 (Nat.lt_trans o1 h5)))
/-- all that a maker's ledger holds -/
theorem mkL_cases {P : Params} {x dx dl al v : Addr} {k1 k2 k3 k4 : Tok} {dels adds : DOs} {c1 c2 : Nat} {R : Addr × Obj → Prop} (h1 : R (al, listOf (refsP adds).toArray c2)) (h2 : R (dl, listOf (refsP dels).toArray c1)) (h3 : R (x, instObj 515 dx))
    (h4 : R (dx, dictOf [fe P "base" k1 (.ref v), fe P "dropped" k2 (.bool false), fe P "deleted" k3 (.ref dl), fe P "added" k4 (.ref al)] 4)) (h5 : ∀ p ∈ dels, R p) (h6 : ∀ p ∈ adds, R p) : ∀ p ∈ mkL P x dx dl al v k1 k2 k3 k4 dels adds c1 c2, R p := by
  intro p hp
  rcases List.mem_cons.mp hp with rfl | hp
  · exact h1
  rcases List.mem_cons.mp hp with rfl | hp
  · exact h2
  rcases List.mem_cons.mp hp with rfl | hp
  · exact h3
  rcases List.mem_cons.mp hp with rfl | hp
  · exact h4
  exact (List.mem_append.mp hp).elim (h5 p) (h6 p)
inductive MkPost (w : World) (v : Addr) (ls : Lvls) (r : Value) (new : Led) : Prop
  | mk (x dx dl al : Addr) (k1 k2 k3 k4 : Tok) (dels adds : DOs) (c1 c2 : Nat) (e1 : r = .ref x) (e2 : new = mkL w.params x dx dl al v k1 k2 k3 k4 dels adds c1 c2) (e3 : MkOrd x dx dl al dels adds) (e4 : dels.length = ls.length) (e5 : adds.length = ls.length) (e6 : ∀ p ∈ dels ++ adds, DOk w [] p) : MkPost w v ls r new
theorem mkNew_spec (w : World) (V : View) (v o : Addr) (ls : Lvls) (hv : IsVer w.params V v o ls) (hn : ls.length ≤ 100) :
    Spec w 6 515 [.ref v] [] V (MkPost w v ls) := by
  obtain ⟨dx, n, t1, t2, t3, t4, t5', t6, tn, fa, nf, tr, sc, ns, tta, ttb, sa, v1, v2, v3, v4, v5, v6, v7⟩ := hv
  unfold Spec
  rintro κ A₀ base h₀ L m mean mg mb ⟨hp₀, gn₀, dr₀, tk₀, os₀⟩ Q E B₀ F₀ X₀ N₀ T₀ hk₀ hV₀ hd₀ hu₀ hret₀
  refine wpAny_call ?_
  k_dflt (refine' enter_cls B₀ F₀ X₀ T₀ hV₀ hret₀ ?kA ?kF ?kK ?kM ?kI ?kT ?k6 ?k7 ?k8 ?k9 ?kB ?_ ?c5 ?c2 ?c3 ?c4; (case kA => exact rfl); (case kF => exact rfl); (case kK => exact hk₀); (case kM => k_is); (case kI => k_is); (case kT => k_is); (case k6 => k_is); (case k7 => k_is); (case k8 => (dsimp only [ktr, ktrTop]; omega)); (case k9 => exact fun _ _ => BindsTo.of_eq rfl); (case c5 => decide); (case kB => exact fun _ => locs rfl); (case c2 => exact rfl); (case c3 => exact rfl); (case c4 => exact rfl); k_whole; clear hV₀ hret₀; intro g L' h₁ sx sdx sh s₁ Q' hV hret FG F' N' hdx hxL B' X' T'; (k_lt2 hdx); (k_lt2 hxL); clear X₀ T₀ N₀ F₀ B₀; (try dsimp only); (try k_fold))
  (repeat' walk_at "STEP")
  rename Fr _ _ _ _ => F5
  refine For_turns F5 ?_
  (repeat' walk_at "STEP")
  rename Fr _ _ _ _ => F6
  rename News _ _ _ _ => N6
  (refine pk ?_; intro G9 hG9)
  obtain ⟨dl, al, k1, k2, k3, k4, hl1, hl2, N7⟩ : ∃ dl al k1 k2 k3 k4, (dl < al ∧ sx < al ∧ sdx < al) ∧ (sx < dl ∧ sdx < dl) ∧ News g L' (heapOf F6) (mkL w.params sx sdx dl al v k1 k2 k3 k4 [] [] 0 0) := ⟨_, _, _, _, _, _, l15, by assumption, N6⟩
  (refine hG9 ?_; clear hG9)
  clear N6
  refine turns_range (σ := DOs × DOs × Nat × Nat) (n := ls.length) (fun _ => []) (fun c => mkL w.params sx sdx dl al v k1 k2 k3 k4 c.1 c.2.1 c.2.2.1 c.2.2.2) [Str.ofString "level"]
    (fun i c => c.1.length = i ∧ c.2.1.length = i ∧ MkOrd sx sdx dl al c.1 c.2.1 ∧ ∀ p ∈ c.1 ++ c.2.1, DOk w [] p) ([], [], 0, 0) rfl (by assumption) (rsm_0 (by omega)) (rsz_0 _) F6 N7 (fun _ h => nomatch h) ⟨rfl, rfl, ⟨hl1.1, hl2.1, hdx, .nil, fun _ h => nomatch h⟩, fun _ h => nomatch h⟩ ?_ ?_
  · rintro i t ⟨dels, adds, c1, c2⟩ um hh tk5 own I hi hPA hw hI ho F' N'
    have hP1 := hPA.1
    have hP2 := hPA.2.1
    have hP3 := hPA.2.2.1
    have hP4 := hPA.2.2.2
    clear hPA
    refine gen_turn ?_; intro Q8 hQ8
    clear F6 N7
    dsimp only at hP1 hP2 hP3 hP4 N' ho hw
    dsimp only [kstB] at F'
    (repeat' ((fail_if_success (with_reducible show wpAny _ _ (call (Value.builtin "list.append") _) _ _ _)); (fail_if_success (with_reducible show wpAny _ _ (setItem _ _ _) _ _ _)); walk_at "STEP"))
    rename_i d1 hh1 ob1 F1 N1 hlo hso _ _ hio _
    (refine pk ?_; intro G9 hG9)
    obtain ⟨f1, f2, f3, f4, f5, f6, f7, f8, f9⟩ := hP3.offs
    (refine hG9 ?_; clear hG9)
    have gal : @LT.lt Nat _ al d1 := hlo _ (List.mem_append_right _ (.head _))
    have gdl : @LT.lt Nat _ dl d1 := hlo _ (List.mem_append_right _ (.tail _ (.head _)))
    have ge : ∀ p ∈ dels ++ adds, p.1 < d1 := fun p hp => hlo p (List.mem_append_right _ (.tail _ (.tail _ (.tail _ (.tail _ hp)))))
    have go : ∀ p ∈ own, p.1 < d1 := fun p hp => hlo p (List.mem_append_left _ hp)
    refine append_any (news' := own ++ mkL w.params sx sdx dl al v k1 k2 k3 k4 (dels ++ [(d1, ob1)]) adds (c1 + 1) c2) F1 N1 (.tail _ (List.mem_append_right _ (.tail _ (.head _)))) ?_ (by (simp only [List.size_toArray, List.length_map, List.length_append, List.length_cons, List.length_nil, sizeLine_eq]; omega)) ?_
    · intro p hp
      rcases List.mem_append.mp hp with hp | hp'
      · exact .inr ⟨.tail _ (List.mem_append_left _ hp), ho p hp _ (.tail _ (.head _))⟩
      clear hp
      revert p
      refine mkL_cases ?_ ?_ ?_ ?_ ?_ ?_
      · exact .inr ⟨.tail _ (List.mem_append_right _ (.head _)), f5⟩
      · left; simp
      · exact .inr ⟨.tail _ (List.mem_append_right _ (.tail _ (.tail _ (.head _)))), f7⟩
      · exact .inr ⟨.tail _ (List.mem_append_right _ (.tail _ (.tail _ (.tail _ (.head _))))), f9⟩
      rotate_left
      · exact fun p hp => .inr ⟨.tail _ (List.mem_append_right _ (.tail _ (.tail _ (.tail _ (.tail _ (List.mem_append_right _ hp)))))), f2 p (List.mem_append_right _ hp)⟩
      intro p hp
      rcases List.mem_append.mp hp with hp | hp
      · exact .inr ⟨.tail _ (List.mem_append_right _ (.tail _ (.tail _ (.tail _ (.tail _ (List.mem_append_left _ hp)))))), f2 p (List.mem_append_left _ hp)⟩
      · rw [List.mem_singleton.mp hp]
        exact .inr ⟨.head _, Nat.ne_of_gt gdl⟩
    intro h' F' N'
    clear F1 N1
    (repeat' ((fail_if_success (with_reducible show wpAny _ _ (call (Value.builtin "list.append") _) _ _ _)); (fail_if_success (with_reducible show wpAny _ _ (setItem _ _ _) _ _ _)); walk_at "STEP"))
    rename_i d2 hh2 ob2 F2 N2 hlo2 hso2 _ _ hio2 _
    have hP3' : MkOrd sx sdx dl al (dels ++ [(d1, ob1)]) adds := by
      refine ⟨hP3.o1, hP3.o2, hP3.o3, ?_, fun p hp => ?_⟩
      · have h4 := hP3.o4
        have h0 : ((dels ++ [(d1, ob1)] ++ adds).map (·.1)).Perm (d1 :: (dels ++ adds).map (·.1)) := by
          rw [List.append_assoc]
          exact (List.perm_middle (a := (d1, ob1))).map _
        refine h0.nodup_iff.mpr (List.nodup_cons.mpr ⟨fun hm => ?_, h4⟩)
        obtain ⟨p, hp, e⟩ := List.mem_map.mp hm
        have := ge p hp
        rw [e] at this
        exact absurd this (Nat.lt_irrefl _)
      · rcases List.mem_append.mp hp with hp | hp
        · rcases List.mem_append.mp hp with hp | hp
          · exact hP3.o5 p (List.mem_append_left _ hp)
          · rw [List.mem_singleton.mp hp]; exact gal
        · exact hP3.o5 p (List.mem_append_right _ hp)
    (refine pk ?_; intro G9 hG9)
    obtain ⟨f1', f2', f3', f4', f5', f6', f7', f8', f9'⟩ := hP3'.offs
    (refine hG9 ?_; clear hG9)
    have gal2 : @LT.lt Nat _ al d2 := hlo2 _ (List.mem_append_right _ (.head _))
    have ge2 : ∀ p ∈ (dels ++ [(d1, ob1)]) ++ adds, p.1 < d2 := fun p hp => hlo2 p (List.mem_append_right _ (.tail _ (.tail _ (.tail _ (.tail _ hp)))))
    have go2 : ∀ p ∈ own, p.1 < d2 := fun p hp => hlo2 p (List.mem_append_left _ hp)
    refine append_any (news' := own ++ mkL w.params sx sdx dl al v k1 k2 k3 k4 (dels ++ [(d1, ob1)]) (adds ++ [(d2, ob2)]) (c1 + 1) (c2 + 1)) F2 N2 (.tail _ (List.mem_append_right _ (.head _))) ?_ (by (simp only [List.size_toArray, List.length_map, List.length_append, List.length_cons, List.length_nil, sizeLine_eq]; omega)) ?_
    · intro p hp
      rcases List.mem_append.mp hp with hp | hp'
      · exact .inr ⟨.tail _ (List.mem_append_left _ hp), ho p hp _ (.head _)⟩
      clear hp
      revert p
      refine mkL_cases ?_ ?_ ?_ ?_ ?_ ?_
      · left; simp
      · exact .inr ⟨.tail _ (List.mem_append_right _ (.tail _ (.head _))), f5'.symm⟩
      · exact .inr ⟨.tail _ (List.mem_append_right _ (.tail _ (.tail _ (.head _)))), f6'⟩
      · exact .inr ⟨.tail _ (List.mem_append_right _ (.tail _ (.tail _ (.tail _ (.head _))))), f8'⟩
      · exact fun p hp => .inr ⟨.tail _ (List.mem_append_right _ (.tail _ (.tail _ (.tail _ (.tail _ (List.mem_append_left _ hp)))))), f1' p (List.mem_append_left _ hp)⟩
      intro p hp
      rcases List.mem_append.mp hp with hp | hp
      · exact .inr ⟨.tail _ (List.mem_append_right _ (.tail _ (.tail _ (.tail _ (.tail _ (List.mem_append_right _ hp)))))), f1' p (List.mem_append_right _ hp)⟩
      · rw [List.mem_singleton.mp hp]
        exact .inr ⟨.head _, Nat.ne_of_gt gal2⟩
    intro h' F' N'
    clear F2 N2
    (repeat' walk_at "STEP")
    refine TurnE.intro (dels ++ [(d1, ob1)], adds ++ [(d2, ob2)], c1 + 1, c2 + 1) (by assumption) N' (fun p hp => List.mem_append_left _ hp) (fun p hp => List.mem_append_right _ hp) ?_ (fun _ h => nomatch h) (by ksw_same) ⟨by rw [List.length_append, List.length_singleton, hP1], by rw [List.length_append, List.length_singleton, hP2], ?_, ?_⟩
    · intro p hp hpI
      replace hpI := List.mem_singleton.mp hpI
      obtain ⟨oI, hoI⟩ := hI
      revert p
      refine mkL_cases ?_ ?_ ?_ ?_ ?_ ?_
      · exact fun e => hw (al, listOf (refsP adds).toArray c2) (.head _) e
      · exact fun e => hw (dl, listOf (refsP dels).toArray c1) (.tail _ (.head _)) e
      · exact fun e => hw _ (.tail _ (.tail _ (.head _))) e
      · exact fun e => hw _ (.tail _ (.tail _ (.tail _ (.head _)))) e
      · intro p hp e
        rcases List.mem_append.mp hp with hp | hp
        · exact hw p (.tail _ (.tail _ (.tail _ (.tail _ (List.mem_append_left _ hp))))) e
        · rw [List.mem_singleton.mp hp] at e
          exact absurd (go _ hoI) (by rw [← e]; exact Nat.lt_irrefl _)
      · intro p hp e
        rcases List.mem_append.mp hp with hp | hp
        · exact hw p (.tail _ (.tail _ (.tail _ (.tail _ (List.mem_append_right _ hp))))) e
        · rw [List.mem_singleton.mp hp] at e
          exact absurd (go2 _ hoI) (by rw [← e]; exact Nat.lt_irrefl _)
    · refine ⟨hP3.o1, hP3.o2, hP3.o3, ?_, fun p hp => ?_⟩
      · have h0 : (((dels ++ [(d1, ob1)]) ++ (adds ++ [(d2, ob2)])).map (·.1)).Perm (d2 :: ((dels ++ [(d1, ob1)]) ++ adds).map (·.1)) := by
          rw [← List.append_assoc]
          exact (List.perm_append_singleton (d2, ob2) _).map _
        refine h0.nodup_iff.mpr (List.nodup_cons.mpr ⟨fun hm => ?_, hP3'.o4⟩)
        (refine pk ?_; intro G9 hG9)
        obtain ⟨p, hp, e⟩ := List.mem_map.mp hm
        (refine hG9 ?_; clear hG9)
        have := ge2 p hp
        rw [e] at this
        exact absurd this (Nat.lt_irrefl _)
      · rw [← List.append_assoc] at hp
        rcases List.mem_append.mp hp with hp | hp
        · exact hP3'.o5 p hp
        · rw [List.mem_singleton.mp hp]; exact gal2
    · intro p hp
      rcases List.mem_append.mp hp with hp | hp <;> rcases List.mem_append.mp hp with hp | hp
      · exact hP4 p (List.mem_append_left _ hp)
      · rw [List.mem_singleton.mp hp]; exact ⟨hio, hso⟩
      · exact hP4 p (List.mem_append_right _ hp)
      · rw [List.mem_singleton.mp hp]; exact ⟨hio2, hso2⟩
  · rintro ⟨dels, adds, c1, c2⟩ um hh tk5 hPA F' N'
    have hP1 := hPA.1
    have hP2 := hPA.2.1
    have hP3 := hPA.2.2.1
    have hP4 := hPA.2.2.2
    clear hPA
    clear F6 N7
    dsimp only at hP1 hP2 hP3 hP4 N'
    dsimp only [kstB] at F'
    (repeat' walk_at "STEP")
    ((try dsimp only); refine hret _ _ _ _ kp (fresh_of (by assumption)) kF kN ?_)
    exact ⟨rfl, sx, sdx, dl, al, k1, k2, k3, k4, dels, adds, c1, c2, rfl, rfl, hP3, hP1, hP2, hP4⟩
end
section
local macro_rules | `(tactic| k_all) => `(tactic| assumption)
inductive IsEdit (V : View) (e : Addr) (lv : Nat) (mt : Addr) : Prop
  | mk (de : Addr) (es : List DictEntry) (n : Nat) (ed : Addr) (ea : Addr) (tp : Addr) (k : Nat) (k' : Nat) (t : Tok) (p1_ : V e (instObj 368 de)) (p2_ : V de (dictOf es n)) (p3_ : getL (Str.ofString "deleted") es = some (some (.ref ed))) (p4_ : getL (Str.ofString "added") es = some (some (.ref ea))) (p5_ : getL (Str.ofString "reset") es = some (some (.bool false))) (p6_ : V ed (listOf (([] : List Value)).toArray k)) (p7_ : V ea (listOf [Value.ref tp].toArray k')) (p8_ : V tp (tupOf [.int (lv : Int) t, .ref mt].toArray)) : IsEdit V e lv mt
section
variable {prog : Program} {w : World} {A : Around} {E : Value → Shared → Prop} {s : Shared} {h₀ : Heap} {L d : Addr} {m : Str → Option Value} {news : Led} {o : Obj} {kvs : List (Int × Value)} {i : Int} {t : Tok} {v : Value}
theorem setItem_d {news' : Obj → Led} {Q : Unit → Shared → Prop} (F : Fr h₀ L s.heap m) (N : News h₀ L s.heap news) (hm : (d, o) ∈ news) (hd : o.IsDictOf (intKind prog w) kvs) (hsz : kvs.length ≤ sizeLine) (hsub : ∀ o', ∀ p ∈ news' o', p = (d, o') ∨ (p ∈ news ∧ p.1 ≠ d))
    (h : ∀ h' o' k, Fr h₀ L h' m → News h₀ L h' (news' o') → o'.IsDictOf (intKind prog w) (stored kvs i v) → Q () { s with heap := h', toks := k }) : wpAny (model prog w) A (setItem (.ref d) (.int i t) v) Q E s := by
  have hx := N _ hm
  refine wpAny_setItem_pairs (hsz := hsz) (intKind_is prog w i t) (Heap.dictOf_iff.mpr ⟨o, hx.1, hd⟩) fun h' hmm hs => ?_
  obtain ⟨o', ho', hd'⟩ := Heap.dictOf_iff.mp hmm
  refine h h' o' _ (F.change hs hx.2.1 hx.2.2) (fun p hp => ?_) hd'
  rcases hsub o' p hp with rfl | ⟨q, ne⟩
  · exact ⟨ho', hx.2⟩
  · exact ⟨(hs.2 _ ne).trans (N p q).1, (N p q).2⟩
theorem in_d {Q : Value → Shared → Prop} (hg : s.heap.get? d = some o) (lo : (d == sysModules) = false) (hd : o.IsDictOf (intKind prog w) kvs) (h : ∀ k, Q (.bool (valueAt kvs i).isSome) { s with toks := k }) : wpAny (model prog w) A (compareOp .In (.int i t) (.ref d)) Q E s :=
  wpAny_in_of (intKind_is prog w i t) lo (Heap.dictOf_iff.mpr ⟨o, hg, hd⟩).mapOf (h _)
theorem item_any {value slice : Expr} {l : Addr} {vs : List Value} {n k : Nat} {u : Tok} {x : Value} {Q : Value → Shared → Prop} (hg : s.heap.get? l = some (listOf vs.toArray n)) (hx : vs[k]? = some x) (hz : k ≤ 1000) (h : Q x s)
    (hs : subscripted slice false (.ref l) (.int (k : Int) u) = operate [.ref l, .int (k : Int) u] (getItem (.ref l) (.int (k : Int) u)) := by with_unfolding_all rfl) :
    wpAny (model prog w) A (subscriptTail value slice (.ref l) (.int (k : Int) u)) Q E s := by
  have hl : s.heap.IsList l vs.toArray := ⟨_, hg, rfl, n, rfl⟩
  exact tail_any hl.typeIs slot_list_getitem.lookup (wpAny_getItem_list hl (by omega) (by omega) (x := x) (by simpa using hx) h) hs
end
theorem refsP_set {adds : DOs} {lv : Nat} {a : Addr} {o1 o2 : Obj} (h : adds[lv]? = some (a, o1)) : refsP (adds.set lv (a, o2)) = refsP adds := by
  unfold refsP
  rw [List.map_set]
  refine List.ext_getElem? fun i => ?_
  rw [List.getElem?_set]
  split
  · rename_i e
    subst e
    split
    · rw [List.getElem?_map, h]; rfl
    · rename_i hl
      rw [List.getElem?_eq_none (by simpa using hl)]
  · rfl
theorem keys_inj {l : DOs} (h : (l.map (·.1)).Nodup) {i j : Nat} {p q : Addr × Obj} (hp : l[i]? = some p) (hq : l[j]? = some q) (e : p.1 = q.1) : i = j := by
  have hi : i < (l.map (·.1)).length := by rw [List.length_map]; exact (List.getElem?_eq_some_iff.mp hp).1
  refine (List.getElem?_inj hi h).mp ?_
  rw [List.getElem?_map, List.getElem?_map, hp, hq]
  exact congrArg some e
theorem MkOrd.del_ne {x dx dl al : Addr} {dels adds : DOs} (h : MkOrd x dx dl al dels adds) {lv : Nat} {a : Addr × Obj} (ha : adds[lv]? = some a) : ∀ p ∈ dels, p.1 ≠ a.1 := by
  intro p hp e
  obtain ⟨j, hj⟩ := List.mem_iff_getElem?.mp hp
  have hlt := (List.getElem?_eq_some_iff.mp hj).1
  have := keys_inj h.o4 (i := j) (j := dels.length + lv) (by rw [List.getElem?_append_left hlt]; exact hj) (by rw [List.getElem?_append_right (by omega), show dels.length + lv - dels.length = lv by omega]; exact ha) e
  omega
theorem MkOrd.add_ne {x dx dl al : Addr} {dels adds : DOs} (h : MkOrd x dx dl al dels adds) {lv : Nat} {a : Addr} {o1 o2 : Obj} (ha : adds[lv]? = some (a, o1)) : ∀ p ∈ adds.set lv (a, o2), p = (a, o2) ∨ (p ∈ adds ∧ p.1 ≠ a) := by
  intro p hp
  obtain ⟨j, hj⟩ := List.mem_iff_getElem?.mp hp
  rw [List.getElem?_set] at hj
  split at hj
  · split at hj
    · left; exact (Option.some.inj hj).symm
    · cases hj
  · rename_i hne
    refine .inr ⟨List.mem_of_getElem? hj, fun e => hne ?_⟩
    have := keys_inj h.o4 (i := dels.length + lv) (j := dels.length + j) (by rw [List.getElem?_append_right (by omega), show dels.length + lv - dels.length = lv by omega]; exact ha) (by rw [List.getElem?_append_right (by omega), show dels.length + j - dels.length = j by omega]; exact hj) e.symm
    omega
theorem MkOrd.set {x dx dl al : Addr} {dels adds : DOs} (h : MkOrd x dx dl al dels adds) {lv : Nat} {a : Addr} {o1 o2 : Obj} (ha : adds[lv]? = some (a, o1)) : MkOrd x dx dl al dels (adds.set lv (a, o2)) := by
  have e : (dels ++ adds.set lv (a, o2)).map (·.1) = (dels ++ adds).map (·.1) := by
    rw [List.map_append, List.map_append]
    congr 1
    have := congrArg (List.map fun v : Value => match v with | .ref a => a | _ => 0) (refsP_set (o2 := o2) ha)
    rw [List.map_map, List.map_map] at this
    exact this
  refine ⟨h.o1, h.o2, h.o3, e ▸ h.o4, fun p hp => ?_⟩
  have hm : p.1 ∈ (dels ++ adds).map (·.1) := e ▸ List.mem_map_of_mem hp
  obtain ⟨q, hq, eq⟩ := List.mem_map.mp hm
  rw [← eq]
  exact h.o5 q hq
theorem within_spec (w : World) (V : View) (x dx v o : Addr) (es : List DictEntry) (n lv : Nat) (t : Tok) (ls : Lvls) (hx : V x (instObj 515 dx)) (hdx : V dx (dictOf es n)) (hb : getL (Str.ofString "base") es = some (some (.ref v))) (hv : IsVer w.params V v o ls) (hlv : lv < ls.length) :
    Spec w 1 484 [.ref x, .int (lv : Int) t] [] V (fun r _ => r = .none) := by
  obtain ⟨vdx, vn, t1, t2, t3, t4, t5', t6, tn, fa, nf, tr, sc, ns, tta, ttb, sa, v1, v2, v3, v4, v5, v6, v7⟩ := hv
  ((try unfold PSpec); unfold Spec; rintro κ A₀ base h₀ L m mean mg mb ⟨hp₀, gn₀, dr₀, tk₀, os₀⟩ Q E B₀ F₀ X₀ N₀ T₀ hk₀ hV₀ hd₀ hu₀ hret₀; refine wpAny_call ?_; k_dflt (refine' enter B₀ F₀ X₀ N₀ T₀ hV₀ hret₀ ?kA ?kF ?kK ?k6 ?k7 ?k8 ?k9 ?kB ?_ ?c5 ?c2 ?c3 ?c4; (case kA => exact rfl); (case kF => exact rfl); (case kK => exact hk₀); (case k6 => k_is); (case k7 => k_is); (case k8 => ktr_room); (case k9 => exact BindsTo.of_eq rfl); (case c5 => decide); (case kB => exact locs rfl); (case c2 => exact rfl); (case c3 => exact rfl); (case c4 => exact rfl); k_whole; clear hV₀ hret₀; intro mB g L' h₁ hV hret FG F' N' lt' B' X' T'; clear X₀ T₀ N₀ F₀ B₀; (try dsimp only); (try k_fold); refine gen_QE ?_; intro Q9 E9 hQ9 pE9))
  (repeat' walk_at "STEP")
  ((try dsimp only); refine hret _ _ _ _ kp (fresh_of (by assumption)) kF kN ?_)
  rfl
theorem apply_spec (w : World) (V : View) (e x dx dl al v o mt : Addr) (k1 k2 k3 k4 : Tok) (dels adds : DOs) (c1 c2 lv : Nat) (f : FM) (ls : Lvls) (he : IsEdit V e lv mt) (hmt : IsMeta w.params V mt f) (hv : IsVer w.params V v o ls)
    (ho : MkOrd x dx dl al dels adds) (hd : dels.length = ls.length) (ha : adds.length = ls.length) (hk : ∀ p ∈ dels ++ adds, DOk w [] p) (hlv : lv < ls.length) (hz : ls.length ≤ 1000) :
    Spec w 6 491 [.ref x, .ref e] (mkL w.params x dx dl al v k1 k2 k3 k4 dels adds c1 c2) V (fun r new => ∃ a o1 o2, r = .none ∧ adds[lv]? = some (a, o1) ∧ DOk w [(f.num, .ref mt)] (a, o2) ∧ new = mkL w.params x dx dl al v k1 k2 k3 k4 dels (adds.set lv (a, o2)) c1 c2) := by
  obtain ⟨de, es, en, ed, ea, tp, ekk, ekk', ett, e1, e2, e3, e4, e5, e6, e7, e8⟩ := he
  have hv' := hv
  obtain ⟨vdx, vn, t1, t2, t3, t4, t5', t6, tn, fa, nf, tr, sc, ns, tta, ttb, sa, v1, v2, v3, v4, v5, v6, v7⟩ := hv
  obtain ⟨dx9, n9, t91, t92, t93, t94, tn9, ts9, ta9, tb9, j1, j2, j3, j4, j5, j6, j7, j8⟩ := hmt
  ((try unfold PSpec); unfold Spec; rintro κ A₀ base h₀ L m mean mg mb ⟨hp₀, gn₀, dr₀, tk₀, os₀⟩ Q E B₀ F₀ X₀ N₀ T₀ hk₀ hV₀ hd₀ hu₀ hret₀; refine wpAny_call ?_; k_dflt (refine' enter B₀ F₀ X₀ N₀ T₀ hV₀ hret₀ ?kA ?kF ?kK ?k6 ?k7 ?k8 ?k9 ?kB ?_ ?c5 ?c2 ?c3 ?c4; (case kA => exact rfl); (case kF => exact rfl); (case kK => exact hk₀); (case k6 => k_is); (case k7 => k_is); (case k8 => ktr_room); (case k9 => exact BindsTo.of_eq rfl); (case c5 => decide); (case kB => exact locs rfl); (case c2 => exact rfl); (case c3 => exact rfl); (case c4 => exact rfl); k_whole; clear hV₀ hret₀; intro mB g L' h₁ hV hret FG F' N' lt' B' X' T'; clear X₀ T₀ N₀ F₀ B₀; (try dsimp only); (try k_fold); refine gen_QE ?_; intro Q9 E9 hQ9 pE9))
  (repeat' walk_at "STEP")
  have htp : IsTup g tp [Value.int (lv : Int) ett, .ref mt].toArray := ⟨_, hV _ _ e8, rfl, _, rfl⟩
  have hle : g.IsList ed ([] : List Value).toArray := ⟨_, hV _ _ e6, rfl, ekk, rfl⟩
  have hla : g.IsList ea [Value.ref tp].toArray := ⟨_, hV _ _ e7, rfl, ekk', rfl⟩
  rename Fr _ _ _ _ => F5
  refine For_turns F5 ?_
  (repeat' walk_at "STEP")
  rename Fr _ _ _ _ => F6
  rename News _ _ _ _ => N6
  refine turns_base (σ := Unit) (l := ed) (vs := []) (fun _ => []) (fun _ => mkL w.params x dx dl al v k1 k2 k3 k4 dels adds c1 c2) [Str.ofString "level", Str.ofString "number"] (fun _ _ => True) () rfl hle F6 N6 (fun _ h => nomatch h) trivial ?_ ?_
  · intro i v _ _ _ _ _ _ hi
    simp at hi
  rintro _ um hh tk5 _ F' N'
  clear F6 N6
  dsimp only [kstB] at F'
  (repeat' walk_at "STEP")
  rename Fr _ _ _ _ => F5
  refine For_turns F5 ?_
  (repeat' walk_at "STEP")
  rename Fr _ _ _ _ => F6
  rename News _ _ _ _ => N6
  refine turns_base (σ := Unit) (l := ea) (vs := [Value.ref tp]) (fun _ => []) (fun _ => mkL w.params x dx dl al v k1 k2 k3 k4 dels adds c1 c2) [Str.ofString "level", Str.ofString "number", Str.ofString "meta"] (fun _ _ => True) () rfl hla F6 N6 (fun _ h => nomatch h) trivial ?_ ?_
  · rintro i v _ um hh tk5 own I hi _ hw hI ho' F' N'
    refine gen_turn ?_; intro Q8 hQ8
    clear F6 N6
    dsimp only [kstB] at F'
    have ev : v = .ref tp := by
      rcases i with _ | i
      · simpa using hi.symm
      · simp at hi
    subst ev
    (repeat' walk_at "STEP")
    rename News _ _ _ _ => N8
    refine' Spec.useA (within_spec w (VN V (mkL w.params x dx dl al v k1 k2 k3 k4 dels adds c1 c2)) x dx v o _ 4 lv _ ls (.inr (.tail _ (.tail _ (.head _)))) (.inr (.tail _ (.tail _ (.tail _ (.head _))))) rfl (hv'.mono fun _ _ => .inl) hlv) ?kV ?_
    case kV => exact fun a o h => h.elim (view_keep hV (by assumption) a o) (fun h => (N8 _ (List.mem_append_right _ h)).1)
    ((try (case kV => exact view_keep hV (by assumption))); intro r9 new9 h9 tk9 F' N' kp9 fr9 P9; (try k_sweep))
    (repeat' walk_at "STEP")
    exact TurnE.intro () (by assumption) (by assumption) (fun p hp => List.mem_append_right _ (List.mem_append_left _ hp)) (fun p hp => List.mem_append_right _ (List.mem_append_right _ hp)) (fun p hp h => hw p hp (List.mem_singleton.mp h)) (fun _ h => nomatch h) (by ksw_same) trivial
  rintro _ um hh tk5 _ F' N'
  clear F6 N6
  dsimp only [kstB] at F'
  (repeat' walk_at "STEP")
  rename Fr _ _ _ _ => F5
  refine For_turns F5 ?_
  (repeat' walk_at "STEP")
  rename Fr _ _ _ _ => F6
  rename News _ _ _ _ => N6
  refine turns_base (σ := Unit) (l := ed) (vs := []) (fun _ => []) (fun _ => mkL w.params x dx dl al v k1 k2 k3 k4 dels adds c1 c2) [Str.ofString "level", Str.ofString "number", Str.ofString "meta"] (fun _ _ => True) () rfl hle F6 N6 (fun _ h => nomatch h) trivial ?_ ?_
  · intro i v _ _ _ _ _ _ hi
    simp at hi
  rintro _ um hh tk5 _ F' N'
  clear F6 N6
  dsimp only [kstB] at F'
  (repeat' walk_at "STEP")
  rename Fr _ _ _ _ => F5
  refine For_turns F5 ?_
  (repeat' walk_at "STEP")
  rename Fr _ _ _ _ => F6
  rename News _ _ _ _ => N6
  (refine pk ?_; intro G9 hG9)
  obtain ⟨a1, ob1, hx1⟩ : ∃ a o, adds[lv]? = some (a, o) := ⟨adds[lv].1, adds[lv].2, List.getElem?_eq_getElem (by omega)⟩
  obtain ⟨a2, ob2, hx2⟩ : ∃ a o, dels[lv]? = some (a, o) := ⟨dels[lv].1, dels[lv].2, List.getElem?_eq_getElem (by omega)⟩
  (refine hG9 ?_; clear hG9)
  have hk1 := hk _ (List.mem_append_right _ (List.mem_of_getElem? hx1))
  have hk2 := hk _ (List.mem_append_left _ (List.mem_of_getElem? hx2))
  refine turns_base (σ := DOs) (l := ea) (vs := [Value.ref tp]) (fun _ => []) (fun c => mkL w.params x dx dl al v k1 k2 k3 k4 dels c c1 c2) [Str.ofString "level", Str.ofString "number", Str.ofString "meta"]
    (fun i c => (i = 0 → c = adds) ∧ (i = 1 → ∃ o2, DOk w [(f.num, .ref mt)] (a1, o2) ∧ c = adds.set lv (a1, o2))) adds rfl hla F6 N6 (fun _ h => nomatch h) ⟨fun _ => rfl, fun h => nomatch h⟩ ?_ ?_
  · rintro i v ads um hh tk5 own I hi hP hw hI ho' F' N'
    refine gen_turn ?_; intro Q8 hQ8
    clear F6 N6
    dsimp only [kstB] at F'
    rcases i with _ | i
    rotate_left
    · simp at hi
    have ev : v = .ref tp := by simpa using hi.symm
    subst ev
    have ead := (hP.1 rfl).symm
    subst ead
    repeat' ((fail_if_success (with_reducible show wpAny _ _ (subscriptTail _ _ (Value.ref _) (Value.int _ _)) _ _ _)); walk_at "STEP")
    rename News _ _ _ _ => N8
    have hal := (N8 _ (List.mem_append_right _ (.head _))).1
    refine item_any hal (k := lv) (x := .ref a1) (by rw [List.getElem?_map, hx1]; rfl) (by omega) ?_
    (repeat' ((fail_if_success (with_reducible show wpAny _ _ (call (Value.builtin "list.append") _) _ _ _)); (fail_if_success (with_reducible show wpAny _ _ (setItem _ _ _) _ _ _)); walk_at "STEP"))
    rename News _ _ _ _ => N9
    have hma : (a1, ob1) ∈ dels ++ adds := List.mem_append_right _ (List.mem_of_getElem? hx1)
    (refine pk ?_; intro G9 hG9)
    obtain ⟨f1, f2, f3, f4, _⟩ := ho.offs
    (refine hG9 ?_; clear hG9)
    refine setItem_d (news' := fun o' => own ++ mkL w.params x dx dl al v k1 k2 k3 k4 dels (adds.set lv (a1, o')) c1 c2) (by assumption) N9 (List.mem_append_right _ (.tail _ (.tail _ (.tail _ (.tail _ hma))))) hk1.1 (Nat.zero_le _) ?_ ?_
    · intro o' p hp
      rcases List.mem_append.mp hp with hp | hp'
      · exact .inr ⟨List.mem_append_left _ hp, ho' p hp _ (.tail _ (.tail _ (.tail _ (.tail _ hma))))⟩
      clear hp
      revert p
      refine mkL_cases ?_ ?_ ?_ ?_ ?_ ?_
      · rw [refsP_set hx1]
        exact .inr ⟨List.mem_append_right _ (.head _), (f1 _ hma).symm⟩
      · exact .inr ⟨List.mem_append_right _ (.tail _ (.head _)), (f2 _ hma).symm⟩
      · exact .inr ⟨List.mem_append_right _ (.tail _ (.tail _ (.head _))), (f3 _ hma).symm⟩
      · exact .inr ⟨List.mem_append_right _ (.tail _ (.tail _ (.tail _ (.head _)))), (f4 _ hma).symm⟩
      · exact fun p hp => .inr ⟨List.mem_append_right _ (.tail _ (.tail _ (.tail _ (.tail _ (List.mem_append_left _ hp))))), ho.del_ne hx1 p hp⟩
      · exact fun p hp => (ho.add_ne hx1 p hp).imp id fun h => ⟨List.mem_append_right _ (.tail _ (.tail _ (.tail _ (.tail _ (List.mem_append_right _ h.1))))), h.2⟩
    intro h' o' tk' F' N' hd'
    repeat' ((fail_if_success (with_reducible show wpAny _ _ (subscriptTail _ _ (Value.ref _) (Value.int _ _)) _ _ _)); walk_at "STEP")
    rename News _ _ _ _ => N8
    have hdl := (N8 _ (List.mem_append_right _ (.tail _ (.head _)))).1
    refine item_any hdl (k := lv) (x := .ref a2) (by rw [List.getElem?_map, hx2]; rfl) (by omega) ?_
    (repeat' ((fail_if_success (with_reducible show wpAny _ _ (exec (Stmt.Assign _ (Expr.ListComp _ _ _ _) _) _) _ _ _)); (fail_if_success (with_reducible show wpAny _ _ (eval (Expr.ListComp _ _ _ _) _) _ _ _)); (fail_if_success (with_reducible show wpAny _ _ (call (Value.builtin "list.append") _) _ _ _)); (fail_if_success (with_reducible show wpAny _ _ (setItem _ _ _) _ _ _)); (fail_if_success (with_reducible show wpAny _ _ (subscriptTail _ _ (Value.ref _) (Value.int _ _)) _ _ _)); (fail_if_success (with_reducible show wpAny _ _ (compareOp CmpOp.In _ (Value.ref _)) _ _ _)); (fail_if_success (with_reducible show wpAny _ _ (getMethod (Value.ref _) (Str.ofString "append") _) _ _ _)); (fail_if_success (with_reducible show wpAny _ _ (call (Value.builtin "sorted") _) _ _ _)); (fail_if_success (with_reducible show wpAny _ _ (call (Value.builtin "len") [Value.ref _]) _ _ _)); (fail_if_success (with_reducible show wpAny _ _ (assign (Expr.Tuple _ _ _) _ (Value.ref _)) _ _ _)); walk_at "STEP"))
    rename News _ _ _ _ => N8
    refine in_d (o := ob2) (N8 _ (List.mem_append_right _ (.tail _ (.tail _ (.tail _ (.tail _ (List.mem_append_left _ (List.mem_of_getElem? hx2)))))))).1 hk2.2 hk2.1 ?_
    intro tk6
    rw [show (valueAt ([] : List (Int × Value)) f.num).isSome = false from rfl]
    (repeat' walk_at "STEP")
    refine TurnE.intro (adds.set lv (a1, o')) (by assumption) (by assumption) (fun p hp => List.mem_append_left _ hp) (fun p hp => List.mem_append_right _ hp) ?_ (fun _ h => nomatch h) (by ksw_same) ⟨fun h => absurd h (by decide), fun _ => ⟨o', ⟨hd', hk1.2⟩, rfl⟩⟩
    intro p hp hpI
    replace hpI := List.mem_singleton.mp hpI
    revert p
    refine mkL_cases ?_ ?_ ?_ ?_ ?_ ?_
    · exact fun e => hw _ (.head _) e
    · exact fun e => hw _ (.tail _ (.head _)) e
    · exact fun e => hw _ (.tail _ (.tail _ (.head _))) e
    · exact fun e => hw _ (.tail _ (.tail _ (.tail _ (.head _)))) e
    · exact fun p hp e => hw p (.tail _ (.tail _ (.tail _ (.tail _ (List.mem_append_left _ hp))))) e
    · intro p hp e
      rcases ho.add_ne hx1 p hp with rfl | h
      · exact hw (a1, ob1) (.tail _ (.tail _ (.tail _ (.tail _ hma)))) e
      · exact hw p (.tail _ (.tail _ (.tail _ (.tail _ (List.mem_append_right _ h.1))))) e
  · rintro ads um hh tk5 hP F' N'
    clear F6 N6
    dsimp only [kstB] at F'
    (refine pk ?_; intro G9 hG9)
    obtain ⟨ob3, hd3, rfl⟩ := hP.2 rfl
    (refine hG9 ?_; clear hG9)
    (repeat' walk_at "STEP")
    ((try dsimp only); refine hret _ _ _ _ kp (fresh_of (by assumption)) kF kN ?_)
    exact ⟨a1, ob1, ob3, rfl, hx1, hd3, rfl⟩
end
section
def befB (lv : Nat) (a b : FM) : Bool := if 0 < lv then (if cmpI (U a.lu) a.lt (U b.lu) b.lt ≠ 0 then decide (cmpI (U a.lu) a.lt (U b.lu) b.lt < 0) else decide (a.num < b.num)) else decide (a.num < b.num)
/-- a maker's head, frozen -/
inductive IsMk (P : Params) (V : View) (x v dl al : Addr) : Prop
  | mk (dx : Addr) (n : Nat) (k1 : Tok) (k2 : Tok) (k3 : Tok) (k4 : Tok) (p1_ : V x (instObj 515 dx)) (p2_ : V dx (dictOf [fe P "base" k1 (.ref v), fe P "dropped" k2 (.bool false), fe P "deleted" k3 (.ref dl), fe P "added" k4 (.ref al)] n)) : IsMk P V x v dl al
theorem IsMk.mono {P : Params} {V V' : View} {x v dl al : Addr} (h : IsMk P V x v dl al) (k : ∀ a o, V a o → V' a o) : IsMk P V' x v dl al := by
  obtain ⟨dx, n, k1, k2, k3, k4, h1, h2⟩ := h
  exact ⟨dx, n, k1, k2, k3, k4, k _ _ h1, k _ _ h2⟩
theorem before_spec (w : World) (V : View) (x v o dl al ma mb' : Addr) (lv : Nat) (t : Tok) (fa fb : FM) (ls : Lvls) (hx : IsMk w.params V x v dl al) (hv : IsVer w.params V v o ls) (h1 : IsMeta w.params V ma fa) (h2 : IsMeta w.params V mb' fb) :
    Spec w 7 498 [.ref x, .int (lv : Int) t, .ref ma, .ref mb'] [] V (fun r _ => r = .bool (befB lv fa fb)) := by
  obtain ⟨dx, en, k1, k2, k3, k4, x1, x2⟩ := hx
  obtain ⟨vdx, vn, t1, t2, t3, t4, t5', t6, tn, fla, nf, tr, sc, ns, tta, ttb, sa, v1, v2, v3, v4, v5, v6, v7⟩ := hv
  have v3' := v3
  obtain ⟨odx, on, ot, ou, odu, o1, o2, o3, o4⟩ := v3'
  obtain ⟨adx, an, a1, a2, a3, a4, a5, a6, a7, a8, i1, i2, i3, i4, i5, i6, i7, i8⟩ := h1
  obtain ⟨bdx, bn, b1, b2, b3, b4, b5, b6, b7, b8, j1, j2, j3, j4, j5, j6, j7, j8⟩ := h2
  ((try unfold PSpec); unfold Spec; rintro κ A₀ base h₀ L m mean mg mb ⟨hp₀, gn₀, dr₀, tk₀, os₀⟩ Q E B₀ F₀ X₀ N₀ T₀ hk₀ hV₀ hd₀ hu₀ hret₀; refine wpAny_call ?_; k_dflt (refine' enter B₀ F₀ X₀ N₀ T₀ hV₀ hret₀ ?kA ?kF ?kK ?k6 ?k7 ?k8 ?k9 ?kB ?_ ?c5 ?c2 ?c3 ?c4; (case kA => exact rfl); (case kF => exact rfl); (case kK => exact hk₀); (case k6 => k_is); (case k7 => k_is); (case k8 => ktr_room); (case k9 => exact BindsTo.of_eq rfl); (case c5 => decide); (case kB => exact locs rfl); (case c2 => exact rfl); (case c3 => exact rfl); (case c4 => exact rfl); k_whole; clear hV₀ hret₀; intro mB g L' h₁ hV hret FG F' N' lt' B' X' T'; clear X₀ T₀ N₀ F₀ B₀; (try dsimp only); (try k_fold); refine gen_QE ?_; intro Q9 E9 hQ9 pE9))
  (repeat' walk_at "STEP")
  all_goals ((try dsimp only); refine hret _ _ _ _ kp (fresh_of (by assumption)) kF kN ?_)
  all_goals (refine congrArg Value.bool ?_; clear hret kp kF kN FG B' X' T'; unfold befB; (repeat' split) <;> first | rfl | omega)
theorem ins_refs (xs : XM) (i : Nat) (p : Addr × FM) (hi : i ≤ xs.length) : kl_ins (refsOf xs).toArray.toList (i : Int) (.ref p.1) = refsOf (xs.take i ++ p :: xs.drop i) := by
  unfold kl_ins
  have e : (min (i : Int).toNat (refsOf xs).toArray.toList.length) = i := by
    rw [List.length_map]
    omega
  rw [if_neg (by omega), e]
  show (refsOf xs).take i ++ .ref p.1 :: (refsOf xs).drop i = _
  simp only [refsOf, List.map_append, List.map_cons, List.map_take, List.map_drop]
theorem len_any {prog : Program} {w : World} {A : Around} {E : Value → Shared → Prop} {s : Shared} {l : Addr} {vs : List Value} {n : Nat} {Q : Value → Shared → Prop} (hg : s.heap.get? l = some (listOf vs.toArray n)) (hz : vs.length ≤ 1000) (h : ∀ t k, Q (.int (vs.length : Int) t) { s with toks := k }) : wpAny (model prog w) A (call (.builtin "len") [.ref l]) Q E s := by
  have hls : s.heap.IsList l vs.toArray := ⟨_, hg, rfl, n, rfl⟩
  exact len_list hls (by simp; omega) (by simpa using h _ _)
theorem place_spec (w : World) (V : View) (x v o dl al fl mt : Addr) (lv : Nat) (t : Tok) (f : FM) (xs : XM) (n : Nat) (ls : Lvls) (hx : IsMk w.params V x v dl al) (hv : IsVer w.params V v o ls) (hm : IsMeta w.params V mt f) (hxs : ∀ p ∈ xs, IsMeta w.params V p.1 p.2) (hz : xs.length ≤ 100)
    (mono : ∀ (j k : Nat) p q, j ≤ k → xs[j]? = some p → xs[k]? = some q → befB lv q.2 f = true → befB lv p.2 f = true) :
    Spec w 10 505 [.ref x, .int (lv : Int) t, .ref fl, .ref mt] [(fl, listOf (refsOf xs).toArray n)] V (fun r new => r = .none ∧ ∃ i n', i ≤ xs.length ∧ (∀ j p, j < i → xs[j]? = some p → befB lv p.2 f = true) ∧ (∀ j p, i ≤ j → xs[j]? = some p → befB lv p.2 f = false) ∧ new = [(fl, listOf (refsOf (xs.take i ++ (mt, f) :: xs.drop i)).toArray n')]) := by
  have hx' := hx
  obtain ⟨dx, en, k1, k2, k3, k4, x1, x2⟩ := hx'
  ((try unfold PSpec); unfold Spec; rintro κ A₀ base h₀ L m mean mg mb ⟨hp₀, gn₀, dr₀, tk₀, os₀⟩ Q E B₀ F₀ X₀ N₀ T₀ hk₀ hV₀ hd₀ hu₀ hret₀; refine wpAny_call ?_; k_dflt (refine' enter B₀ F₀ X₀ N₀ T₀ hV₀ hret₀ ?kA ?kF ?kK ?k6 ?k7 ?k8 ?k9 ?kB ?_ ?c5 ?c2 ?c3 ?c4; (case kA => exact rfl); (case kF => exact rfl); (case kK => exact hk₀); (case k6 => k_is); (case k7 => k_is); (case k8 => ktr_room); (case k9 => exact BindsTo.of_eq rfl); (case c5 => decide); (case kB => exact locs rfl); (case c2 => exact rfl); (case c3 => exact rfl); (case c4 => exact rfl); k_whole; clear hV₀ hret₀; intro mB g L' h₁ hV hret FG F' N' lt' B' X' T'; clear X₀ T₀ N₀ F₀ B₀; (try dsimp only); (try k_fold); refine gen_QE ?_; intro Q9 E9 hQ9 pE9))
  (repeat' ((fail_if_success (with_reducible show wpAny _ _ (exec (Stmt.Assign _ (Expr.ListComp _ _ _ _) _) _) _ _ _)); (fail_if_success (with_reducible show wpAny _ _ (eval (Expr.ListComp _ _ _ _) _) _ _ _)); (fail_if_success (with_reducible show wpAny _ _ (call (Value.builtin "list.append") _) _ _ _)); (fail_if_success (with_reducible show wpAny _ _ (setItem _ _ _) _ _ _)); (fail_if_success (with_reducible show wpAny _ _ (subscriptTail _ _ (Value.ref _) (Value.int _ _)) _ _ _)); (fail_if_success (with_reducible show wpAny _ _ (compareOp CmpOp.In _ (Value.ref _)) _ _ _)); (fail_if_success (with_reducible show wpAny _ _ (getMethod (Value.ref _) (Str.ofString "append") _) _ _ _)); (fail_if_success (with_reducible show wpAny _ _ (call (Value.builtin "sorted") _) _ _ _)); (fail_if_success (with_reducible show wpAny _ _ (call (Value.builtin "len") [Value.ref _]) _ _ _)); (fail_if_success (with_reducible show wpAny _ _ (assign (Expr.Tuple _ _ _) _ (Value.ref _)) _ _ _)); walk_at "STEP"))
  rename News _ _ _ _ => N5
  have hrl : (refsOf xs).length = xs.length := List.length_map ..
  refine len_any (N5 _ (.head _)).1 (by omega) ?_
  have N6 := N5
  intro lt1 lk1
  rw [hrl]
  clear N5
  (repeat' walk_at "STEP")
  rename Fr _ _ _ _ => F5
  rename News _ _ _ _ => N5
  (refine pk ?_; intro G9 hG9)
  obtain ⟨t1, t2, hk5⟩ : ∃ t1 t2, ∀ p ∈ [(Str.ofString "low", Value.int ((0 : Nat) : Int) t1), (Str.ofString "high", Value.int (xs.length : Int) t2)], mOf F5 p.1 = some p.2 := ⟨_, _, all2 rfl rfl⟩
  (refine hG9 ?_; clear hG9)
  refine ksw_while (σ := Nat × Tok × Nat × Tok) (fun _ => [(fl, listOf (refsOf xs).toArray n)]) (fun c => [(Str.ofString "low", .int (c.1 : Int) c.2.1), (Str.ofString "high", .int (c.2.2.1 : Int) c.2.2.2)]) (fun _ => True) [Str.ofString "mid"]
    (fun c => c.1 ≤ c.2.2.1 ∧ c.2.2.1 ≤ xs.length ∧ (∀ j p, j < c.1 → xs[j]? = some p → befB lv p.2 f = true) ∧ (∀ j p, c.2.2.1 ≤ j → xs[j]? = some p → befB lv p.2 f = false)) (fun c => c.2.2.1 - c.1) (0, t1, xs.length, t2) F5 N5 trivial hk5 ?hp ?_
  case hp => exact ⟨Nat.zero_le _, Nat.le_refl _, fun j p hj => absurd hj (Nat.not_lt_zero _), fun j p hj hp => by rw [List.getElem?_eq_none hj] at hp; cases hp⟩
  rintro ⟨lo, tl, hi, th⟩ um hh tk5 _ hPA F' N'
  have h1 := hPA.1
  have h2 := hPA.2.1
  have h3 := hPA.2.2.1
  have h4 := hPA.2.2.2
  clear hPA
  refine gen_while ?_; intro Q8 hQ8
  clear hk5 F5 N5
  dsimp only at h1 h2 h3 h4
  dsimp only [kstB] at F'
  dsimp only
  have emid : ((lo : Int) + hi).fdiv 2 = (((lo + hi) / 2 : Nat) : Int) := by rw [Int.fdiv_eq_ediv_of_nonneg _ (by decide)]; omega
  repeat' ((fail_if_success (with_reducible show wpAny _ _ (call (Value.builtin "list.insert") _) _ _ _)); (fail_if_success (with_reducible show wpAny _ _ (subscriptTail _ _ (Value.ref _) (Value.int _ _)) _ _ _)); walk_at "STEP")
  · rename News _ _ _ _ => N6
    have hmid : (lo + hi) / 2 < xs.length := by omega
    have hx6 : xs[(lo + hi) / 2]? = some xs[(lo + hi) / 2] := List.getElem?_eq_getElem hmid
    rw [emid]
    refine item_any (N6 _ (.head _)).1 (k := (lo + hi) / 2) (x := .ref xs[(lo + hi) / 2].1) (by rw [List.getElem?_map, hx6]; rfl) (by omega) ?_
    (repeat' ((fail_if_success (with_reducible show wpAny _ _ (call (Value.builtin "list.append") _) _ _ _)); (fail_if_success (with_reducible show wpAny _ _ (setItem _ _ _) _ _ _)); walk_at "STEP"))
    refine' Spec.useA (before_spec w V x v o dl al _ mt lv _ _ f ls hx hv (hxs _ (List.mem_of_getElem? hx6)) hm) ?kV ?_
    ((try (case kV => exact view_keep hV (by assumption))); intro r9 new9 h9 tk9 F' N' kp9 fr9 P9; (try k_sweep))
    have P10 : r9 = _ := P9
    subst P10
    dsimp only
    (try k_fold)
    (repeat' ((fail_if_success (with_reducible show wpAny _ _ (call (Value.builtin "list.append") _) _ _ _)); (fail_if_success (with_reducible show wpAny _ _ (setItem _ _ _) _ _ _)); walk_at "STEP"))
    · rename befB lv _ f = true => hb6
      rename Fr _ _ _ _ => F6
      rename News _ _ _ _ => N7
      obtain ⟨t6, e6⟩ : ∃ t6, mOf F6 (Str.ofString "low") = some (Value.int (((lo + hi) / 2 + 1 : Nat) : Int) t6) :=
        ⟨_, Eq.trans (rfl : _ = some (Value.int (((lo : Int) + hi).fdiv 2 + 1) _)) (congrArg (fun x : Int => some (Value.int x _)) (by rw [emid]; omega))⟩
      exact ksw_end ((lo + hi) / 2 + 1, t6, hi, th) F6 N7 (fun p h => List.mem_append_right _ h) trivial (all2 e6 rfl) (by ksw_same) ⟨by dsimp only; omega, h2, fun j p hj hp => mono j _ p _ (by dsimp only at hj; omega) hp hx6 hb6, h4⟩ (by dsimp only; omega)
    · rename befB lv _ f = false => hb6
      rename Fr _ _ _ _ => F6
      rename News _ _ _ _ => N7
      obtain ⟨t6, e6⟩ : ∃ t6, mOf F6 (Str.ofString "high") = some (Value.int (((lo + hi) / 2 : Nat) : Int) t6) :=
        ⟨_, Eq.trans (rfl : _ = some (Value.int (((lo : Int) + hi).fdiv 2) _)) (congrArg (fun x : Int => some (Value.int x _)) emid)⟩
      refine ksw_end (lo, tl, (lo + hi) / 2, t6) F6 N7 (fun p h => List.mem_append_right _ h) trivial (all2 rfl e6) (by ksw_same) ⟨by dsimp only; omega, by dsimp only; omega, h3, fun j p hj hp => ?_⟩ (by dsimp only; omega)
      cases hbj : befB lv p.2 f with
      | false => rfl
      | true =>
        rw [mono _ j _ p hj hx6 hp hbj] at hb6
        cases hb6
  · rename News _ _ _ _ => N6
    have elo : lo = hi := by omega
    subst elo
    refine kl_insert (l := refsOf (xs.take lo ++ (mt, f) :: xs.drop lo)) (by assumption) N6 ?_ (ins_refs xs lo (mt, f) h2) (.head (fun _ h => nomatch h)) ?_ ?_
    · unfold Builtin.List.listFitsIndex
      rw [Bool.and_eq_true, decide_eq_true_eq, decide_eq_true_eq]
      omega
    · (simp only [List.size_toArray, List.length_map, List.length_append, List.length_cons, List.length_nil, sizeLine_eq]; omega)
    intro h' F' N'
    (repeat' walk_at "STEP")
    ((try dsimp only); refine hret _ _ _ _ kp (fresh_of (by assumption)) kF kN ?_)
    exact ⟨rfl, lo, _, h2, h3, h4, rfl⟩
end
section
section
variable {prog : Program} {w : World} {A : Around} {E : Value → Shared → Prop} {s : Shared} {env : PySem.Env} {h₀ : Heap} {target : Expr} {body : List Stmt} {Q : Flow → Shared → Prop}
/-- a loop over a list of the ledger, which is left as it is -/
theorem turns_led2 {σ : Type} {l : Addr} {vs : List Value} {nn : Nat} {m₀ : Str → Option Value} (ps : σ → List (Str × Value)) (Lf : σ → Led) (stored : List Str) (P : Nat → σ → Prop) (c₀ : σ) {news : Led}
    (hh : A.handled = none) (F : Fr h₀ env.locals s.heap m₀) (N₀ : News h₀ env.locals s.heap news) (hm : (l, listOf vs.toArray nn) ∈ news) (hsub : ∀ p ∈ Lf c₀, p ∈ news) (hk : ∀ p ∈ ps c₀, m₀ p.1 = some p.2) (h0 : P 0 c₀)
    (turn : ∀ i v (c : σ) (u : Str → Option Value) h tk own I, vs[i]? = some v → P i c → (∀ p ∈ Lf c, p.1 ≠ I) → (∃ o, (I, o) ∈ own) → (l, listOf vs.toArray nn) ∈ own → (∀ p ∈ own, p.1 = I ∨ p.1 = l) →
      Fr h₀ env.locals h (kstB (fun z => if stored.contains z then u z else m₀ z) (ps c)) → News h₀ env.locals h (own ++ Lf c) →
      wpAny (model prog w) A (assign target env v) (fun _ s₃ => wpAny (model prog w) A (execs body env) (TurnP h₀ env.locals [I] own stored m₀ ps Lf (P (i + 1)) { s with heap := h, toks := tk } Q) E s₃) E { s with heap := h, toks := tk })
    (done : ∀ (c : σ) (u : Str → Option Value) h tk, P vs.length c → Fr h₀ env.locals h (kstB (fun z => if stored.contains z then u z else m₀ z) (ps c)) → News h₀ env.locals h (Lf c) → Q .next { s with heap := h, toks := tk }) :
    wpAny (model prog w) A (pyIter (.ref l)) (fun it s₂ => TurnsAt prog w A h₀ env target body Q E it s₂) E s := by
  have hax := N₀ _ hm
  have hls : s.heap.IsList l vs.toArray := ⟨_, hax.1, rfl, nn, rfl⟩
  have hlt : l < s.heap.objs.size := Heap.lt_size hax.1
  have hne : l ≠ s.heap.objs.size := Nat.ne_of_lt hlt
  have N : News h₀ env.locals s.heap (Lf c₀) := fun p hp => N₀ p (hsub p hp)
  refine wpAny_pyIter_list hls ?_
  have hpush : (s.heap.push { cls := .type "list_iterator", data := .fields #[.ref l, .int 0 0] }).get? l = some (listOf vs.toArray nn) := Heap.get?_push_of_some _ hax.1
  have W := KTurns.ofWalks (target := target) (Walks.list (prog := prog) (w := w) hh s.heap.objs.size l hne vs.toArray) fun i v s Q E st q => letGo_listiter st.1 q
  -- the list's own object stays: carried in the state of the walk
  have W' : KTurns prog w A target s.heap.objs.size [s.heap.objs.size, l] [s.heap.objs.size] vs.toArray.size (fun i v h => vs.toArray[i]? = some v) (fun i v h => (vs.toArray[i]? = some v ∧ (h.IsListIter s.heap.objs.size l (i + 1) ∧ h.IsList l vs.toArray)) ∧ h.get? l = some (listOf vs.toArray nn)) (fun i h => (h.IsListIter s.heap.objs.size l i ∧ h.IsList l vs.toArray) ∧ h.get? l = some (listOf vs.toArray nn)) := by
    refine ⟨W.sub, fun i h h' st hk => ⟨W.frame i h h' st.1 hk, hk l (by simp) _ st.2⟩, fun i s Q E hi st hQ => W.item i s Q E hi st.1 fun v h' tk hm' hk => hQ v h' tk ⟨hm', hk l _ (fun e => hne (List.mem_singleton.mp e)) st.2⟩ hk, fun i v s Q E hm' hQ => W.go i v s Q E hm'.1 fun h' hp st hk => hQ h' hp ⟨st, hk l _ (fun e => hne (List.mem_singleton.mp e)) hm'.2⟩ hk, fun s Q E st hQ => W.done s Q E st.1 hQ⟩
  refine turns_core (tk0 := s.toks) ps Lf stored P c₀ W' ?_ ?_ ⟨⟨⟨_, Heap.get?_push_size _ rfl, rfl, rfl⟩, hls.at fun o e => Heap.get?_push_of_some _ e⟩, hpush⟩ (F.push _) (fun p hp => ⟨Heap.get?_push_of_some _ (N p hp).1, (N p hp).2⟩) ?_ hk h0 ?_ ?_
  · intro hm'
    rcases List.mem_cons.mp hm' with e | hm'
    · exact absurd F.ns.lt (e ▸ Nat.lt_irrefl _)
    · exact hax.2.1 (List.mem_singleton.mp hm').symm
  · intro b hb
    rw [List.mem_singleton.mp hb]
    exact next_is_new F
  · intro p hp hI
    exact absurd (Heap.lt_size (N p hp).1) ((List.mem_singleton.mp hI) ▸ Nat.lt_irrefl _)
  · rintro i v c u h tk own hin hPv hP hw hown hall hst F₁ N₁
    obtain ⟨it, hit, _⟩ := hst.1.1
    exact turn i v c u h tk own _ (by simpa using hPv) hP (fun p hp e => hw p hp (by rw [e]; exact List.mem_singleton.mpr rfl)) ⟨it, hall _ (by simp) (next_is_new F) it hit⟩ (hall l (by simp) hax.2.2 _ hst.2) (fun p hp => (List.mem_cons.mp (hown p hp)).imp id fun h => List.mem_singleton.mp h) F₁ N₁
  · rintro c u h tk hP F₁ N₁
    exact done c u h tk (by simpa using hP) F₁ N₁

end
theorem sorted_d {prog : Program} {w : World} {A : Around} {E : Value → Shared → Prop} {s : Shared} {h₀ : Heap} {L d : Addr} {m : Str → Option Value} {news : Led} {o : Obj} {kvs : List (Int × Value)} {Q : Value → Shared → Prop} (hh : A.handled = none) (F : Fr h₀ L s.heap m) (N : News h₀ L s.heap news)
    (hg : s.heap.get? d = some o) (lo : (d == sysModules) = false) (hd : o.IsDictOf (intKind prog w) kvs) (hz : kvs.length ≤ 1)
    (h : ∀ D vs n h' tk, Fr h₀ L h' m → News h₀ L h' ((D, listOf vs.toArray n) :: news) → (∀ q ∈ news, q.1 < D) → IntsAre vs (kvs.map (·.1)) → Q (.ref D) { s with heap := h', toks := tk }) : wpAny (model prog w) A (call (.builtin "sorted") [.ref d]) Q E s := by
  have hD : s.heap.DictOf (intKind prog w) d kvs := Heap.dictOf_iff.mpr ⟨o, hg, hd⟩
  obtain ⟨ep, hat⟩ := hD.dictAt
  refine kdu_sorted (kdl_dict (knd := intKind prog w) (kvs := kvs) (ep := ep) lo) hh F N hat (kdl_size (by omega)) fun B h' tk vs F' N' l1 hl hv => ?_
  have hi : IntsAre vs (kvs.map (·.1)) := by
    rcases kvs with _ | ⟨kv, _ | ⟨kv2, r⟩⟩
    · rw [List.length_nil] at hl
      rw [List.length_eq_zero_iff.mp hl]
      exact .nil
    · rcases vs with _ | ⟨v, _ | ⟨v2, r2⟩⟩
      · cases hl
      · obtain ⟨k, x, hx, hk⟩ := hv 0 v rfl
        cases hx
        obtain ⟨t, rfl⟩ := Value.isInt_shape hk
        exact .cons _ _ .nil
      · cases hl
    · simp at hz
  refine ksk_lsort (s := { s with heap := h', toks := tk }) (news' := fun o => (B, o) :: news) F' N' (fun o => .head fun p hp => Nat.ne_of_lt (l1 p hp)) (by simp) hi (by rw [List.length_map]; omega) ?_
  intro vs' ns' c h'' F'' N'' a1 a2 a3 a4 a5
  have e : ns' = kvs.map (·.1) := by
    rcases kvs with _ | ⟨kv, _ | ⟨kv2, r⟩⟩
    · exact a3.eq_nil
    · exact a3.eq_singleton
    · simp at hz
  rw [e] at a1
  exact h B vs' c h'' tk F'' N'' l1 a1
theorem item_d {prog : Program} {w : World} {A : Around} {E : Value → Shared → Prop} {s : Shared} {value slice : Expr} {d : Addr} {o : Obj} {kvs : List (Int × Value)} {i : Int} {u : Tok} {v : Value} {Q : Value → Shared → Prop} (hg : s.heap.get? d = some o) (hd : o.IsDictOf (intKind prog w) kvs) (hv : valueAt kvs i = some v) (h : ∀ k, Q v { s with toks := k })
    (hs : subscripted slice false (.ref d) (.int i u) = operate [.ref d, .int i u] (getItem (.ref d) (.int i u)) := by with_unfolding_all rfl) :
    wpAny (model prog w) A (subscriptTail value slice (.ref d) (.int i u)) Q E s := by
  have hD : s.heap.DictOf (intKind prog w) d kvs := Heap.dictOf_iff.mpr ⟨o, hg, hd⟩
  exact tail_any hD.typeIs slot_dict_getitem.lookup (wpAny_getItem_of (intKind_is prog w i u) hD.mapOf hv (h _)) hs
section
variable {w : World} {D : Nat} {f : Addr} {vs : List Value} {touch news : Led} {V : View} {Post : Value → Led → Prop} {Q E : Value → Shared → Prop}
  {dp un : Nat} {gd : Option (List Code)} {cn : Str} {cs : Scope} {a : Addr} {ccd : Value} {cl : List (Str × Addr)} {outer : List PySem.Env} {A₀ : Around} {base h₀ : Heap} {L : Addr} {m : Str → Option Value}
  {mean : ExcName → Option Value} {mg mb : Str → Option Value} {s : Shared}
/-- a call that may change what it is handed -/
theorem Spec.useT (S : Spec w D f vs touch V Post) (rest : Led) (B : Below A₀ base outer h₀) (F : Fr h₀ L s.heap m) (X : (MineHd.hdx.heap_1_1 w.params).In h₀) (N : News h₀ L s.heap news) (ht : ∀ p ∈ touch, p ∈ news) (hr : ∀ p ∈ rest, p ∈ news ∧ ∀ q ∈ touch, p.1 ≠ q.1) (T : Top MineHd.hdx.view_1_2 (looseW MineHd.hdx.view_1_2 []) mean mg mb h₀) (hk : cs.kind = .function)
    (hV : ∀ a o, V a o → s.heap.get? a = some o ∧ ∀ q ∈ touch, a ≠ q.1) (hd1 : dp + D < recursionLimit) (hu : un + 8 * D < cLine)
    (ret : ∀ r new h' tk', Fr h₀ L h' m → News h₀ L h' (new ++ rest) → Post r new → Q r { s with heap := h', toks := tk' }) :
    wpAny (model prg w) (ktrTop dp un gd cn cs L a ccd cl outer) (call (.ref f) vs) Q E s := by
  have off : ∀ {a : Addr} {o : Obj}, s.heap.get? a = some o → (∀ q ∈ touch, a ≠ q.1) → (hideAll s.heap (touch.map (·.1))).get? a = some o := fun {a o} e h => hideAll_get _ e fun hm => by
    obtain ⟨q, hq, e⟩ := List.mem_map.mp hm
    exact h q hq e.symm
  refine S ⟨dp, un, gd, cn, cs, a, ccd, cl, outer⟩ A₀ base h₀ L m mean mg mb s Q E B F X (fun p hp => N p (ht p hp)) T hk (fun a o e => off (hV a o e).1 (hV a o e).2) hd1 hu fun r new h' tk' kp fr F' N' p => ?_
  refine ret r new h' tk' F' (fun q hq => ?_) p
  rcases List.mem_append.mp hq with hq | hq
  · exact N' q hq
  · exact ⟨kp _ _ (off (N q (hr q hq).1).1 (hr q hq).2), (N q (hr q hq).1).2⟩
end
def insM (lv : Nat) (mt : Addr) (f : FM) (xs : XM) : XM := xs.takeWhile (fun p => befB lv p.2 f) ++ (mt, f) :: xs.dropWhile (fun p => befB lv p.2 f)
theorem ins_at {lv : Nat} {mt : Addr} {f : FM} : ∀ {xs : XM} {i : Nat}, i ≤ xs.length → (∀ j p, j < i → xs[j]? = some p → befB lv p.2 f = true) → (∀ j p, i ≤ j → xs[j]? = some p → befB lv p.2 f = false) → xs.take i ++ (mt, f) :: xs.drop i = insM lv mt f xs
  | [], i, _, _, _ => by simp [insM]
  | p :: r, 0, _, _, h2 => by
    have h0 := h2 0 p (Nat.le_refl _) rfl
    simp [insM, h0]
  | p :: r, i + 1, hl, h1, h2 => by
    have h0 := h1 0 p (Nat.succ_pos _) rfl
    have ih := ins_at (mt := mt) (xs := r) (i := i) (Nat.le_of_succ_le_succ hl) (fun j q hj hq => h1 (j + 1) q (Nat.succ_lt_succ hj) hq) (fun j q hj hq => h2 (j + 1) q (Nat.succ_le_succ hj) hq)
    unfold insM at ih ⊢
    rw [List.takeWhile_cons, List.dropWhile_cons, if_pos h0, if_pos h0, List.take_succ_cons, List.drop_succ_cons, List.cons_append, List.cons_append, ih]
def finX (lv : Nat) (mt : Addr) (f : FM) (k : Nat) (xs : XM) : XM := if k = lv then insM lv mt f xs else xs
theorem insM_perm (lv : Nat) (mt : Addr) (f : FM) (xs : XM) : (insM lv mt f xs).Perm ((mt, f) :: xs) := by
  unfold insM
  refine List.perm_middle.trans ?_
  rw [List.takeWhile_append_dropWhile]
theorem set_self' {α : Type} {l : List α} {i : Nat} {a : α} (h : l[i]? = some a) : l.set i a = l := by
  refine List.ext_getElem? fun j => ?_
  rw [List.getElem?_set]
  split
  · rename_i e
    subst e
    rw [if_pos (List.getElem?_eq_some_iff.mp h).1, h]
  · rfl
theorem news_front {h₀ h : Heap} {L : Addr} {news : Led} {a : Addr × Obj} (N : News h₀ L h news) (hm : a ∈ news) : News h₀ L h (a :: news) := fun p hp => (List.mem_cons.mp hp).elim (fun e => e ▸ N _ hm) (N p)
theorem news_sub {h₀ h : Heap} {L : Addr} {news news' : Led} (N : News h₀ L h news) (hs : ∀ p ∈ news', p ∈ news) : News h₀ L h news' := fun p hp => N p (hs p hp)
structure FL where
  adr : Addr
  xs : XM
  cap : Nat
abbrev flObj (c : FL) : Addr × Obj := (c.adr, listOf (refsOf c.xs).toArray c.cap)
abbrev lvlsOf (cs : List FL) : Lvls := cs.map fun c => (c.adr, c.xs)
theorem fl_set {cs : List FL} {lv : Nat} {cc c0 c1 : FL} (hp : (cs.map (·.adr)).Pairwise (· < ·)) (hc : cs[lv]? = some cc) : ∀ c ∈ cs.set lv c1, c = c1 ∨ (c ∈ cs.set lv c0 ∧ c.adr ≠ cc.adr) := by
  intro c hm
  obtain ⟨j, hj⟩ := List.mem_iff_getElem?.mp hm
  have hlt : j < cs.length := by have := (List.getElem?_eq_some_iff.mp hj).1; rwa [List.length_set] at this
  rw [List.getElem?_set] at hj
  split at hj
  · split at hj
    · exact .inl (Option.some.inj hj).symm
    · cases hj
  · rename_i hne
    refine .inr ⟨List.mem_of_getElem? (i := j) (by rw [List.getElem?_set, if_neg hne]; exact hj), fun e => ?_⟩
    have h1 : (cs.map (·.adr))[j]? = some c.adr := by rw [List.getElem?_map, hj]; rfl
    have h2 : (cs.map (·.adr))[lv]? = some cc.adr := by rw [List.getElem?_map, hc]; rfl
    obtain ⟨l1, e1⟩ := List.getElem?_eq_some_iff.mp h1
    obtain ⟨l2, e2⟩ := List.getElem?_eq_some_iff.mp h2
    rcases Nat.lt_or_gt_of_ne (Ne.symm hne) with h | h
    · have := List.pairwise_iff_getElem.mp hp _ _ l1 l2 h
      rw [e1, e2, e] at this
      exact absurd this (Nat.lt_irrefl _)
    · have := List.pairwise_iff_getElem.mp hp _ _ l2 l1 h
      rw [e1, e2, e] at this
      exact absurd this (Nat.lt_irrefl _)
theorem fl_mem {cs : List FL} {lv : Nat} {c : FL} (h : lv < cs.length) : c ∈ cs.set lv c := List.mem_of_getElem? (i := lv) (by rw [List.getElem?_set, if_pos rfl, if_pos h])
theorem numsOfL_len_mem {ls : Lvls} {p : Addr × XM} (h : p ∈ ls) : p.2.length ≤ (numsOfL ls).length := by
  obtain ⟨i, hi⟩ := List.mem_iff_getElem?.mp h
  have h1 := congrArg List.length (take_flat hi)
  have h2 := numsOfL_len_take ls (i + 1)
  rw [List.length_append, List.length_map] at h1
  omega
theorem numsOfL_mem {ls : Lvls} {p : Addr × XM} (h : p ∈ ls) {y : Addr × FM} (hy : y ∈ p.2) : y.2.num ∈ numsOfL ls := List.mem_flatMap.mpr ⟨p, h, List.mem_map_of_mem (f := fun y : Addr × FM => y.2.num) hy⟩
abbrev numsX (xs : XM) : List Int := xs.map fun y => y.2.num
theorem numsOfL_eq (ls : Lvls) : numsOfL ls = (ls.map (·.2)).flatMap numsX := by
  unfold numsOfL
  rw [List.flatMap_map]
theorem flat_set {y : Addr × FM} {Z : XM} : ∀ {X : List XM} {lv : Nat} {x : XM}, X[lv]? = some x → Z.Perm (y :: x) → ((X.set lv Z).flatMap numsX).Perm (y.2.num :: X.flatMap numsX)
  | [], lv, x, h, _ => by simp at h
  | a :: r, 0, x, h, hZ => by
    have e : a = x := by simpa using h
    subst e
    show (numsX Z ++ r.flatMap numsX).Perm (y.2.num :: (numsX a ++ r.flatMap numsX))
    exact (hZ.map _).append_right _
  | a :: r, lv + 1, x, h, hZ => by
    have ih := flat_set (X := r) (lv := lv) (x := x) (by simpa using h) hZ
    show (numsX a ++ (r.set lv Z).flatMap numsX).Perm (y.2.num :: (numsX a ++ r.flatMap numsX))
    exact (ih.append_left _).trans List.perm_middle
theorem fin_perm {cs : List FL} {ls : Lvls} {lv : Nat} {mt : Addr} {f : FM} (hl : cs.length = ls.length) (hlv : lv < ls.length) (h : ∀ k c p, cs[k]? = some c → ls[k]? = some p → c.xs = finX lv mt f k p.2) : (numsOfL (lvlsOf cs)).Perm (f.num :: numsOfL ls) := by
  have hx : (ls.map (·.2))[lv]? = some ls[lv].2 := by rw [List.getElem?_map, List.getElem?_eq_getElem hlv]; rfl
  have e : (lvlsOf cs).map (·.2) = (ls.map (·.2)).set lv (insM lv mt f ls[lv].2) := by
    refine List.ext_getElem? fun k => ?_
    rw [List.getElem?_map, List.getElem?_map, List.getElem?_set, List.getElem?_map, List.length_map]
    rcases Nat.lt_or_ge k ls.length with hk | hk
    · rw [List.getElem?_eq_getElem hk, List.getElem?_eq_getElem (by omega : k < cs.length)]
      have := h k _ _ (List.getElem?_eq_getElem (by omega : k < cs.length)) (List.getElem?_eq_getElem hk)
      show some (cs[k].xs) = _
      rw [this]
      unfold finX
      by_cases hkl : k = lv
      · subst hkl
        rw [if_pos rfl, if_pos rfl, if_pos hk]
      · rw [if_neg hkl, if_neg (Ne.symm hkl)]
        rfl
    · rw [List.getElem?_eq_none hk, List.getElem?_eq_none (by omega : cs.length ≤ k), if_neg (by omega)]
      rfl
  rw [numsOfL_eq, e, numsOfL_eq]
  exact flat_set hx (insM_perm lv mt f _)
theorem finX_mem {lv : Nat} {mt : Addr} {f : FM} {k : Nat} {xs : XM} {y : Addr × FM} (h : y ∈ finX lv mt f k xs) : y = (mt, f) ∨ y ∈ xs := by
  unfold finX at h
  split at h
  · exact List.mem_cons.mp ((insM_perm lv mt f xs).mem_iff.mp h)
  · exact .inr h
theorem finish_spec (w : World) (V : View) (x v o dl al mt : Addr) (f : FM) (dels adds : DOs) (c1 c2 lv : Nat) (ls : Lvls) (hx : IsMk w.params V x v dl al) (hdl : V dl (listOf (refsP dels).toArray c1)) (hal : V al (listOf (refsP adds).toArray c2))
    (hd : ∀ p ∈ dels, V p.1 p.2 ∧ DOk w [] p) (ha : ∀ k p, adds[k]? = some p → V p.1 p.2 ∧ DOk w (if k = lv then [(f.num, .ref mt)] else []) p) (hdn : dels.length = ls.length) (han : adds.length = ls.length) (hv : IsVer w.params V v o ls) (hm : IsMeta w.params V mt f)
    (hlv : lv < ls.length) (hz : ls.length ≤ 20) (hn : (numsOfL ls).length ≤ 20) (hnum : ∀ y ∈ numsOfL ls, y ≠ f.num) (hnd : (numsOfL ls).Nodup) (hck : ∀ k p, ls[k]? = some p → ChkOk k (finX lv mt f k p.2))
    (mono : ∀ p, ls[lv]? = some p → ∀ (j k : Nat) a b, j ≤ k → p.2[j]? = some a → p.2[k]? = some b → befB lv b.2 f = true → befB lv a.2 f = true) :
    Spec w 14 512 [.ref x] [] V (fun r new => ∃ x' ls', r = .ref x' ∧ IsVer w.params (VN V new) x' o ls' ∧ ls'.length = ls.length ∧ ∀ k p, ls[k]? = some p → ∃ a, ls'[k]? = some (a, finX lv mt f k p.2)) := by
  have hz1 : ls.length ≤ 1000 := by omega
  have hzz : ∀ p ∈ ls, p.2.length ≤ 1000 := fun p hp => by have := numsOfL_len_mem hp; omega
  have hx' := hx
  obtain ⟨dx, en, k1, k2, k3, k4, x1, x2⟩ := hx'
  have hv' := hv
  obtain ⟨vdx, vn, t1, t2, t3, t4, t5', t6, tn, fla, nf, tr, sc, ns, tta, ttb, sa, v1, v2, v3, v4, v5, v6, v7⟩ := hv'
  ((try unfold PSpec); unfold Spec; rintro κ A₀ base h₀ L m mean mg mb ⟨hp₀, gn₀, dr₀, tk₀, os₀⟩ Q E B₀ F₀ X₀ N₀ T₀ hk₀ hV₀ hd₀ hu₀ hret₀; refine wpAny_call ?_; k_dflt (refine' enter B₀ F₀ X₀ N₀ T₀ hV₀ hret₀ ?kA ?kF ?kK ?k6 ?k7 ?k8 ?k9 ?kB ?_ ?c5 ?c2 ?c3 ?c4; (case kA => exact rfl); (case kF => exact rfl); (case kK => exact hk₀); (case k6 => k_is); (case k7 => k_is); (case k8 => ktr_room); (case k9 => exact BindsTo.of_eq rfl); (case c5 => decide); (case kB => exact locs rfl); (case c2 => exact rfl); (case c3 => exact rfl); (case c4 => exact rfl); k_whole; clear hV₀ hret₀; intro mB g L' h₁ hV hret FG F' N' lt' B' X' T'; clear X₀ T₀ N₀ F₀ B₀; (try dsimp only); (try k_fold); refine gen_QE ?_; intro Q9 E9 hQ9 pE9))
  (repeat' walk_at "STEP")
  refine' Spec.useA (verNew_spec w V o ls.length _ (by omega)) ?kV ?_
  ((try (case kV => exact view_keep hV (by assumption))); intro r9 new9 h9 tk9 F' N' kp9 fr9 P9; (try k_sweep))
  (refine pk ?_; intro G9 hG9)
  obtain ⟨nx, na, as, rfl, ⟨ndx, nn, n1, n2, n3, n4, n5, n6, ntn, nnf, ntr, nsc, nns, nta, ntb, b1, b2, b3, b4⟩, hlen, hasc, hmem⟩ := P9
  (refine hG9 ?_; clear hG9)
  dsimp only
  rename Fr _ _ _ _ => F5
  rename News _ _ _ _ => N5
  obtain ⟨hdL, hhdL⟩ : ∃ hdL : Led, hdL = [(nx, instObj 459 ndx), (ndx, dictOf [fe w.params "num_levels" n1 (.int (as.length : Int) ntn), fe w.params "order" n2 (.ref o), fe w.params "files" n3 (.ref na), fe w.params "refs" n4 (.int 0 ntr), fe w.params "score" n5 (.ref nsc), fe w.params "score_level" n6 (.int (-1) nns)] nn), (na, listOf (as.map Value.ref).toArray nnf), (nsc, tupOf #[.int 0 nta, .int 1 ntb])] := ⟨_, rfl⟩
  have hsub : ∀ p ∈ hdL, p ∈ new9 := by
    rw [hhdL]
    intro p hp
    rcases List.mem_cons.mp hp with rfl | hp
    · exact b1
    rcases List.mem_cons.mp hp with rfl | hp
    · exact b2
    rcases List.mem_cons.mp hp with rfl | hp
    · exact b3
    rw [List.mem_singleton.mp hp]
    exact b4
  have hoff : ∀ p ∈ hdL, ∀ a ∈ as, p.1 ≠ a := by
    rw [hhdL]
    intro p hp a haa e
    have g1 := (N5 _ (List.mem_append_left _ (hmem a haa))).1
    have g2 := (N5 _ (List.mem_append_left _ (hsub p (by rw [hhdL]; exact hp)))).1
    rw [e, g1] at g2
    have g3 := Option.some.inj g2
    rcases List.mem_cons.mp hp with rfl | hp
    · cases g3
    rcases List.mem_cons.mp hp with rfl | hp
    · injection g3 with h _ _ _; injection h with h; exact absurd h (by decide)
    rcases List.mem_cons.mp hp with rfl | hp
    · have g4 : #[] = (as.map Value.ref).toArray := by injection g3 with _ _ h _; injection h
      have g5 : (as.map Value.ref).length = 0 := by rw [← List.size_toArray, ← g4]; rfl
      rw [List.length_map] at g5
      rw [List.length_eq_zero_iff.mp g5] at haa
      cases haa
    · rw [List.mem_singleton.mp hp] at g3
      injection g3 with h _ _ _; injection h with h; exact absurd h (by decide)
  have N6 : News g L' h9 (hdL ++ ((as.map fun a => (⟨a, [], 0⟩ : FL)).map flObj)) := by
    intro p hp
    rcases List.mem_append.mp hp with hp | hp
    · exact N5 p (List.mem_append_left _ (hsub p hp))
    · obtain ⟨c, hc, rfl⟩ := List.mem_map.mp hp
      (refine pk ?_; intro G9 hG9)
      obtain ⟨a, ha', rfl⟩ := List.mem_map.mp hc
      (refine hG9 ?_; clear hG9)
      exact N5 _ (List.mem_append_left _ (hmem a ha'))
  clear N5
  have hnx : (nx, instObj 459 ndx) ∈ hdL := by rw [hhdL]; exact .head _
  have hndx : (ndx, dictOf [fe w.params "num_levels" n1 (.int (as.length : Int) ntn), fe w.params "order" n2 (.ref o), fe w.params "files" n3 (.ref na), fe w.params "refs" n4 (.int 0 ntr), fe w.params "score" n5 (.ref nsc), fe w.params "score_level" n6 (.int (-1) nns)] nn) ∈ hdL := by rw [hhdL]; exact .tail _ (.head _)
  have hna : (na, listOf (as.map Value.ref).toArray nnf) ∈ hdL := by rw [hhdL]; exact .tail _ (.tail _ (.head _))
  (repeat' walk_at "STEP")
  rename Fr _ _ _ _ => F5
  refine For_turns F5 ?_
  (repeat' walk_at "STEP")
  rename Fr _ _ _ _ => F6
  rename News _ _ _ _ => N6
  refine turns_range (σ := List FL) (n := ls.length) (fun _ => []) (fun c => hdL ++ c.map flObj) [Str.ofString "level", Str.ofString "files", Str.ofString "meta", Str.ofString "number"]
    (fun i c => c.map (·.adr) = as ∧ ∀ k c' p, c[k]? = some c' → ls[k]? = some p → c'.xs = if k < i then finX lv mt f k p.2 else []) (as.map fun a => ⟨a, [], 0⟩) rfl (by assumption) (rsm_0 (by omega)) (rsz_0 _) F6 N6 (fun _ h => nomatch h) ⟨by rw [List.map_map]; exact List.map_id _, ?_⟩ ?_ ?_
  · intro k c' p hc _
    (refine pk ?_; intro G9 hG9)
    obtain ⟨a, _, rfl⟩ := Option.map_eq_some_iff.mp ((List.getElem?_map).symm.trans hc)
    (refine hG9 ?_; clear hG9)
    rw [if_neg (Nat.not_lt_zero _)]
  · rintro lvl t cs um hh tk5 own I hi hPA hw hI ho F' N'
    have hP1 := hPA.1
    have hP2 := hPA.2
    clear hPA
    refine gen_turn ?_; intro Q8 hQ8
    clear F6 N6
    dsimp only [kstB] at F'
    have elv : (0 : Int) + (lvl : Int) * 1 = (lvl : Int) := by omega
    rw [elv]
    (refine pk ?_; intro G9 hG9)
    obtain ⟨q9, hq9⟩ : ∃ q, ls[lvl]? = some q := ⟨ls[lvl], List.getElem?_eq_getElem hi⟩
    have hcl : cs.length = ls.length := by rw [← hlen, ← hP1, List.length_map]
    obtain ⟨cc, hcc⟩ : ∃ q, cs[lvl]? = some q := ⟨cs[lvl], List.getElem?_eq_getElem (by omega)⟩
    have hca : as[lvl]? = some cc.adr := by rw [← hP1, List.getElem?_map, hcc]; rfl
    have hxs : cc.xs = [] := by rw [hP2 _ _ _ hcc hq9, if_neg (Nat.lt_irrefl _)]
    have hm9 := List.mem_of_getElem? hq9
    have if9 := v6 _ hm9
    obtain ⟨pd, hpd⟩ : ∃ q, dels[lvl]? = some q := ⟨dels[lvl], List.getElem?_eq_getElem (by omega)⟩
    obtain ⟨pa, hpa⟩ : ∃ q, adds[lvl]? = some q := ⟨adds[lvl], List.getElem?_eq_getElem (by omega)⟩
    obtain ⟨gd1, gd2, gd3⟩ := hd _ (List.mem_of_getElem? hpd)
    obtain ⟨ga1, ga2, ga3⟩ := ha _ _ hpa
    (refine hG9 ?_; clear hG9)
    repeat' ((fail_if_success (with_reducible show wpAny _ _ (getAttr (Value.ref nx) _ _) _ _ _)); walk_at "STEP")
    rename News _ _ _ _ => N8
    have N9 := news_front (news_front N8 (List.mem_append_right _ (List.mem_append_left _ hndx))) (.tail _ (List.mem_append_right _ (List.mem_append_left _ hnx)))
    (repeat' ((fail_if_success (with_reducible show wpAny _ _ (exec (Stmt.Assign _ (Expr.ListComp _ _ _ _) _) _) _ _ _)); (fail_if_success (with_reducible show wpAny _ _ (eval (Expr.ListComp _ _ _ _) _) _ _ _)); (fail_if_success (with_reducible show wpAny _ _ (call (Value.builtin "list.append") _) _ _ _)); (fail_if_success (with_reducible show wpAny _ _ (setItem _ _ _) _ _ _)); (fail_if_success (with_reducible show wpAny _ _ (subscriptTail _ _ (Value.ref _) (Value.int _ _)) _ _ _)); (fail_if_success (with_reducible show wpAny _ _ (compareOp CmpOp.In _ (Value.ref _)) _ _ _)); (fail_if_success (with_reducible show wpAny _ _ (getMethod (Value.ref _) (Str.ofString "append") _) _ _ _)); (fail_if_success (with_reducible show wpAny _ _ (call (Value.builtin "sorted") _) _ _ _)); (fail_if_success (with_reducible show wpAny _ _ (call (Value.builtin "len") [Value.ref _]) _ _ _)); (fail_if_success (with_reducible show wpAny _ _ (assign (Expr.Tuple _ _ _) _ (Value.ref _)) _ _ _)); walk_at "STEP"))
    rename News _ _ _ _ => N10
    refine item_any (N10 _ (.tail _ (.tail _ (List.mem_append_right _ (List.mem_append_left _ hna))))).1 (k := lvl) (x := .ref cc.adr) (by rw [List.getElem?_map, hca]; rfl) (by omega) ?_
    (repeat' ((fail_if_success (with_reducible show wpAny _ _ (exec (Stmt.Assign _ (Expr.ListComp _ _ _ _) _) _) _ _ _)); (fail_if_success (with_reducible show wpAny _ _ (eval (Expr.ListComp _ _ _ _) _) _ _ _)); (fail_if_success (with_reducible show wpAny _ _ (call (Value.builtin "list.append") _) _ _ _)); (fail_if_success (with_reducible show wpAny _ _ (setItem _ _ _) _ _ _)); (fail_if_success (with_reducible show wpAny _ _ (subscriptTail _ _ (Value.ref _) (Value.int _ _)) _ _ _)); (fail_if_success (with_reducible show wpAny _ _ (compareOp CmpOp.In _ (Value.ref _)) _ _ _)); (fail_if_success (with_reducible show wpAny _ _ (getMethod (Value.ref _) (Str.ofString "append") _) _ _ _)); (fail_if_success (with_reducible show wpAny _ _ (call (Value.builtin "sorted") _) _ _ _)); (fail_if_success (with_reducible show wpAny _ _ (call (Value.builtin "len") [Value.ref _]) _ _ _)); (fail_if_success (with_reducible show wpAny _ _ (assign (Expr.Tuple _ _ _) _ (Value.ref _)) _ _ _)); walk_at "STEP"))
    rename Fr _ _ _ _ => F5
    refine For_turns F5 ?_
    (repeat' ((fail_if_success (with_reducible show wpAny _ _ (exec (Stmt.Assign _ (Expr.ListComp _ _ _ _) _) _) _ _ _)); (fail_if_success (with_reducible show wpAny _ _ (eval (Expr.ListComp _ _ _ _) _) _ _ _)); (fail_if_success (with_reducible show wpAny _ _ (call (Value.builtin "list.append") _) _ _ _)); (fail_if_success (with_reducible show wpAny _ _ (setItem _ _ _) _ _ _)); (fail_if_success (with_reducible show wpAny _ _ (subscriptTail _ _ (Value.ref _) (Value.int _ _)) _ _ _)); (fail_if_success (with_reducible show wpAny _ _ (compareOp CmpOp.In _ (Value.ref _)) _ _ _)); (fail_if_success (with_reducible show wpAny _ _ (getMethod (Value.ref _) (Str.ofString "append") _) _ _ _)); (fail_if_success (with_reducible show wpAny _ _ (call (Value.builtin "sorted") _) _ _ _)); (fail_if_success (with_reducible show wpAny _ _ (call (Value.builtin "len") [Value.ref _]) _ _ _)); (fail_if_success (with_reducible show wpAny _ _ (assign (Expr.Tuple _ _ _) _ (Value.ref _)) _ _ _)); walk_at "STEP"))
    rename Fr _ _ _ _ => F6
    refine item_any (F6.keep _ _ (hV _ _ v4)) (k := lvl) (x := .ref q9.1) (by rw [List.getElem?_map, hq9]; rfl) (by omega) ?_
    (repeat' ((fail_if_success (with_reducible show wpAny _ _ (exec (Stmt.Assign _ (Expr.ListComp _ _ _ _) _) _) _ _ _)); (fail_if_success (with_reducible show wpAny _ _ (eval (Expr.ListComp _ _ _ _) _) _ _ _)); (fail_if_success (with_reducible show wpAny _ _ (call (Value.builtin "list.append") _) _ _ _)); (fail_if_success (with_reducible show wpAny _ _ (setItem _ _ _) _ _ _)); (fail_if_success (with_reducible show wpAny _ _ (subscriptTail _ _ (Value.ref _) (Value.int _ _)) _ _ _)); (fail_if_success (with_reducible show wpAny _ _ (compareOp CmpOp.In _ (Value.ref _)) _ _ _)); (fail_if_success (with_reducible show wpAny _ _ (getMethod (Value.ref _) (Str.ofString "append") _) _ _ _)); (fail_if_success (with_reducible show wpAny _ _ (call (Value.builtin "sorted") _) _ _ _)); (fail_if_success (with_reducible show wpAny _ _ (call (Value.builtin "len") [Value.ref _]) _ _ _)); (fail_if_success (with_reducible show wpAny _ _ (assign (Expr.Tuple _ _ _) _ (Value.ref _)) _ _ _)); walk_at "STEP"))
    rename Fr _ _ _ _ => F6
    rename News _ _ _ _ => N6
    have ecc : cc = ⟨cc.adr, [], cc.cap⟩ := by rw [← hxs]
    have hset0 : cs = cs.set lvl ⟨cc.adr, [], cc.cap⟩ := by
      rw [← ecc]
      exact (set_self' hcc).symm
    have N7 : News g L' (heapOf F6) (own ++ (hdL ++ (cs.set lvl ⟨cc.adr, [], cc.cap⟩).map flObj)) := by
      rw [← hset0]
      exact news_sub N6 fun p hp => .tail _ (.tail _ hp)
    clear N6
    refine turns_base (σ := XM × Nat) (l := q9.1) (vs := refsOf q9.2) (fun _ => []) (fun c => own ++ (hdL ++ (cs.set lvl ⟨cc.adr, c.1, c.2⟩).map flObj)) [Str.ofString "meta"] (fun j c => c.1 = q9.2.take j) ([], cc.cap) rfl (base_list hV if9) F6 (by exact N7) (fun _ h => nomatch h) rfl ?_ ?_
    · rintro j v' ⟨ys, cap⟩ um hh tk5 own' J hj hP' hw' hI' ho' F' N'
      refine gen_turn ?_; intro Q8 hQ8
      clear F6 N7
      dsimp only at hP' N' ho' hw'
      dsimp only [kstB] at F'
      have hm9' := hm9
      (refine pk ?_; intro G9 hG9)
      obtain ⟨p9, hp9, hm9, rfl⟩ := refs_get hj
      obtain ⟨dx9, n9, t91, t92, t93, t94, tn9, ts9, ta9, tb9, j1, j2, j3, j4, j5, j6, j7, j8⟩ := if9.2 p9 hm9
      (refine hG9 ?_; clear hG9)
      (repeat' ((fail_if_success (with_reducible show wpAny _ _ (exec (Stmt.Assign _ (Expr.ListComp _ _ _ _) _) _) _ _ _)); (fail_if_success (with_reducible show wpAny _ _ (eval (Expr.ListComp _ _ _ _) _) _ _ _)); (fail_if_success (with_reducible show wpAny _ _ (call (Value.builtin "list.append") _) _ _ _)); (fail_if_success (with_reducible show wpAny _ _ (setItem _ _ _) _ _ _)); (fail_if_success (with_reducible show wpAny _ _ (subscriptTail _ _ (Value.ref _) (Value.int _ _)) _ _ _)); (fail_if_success (with_reducible show wpAny _ _ (compareOp CmpOp.In _ (Value.ref _)) _ _ _)); (fail_if_success (with_reducible show wpAny _ _ (getMethod (Value.ref _) (Str.ofString "append") _) _ _ _)); (fail_if_success (with_reducible show wpAny _ _ (call (Value.builtin "sorted") _) _ _ _)); (fail_if_success (with_reducible show wpAny _ _ (call (Value.builtin "len") [Value.ref _]) _ _ _)); (fail_if_success (with_reducible show wpAny _ _ (assign (Expr.Tuple _ _ _) _ (Value.ref _)) _ _ _)); walk_at "STEP"))
      rename Fr _ _ _ _ => F8
      refine item_any (F8.keep _ _ (hV _ _ hdl)) (k := lvl) (x := .ref pd.1) (by rw [List.getElem?_map, hpd]; rfl) (by omega) ?_
      (repeat' ((fail_if_success (with_reducible show wpAny _ _ (exec (Stmt.Assign _ (Expr.ListComp _ _ _ _) _) _) _ _ _)); (fail_if_success (with_reducible show wpAny _ _ (eval (Expr.ListComp _ _ _ _) _) _ _ _)); (fail_if_success (with_reducible show wpAny _ _ (call (Value.builtin "list.append") _) _ _ _)); (fail_if_success (with_reducible show wpAny _ _ (setItem _ _ _) _ _ _)); (fail_if_success (with_reducible show wpAny _ _ (subscriptTail _ _ (Value.ref _) (Value.int _ _)) _ _ _)); (fail_if_success (with_reducible show wpAny _ _ (compareOp CmpOp.In _ (Value.ref _)) _ _ _)); (fail_if_success (with_reducible show wpAny _ _ (getMethod (Value.ref _) (Str.ofString "append") _) _ _ _)); (fail_if_success (with_reducible show wpAny _ _ (call (Value.builtin "sorted") _) _ _ _)); (fail_if_success (with_reducible show wpAny _ _ (call (Value.builtin "len") [Value.ref _]) _ _ _)); (fail_if_success (with_reducible show wpAny _ _ (assign (Expr.Tuple _ _ _) _ (Value.ref _)) _ _ _)); walk_at "STEP"))
      refine in_d (o := pd.2) (F8.keep _ _ (hV _ _ gd1)) gd3 gd2 ?_
      intro tk6
      rw [show (valueAt ([] : List (Int × Value)) p9.2.num).isSome = false from rfl]
      (repeat' ((fail_if_success (with_reducible show wpAny _ _ (exec (Stmt.Assign _ (Expr.ListComp _ _ _ _) _) _) _ _ _)); (fail_if_success (with_reducible show wpAny _ _ (eval (Expr.ListComp _ _ _ _) _) _ _ _)); (fail_if_success (with_reducible show wpAny _ _ (call (Value.builtin "list.append") _) _ _ _)); (fail_if_success (with_reducible show wpAny _ _ (setItem _ _ _) _ _ _)); (fail_if_success (with_reducible show wpAny _ _ (subscriptTail _ _ (Value.ref _) (Value.int _ _)) _ _ _)); (fail_if_success (with_reducible show wpAny _ _ (compareOp CmpOp.In _ (Value.ref _)) _ _ _)); (fail_if_success (with_reducible show wpAny _ _ (getMethod (Value.ref _) (Str.ofString "append") _) _ _ _)); (fail_if_success (with_reducible show wpAny _ _ (call (Value.builtin "sorted") _) _ _ _)); (fail_if_success (with_reducible show wpAny _ _ (call (Value.builtin "len") [Value.ref _]) _ _ _)); (fail_if_success (with_reducible show wpAny _ _ (assign (Expr.Tuple _ _ _) _ (Value.ref _)) _ _ _)); walk_at "STEP"))
      refine item_any (F8.keep _ _ (hV _ _ hal)) (k := lvl) (x := .ref pa.1) (by rw [List.getElem?_map, hpa]; rfl) (by omega) ?_
      (repeat' ((fail_if_success (with_reducible show wpAny _ _ (exec (Stmt.Assign _ (Expr.ListComp _ _ _ _) _) _) _ _ _)); (fail_if_success (with_reducible show wpAny _ _ (eval (Expr.ListComp _ _ _ _) _) _ _ _)); (fail_if_success (with_reducible show wpAny _ _ (call (Value.builtin "list.append") _) _ _ _)); (fail_if_success (with_reducible show wpAny _ _ (setItem _ _ _) _ _ _)); (fail_if_success (with_reducible show wpAny _ _ (subscriptTail _ _ (Value.ref _) (Value.int _ _)) _ _ _)); (fail_if_success (with_reducible show wpAny _ _ (compareOp CmpOp.In _ (Value.ref _)) _ _ _)); (fail_if_success (with_reducible show wpAny _ _ (getMethod (Value.ref _) (Str.ofString "append") _) _ _ _)); (fail_if_success (with_reducible show wpAny _ _ (call (Value.builtin "sorted") _) _ _ _)); (fail_if_success (with_reducible show wpAny _ _ (call (Value.builtin "len") [Value.ref _]) _ _ _)); (fail_if_success (with_reducible show wpAny _ _ (assign (Expr.Tuple _ _ _) _ (Value.ref _)) _ _ _)); walk_at "STEP"))
      refine in_d (o := pa.2) (F8.keep _ _ (hV _ _ ga1)) ga3 ga2 ?_
      intro tk7
      have hno : (valueAt (if lvl = lv then [(f.num, Value.ref mt)] else []) p9.2.num).isSome = false := by
        have := hnum _ (numsOfL_mem (List.mem_of_getElem? hq9) hm9)
        split
        · simp [valueAt, this.symm]
        · rfl
      rw [hno]
      (repeat' ((fail_if_success (with_reducible show wpAny _ _ (exec (Stmt.Assign _ (Expr.ListComp _ _ _ _) _) _) _ _ _)); (fail_if_success (with_reducible show wpAny _ _ (eval (Expr.ListComp _ _ _ _) _) _ _ _)); (fail_if_success (with_reducible show wpAny _ _ (call (Value.builtin "list.append") _) _ _ _)); (fail_if_success (with_reducible show wpAny _ _ (setItem _ _ _) _ _ _)); (fail_if_success (with_reducible show wpAny _ _ (subscriptTail _ _ (Value.ref _) (Value.int _ _)) _ _ _)); (fail_if_success (with_reducible show wpAny _ _ (compareOp CmpOp.In _ (Value.ref _)) _ _ _)); (fail_if_success (with_reducible show wpAny _ _ (getMethod (Value.ref _) (Str.ofString "append") _) _ _ _)); (fail_if_success (with_reducible show wpAny _ _ (call (Value.builtin "sorted") _) _ _ _)); (fail_if_success (with_reducible show wpAny _ _ (call (Value.builtin "len") [Value.ref _]) _ _ _)); (fail_if_success (with_reducible show wpAny _ _ (assign (Expr.Tuple _ _ _) _ (Value.ref _)) _ _ _)); walk_at "STEP"))
      rename News _ _ _ _ => N8
      have hme : flObj ⟨cc.adr, ys, cap⟩ ∈ own' ++ (own ++ (hdL ++ (cs.set lvl ⟨cc.adr, ys, cap⟩).map flObj)) := List.mem_append_right _ (List.mem_append_right _ (List.mem_append_right _ (List.mem_map_of_mem (fl_mem (by omega)))))
      have N9 := news_front N8 hme
      clear N8
      (repeat' walk_at "STEP")
      rename News _ _ _ _ => N8
      have hpw : (cs.map (·.adr)).Pairwise (· < ·) := by rw [hP1]; exact hasc
      have hyl : ys.length ≤ 1000 := by rw [hP', List.length_take]; have := hzz _ hm9'; omega
      refine append_any (news' := own' ++ (own ++ (hdL ++ (cs.set lvl ⟨cc.adr, ys ++ [p9], cap + 1⟩).map flObj))) (by assumption) N8 (.head _) ?_ (by (simp only [List.size_toArray, List.length_map, List.length_append, List.length_cons, List.length_nil, sizeLine_eq]; omega)) ?_
      · intro p hp
        have hcm : flObj ⟨cc.adr, ys, cap⟩ ∈ own ++ (hdL ++ (cs.set lvl ⟨cc.adr, ys, cap⟩).map flObj) := List.mem_append_right _ (List.mem_append_right _ (List.mem_map_of_mem (fl_mem (by omega))))
        rcases List.mem_append.mp hp with hp | hp
        · exact .inr ⟨.tail _ (List.mem_append_left _ hp), ho' p hp _ hcm⟩
        rcases List.mem_append.mp hp with hp | hp
        · exact .inr ⟨.tail _ (List.mem_append_right _ (List.mem_append_left _ hp)), ho p hp (flObj cc) (List.mem_append_right _ (List.mem_map_of_mem (List.mem_of_getElem? hcc)))⟩
        rcases List.mem_append.mp hp with hp | hp
        · exact .inr ⟨.tail _ (List.mem_append_right _ (List.mem_append_right _ (List.mem_append_left _ hp))), hoff p hp _ (List.mem_of_getElem? hca)⟩
        (refine pk ?_; intro G9 hG9)
        obtain ⟨c, hc, rfl⟩ := List.mem_map.mp hp
        (refine hG9 ?_; clear hG9)
        rcases fl_set (c0 := ⟨cc.adr, ys, cap⟩) hpw hcc c hc with rfl | ⟨h1, h2⟩
        · left; simp
        · exact .inr ⟨.tail _ (List.mem_append_right _ (List.mem_append_right _ (List.mem_append_right _ (List.mem_map_of_mem h1)))), h2⟩
      intro h' F' N'
      (repeat' walk_at "STEP")
      refine TurnE.intro (ys ++ [p9], cap + 1) (by assumption) N' (fun p hp => List.mem_append_left _ hp) (fun p hp => List.mem_append_right _ hp) ?_ (fun _ h => nomatch h) (by ksw_same) (by dsimp only; rw [List.take_add_one, hp9, hP']; rfl)
      intro p hp hpI
      replace hpI := List.mem_singleton.mp hpI
      rcases List.mem_append.mp hp with hp | hp
      · exact hw' p (List.mem_append_left _ hp) hpI
      rcases List.mem_append.mp hp with hp | hp
      · exact hw' p (List.mem_append_right _ (List.mem_append_left _ hp)) hpI
      (refine pk ?_; intro G9 hG9)
      obtain ⟨c, hc, rfl⟩ := List.mem_map.mp hp
      (refine hG9 ?_; clear hG9)
      rcases fl_set (c0 := ⟨cc.adr, ys, cap⟩) hpw hcc c hc with rfl | ⟨h1, h2⟩
      · exact hw' (flObj ⟨cc.adr, ys, cap⟩) (List.mem_append_right _ (List.mem_append_right _ (List.mem_map_of_mem (fl_mem (by omega))))) hpI
      · exact hw' _ (List.mem_append_right _ (List.mem_append_right _ (List.mem_map_of_mem h1))) hpI
    · rintro ⟨ys, cap⟩ um hh tk5 hP' F' N'
      clear F6 N7
      dsimp only at hP' N'
      dsimp only [kstB] at F'
      (repeat' walk_at "STEP")
      have e8 : (refsOf q9.2).length = q9.2.length := List.length_map ..
      rw [e8, List.take_length] at hP'
      subst hP'
      rename Fr _ _ _ _ => F5
      refine For_turns F5 ?_
      (repeat' ((fail_if_success (with_reducible show wpAny _ _ (exec (Stmt.Assign _ (Expr.ListComp _ _ _ _) _) _) _ _ _)); (fail_if_success (with_reducible show wpAny _ _ (eval (Expr.ListComp _ _ _ _) _) _ _ _)); (fail_if_success (with_reducible show wpAny _ _ (call (Value.builtin "list.append") _) _ _ _)); (fail_if_success (with_reducible show wpAny _ _ (setItem _ _ _) _ _ _)); (fail_if_success (with_reducible show wpAny _ _ (subscriptTail _ _ (Value.ref _) (Value.int _ _)) _ _ _)); (fail_if_success (with_reducible show wpAny _ _ (compareOp CmpOp.In _ (Value.ref _)) _ _ _)); (fail_if_success (with_reducible show wpAny _ _ (getMethod (Value.ref _) (Str.ofString "append") _) _ _ _)); (fail_if_success (with_reducible show wpAny _ _ (call (Value.builtin "sorted") _) _ _ _)); (fail_if_success (with_reducible show wpAny _ _ (call (Value.builtin "len") [Value.ref _]) _ _ _)); (fail_if_success (with_reducible show wpAny _ _ (assign (Expr.Tuple _ _ _) _ (Value.ref _)) _ _ _)); walk_at "STEP"))
      rename Fr _ _ _ _ => F8
      refine item_any (F8.keep _ _ (hV _ _ hal)) (k := lvl) (x := .ref pa.1) (by rw [List.getElem?_map, hpa]; rfl) (by omega) ?_
      (repeat' ((fail_if_success (with_reducible show wpAny _ _ (exec (Stmt.Assign _ (Expr.ListComp _ _ _ _) _) _) _ _ _)); (fail_if_success (with_reducible show wpAny _ _ (eval (Expr.ListComp _ _ _ _) _) _ _ _)); (fail_if_success (with_reducible show wpAny _ _ (call (Value.builtin "list.append") _) _ _ _)); (fail_if_success (with_reducible show wpAny _ _ (setItem _ _ _) _ _ _)); (fail_if_success (with_reducible show wpAny _ _ (subscriptTail _ _ (Value.ref _) (Value.int _ _)) _ _ _)); (fail_if_success (with_reducible show wpAny _ _ (compareOp CmpOp.In _ (Value.ref _)) _ _ _)); (fail_if_success (with_reducible show wpAny _ _ (getMethod (Value.ref _) (Str.ofString "append") _) _ _ _)); (fail_if_success (with_reducible show wpAny _ _ (call (Value.builtin "sorted") _) _ _ _)); (fail_if_success (with_reducible show wpAny _ _ (call (Value.builtin "len") [Value.ref _]) _ _ _)); (fail_if_success (with_reducible show wpAny _ _ (assign (Expr.Tuple _ _ _) _ (Value.ref _)) _ _ _)); walk_at "STEP"))
      rename News _ _ _ _ => N8
      refine sorted_d (o := pa.2) rfl (by assumption) N8 (F8.keep _ _ (hV _ _ ga1)) ga3 ga2 (by split <;> first | exact Nat.le_refl _ | exact Nat.zero_le _) ?_
      intro SD svs sn sh stk F' N' slt sia
      clear N8
      have hSD : cc.adr < SD := slt (flObj ⟨cc.adr, q9.2, cap⟩) (List.mem_append_right _ (List.mem_append_right _ (List.mem_map_of_mem (fl_mem (by omega)))))
      (repeat' ((fail_if_success (with_reducible show wpAny _ _ (exec (Stmt.Assign _ (Expr.ListComp _ _ _ _) _) _) _ _ _)); (fail_if_success (with_reducible show wpAny _ _ (eval (Expr.ListComp _ _ _ _) _) _ _ _)); (fail_if_success (with_reducible show wpAny _ _ (call (Value.builtin "list.append") _) _ _ _)); (fail_if_success (with_reducible show wpAny _ _ (setItem _ _ _) _ _ _)); (fail_if_success (with_reducible show wpAny _ _ (subscriptTail _ _ (Value.ref _) (Value.int _ _)) _ _ _)); (fail_if_success (with_reducible show wpAny _ _ (compareOp CmpOp.In _ (Value.ref _)) _ _ _)); (fail_if_success (with_reducible show wpAny _ _ (getMethod (Value.ref _) (Str.ofString "append") _) _ _ _)); (fail_if_success (with_reducible show wpAny _ _ (call (Value.builtin "sorted") _) _ _ _)); (fail_if_success (with_reducible show wpAny _ _ (call (Value.builtin "len") [Value.ref _]) _ _ _)); (fail_if_success (with_reducible show wpAny _ _ (assign (Expr.Tuple _ _ _) _ (Value.ref _)) _ _ _)); walk_at "STEP"))
      rename News _ _ _ _ => N6
      rename Fr _ _ _ _ => F6
      refine turns_led2 (σ := XM × Nat) (l := SD) (vs := svs) (nn := sn) (fun _ => []) (fun c => own ++ (hdL ++ (cs.set lvl ⟨cc.adr, c.1, c.2⟩).map flObj)) [Str.ofString "number"]
        (fun j c => (j = 0 → c.1 = q9.2) ∧ (j = 1 → c.1 = insM lv mt f q9.2)) (q9.2, cap) rfl F6 N6 (.head _) (fun p hp => .tail _ hp) (fun _ h => nomatch h) ⟨fun _ => rfl, fun h => nomatch h⟩ ?_ ?_
      · rintro j v' ⟨ys, cap⟩ um hh tk5 own' J hj hP' hw' hI' hl' hoj F' N'
        refine gen_turn ?_; intro Q8 hQ8
        clear F6 N6
        dsimp only at hP' N' hw'
        dsimp only [kstB] at F'
        have elv : lvl = lv := by
          refine Decidable.byContradiction fun hne => ?_
          rw [if_neg hne] at sia
          rw [IntsAre.nil_inv sia] at hj
          simp at hj
        subst elv
        rw [if_pos rfl] at sia ga2
        (refine pk ?_; intro G9 hG9)
        obtain ⟨nt, svs', rfl, sia'⟩ := IntsAre.cons_inv sia
        (refine hG9 ?_; clear hG9)
        rw [IntsAre.nil_inv sia'] at hj
        have ej : j = 0 := by
          rcases j with _ | j
          · rfl
          · simp at hj
        subst ej
        have ev : v' = .int f.num nt := by simpa using hj.symm
        subst ev
        have eys : ys = q9.2 := hP'.1 rfl
        subst eys
        (repeat' ((fail_if_success (with_reducible show wpAny _ _ (exec (Stmt.Assign _ (Expr.ListComp _ _ _ _) _) _) _ _ _)); (fail_if_success (with_reducible show wpAny _ _ (eval (Expr.ListComp _ _ _ _) _) _ _ _)); (fail_if_success (with_reducible show wpAny _ _ (call (Value.builtin "list.append") _) _ _ _)); (fail_if_success (with_reducible show wpAny _ _ (setItem _ _ _) _ _ _)); (fail_if_success (with_reducible show wpAny _ _ (subscriptTail _ _ (Value.ref _) (Value.int _ _)) _ _ _)); (fail_if_success (with_reducible show wpAny _ _ (compareOp CmpOp.In _ (Value.ref _)) _ _ _)); (fail_if_success (with_reducible show wpAny _ _ (getMethod (Value.ref _) (Str.ofString "append") _) _ _ _)); (fail_if_success (with_reducible show wpAny _ _ (call (Value.builtin "sorted") _) _ _ _)); (fail_if_success (with_reducible show wpAny _ _ (call (Value.builtin "len") [Value.ref _]) _ _ _)); (fail_if_success (with_reducible show wpAny _ _ (assign (Expr.Tuple _ _ _) _ (Value.ref _)) _ _ _)); walk_at "STEP"))
        rename Fr _ _ _ _ => F8
        refine item_any (F8.keep _ _ (hV _ _ hal)) (k := lvl) (x := .ref pa.1) (by rw [List.getElem?_map, hpa]; rfl) (by omega) ?_
        (repeat' ((fail_if_success (with_reducible show wpAny _ _ (exec (Stmt.Assign _ (Expr.ListComp _ _ _ _) _) _) _ _ _)); (fail_if_success (with_reducible show wpAny _ _ (eval (Expr.ListComp _ _ _ _) _) _ _ _)); (fail_if_success (with_reducible show wpAny _ _ (call (Value.builtin "list.append") _) _ _ _)); (fail_if_success (with_reducible show wpAny _ _ (setItem _ _ _) _ _ _)); (fail_if_success (with_reducible show wpAny _ _ (subscriptTail _ _ (Value.ref _) (Value.int _ _)) _ _ _)); (fail_if_success (with_reducible show wpAny _ _ (compareOp CmpOp.In _ (Value.ref _)) _ _ _)); (fail_if_success (with_reducible show wpAny _ _ (getMethod (Value.ref _) (Str.ofString "append") _) _ _ _)); (fail_if_success (with_reducible show wpAny _ _ (call (Value.builtin "sorted") _) _ _ _)); (fail_if_success (with_reducible show wpAny _ _ (call (Value.builtin "len") [Value.ref _]) _ _ _)); (fail_if_success (with_reducible show wpAny _ _ (assign (Expr.Tuple _ _ _) _ (Value.ref _)) _ _ _)); walk_at "STEP"))
        refine item_d (o := pa.2) (v := .ref mt) (F8.keep _ _ (hV _ _ ga1)) ga2 (by simp [valueAt]) ?_
        intro tk7
        (repeat' ((fail_if_success (with_reducible show wpAny _ _ (exec (Stmt.Assign _ (Expr.ListComp _ _ _ _) _) _) _ _ _)); (fail_if_success (with_reducible show wpAny _ _ (eval (Expr.ListComp _ _ _ _) _) _ _ _)); (fail_if_success (with_reducible show wpAny _ _ (call (Value.builtin "list.append") _) _ _ _)); (fail_if_success (with_reducible show wpAny _ _ (setItem _ _ _) _ _ _)); (fail_if_success (with_reducible show wpAny _ _ (subscriptTail _ _ (Value.ref _) (Value.int _ _)) _ _ _)); (fail_if_success (with_reducible show wpAny _ _ (compareOp CmpOp.In _ (Value.ref _)) _ _ _)); (fail_if_success (with_reducible show wpAny _ _ (getMethod (Value.ref _) (Str.ofString "append") _) _ _ _)); (fail_if_success (with_reducible show wpAny _ _ (call (Value.builtin "sorted") _) _ _ _)); (fail_if_success (with_reducible show wpAny _ _ (call (Value.builtin "len") [Value.ref _]) _ _ _)); (fail_if_success (with_reducible show wpAny _ _ (assign (Expr.Tuple _ _ _) _ (Value.ref _)) _ _ _)); walk_at "STEP"))
        rename News _ _ _ _ => N8
        rename Fr _ _ _ _ => F8
        have hcm : flObj ⟨cc.adr, q9.2, cap⟩ ∈ own ++ (hdL ++ (cs.set lvl ⟨cc.adr, q9.2, cap⟩).map flObj) := List.mem_append_right _ (List.mem_append_right _ (List.mem_map_of_mem (fl_mem (by omega))))
        have hcn := (N8 _ (List.mem_append_right _ hcm)).2.2
        refine' Spec.useT (place_spec w V x v o dl al cc.adr mt lvl _ f q9.2 cap ls hx hv hm (fun p hp => if9.2 p hp) (by have := numsOfL_len_mem hm9; omega) (mono _ hq9)) ((own' ++ (own ++ (hdL ++ (cs.set lvl ⟨cc.adr, q9.2, cap⟩).map flObj))).filter fun p => decide (p.1 ≠ cc.adr)) ?kB ?kF ?kX N8 ?kt ?kr ?kT ?kk ?kV ?kd ?ku ?_
        case kt => exact fun p hp => by rw [List.mem_singleton.mp hp]; exact List.mem_append_right _ hcm
        case kr => exact fun p hp => ⟨(List.mem_filter.mp hp).1, fun q hq => by rw [List.mem_singleton.mp hq]; exact of_decide_eq_true (List.mem_filter.mp hp).2⟩
        case kV => exact fun a o h => ⟨F8.keep _ _ (hV _ _ h), fun q hq e => by rw [List.mem_singleton.mp hq] at e; rw [← e, hV _ _ h] at hcn; cases hcn⟩
        case kB => k_asm
        case kF => k_asm
        case kX => k_asm
        case kT => k_asm
        case kk => exact rfl
        case kd => walk_at "ROOM"
        case ku => walk_at "ROOM"
        intro r9 new9' h9' tk9' F' N' P9
        (refine pk ?_; intro G9 hG9)
        obtain ⟨rfl, pi, pn, p1, p2, p3, rfl⟩ := P9
        (refine hG9 ?_; clear hG9)
        rw [ins_at p1 p2 p3] at N'
        clear N8
        dsimp only
        (repeat' ((fail_if_success (with_reducible show wpAny _ _ (exec (Stmt.Assign _ (Expr.ListComp _ _ _ _) _) _) _ _ _)); (fail_if_success (with_reducible show wpAny _ _ (eval (Expr.ListComp _ _ _ _) _) _ _ _)); (fail_if_success (with_reducible show wpAny _ _ (call (Value.builtin "list.append") _) _ _ _)); (fail_if_success (with_reducible show wpAny _ _ (setItem _ _ _) _ _ _)); (fail_if_success (with_reducible show wpAny _ _ (subscriptTail _ _ (Value.ref _) (Value.int _ _)) _ _ _)); (fail_if_success (with_reducible show wpAny _ _ (compareOp CmpOp.In _ (Value.ref _)) _ _ _)); (fail_if_success (with_reducible show wpAny _ _ (getMethod (Value.ref _) (Str.ofString "append") _) _ _ _)); (fail_if_success (with_reducible show wpAny _ _ (call (Value.builtin "sorted") _) _ _ _)); (fail_if_success (with_reducible show wpAny _ _ (call (Value.builtin "len") [Value.ref _]) _ _ _)); (fail_if_success (with_reducible show wpAny _ _ (assign (Expr.Tuple _ _ _) _ (Value.ref _)) _ _ _)); walk_at "STEP"))
        have hpw : (cs.map (·.adr)).Pairwise (· < ·) := by rw [hP1]; exact hasc
        have hkeep : ∀ p ∈ own' ++ (own ++ (hdL ++ (cs.set lvl ⟨cc.adr, q9.2, cap⟩).map flObj)), p.1 ≠ cc.adr → p ∈ [(cc.adr, listOf (refsOf (insM lvl mt f q9.2)).toArray pn)] ++ (own' ++ (own ++ (hdL ++ (cs.set lvl ⟨cc.adr, q9.2, cap⟩).map flObj))).filter fun p => decide (p.1 ≠ cc.adr) := fun p hp h => List.mem_append_right _ (List.mem_filter.mpr ⟨hp, decide_eq_true h⟩)
        refine TurnE.intro (insM lvl mt f q9.2, pn) (by assumption) (by assumption) (fun p hp => ?_) (fun p hp => ?_) ?_ (fun _ h => nomatch h) (by ksw_same) ⟨fun h => absurd h (by decide), fun _ => rfl⟩
        · refine hkeep p (List.mem_append_left _ hp) fun e => ?_
          rcases hoj p hp with h | h
          · exact hw' _ hcm (by rw [← h, e])
          · rw [← e, h] at hSD
            exact absurd hSD (Nat.lt_irrefl _)
        · rcases List.mem_append.mp hp with hp | hp
          · exact hkeep p (List.mem_append_right _ (List.mem_append_left _ hp)) (ho p hp (flObj cc) (List.mem_append_right _ (List.mem_map_of_mem (List.mem_of_getElem? hcc))))
          rcases List.mem_append.mp hp with hp | hp
          · exact hkeep p (List.mem_append_right _ (List.mem_append_right _ (List.mem_append_left _ hp))) (hoff p hp _ (List.mem_of_getElem? hca))
          (refine pk ?_; intro G9 hG9)
          obtain ⟨c, hc, rfl⟩ := List.mem_map.mp hp
          (refine hG9 ?_; clear hG9)
          rcases fl_set (c0 := ⟨cc.adr, q9.2, cap⟩) hpw hcc c hc with rfl | ⟨h1, h2⟩
          · exact List.mem_append_left _ (.head _)
          · exact hkeep _ (List.mem_append_right _ (List.mem_append_right _ (List.mem_append_right _ (List.mem_map_of_mem h1)))) h2
        · intro p hp hpI
          replace hpI := List.mem_singleton.mp hpI
          rcases List.mem_append.mp hp with hp | hp
          · exact hw' p (List.mem_append_left _ hp) hpI
          rcases List.mem_append.mp hp with hp | hp
          · exact hw' p (List.mem_append_right _ (List.mem_append_left _ hp)) hpI
          (refine pk ?_; intro G9 hG9)
          obtain ⟨c, hc, rfl⟩ := List.mem_map.mp hp
          (refine hG9 ?_; clear hG9)
          rcases fl_set (c0 := ⟨cc.adr, q9.2, cap⟩) hpw hcc c hc with rfl | ⟨h1, h2⟩
          · exact hw' (flObj ⟨cc.adr, q9.2, cap⟩) hcm hpI
          · exact hw' _ (List.mem_append_right _ (List.mem_append_right _ (List.mem_map_of_mem h1))) hpI
      · rintro ⟨ys, cap⟩ um hh tk5 hP' F' N'
        clear F6 N6
        dsimp only at hP' N'
        dsimp only [kstB] at F'
        (repeat' ((fail_if_success (with_reducible show wpAny _ _ (exec (Stmt.Assign _ (Expr.ListComp _ _ _ _) _) _) _ _ _)); (fail_if_success (with_reducible show wpAny _ _ (eval (Expr.ListComp _ _ _ _) _) _ _ _)); (fail_if_success (with_reducible show wpAny _ _ (call (Value.builtin "list.append") _) _ _ _)); (fail_if_success (with_reducible show wpAny _ _ (setItem _ _ _) _ _ _)); (fail_if_success (with_reducible show wpAny _ _ (subscriptTail _ _ (Value.ref _) (Value.int _ _)) _ _ _)); (fail_if_success (with_reducible show wpAny _ _ (compareOp CmpOp.In _ (Value.ref _)) _ _ _)); (fail_if_success (with_reducible show wpAny _ _ (getMethod (Value.ref _) (Str.ofString "append") _) _ _ _)); (fail_if_success (with_reducible show wpAny _ _ (call (Value.builtin "sorted") _) _ _ _)); (fail_if_success (with_reducible show wpAny _ _ (call (Value.builtin "len") [Value.ref _]) _ _ _)); (fail_if_success (with_reducible show wpAny _ _ (assign (Expr.Tuple _ _ _) _ (Value.ref _)) _ _ _)); walk_at "STEP"))
        have hfin : ys = finX lv mt f lvl q9.2 := by
          have hsl := IntsAre.length sia
          unfold finX
          by_cases hc : lvl = lv
          · rw [if_pos hc] at sia hsl ⊢
            exact hc ▸ hP'.2 (by simpa using hsl)
          · rw [if_neg hc] at sia hsl ⊢
            exact hP'.1 (by simpa using hsl)
        have hpw : (cs.map (·.adr)).Pairwise (· < ·) := by rw [hP1]; exact hasc
        refine TurnE.intro (cs.set lvl ⟨cc.adr, ys, cap⟩) (by assumption) (by assumption) (fun p hp => List.mem_append_left _ hp) (fun p hp => List.mem_append_right _ hp) ?_ (fun _ h => nomatch h) (by ksw_same) ⟨?_, ?_⟩
        · intro p hp hpI
          replace hpI := List.mem_singleton.mp hpI
          rcases List.mem_append.mp hp with hp | hp
          · exact hw p (List.mem_append_left _ hp) hpI
          (refine pk ?_; intro G9 hG9)
          obtain ⟨c, hc, rfl⟩ := List.mem_map.mp hp
          (refine hG9 ?_; clear hG9)
          rcases fl_set (c0 := cc) hpw hcc c hc with rfl | ⟨h1, h2⟩
          · exact hw (flObj cc) (List.mem_append_right _ (List.mem_map_of_mem (List.mem_of_getElem? hcc))) hpI
          · rw [set_self' hcc] at h1
            exact hw _ (List.mem_append_right _ (List.mem_map_of_mem h1)) hpI
        · rw [List.map_set, ← hP1]
          refine set_self' ?_
          rw [List.getElem?_map, hcc]
          rfl
        · intro k c' p hk hp
          rw [List.getElem?_set] at hk
          split at hk
          · rename_i e
            subst e
            split at hk
            · rw [hq9] at hp
              rw [if_pos (Nat.lt_succ_self _), ← Option.some.inj hk, ← Option.some.inj hp]
              exact hfin
            · cases hk
          · rename_i e
            rw [hP2 _ _ _ hk hp]
            by_cases h : k < lvl
            · rw [if_pos h, if_pos (by omega)]
            · rw [if_neg h, if_neg (by omega)]
  · rintro cs um hh tk5 hPA F' N'
    have hP1 := hPA.1
    have hP2 := hPA.2
    clear hPA
    clear F6 N6
    dsimp only [kstB] at F'
    have hcl : cs.length = ls.length := by rw [← hlen, ← hP1, List.length_map]
    have hP3 : ∀ k c p, cs[k]? = some c → ls[k]? = some p → c.xs = finX lv mt f k p.2 := fun k c p hc hp => by
      rw [hP2 k c p hc hp, if_pos (by have := (List.getElem?_eq_some_iff.mp hp).1; omega)]
    obtain ⟨led, hled⟩ : ∃ led, led = hdL ++ cs.map flObj := ⟨_, rfl⟩
    have hver : IsVer w.params (VN V led) nx o (lvlsOf cs) := by
      refine ⟨ndx, nn, n1, n2, n3, n4, n5, n6, ntn, na, nnf, ntr, nsc, nns, nta, ntb, 0, .inr (hled ▸ List.mem_append_left _ hnx), .inr ?_, v3.mono fun _ _ => .inl, .inr ?_, .inr ?_, ?_, rfl⟩
      · have : (lvlsOf cs).length = as.length := by rw [List.length_map, hcl, hlen]
        rw [this, hled]
        exact List.mem_append_left _ hndx
      · have : (lvlsOf cs).map (fun p => Value.ref p.1) = as.map Value.ref := by rw [← hP1, List.map_map, List.map_map]; rfl
        rw [this, hled]
        exact List.mem_append_left _ hna
      · rw [hled]
        exact List.mem_append_left _ (by rw [hhdL]; exact .tail _ (.tail _ (.tail _ (.head _))))
      · intro p hp
        (refine pk ?_; intro G9 hG9)
        obtain ⟨c, hc, rfl⟩ := List.mem_map.mp hp
        obtain ⟨k, hk⟩ := List.mem_iff_getElem?.mp hc
        (refine hG9 ?_; clear hG9)
        have hkl : k < ls.length := by have := (List.getElem?_eq_some_iff.mp hk).1; omega
        refine ⟨⟨c.cap, .inr (hled ▸ List.mem_append_right _ (List.mem_map_of_mem hc))⟩, fun y hy => ?_⟩
        have hy' : y ∈ c.xs := hy
        rw [hP3 k c _ hk (List.getElem?_eq_getElem hkl)] at hy'
        rcases finX_mem hy' with rfl | h
        · exact hm.mono fun _ _ => .inl
        · exact ((v6 _ (List.getElem_mem hkl)).2 y h).mono fun _ _ => .inl
    have hperm := fin_perm hcl hlv hP3
    rw [← hled] at N'
    repeat' ((fail_if_success (with_reducible show wpAny _ _ (getMethod (Value.ref nx) _ _) _ _ _)); walk_at "STEP")
    rename News _ _ _ _ => N8
    have N9 := news_front (news_front N8 (hled ▸ List.mem_append_left _ hndx)) (.tail _ (hled ▸ List.mem_append_left _ hnx))
    (repeat' ((fail_if_success (with_reducible show wpAny _ _ (exec (Stmt.Assign _ (Expr.ListComp _ _ _ _) _) _) _ _ _)); (fail_if_success (with_reducible show wpAny _ _ (eval (Expr.ListComp _ _ _ _) _) _ _ _)); (fail_if_success (with_reducible show wpAny _ _ (call (Value.builtin "list.append") _) _ _ _)); (fail_if_success (with_reducible show wpAny _ _ (setItem _ _ _) _ _ _)); (fail_if_success (with_reducible show wpAny _ _ (subscriptTail _ _ (Value.ref _) (Value.int _ _)) _ _ _)); (fail_if_success (with_reducible show wpAny _ _ (compareOp CmpOp.In _ (Value.ref _)) _ _ _)); (fail_if_success (with_reducible show wpAny _ _ (getMethod (Value.ref _) (Str.ofString "append") _) _ _ _)); (fail_if_success (with_reducible show wpAny _ _ (call (Value.builtin "sorted") _) _ _ _)); (fail_if_success (with_reducible show wpAny _ _ (call (Value.builtin "len") [Value.ref _]) _ _ _)); (fail_if_success (with_reducible show wpAny _ _ (assign (Expr.Tuple _ _ _) _ (Value.ref _)) _ _ _)); walk_at "STEP"))
    rename News _ _ _ _ => N10
    dsimp only [List.append_nil]
    have q1 : ∀ p ∈ lvlsOf cs, p.2.length ≤ 1000 := fun p hp => by
      have h1 := numsOfL_len_mem hp
      have h2 := hperm.length_eq
      rw [List.length_cons] at h2
      omega
    have q2 : (numsOfL (lvlsOf cs)).length < 64 := by
      have h2 := hperm.length_eq
      rw [List.length_cons] at h2
      omega
    have q3 : (numsOfL (lvlsOf cs)).Nodup := hperm.nodup_iff.mpr (List.nodup_cons.mpr ⟨fun h => hnum _ h rfl, hnd⟩)
    have q5 : ∀ k p, ls[k]? = some p → ∃ c, cs[k]? = some c ∧ (lvlsOf cs)[k]? = some (c.adr, finX lv mt f k p.2) := fun k p hp => by
      have hkl : k < cs.length := by have := (List.getElem?_eq_some_iff.mp hp).1; omega
      refine ⟨cs[k], List.getElem?_eq_getElem hkl, ?_⟩
      rw [List.getElem?_map, List.getElem?_eq_getElem hkl, ← hP3 k _ p (List.getElem?_eq_getElem hkl) hp]
      rfl
    have q4 : ∀ k p, (lvlsOf cs)[k]? = some p → ChkOk k p.2 := fun k p hp => by
      have hkl : k < ls.length := by have := (List.getElem?_eq_some_iff.mp hp).1; rw [List.length_map] at this; omega
      (refine pk ?_; intro G9 hG9)
      obtain ⟨c, hc, h2⟩ := q5 k _ (List.getElem?_eq_getElem hkl)
      (refine hG9 ?_; clear hG9)
      rw [hp] at h2
      rw [Option.some.inj h2]
      exact hck k _ (List.getElem?_eq_getElem hkl)
    refine' Spec.useA (check_spec w (VN V led) nx o (lvlsOf cs) hver (by rw [List.length_map]; omega) q1 q2 q3 q4) ?kV ?_
    case kV => exact fun a o h => h.elim (view_keep hV (by assumption) a o) (fun h => (N10 _ (.tail _ (.tail _ h))).1)
    ((try (case kV => exact view_keep hV (by assumption))); intro r9 new9 h9 tk9 F' N' kp9 fr9 P9; (try k_sweep))
    have P10 : r9 = .none := P9
    subst P10
    (repeat' walk_at "STEP")
    ((try dsimp only); refine hret _ _ _ _ kp (fresh_of (by assumption)) kF kN ?_)
    refine ⟨nx, lvlsOf cs, rfl, hver.mono fun a o h => h.imp id fun h => List.mem_append_right _ (.tail _ (.tail _ h)), by rw [List.length_map, hcl], fun k p hp => ?_⟩
    (refine pk ?_; intro G9 hG9)
    obtain ⟨c, _, h2⟩ := q5 k p hp
    (refine hG9 ?_; clear hG9)
    exact ⟨_, h2⟩
end
section
structure Row where
  u : Nat
  s : Nat
  k : Nat
def rtag (r : Row) : Nat := r.s * 256 + r.k
def RowOk (r : Row) : Prop := r.u < 5 ∧ 1 ≤ r.s ∧ r.s ≤ 9 ∧ r.k ≤ 1
def IsRow (V : View) (a : Addr) (r : Row) : Prop := (∃ t1 t2 t3, V a (tupOf [.int (r.u : Int) t1, .int (-(r.s : Int)) t2, .int (r.k : Int) t3].toArray)) ∧ RowOk r
theorem IsRow.mono {V V' : View} {a : Addr} {r : Row} (h : IsRow V a r) (k : ∀ a o, V a o → V' a o) : IsRow V' a r := by
  obtain ⟨⟨t1, t2, t3, h1⟩, h2⟩ := h
  exact ⟨⟨t1, t2, t3, k _ _ h1⟩, h2⟩
theorem rtag_in {r : Row} (h : RowOk r) : rtag r ∈ tagL := by
  obtain ⟨h1, h2, h3, h4⟩ := h
  have : ∀ s < 10, ∀ k < 2, s * 256 + k ∈ tagL := by decide
  exact this r.s (by omega) r.k (by omega)
theorem rtag_le8 {r : Row} (h : RowOk r) : le8 (rtag r) = [UInt8.ofNat r.k, UInt8.ofNat r.s, 0, 0, 0, 0, 0, 0] := by
  obtain ⟨h1, h2, h3, h4⟩ := h
  have : ∀ s < 10, ∀ k < 2, le8 (s * 256 + k) = [UInt8.ofNat k, UInt8.ofNat s, 0, 0, 0, 0, 0, 0] := by decide +kernel
  exact this r.s (by omega) r.k (by omega)
abbrev usersOf (tk : Nat → Tok) : List Value := [.bytes (U 0).toArray (tk 0), .bytes (U 1).toArray (tk 1), .bytes (U 2).toArray (tk 2), .bytes (U 3).toArray (tk 3), .bytes (U 4).toArray (tk 4)]
theorem users_at (tk : Nat → Tok) {i : Nat} (h : i < 5) : (usersOf tk)[i]? = some (.bytes (U i).toArray (tk i)) := by
  rcases i with _ | _ | _ | _ | _ | i
  · rfl
  · rfl
  · rfl
  · rfl
  · rfl
  · omega
theorem users_spec (w : World) (V : View) : Spec w 1 526 [] [] V (fun r new => ∃ d n tk, r = .ref d ∧ (d, listOf (usersOf tk).toArray n) ∈ new) := by
  ((try unfold PSpec); unfold Spec; rintro κ A₀ base h₀ L m mean mg mb ⟨hp₀, gn₀, dr₀, tk₀, os₀⟩ Q E B₀ F₀ X₀ N₀ T₀ hk₀ hV₀ hd₀ hu₀ hret₀; refine wpAny_call ?_; k_dflt (refine' enter B₀ F₀ X₀ N₀ T₀ hV₀ hret₀ ?kA ?kF ?kK ?k6 ?k7 ?k8 ?k9 ?kB ?_ ?c5 ?c2 ?c3 ?c4; (case kA => exact rfl); (case kF => exact rfl); (case kK => exact hk₀); (case k6 => k_is); (case k7 => k_is); (case k8 => ktr_room); (case k9 => exact BindsTo.of_eq rfl); (case c5 => decide); (case kB => exact locs rfl); (case c2 => exact rfl); (case c3 => exact rfl); (case c4 => exact rfl); k_whole; clear hV₀ hret₀; intro mB g L' h₁ hV hret FG F' N' lt' B' X' T'; clear X₀ T₀ N₀ F₀ B₀; (try dsimp only); (try k_fold); refine gen_QE ?_; intro Q9 E9 hQ9 pE9))
  (repeat' walk_at "STEP")
  ((try dsimp only); refine hret _ _ _ _ kp (fresh_of (by assumption)) kF kN ?_)
  exact ⟨_, _, fun i => [_, _, _, _, _].getD i 0, rfl, .head _⟩
theorem draw_spec (w : World) (V : View) (nl : Addr) (vs : List Value) (ns : List Int) (n : Nat) (i : Int) (t : Tok) (hl : V nl (listOf vs.toArray n)) (hi : IntsAre vs ns) (h1 : 0 < ns.length) (h2 : ns.length ≤ 9) (hb : ∀ x ∈ ns, 0 ≤ x ∧ x < 999983) (hi0 : 0 ≤ i) (hi1 : i ≤ 10) :
    Spec w 1 533 [.ref nl, .int i t] [] V (fun r _ => ∃ (k : Nat) (t : Tok), r = .int (k : Int) t ∧ k < 1100000) := by
  ((try unfold PSpec); unfold Spec; rintro κ A₀ base h₀ L m mean mg mb ⟨hp₀, gn₀, dr₀, tk₀, os₀⟩ Q E B₀ F₀ X₀ N₀ T₀ hk₀ hV₀ hd₀ hu₀ hret₀; refine wpAny_call ?_; k_dflt (refine' enter B₀ F₀ X₀ N₀ T₀ hV₀ hret₀ ?kA ?kF ?kK ?k6 ?k7 ?k8 ?k9 ?kB ?_ ?c5 ?c2 ?c3 ?c4; (case kA => exact rfl); (case kF => exact rfl); (case kK => exact hk₀); (case k6 => k_is); (case k7 => k_is); (case k8 => ktr_room); (case k9 => exact BindsTo.of_eq rfl); (case c5 => decide); (case kB => exact locs rfl); (case c2 => exact rfl); (case c3 => exact rfl); (case c4 => exact rfl); k_whole; clear hV₀ hret₀; intro mB g L' h₁ hV hret FG F' N' lt' B' X' T'; clear X₀ T₀ N₀ F₀ B₀; (try dsimp only); (try k_fold); refine gen_QE ?_; intro Q9 E9 hQ9 pE9))
  have hll : vs.length = ns.length := IntsAre.length hi
  (repeat' ((fail_if_success (with_reducible show wpAny _ _ (exec (Stmt.Assign _ (Expr.ListComp _ _ _ _) _) _) _ _ _)); (fail_if_success (with_reducible show wpAny _ _ (eval (Expr.ListComp _ _ _ _) _) _ _ _)); (fail_if_success (with_reducible show wpAny _ _ (call (Value.builtin "list.append") _) _ _ _)); (fail_if_success (with_reducible show wpAny _ _ (setItem _ _ _) _ _ _)); (fail_if_success (with_reducible show wpAny _ _ (subscriptTail _ _ (Value.ref _) (Value.int _ _)) _ _ _)); (fail_if_success (with_reducible show wpAny _ _ (compareOp CmpOp.In _ (Value.ref _)) _ _ _)); (fail_if_success (with_reducible show wpAny _ _ (getMethod (Value.ref _) (Str.ofString "append") _) _ _ _)); (fail_if_success (with_reducible show wpAny _ _ (call (Value.builtin "sorted") _) _ _ _)); (fail_if_success (with_reducible show wpAny _ _ (call (Value.builtin "len") [Value.ref _]) _ _ _)); (fail_if_success (with_reducible show wpAny _ _ (assign (Expr.Tuple _ _ _) _ (Value.ref _)) _ _ _)); walk_at "STEP"))
  rename Fr _ _ _ _ => F8
  refine len_any (F8.keep _ _ (hV _ _ hl)) (by omega) ?_
  intro lt1 lk1
  rw [hll]
  (repeat' ((fail_if_success (with_reducible show wpAny _ _ (exec (Stmt.Assign _ (Expr.ListComp _ _ _ _) _) _) _ _ _)); (fail_if_success (with_reducible show wpAny _ _ (eval (Expr.ListComp _ _ _ _) _) _ _ _)); (fail_if_success (with_reducible show wpAny _ _ (call (Value.builtin "list.append") _) _ _ _)); (fail_if_success (with_reducible show wpAny _ _ (setItem _ _ _) _ _ _)); (fail_if_success (with_reducible show wpAny _ _ (subscriptTail _ _ (Value.ref _) (Value.int _ _)) _ _ _)); (fail_if_success (with_reducible show wpAny _ _ (compareOp CmpOp.In _ (Value.ref _)) _ _ _)); (fail_if_success (with_reducible show wpAny _ _ (getMethod (Value.ref _) (Str.ofString "append") _) _ _ _)); (fail_if_success (with_reducible show wpAny _ _ (call (Value.builtin "sorted") _) _ _ _)); (fail_if_success (with_reducible show wpAny _ _ (call (Value.builtin "len") [Value.ref _]) _ _ _)); (fail_if_success (with_reducible show wpAny _ _ (assign (Expr.Tuple _ _ _) _ (Value.ref _)) _ _ _)); walk_at "STEP"))
  rename Fr _ _ _ _ => F8
  have hlis : h₁.IsList nl vs.toArray := list_of_view F8 hV hl
  have hne : (ns.length : Int) ≠ 0 := by omega
  have hm0 : 0 ≤ i.fmod ns.length := Int.fmod_nonneg_of_pos _ (by omega)
  have hm1 : i.fmod ns.length < ns.length := Int.fmod_lt_of_pos _ (by omega)
  refine item_ints hlis hi hm0 hm1 (by omega) ?_
  intro t9
  obtain ⟨x9, hx9⟩ : ∃ x, x = ns.getD (i.fmod ns.length).toNat 0 := ⟨_, rfl⟩
  rw [← hx9]
  have hb9 : 0 ≤ x9 ∧ x9 < 999983 := by
    rw [hx9]
    refine hb _ ?_
    have hlt : (i.fmod ns.length).toNat < ns.length := by omega
    rw [List.getD_eq_getElem?_getD, List.getElem?_eq_getElem hlt]
    exact List.getElem_mem hlt
  (repeat' ((fail_if_success (with_reducible show wpAny _ _ (exec (Stmt.Assign _ (Expr.ListComp _ _ _ _) _) _) _ _ _)); (fail_if_success (with_reducible show wpAny _ _ (eval (Expr.ListComp _ _ _ _) _) _ _ _)); (fail_if_success (with_reducible show wpAny _ _ (call (Value.builtin "list.append") _) _ _ _)); (fail_if_success (with_reducible show wpAny _ _ (setItem _ _ _) _ _ _)); (fail_if_success (with_reducible show wpAny _ _ (subscriptTail _ _ (Value.ref _) (Value.int _ _)) _ _ _)); (fail_if_success (with_reducible show wpAny _ _ (compareOp CmpOp.In _ (Value.ref _)) _ _ _)); (fail_if_success (with_reducible show wpAny _ _ (getMethod (Value.ref _) (Str.ofString "append") _) _ _ _)); (fail_if_success (with_reducible show wpAny _ _ (call (Value.builtin "sorted") _) _ _ _)); (fail_if_success (with_reducible show wpAny _ _ (call (Value.builtin "len") [Value.ref _]) _ _ _)); (fail_if_success (with_reducible show wpAny _ _ (assign (Expr.Tuple _ _ _) _ (Value.ref _)) _ _ _)); walk_at "STEP"))
  refine len_any ((by assumption : Fr g L' h₁ _).keep _ _ (hV _ _ hl)) (by omega) ?_
  intro lt2 lk2
  rw [hll]
  have hd0 : 0 ≤ i.fdiv ns.length := Int.fdiv_nonneg hi0 (by omega)
  have hd1 : i.fdiv ns.length ≤ 10 := by
    rw [Int.fdiv_eq_ediv_of_nonneg _ (by omega)]
    exact Int.le_trans (Int.ediv_le_self _ hi0) hi1
  (repeat' walk_at "STEP")
  ((try dsimp only); refine hret _ _ _ _ kp (fresh_of (by assumption)) kF kN ?_)
  exact ⟨(x9 + 31 * i.fdiv ns.length).toNat, _, congrArg (Value.int · _) (by omega), by omega⟩
theorem ikeyL_spec (w : World) (V : View) (e : Addr) (r : Row) (he : IsRow V e r) :
    Spec w 2 540 [.ref e] [] V (fun x _ => ∃ t, x = .bytes (U r.u ++ le8 (rtag r)).toArray t) := by
  obtain ⟨⟨t1, t2, t3, he⟩, hr⟩ := he
  have h8 := rtag_le8 hr
  obtain ⟨r1, r2, r3, r4⟩ := hr
  have hul := U_len r.u
  ((try unfold PSpec); unfold Spec; rintro κ A₀ base h₀ L m mean mg mb ⟨hp₀, gn₀, dr₀, tk₀, os₀⟩ Q E B₀ F₀ X₀ N₀ T₀ hk₀ hV₀ hd₀ hu₀ hret₀; refine wpAny_call ?_; k_dflt (refine' enter B₀ F₀ X₀ N₀ T₀ hV₀ hret₀ ?kA ?kF ?kK ?k6 ?k7 ?k8 ?k9 ?kB ?_ ?c5 ?c2 ?c3 ?c4; (case kA => exact rfl); (case kF => exact rfl); (case kK => exact hk₀); (case k6 => k_is); (case k7 => k_is); (case k8 => ktr_room); (case k9 => exact BindsTo.of_eq rfl); (case c5 => decide); (case kB => exact locs rfl); (case c2 => exact rfl); (case c3 => exact rfl); (case c4 => exact rfl); k_whole; clear hV₀ hret₀; intro mB g L' h₁ hV hret FG F' N' lt' B' X' T'; clear X₀ T₀ N₀ F₀ B₀; (try dsimp only); (try k_fold); refine gen_QE ?_; intro Q9 E9 hQ9 pE9))
  (repeat' ((fail_if_success (with_reducible show wpAny _ _ (exec (Stmt.Assign _ (Expr.ListComp _ _ _ _) _) _) _ _ _)); (fail_if_success (with_reducible show wpAny _ _ (eval (Expr.ListComp _ _ _ _) _) _ _ _)); (fail_if_success (with_reducible show wpAny _ _ (call (Value.builtin "list.append") _) _ _ _)); (fail_if_success (with_reducible show wpAny _ _ (setItem _ _ _) _ _ _)); (fail_if_success (with_reducible show wpAny _ _ (subscriptTail _ _ (Value.ref _) (Value.int _ _)) _ _ _)); (fail_if_success (with_reducible show wpAny _ _ (compareOp CmpOp.In _ (Value.ref _)) _ _ _)); (fail_if_success (with_reducible show wpAny _ _ (getMethod (Value.ref _) (Str.ofString "append") _) _ _ _)); (fail_if_success (with_reducible show wpAny _ _ (call (Value.builtin "sorted") _) _ _ _)); (fail_if_success (with_reducible show wpAny _ _ (call (Value.builtin "len") [Value.ref _]) _ _ _)); (fail_if_success (with_reducible show wpAny _ _ (assign (Expr.Tuple _ _ _) _ (Value.ref _)) _ _ _)); walk_at "STEP"))
  refine' Spec.useA (users_spec w V) ?kV ?_
  ((try (case kV => exact view_keep hV (by assumption))); intro r9 new9 h9 tk9 F' N' kp9 fr9 P9; (try k_sweep))
  (refine pk ?_; intro G9 hG9)
  obtain ⟨ud, un9, utk, rfl, hud⟩ := P9
  (refine hG9 ?_; clear hG9)
  dsimp only
  (repeat' ((fail_if_success (with_reducible show wpAny _ _ (exec (Stmt.Assign _ (Expr.ListComp _ _ _ _) _) _) _ _ _)); (fail_if_success (with_reducible show wpAny _ _ (eval (Expr.ListComp _ _ _ _) _) _ _ _)); (fail_if_success (with_reducible show wpAny _ _ (call (Value.builtin "list.append") _) _ _ _)); (fail_if_success (with_reducible show wpAny _ _ (setItem _ _ _) _ _ _)); (fail_if_success (with_reducible show wpAny _ _ (subscriptTail _ _ (Value.ref _) (Value.int _ _)) _ _ _)); (fail_if_success (with_reducible show wpAny _ _ (compareOp CmpOp.In _ (Value.ref _)) _ _ _)); (fail_if_success (with_reducible show wpAny _ _ (getMethod (Value.ref _) (Str.ofString "append") _) _ _ _)); (fail_if_success (with_reducible show wpAny _ _ (call (Value.builtin "sorted") _) _ _ _)); (fail_if_success (with_reducible show wpAny _ _ (call (Value.builtin "len") [Value.ref _]) _ _ _)); (fail_if_success (with_reducible show wpAny _ _ (assign (Expr.Tuple _ _ _) _ (Value.ref _)) _ _ _)); walk_at "STEP"))
  rename Fr _ _ _ _ => F8
  rename News _ _ _ _ => N8
  refine item_tupleT (tup_of_view F8 hV he) (by decide) (by decide) (j := 0) rfl rfl ?_
  (repeat' ((fail_if_success (with_reducible show wpAny _ _ (exec (Stmt.Assign _ (Expr.ListComp _ _ _ _) _) _) _ _ _)); (fail_if_success (with_reducible show wpAny _ _ (eval (Expr.ListComp _ _ _ _) _) _ _ _)); (fail_if_success (with_reducible show wpAny _ _ (call (Value.builtin "list.append") _) _ _ _)); (fail_if_success (with_reducible show wpAny _ _ (setItem _ _ _) _ _ _)); (fail_if_success (with_reducible show wpAny _ _ (subscriptTail _ _ (Value.ref _) (Value.int _ _)) _ _ _)); (fail_if_success (with_reducible show wpAny _ _ (compareOp CmpOp.In _ (Value.ref _)) _ _ _)); (fail_if_success (with_reducible show wpAny _ _ (getMethod (Value.ref _) (Str.ofString "append") _) _ _ _)); (fail_if_success (with_reducible show wpAny _ _ (call (Value.builtin "sorted") _) _ _ _)); (fail_if_success (with_reducible show wpAny _ _ (call (Value.builtin "len") [Value.ref _]) _ _ _)); (fail_if_success (with_reducible show wpAny _ _ (assign (Expr.Tuple _ _ _) _ (Value.ref _)) _ _ _)); walk_at "STEP"))
  rename News _ _ _ _ => N8
  refine item_any (N8 _ (List.mem_append_left _ hud)).1 (k := r.u) (users_at utk r1) (by omega) ?_
  (repeat' ((fail_if_success (with_reducible show wpAny _ _ (exec (Stmt.Assign _ (Expr.ListComp _ _ _ _) _) _) _ _ _)); (fail_if_success (with_reducible show wpAny _ _ (eval (Expr.ListComp _ _ _ _) _) _ _ _)); (fail_if_success (with_reducible show wpAny _ _ (call (Value.builtin "list.append") _) _ _ _)); (fail_if_success (with_reducible show wpAny _ _ (setItem _ _ _) _ _ _)); (fail_if_success (with_reducible show wpAny _ _ (subscriptTail _ _ (Value.ref _) (Value.int _ _)) _ _ _)); (fail_if_success (with_reducible show wpAny _ _ (compareOp CmpOp.In _ (Value.ref _)) _ _ _)); (fail_if_success (with_reducible show wpAny _ _ (getMethod (Value.ref _) (Str.ofString "append") _) _ _ _)); (fail_if_success (with_reducible show wpAny _ _ (call (Value.builtin "sorted") _) _ _ _)); (fail_if_success (with_reducible show wpAny _ _ (call (Value.builtin "len") [Value.ref _]) _ _ _)); (fail_if_success (with_reducible show wpAny _ _ (assign (Expr.Tuple _ _ _) _ (Value.ref _)) _ _ _)); walk_at "STEP"))
  refine item_tupleT (tup_of_view F8 hV he) (by decide) (by decide) (j := 2) rfl rfl ?_
  (repeat' ((fail_if_success (with_reducible show wpAny _ _ (exec (Stmt.Assign _ (Expr.ListComp _ _ _ _) _) _) _ _ _)); (fail_if_success (with_reducible show wpAny _ _ (eval (Expr.ListComp _ _ _ _) _) _ _ _)); (fail_if_success (with_reducible show wpAny _ _ (call (Value.builtin "list.append") _) _ _ _)); (fail_if_success (with_reducible show wpAny _ _ (setItem _ _ _) _ _ _)); (fail_if_success (with_reducible show wpAny _ _ (subscriptTail _ _ (Value.ref _) (Value.int _ _)) _ _ _)); (fail_if_success (with_reducible show wpAny _ _ (compareOp CmpOp.In _ (Value.ref _)) _ _ _)); (fail_if_success (with_reducible show wpAny _ _ (getMethod (Value.ref _) (Str.ofString "append") _) _ _ _)); (fail_if_success (with_reducible show wpAny _ _ (call (Value.builtin "sorted") _) _ _ _)); (fail_if_success (with_reducible show wpAny _ _ (call (Value.builtin "len") [Value.ref _]) _ _ _)); (fail_if_success (with_reducible show wpAny _ _ (assign (Expr.Tuple _ _ _) _ (Value.ref _)) _ _ _)); walk_at "STEP"))
  refine item_tupleT (tup_of_view (by assumption) hV he) (by decide) (by decide) (j := 1) rfl rfl ?_
  have hby : ∀ x ∈ [(r.k : Int), 0 - -(r.s : Int), 0, 0, 0, 0, 0, 0], 0 ≤ x ∧ x < 256 := by
    intro x hx
    simp only [List.mem_cons, List.not_mem_nil, or_false] at hx
    omega
  (repeat' ((fail_if_success (with_reducible show wpAny _ _ (exec (Stmt.Assign _ (Expr.ListComp _ _ _ _) _) _) _ _ _)); (fail_if_success (with_reducible show wpAny _ _ (eval (Expr.ListComp _ _ _ _) _) _ _ _)); (fail_if_success (with_reducible show wpAny _ _ (call (Value.builtin "list.append") _) _ _ _)); (fail_if_success (with_reducible show wpAny _ _ (setItem _ _ _) _ _ _)); (fail_if_success (with_reducible show wpAny _ _ (subscriptTail _ _ (Value.ref _) (Value.int _ _)) _ _ _)); (fail_if_success (with_reducible show wpAny _ _ (compareOp CmpOp.In _ (Value.ref _)) _ _ _)); (fail_if_success (with_reducible show wpAny _ _ (getMethod (Value.ref _) (Str.ofString "append") _) _ _ _)); (fail_if_success (with_reducible show wpAny _ _ (call (Value.builtin "sorted") _) _ _ _)); (fail_if_success (with_reducible show wpAny _ _ (call (Value.builtin "len") [Value.ref _]) _ _ _)); (fail_if_success (with_reducible show wpAny _ _ (assign (Expr.Tuple _ _ _) _ (Value.ref _)) _ _ _)); walk_at "STEP"))
  ((try dsimp only); refine hret _ _ _ _ kp (fresh_of (by assumption)) kF kN ?_)
  have e9 : (U r.u).toArray ++ (List.map (fun n : Int => n.toNat.toUInt8) [(r.k : Int), 0 - -(r.s : Int), 0, 0, 0, 0, 0, 0]).toArray = (U r.u ++ le8 (rtag r)).toArray := by
    rw [h8, show (0 - -(r.s : Int)) = (r.s : Int) by omega, List.append_toArray]
    rfl
  exact ⟨_, congrArg (Value.bytes · _) e9⟩
abbrev XR := List (Addr × Row)
abbrev refsR (xs : XR) : List Value := xs.map fun p => Value.ref p.1
def IsRows (V : View) (l : Addr) (xs : XR) : Prop := (∃ n, V l (listOf (refsR xs).toArray n)) ∧ ∀ p ∈ xs, IsRow V p.1 p.2
theorem IsRows.mono {V V' : View} {l : Addr} {xs : XR} (h : IsRows V l xs) (k : ∀ a o, V a o → V' a o) : IsRows V' l xs := by
  obtain ⟨⟨n, h1⟩, h2⟩ := h
  exact ⟨⟨n, k _ _ h1⟩, fun p hp => (h2 p hp).mono k⟩
def toldS (u q : Nat) (acc : Bool × Int × List UInt8) (r : Row) : Bool × Int × List UInt8 := if r.u = u ∧ r.s ≤ q then (if r.k = 1 then (true, 1, [UInt8.ofNat (65 + u), UInt8.ofNat r.s]) else (true, 0, [])) else acc
def toldP (rs : List Row) (u q : Nat) : Bool × Int × List UInt8 := rs.foldl (toldS u q) (false, 0, [])
structure TT where
  adr : Addr
  a : Tok
  b : Tok
abbrev tObj (c : TT) (p : Bool × Int × List UInt8) : Addr × Obj := (c.adr, tupOf #[.bool p.1, .int p.2.1 c.a, .bytes p.2.2.toArray c.b])
theorem told_spec (w : World) (V : View) (hl : Addr) (xs : XR) (u q : Nat) (tu tq : Tok) (hx : IsRows V hl xs) (hu : u < 5) :
    Spec w 2 552 [.ref hl, .int (u : Int) tu, .int (-(q : Int)) tq] [] V (fun r new => ∃ c, r = .ref c.adr ∧ tObj c (toldP (xs.map (·.2)) u q) ∈ new) := by
  obtain ⟨⟨hn, hx1⟩, hx2⟩ := hx
  ((try unfold PSpec); unfold Spec; rintro κ A₀ base h₀ L m mean mg mb ⟨hp₀, gn₀, dr₀, tk₀, os₀⟩ Q E B₀ F₀ X₀ N₀ T₀ hk₀ hV₀ hd₀ hu₀ hret₀; refine wpAny_call ?_; k_dflt (refine' enter B₀ F₀ X₀ N₀ T₀ hV₀ hret₀ ?kA ?kF ?kK ?k6 ?k7 ?k8 ?k9 ?kB ?_ ?c5 ?c2 ?c3 ?c4; (case kA => exact rfl); (case kF => exact rfl); (case kK => exact hk₀); (case k6 => k_is); (case k7 => k_is); (case k8 => ktr_room); (case k9 => exact BindsTo.of_eq rfl); (case c5 => decide); (case kB => exact locs rfl); (case c2 => exact rfl); (case c3 => exact rfl); (case c4 => exact rfl); k_whole; clear hV₀ hret₀; intro mB g L' h₁ hV hret FG F' N' lt' B' X' T'; clear X₀ T₀ N₀ F₀ B₀; (try dsimp only); (try k_fold); refine gen_QE ?_; intro Q9 E9 hQ9 pE9))
  (repeat' walk_at "STEP")
  rename Fr _ _ _ _ => F5
  refine For_turns F5 ?_
  (repeat' walk_at "STEP")
  rename Fr _ _ _ _ => F6
  rename News _ _ _ _ => N6
  (refine pk ?_; intro G9 hG9)
  obtain ⟨ta, tb, N7⟩ : ∃ ta tb, News g L' (heapOf F6) [tObj ⟨t5, ta, tb⟩ (false, 0, [])] := ⟨_, _, N6⟩
  (refine hG9 ?_; clear hG9)
  clear N6
  have hk5 : ∀ p ∈ [(Str.ofString "told", Value.ref t5)], mOf F6 p.1 = some p.2 := all1 rfl
  refine turns_base (σ := TT × (Bool × Int × List UInt8)) (l := hl) (vs := refsR xs) (fun c => [(Str.ofString "told", .ref c.1.adr)]) (fun c => [tObj c.1 c.2]) [Str.ofString "e"] (fun i c => c.2 = toldP ((xs.map (·.2)).take i) u q) (⟨t5, ta, tb⟩, (false, 0, [])) rfl ⟨_, hV _ _ hx1, rfl, hn, rfl⟩ F6 N7 hk5 rfl ?_ ?_
  · rintro i v ⟨c, p⟩ um hh tk5 own I hi hP hw hI ho F' N'
    refine gen_turn ?_; intro Q8 hQ8
    clear hk5 F6 N7
    dsimp only at hP N' ho hw
    dsimp only [kstB] at F'
    (refine pk ?_; intro G9 hG9)
    obtain ⟨e, he, rfl⟩ := Option.map_eq_some_iff.mp ((List.getElem?_map).symm.trans hi)
    obtain ⟨⟨e1, e2, e3, he1⟩, r1, r2, r3, r4⟩ := hx2 e (List.mem_of_getElem? he)
    (refine hG9 ?_; clear hG9)
    (repeat' ((fail_if_success (with_reducible show wpAny _ _ (exec (Stmt.Assign _ (Expr.ListComp _ _ _ _) _) _) _ _ _)); (fail_if_success (with_reducible show wpAny _ _ (eval (Expr.ListComp _ _ _ _) _) _ _ _)); (fail_if_success (with_reducible show wpAny _ _ (call (Value.builtin "list.append") _) _ _ _)); (fail_if_success (with_reducible show wpAny _ _ (setItem _ _ _) _ _ _)); (fail_if_success (with_reducible show wpAny _ _ (subscriptTail _ _ (Value.ref _) (Value.int _ _)) _ _ _)); (fail_if_success (with_reducible show wpAny _ _ (compareOp CmpOp.In _ (Value.ref _)) _ _ _)); (fail_if_success (with_reducible show wpAny _ _ (getMethod (Value.ref _) (Str.ofString "append") _) _ _ _)); (fail_if_success (with_reducible show wpAny _ _ (call (Value.builtin "sorted") _) _ _ _)); (fail_if_success (with_reducible show wpAny _ _ (call (Value.builtin "len") [Value.ref _]) _ _ _)); (fail_if_success (with_reducible show wpAny _ _ (assign (Expr.Tuple _ _ _) _ (Value.ref _)) _ _ _)); walk_at "STEP"))
    rename Fr _ _ _ _ => F8
    refine item_tupleT (tup_of_view F8 hV he1) (by decide) (by decide) (j := 0) rfl rfl ?_
    have stepP : ∀ p', p' = toldS u q p e.2 → p' = toldP ((xs.map (·.2)).take (i + 1)) u q := fun p' h => by
      rw [h, hP, toldP, toldP, List.take_add_one, List.getElem?_map, he, List.foldl_append]
      rfl
    obtain ⟨oI, hoI⟩ := hI
    (repeat' ((fail_if_success (with_reducible show wpAny _ _ (exec (Stmt.Assign _ (Expr.ListComp _ _ _ _) _) _) _ _ _)); (fail_if_success (with_reducible show wpAny _ _ (eval (Expr.ListComp _ _ _ _) _) _ _ _)); (fail_if_success (with_reducible show wpAny _ _ (call (Value.builtin "list.append") _) _ _ _)); (fail_if_success (with_reducible show wpAny _ _ (setItem _ _ _) _ _ _)); (fail_if_success (with_reducible show wpAny _ _ (subscriptTail _ _ (Value.ref _) (Value.int _ _)) _ _ _)); (fail_if_success (with_reducible show wpAny _ _ (compareOp CmpOp.In _ (Value.ref _)) _ _ _)); (fail_if_success (with_reducible show wpAny _ _ (getMethod (Value.ref _) (Str.ofString "append") _) _ _ _)); (fail_if_success (with_reducible show wpAny _ _ (call (Value.builtin "sorted") _) _ _ _)); (fail_if_success (with_reducible show wpAny _ _ (call (Value.builtin "len") [Value.ref _]) _ _ _)); (fail_if_success (with_reducible show wpAny _ _ (assign (Expr.Tuple _ _ _) _ (Value.ref _)) _ _ _)); walk_at "STEP"))
    · refine item_tupleT (tup_of_view F8 hV he1) (by decide) (by decide) (j := 1) rfl rfl ?_
      (repeat' ((fail_if_success (with_reducible show wpAny _ _ (exec (Stmt.Assign _ (Expr.ListComp _ _ _ _) _) _) _ _ _)); (fail_if_success (with_reducible show wpAny _ _ (eval (Expr.ListComp _ _ _ _) _) _ _ _)); (fail_if_success (with_reducible show wpAny _ _ (call (Value.builtin "list.append") _) _ _ _)); (fail_if_success (with_reducible show wpAny _ _ (setItem _ _ _) _ _ _)); (fail_if_success (with_reducible show wpAny _ _ (subscriptTail _ _ (Value.ref _) (Value.int _ _)) _ _ _)); (fail_if_success (with_reducible show wpAny _ _ (compareOp CmpOp.In _ (Value.ref _)) _ _ _)); (fail_if_success (with_reducible show wpAny _ _ (getMethod (Value.ref _) (Str.ofString "append") _) _ _ _)); (fail_if_success (with_reducible show wpAny _ _ (call (Value.builtin "sorted") _) _ _ _)); (fail_if_success (with_reducible show wpAny _ _ (call (Value.builtin "len") [Value.ref _]) _ _ _)); (fail_if_success (with_reducible show wpAny _ _ (assign (Expr.Tuple _ _ _) _ (Value.ref _)) _ _ _)); walk_at "STEP"))
      · have hcd : e.2.u = u ∧ e.2.s ≤ q := by omega
        have hneI : t5 ≠ I := Nat.ne_of_gt (lt5 _ (List.mem_append_left _ hoI))
        refine item_tupleT (tup_of_view (by assumption) hV he1) (by decide) (by decide) (j := 2) rfl rfl ?_
        have hby : ∀ x ∈ [65 + (u : Int), 0 - -(e.2.s : Int)], 0 ≤ x ∧ x < 256 := by
          intro x hx
          simp only [List.mem_cons, List.not_mem_nil, or_false] at hx
          omega
        (repeat' ((fail_if_success (with_reducible show wpAny _ _ (exec (Stmt.Assign _ (Expr.ListComp _ _ _ _) _) _) _ _ _)); (fail_if_success (with_reducible show wpAny _ _ (eval (Expr.ListComp _ _ _ _) _) _ _ _)); (fail_if_success (with_reducible show wpAny _ _ (call (Value.builtin "list.append") _) _ _ _)); (fail_if_success (with_reducible show wpAny _ _ (setItem _ _ _) _ _ _)); (fail_if_success (with_reducible show wpAny _ _ (subscriptTail _ _ (Value.ref _) (Value.int _ _)) _ _ _)); (fail_if_success (with_reducible show wpAny _ _ (compareOp CmpOp.In _ (Value.ref _)) _ _ _)); (fail_if_success (with_reducible show wpAny _ _ (getMethod (Value.ref _) (Str.ofString "append") _) _ _ _)); (fail_if_success (with_reducible show wpAny _ _ (call (Value.builtin "sorted") _) _ _ _)); (fail_if_success (with_reducible show wpAny _ _ (call (Value.builtin "len") [Value.ref _]) _ _ _)); (fail_if_success (with_reducible show wpAny _ _ (assign (Expr.Tuple _ _ _) _ (Value.ref _)) _ _ _)); walk_at "STEP"))
        · refine item_tupleT (tup_of_view (by assumption) hV he1) (by decide) (by decide) (j := 1) rfl rfl ?_
          (repeat' ((fail_if_success (with_reducible show wpAny _ _ (exec (Stmt.Assign _ (Expr.ListComp _ _ _ _) _) _) _ _ _)); (fail_if_success (with_reducible show wpAny _ _ (eval (Expr.ListComp _ _ _ _) _) _ _ _)); (fail_if_success (with_reducible show wpAny _ _ (call (Value.builtin "list.append") _) _ _ _)); (fail_if_success (with_reducible show wpAny _ _ (setItem _ _ _) _ _ _)); (fail_if_success (with_reducible show wpAny _ _ (subscriptTail _ _ (Value.ref _) (Value.int _ _)) _ _ _)); (fail_if_success (with_reducible show wpAny _ _ (compareOp CmpOp.In _ (Value.ref _)) _ _ _)); (fail_if_success (with_reducible show wpAny _ _ (getMethod (Value.ref _) (Str.ofString "append") _) _ _ _)); (fail_if_success (with_reducible show wpAny _ _ (call (Value.builtin "sorted") _) _ _ _)); (fail_if_success (with_reducible show wpAny _ _ (call (Value.builtin "len") [Value.ref _]) _ _ _)); (fail_if_success (with_reducible show wpAny _ _ (assign (Expr.Tuple _ _ _) _ (Value.ref _)) _ _ _)); walk_at "STEP"))
          rename Fr _ _ _ _ => F9
          rename News _ _ _ _ => N9
          have e9 : (List.map (fun n : Int => n.toNat.toUInt8) [65 + (u : Int), 0 - -(e.2.s : Int)]) = [UInt8.ofNat (65 + u), UInt8.ofNat e.2.s] := by
            rw [show (0 - -(e.2.s : Int)) = (e.2.s : Int) by omega, show 65 + (u : Int) = ((65 + u : Nat) : Int) by omega]
            rfl
          rw [e9] at N9
          have hneI' : t5 ≠ I := Nat.ne_of_gt (lt5 _ (.tail _ (.tail _ (List.mem_append_left _ hoI))))
          (refine pk ?_; intro G9 hG9)
          obtain ⟨ta', tb', N10⟩ : ∃ ta' tb', News g L' (heapOf F9) (tObj ⟨t5, ta', tb'⟩ (true, 1, [UInt8.ofNat (65 + u), UInt8.ofNat e.2.s]) :: (own ++ [tObj c p])) := ⟨_, _, fun q hq => (List.mem_cons.mp hq).elim (fun h => h ▸ N9 _ (.head _)) fun h => N9 q (.tail _ (.tail _ (.tail _ h)))⟩
          (refine hG9 ?_; clear hG9)
          have hk9 : ∀ p ∈ [(Str.ofString "told", Value.ref t5)], mOf F9 p.1 = some p.2 := all1 rfl
          refine TurnE.intro (⟨t5, ta', tb'⟩, (true, 1, [UInt8.ofNat (65 + u), UInt8.ofNat e.2.s])) F9 N10 (fun p hp => .tail _ (List.mem_append_left _ hp)) (fun p hp => by rw [List.mem_singleton.mp hp]; exact .head _) (fun p hp h => by rw [List.mem_singleton.mp hp] at h; exact hneI' (List.mem_singleton.mp h)) hk9 (by ksw_same) (stepP _ ?_)
          unfold toldS
          rw [if_pos hcd, if_pos (by omega)]
        · rename Fr _ _ _ _ => F9
          rename News _ _ _ _ => N9
          (refine pk ?_; intro G9 hG9)
          obtain ⟨ta', tb', N10⟩ : ∃ ta' tb', News g L' (heapOf F9) (tObj ⟨t5, ta', tb'⟩ (true, 0, []) :: (own ++ [tObj c p])) := ⟨_, _, N9⟩
          (refine hG9 ?_; clear hG9)
          have hk9 : ∀ p ∈ [(Str.ofString "told", Value.ref t5)], mOf F9 p.1 = some p.2 := all1 rfl
          refine TurnE.intro (⟨t5, ta', tb'⟩, (true, 0, [])) F9 N10 (fun p hp => .tail _ (List.mem_append_left _ hp)) (fun p hp => by rw [List.mem_singleton.mp hp]; exact .head _) (fun p hp h => by rw [List.mem_singleton.mp hp] at h; exact hneI (List.mem_singleton.mp h)) hk9 (by ksw_same) (stepP _ ?_)
          unfold toldS
          rw [if_pos hcd, if_neg (by omega)]
      · refine TurnE.intro (c, p) (by assumption) (by assumption) (fun p hp => List.mem_append_left _ hp) (fun p hp => List.mem_append_right _ hp) (fun p hp h => hw p hp (List.mem_singleton.mp h)) (all1 rfl) (by ksw_same) (stepP _ ?_)
        unfold toldS
        rw [if_neg (by omega)]
    · refine TurnE.intro (c, p) (by assumption) (by assumption) (fun p hp => List.mem_append_left _ hp) (fun p hp => List.mem_append_right _ hp) (fun p hp h => hw p hp (List.mem_singleton.mp h)) (all1 rfl) (by ksw_same) (stepP _ ?_)
      unfold toldS
      rw [if_neg (by omega)]
  · rintro ⟨c, p⟩ um hh tk5 hP F' N'
    clear hk5 F6 N7
    dsimp only at hP N'
    dsimp only [kstB] at F'
    have e8 : (refsR xs).length = (xs.map (·.2)).length := by rw [List.length_map, List.length_map]
    rw [e8, List.take_length] at hP
    subst hP
    (repeat' walk_at "STEP")
    ((try dsimp only); refine hret _ _ _ _ kp (fresh_of (by assumption)) kF kN ?_)
    exact ⟨c, rfl, .head _⟩
end
section
theorem rc_ge {prog : Program} {w : World} {A : Around} {E : Value → Shared → Prop} {s : Shared} {a b : Int} {t u : Tok} {Q : Value → Shared → Prop} (h : Q (.bool (decide (b ≤ a))) s) : wpAny (model prog w) A (richCompare .GtE (.int a t) (.int b u)) Q E s := PyProof.Rows.ge_int h
theorem tup_ge (l b : Addr) (a1 a2 b1 b2 : Int) (t1 t2 u1 u2 : Tok) (n n2 : Nat) (dd dd2 : Option Addr) (sl sl2 : Array (Option Value)) (k : Bool) (hk : k = if a1 = b1 then (if a2 = b2 then true else decide (a2 ≥ b2)) else decide (a1 ≥ b1)) :
    Meets (Builtin.«tuple.__ge__» ⟨[.ref l, .ref b], []⟩)
      (fun A R s => s.heap.get? l = some { cls := .type "tuple", dict := dd, data := .seq #[.int a1 t1, .int a2 t2] n, slots := sl } ∧ s.heap.get? b = some { cls := .type "tuple", dict := dd2, data := .seq #[.int b1 u1, .int b2 u2] n2, slots := sl2 } ∧
        R (.ok (.ret (.bool k))) s) :=
  .of_wp fun prog w A R s h => by
    obtain ⟨hp, g, d, tk, os⟩ := s; obtain ⟨hl, hb, h⟩ := h
    have f2 := AutoSeq1.sub_tuple_tuple
    wp_walk using wpAny_loadPart' hl, wpAny_loadPart' hb, wpAny_forIn_list _ (fun rest b s' => b.1 = none ∧ s' = ⟨hp, g, d, tk, os⟩ ∧ ((rest = [(Value.int a1 t1, Value.int b1 u1), (Value.int a2 t2, Value.int b2 u2)]) ∨ (a1 = b1 ∧ rest = [(Value.int a2 t2, Value.int b2 u2)]) ∨ (a1 = b1 ∧ a2 = b2 ∧ rest = []))) _
    case turn =>
      rintro ⟨y, x⟩ rest b s' ⟨hb', rfl, hz⟩
      rcases hz with hz | ⟨h1, hz⟩ | ⟨_, _, hz⟩
      · injection hz with hyx hrest
        injection hyx with hy hx
        subst hy hx hrest
        refine wpAny_bind (wpAny_eqBool_int ?_)
        by_cases h1 : a1 = b1
        · rw [show (a1 == b1) = true by simpa using h1]
          wp_walk
          exact ⟨rfl, rfl, .inr (.inl ⟨h1, rfl⟩)⟩
        · rw [show (a1 == b1) = false by simpa using h1]
          rw [if_neg h1] at hk
          subst hk
          wp_walk using rc_ge
          exact ⟨_, rfl, h⟩
      · injection hz with hyx hrest
        injection hyx with hy hx
        subst hy hx hrest
        refine wpAny_bind (wpAny_eqBool_int ?_)
        by_cases h2 : a2 = b2
        · rw [show (a2 == b2) = true by simpa using h2]
          wp_walk
          exact ⟨rfl, rfl, .inr (.inr ⟨h1, h2, rfl⟩)⟩
        · rw [show (a2 == b2) = false by simpa using h2]
          rw [if_pos h1, if_neg h2] at hk
          subst hk
          wp_walk using rc_ge
          exact ⟨_, rfl, h⟩
      · cases hz
    case fin =>
      rintro ⟨b1', b2'⟩ s' ⟨hb', rfl, hz⟩
      simp only at hb'
      subst hb'
      rcases hz with hz | ⟨h1, hz⟩ | ⟨h1, h2, hz⟩
      · cases hz
      · cases hz
      · rw [if_pos h1, if_pos h2] at hk
        subst hk
        wp_walk
        exact ⟨_, rfl, by simpa [Builtin.Tuple.tupleCompareSizes] using h⟩
    case h =>
      exact ⟨rfl, rfl, .inl rfl⟩
theorem ge_tup2 {prog : Program} {w : World} {A : Around} {E : Value → Shared → Prop} {s : Shared} {l b : Addr} {a1 a2 b1 b2 : Int} {t1 t2 u1 u2 : Tok} {Q : Value → Shared → Prop} (hl : s.heap.get? l = some (tupOf #[.int a1 t1, .int a2 t2])) (hb : s.heap.get? b = some (tupOf #[.int b1 u1, .int b2 u2])) (hu : A.units < cLine)
    (h : Q (.bool (if a1 = b1 then (if a2 = b2 then true else decide (a2 ≥ b2)) else decide (a1 ≥ b1))) s) : wpAny (model prog w) A (compareOp .GtE (.ref l) (.ref b)) Q E s :=
  richCompare_meets_room (op := .GtE) ⟨_, hl, rfl⟩ ⟨_, hb, rfl⟩ F.slot_tuple_ge F.entry_tuple_ge (F.args_tuple_ge_2 _ _) (tup_ge l b a1 a2 b1 b2 t1 t2 u1 u2 _ _ _ _ _ _ _ rfl)
    ⟨hl, hb, show Value.bool _ ≠ Value.notImplemented ∧ Q (.bool _) s from ⟨(fun x => nomatch x), h⟩⟩ hu
def geR (u q : Nat) (r : Row) : Bool := decide (r.u > u ∨ (r.u = u ∧ r.s ≤ q))
def entOf (u q : Nat) (d : Bool) (rs : List Row) : Ent := match rs.find? (geR u q) with
  | none => none
  | some r => if r.u = u ∨ d = false then some (r.u, rtag r, [UInt8.ofNat (65 + r.u), UInt8.ofNat r.s]) else none
abbrev XT := List (Addr × XR)
abbrev rowsOf (xs : XR) : List Row := xs.map (·.2)
def IsTabs (V : View) (l : Addr) (ts : XT) : Prop := (∃ n, V l (listOf (ts.map fun p => Value.ref p.1).toArray n)) ∧ ∀ p ∈ ts, IsRows V p.1 p.2 ∧ (∃ e, p.2 = [e] ∨ ∃ e', p.2 = [e, e'])
theorem valueAt_map {k j : Int} {v : Value} : ∀ kvs : List (Int × Value), valueAt (kvs.map fun kv => if kv.1 = k then (kv.1, v) else kv) j = if k = j then (valueAt kvs j).map (fun _ => v) else valueAt kvs j
  | [] => by simp [valueAt]
  | kv :: r => by
    have ih := valueAt_map (k := k) (j := j) (v := v) r
    unfold valueAt at ih ⊢
    rw [List.map_cons, List.find?_cons, List.find?_cons]
    by_cases h1 : kv.1 = k
    · by_cases h2 : kv.1 = j
      · have h3 : k = j := by omega
        simp [h1, h3]
      · have h3 : ¬ k = j := by omega
        simp only [h1, h3, if_pos, if_false, decide_false]
        rw [if_neg h3] at ih
        exact ih
    · rw [if_neg h1]
      by_cases h2 : kv.1 = j
      · have h3 : ¬ k = j := by omega
        simp [h2, h3]
      · simp only [h2, decide_false]
        exact ih
theorem valueAt_none {k : Int} {kvs : List (Int × Value)} (h : ¬ kvs.any (fun kv => kv.1 = k) = true) : valueAt kvs k = none := by
  unfold valueAt
  rw [List.find?_eq_none.mpr]
  · rfl
  · intro kv hkv hk
    exact h (List.any_eq_true.mpr ⟨kv, hkv, hk⟩)
theorem valueAt_append {k j : Int} {v : Value} (kvs : List (Int × Value)) : valueAt (kvs ++ [(k, v)]) j = (valueAt kvs j).or (if k = j then some v else none) := by
  unfold valueAt
  rw [List.find?_append]
  cases h : kvs.find? (fun kv => decide (kv.1 = j)) with
  | some x => rfl
  | none =>
    by_cases hk : k = j <;> simp [hk]
theorem valueAt_stored {k j : Int} {v : Value} (kvs : List (Int × Value)) : valueAt (stored kvs k v) j = if k = j then some v else valueAt kvs j := by
  unfold stored
  split
  · rename_i h
    rw [valueAt_map]
    split
    · rename_i e
      subst e
      obtain ⟨kv, hkv, hk⟩ := List.any_eq_true.mp h
      have : (valueAt kvs k).isSome = true := by
        unfold valueAt
        rw [Option.isSome_map, List.find?_isSome]
        exact ⟨kv, hkv, hk⟩
      obtain ⟨y, hy⟩ := Option.isSome_iff_exists.mp this
      rw [hy]
      rfl
    · rfl
  · rename_i h
    rw [valueAt_append]
    split
    · rename_i e
      subst e
      rw [valueAt_none h]
      rfl
    · cases valueAt kvs j <;> rfl
section
variable {w : World} {A₀ A : Around} {s : Shared} {base h₀ : Heap} {outer : List PySem.Env} {L : Addr} {m : Str → Option Value} {env : PySem.Env} {touch : Led} {V : View}
  {name qual : Str} {params : Arguments} {body : List Stmt} {scope : Scope} {dV kV doc pm cdv ct oc : Value} {an od : Option Addr} {osl : Array (Option Value)} {f : Addr} {args : Args} {binds : List (Str × Value)}
  {mean : ExcName → Option Value} {mg mb : Str → Option Value} {Post : Value → Led → Prop} {Q E : Value → Shared → Prop}
/-- as enter, of a def whose locals are captured -/
theorem enterC (B : Below A₀ base outer h₀) (F : Fr h₀ L s.heap m) (X : (MineHd.hdx.heap_1_1 w.params).In h₀) (N : News h₀ L s.heap touch) (T : Top MineHd.hdx.view_1_2 (looseW MineHd.hdx.view_1_2 []) mean mg mb h₀)
    (hV : ∀ a o, V a o → (hideAll s.heap (touch.map (·.1))).get? a = some o) (hret : Ret h₀ L m (hideAll s.heap (touch.map (·.1))) Post Q s)
    (hA : A.frames = some (env :: outer)) (hf : env.frame = some L) (hke : env.scope.kind = .function)
    (ho : (MineHd.hdx.heap_1_1 w.params).lookup f = some ⟨oc, od, .func (fnOf name qual params body scope dV kV doc pm an cdv ct), osl⟩) (hcd : codeIn (MineHd.hdx.heap_1_1 w.params) cdv qual = true) (hroom : A.depth < recursionLimit)
    (hbind : BindsTo s (fnOf name qual params body scope dV kV doc pm an cdv ct) args binds) (hkind : (binds.all fun y => scope.names.lookup y.1 == some .local || scope.names.lookup y.1 == some .cell) = true)
    (hnd : ((cellsFrom 0 scope.names []).map (·.1)).Nodup)
    (h : ∀ g L' h₁ tk cells, (∀ a o, V a o → g.get? a = some o) → Ret h₀ L m g Post Q s → Fr h₀ L g m → Fr g L' h₁ (bindL (envOfC qual scope L' f cdv).kindOf binds fun _ => none) → News g L' h₁ (cells ++ touch) →
      CellsAre (bindC (envOfC qual scope L' f cdv).kindOf binds fun _ => none) (cellsFrom (L' + 1) scope.names []) cells → (∀ p ∈ touch, p.1 < L') → Below A base (env :: outer) g → (MineHd.hdx.heap_1_1 w.params).In g → Top MineHd.hdx.view_1_2 (looseW MineHd.hdx.view_1_2 []) mean mg mb g →
      wpAny (model prg w) (A.deeper (envOfC qual scope L' f cdv)) (execs body (envOfC qual scope L' f cdv))
        (fun fl s' => LeaveK h₀ L m g (fun r s'' => (∀ b o, g.get? b = some o → s''.heap.get? b = some o) → match r with | .ok (.ret v) => Q v s'' | .ok _ => False | .error e => E e s'') (match fl with | .ret v => v | _ => .none) s')
        (fun e s' => wpAny (model prg w) (A.deeper (envOfC qual scope L' f cdv)) (leaving (envOfC qual scope L' f cdv) e) (fun _ s'' => E e s'') (fun e' s'' => E e' s'') s')
        { s with heap := h₁, toks := tk })
    (hco : scope.isCoroutine = false) (hgen : scope.isGenerator = false) (hk : scope.kind = .function) :
    codeAny (model prg w) A (.call (.ref f) args) (fun r s' => match r with | .ok (.ret v) => Q v s' | .ok _ => False | .error e => E e s') s := by
  obtain ⟨FG, BG, st, lv⟩ := groundX (R := fun r s' => match r with | .ok (.ret v) => Q v s' | .ok _ => False | .error e => E e s') B F N hA hf hke
  refine codeAny_call_function hroom ((X.keeps F.keep) _ _ ho) rfl hco hgen rfl (codeRec_of (X.keeps F.keep) hcd) (hbind _ _ _ _ ?_)
  refine wpAny_newFunctionEnv_cells hk (kindsX hkind _) fun env' he s' x => ?_
  subst he
  refine ⟨(T.nolimit.keeps F.keep).keeps x.toInCall.keep, codeAny_func ?_⟩
  obtain ⟨h₁, tk, rfl, _⟩ := x.done
  have hk₁ := x.toInCall.keep
  obtain ⟨cells, NC, Y⟩ := Cl.news (h₀ := s.heap) (Nat.le_refl _) fun n c hm => ⟨x.cell n c (lookup_of_mem_nodup (cellsFrom_names scope.names 0 (s.heap.objs.size + 1) [] [] rfl ▸ hnd) hm), x.above n c hm⟩
  refine wpAny_mono (h _ s.heap.objs.size h₁ tk cells hV hret FG ⟨x.toInCall.ns, fun b o e => hk₁ b o (of_hideAll _ e), Nat.le_of_eq (hideAll_size _ _)⟩ (fun p hp => ?_) Y (fun p hp => Heap.lt_size (N p hp).1) BG (X.keeps st) (T.keeps st)) (fun fl s' hl => ?_) fun _ _ y => y
  · rcases List.mem_append.mp hp with hp | hp
    · refine ⟨(NC p hp).1, (NC p hp).2.1, ?_⟩
      cases q : (hideAll s.heap (touch.map (·.1))).get? p.1 with
      | none => rfl
      | some o => have := of_hideAll _ q; rw [(NC p hp).2.2] at this; cases this
    · exact ⟨hk₁ _ _ (N p hp).1, Nat.ne_of_lt (Heap.lt_size (N p hp).1), hideAll_none _ (List.mem_map_of_mem hp)⟩
  · refine lv _ _ ?_
    obtain ⟨L', m', news', F', N', k⟩ := hl
    exact ⟨L', m', news', F', N', fun a b => k a b F'.keep⟩
end
theorem IsEnt.mono {V V' : View} {v : Value} {e : Ent} (h : IsEnt V v e) (k : ∀ a o, V a o → V' a o) : IsEnt V' v e := by
  cases e with
  | none => exact h
  | some e =>
    obtain ⟨a, n1, n2, h1, h2, h3⟩ := h
    exact ⟨a, n1, n2, h1, k _ _ h2, h3⟩
open LCg LCt in
theorem comp_ind {prog : Program} {w : World} {A : Around} {h₀ : Heap} {L : Addr} {m : Str → Option Value} {env : PySem.Env} {ct elt : Expr} {x : Str} {scope : Scope} {cl : List (Str × Addr)} {s : Shared} {S : Led → Prop} {Fin : List Value → Led → Prop} (xs : XR) (f : Row → Bool) (news : Led) (hS : S news)
    (turn : ∀ (j : Nat) (e : Addr × Row) (ys : List Value) (I : Addr) (oI : Obj) (C : Addr) (oC : Obj) (D : Addr) (m₂ : Str → Option Value) (h : Heap) (tk : Nat) (E' : Value → Shared → Prop), xs[j]? = some e → NsObj oC m₂ → m₂ x = some (.ref e.1) → Fr h₀ L h m → News h₀ L h ((I, oI) :: (C, oC) :: (D, lst ys) :: news) → Off3 I C D news → ((@Ne Nat I C) ∧ (@Ne Nat I D) ∧ (@Ne Nat C D)) →
      wpAny (model prog w) A (isTrue ct (compEnvC scope cl C env) (eval ct (compEnvC scope cl C env))) (fun ok s' => ok = f e.2 ∧ ∃ h' tk', s' = { s with heap := h', toks := tk' } ∧ Fr h₀ L h' m ∧ News h₀ L h' ((I, oI) :: (C, oC) :: (D, lst ys) :: news)) E' { s with heap := h, toks := tk })
    (hel : ∀ {s' : Shared} {v : Value} {C : Addr} {oC : Obj} {m₂ : Str → Option Value} {nw : Led} {Q E' : Value → Shared → Prop}, News h₀ L s'.heap nw → (C, oC) ∈ nw → NsObj oC m₂ → m₂ x = some v → Q v s' → wpAny (model prog w) A (eval elt (compEnvC scope cl C env)) Q E' s')
    (fin : Fin (refsR (xs.filter fun p => f p.2)) news) : CompRestT prog w A h₀ L m env ct elt x scope cl s S (fun i v => (refsR xs).toArray[i]? = some v) Fin (refsR xs).toArray.size 0 [] news := by
  have key : ∀ k j, k + j = xs.length → CompRestT prog w A h₀ L m env ct elt x scope cl s S (fun i v => (refsR xs).toArray[i]? = some v) Fin k j (refsR ((xs.take j).filter fun p => f p.2)) news := by
    intro k
    induction k with
    | zero =>
      intro j hj
      rw [show j = xs.length by omega, List.take_length]
      exact CompRestT.zero fin
    | succ k ih =>
      intro j hj
      have hlt : j < xs.length := by omega
      have he : xs[j]? = some xs[j] := List.getElem?_eq_getElem hlt
      refine CompRestT.succ fun v I oI C oC D m₂ h tk E' hv hC hx F N off ne => ?_
      have ev : v = .ref xs[j].1 := by
        have : (refsR xs)[j]? = some v := by simpa using hv
        rw [List.getElem?_map, he] at this
        exact (Option.some.inj this).symm
      subst ev
      refine wpAny_mono (turn j _ _ I oI C oC D m₂ h tk E' he hC hx F N off ne) (fun ok s' hok => ?_) fun _ _ e => e
      obtain ⟨hok, h', tk', rfl, F', N'⟩ := hok
      have next := ih (j + 1) (by omega)
      rw [List.take_add_one, he, List.filter_append] at next
      by_cases hf : f xs[j].2 = true
      · rw [if_pos (hok.trans hf)]
        refine hel N' (.tail _ (.head _)) hC hx ?_
        refine CompEnd.intro (s₁ := { s with heap := h, toks := tk }) F' N' news (fun p hp => hp) off hS ?_
        simpa [hf] using next
      · rw [if_neg (by rw [hok]; exact hf)]
        refine CompEnd.intro (s₁ := { s with heap := h, toks := tk }) F' N' news (fun p hp => hp) off hS ?_
        simpa [hf] using next
  have := key xs.length 0 (by omega)
  rwa [show (refsR xs).toArray.size = xs.length by simp]
theorem geR_eq (u q : Nat) (r : Row) : (if (r.u : Int) = (u : Int) then if -(r.s : Int) = -(q : Int) then true else decide (-(r.s : Int) ≥ -(q : Int)) else decide ((r.u : Int) ≥ (u : Int))) = geR u q r := by
  unfold geR
  by_cases h1 : r.u = u
  · rw [if_pos (by omega)]
    by_cases h2 : r.s = q
    · rw [if_pos (by omega)]
      exact (decide_eq_true (by omega)).symm
    · rw [if_neg (by omega)]
      exact decide_eq_decide.mpr (by omega)
  · rw [if_neg (by omega)]
    exact decide_eq_decide.mpr (by omega)
theorem find_filter {f : Row → Bool} : ∀ xs : XR, (rowsOf xs).find? f = ((xs.filter fun p => f p.2).head?).map (·.2)
  | [] => rfl
  | p :: r => by
    rw [rowsOf, List.map_cons, List.find?_cons, List.filter_cons]
    cases h : f p.2 with
    | true => rfl
    | false => exact find_filter r
structure CS where
  o : Obj
  kvs : List (Int × Value)
  tl : Led
abbrev csLed (L' dd : Addr) (oc1 oc2 : Obj) (c : CS) : Led := (dd, c.o) :: (L' + 1 + 1, oc1) :: (L' + 1, oc2) :: c.tl
structure CsOk (w : World) (V : View) (dd : Addr) (ts : XT) (u q : Nat) (d : Bool) (i : Nat) (c : CS) : Prop where
  dict : c.o.IsDictOf (intKind prg w) c.kvs
  size : c.kvs.length ≤ 2 * i
  off : ∀ p ∈ c.tl, p.1 ≠ dd
  ent : ∀ (f : Nat) p, f < i → ts[f]? = some p → ∃ v, valueAt c.kvs (7 + (f : Int)) = some v ∧ IsEnt (fun a o => (a, o) ∈ c.tl) v (entOf u q d (rowsOf p.2))
theorem CsOk.skip {w : World} {V : View} {dd : Addr} {ts : XT} {u q : Nat} {d : Bool} {i : Nat} {c : CS} (h : CsOk w V dd ts u q d i c) {p : Addr × XR} (hp : ts[i]? = some p) {o1 : Obj} (hd : o1.IsDictOf (intKind prg w) (stored c.kvs (7 + (i : Int)) .none)) (he : entOf u q d (rowsOf p.2) = none) :
    CsOk w V dd ts u q d (i + 1) ⟨o1, stored c.kvs (7 + (i : Int)) .none, c.tl⟩ := by
  refine ⟨hd, ?_, h.off, fun f p' hf hp' => ?_⟩
  · have h1 := stored_length_le c.kvs (7 + (i : Int)) .none
    have h2 := h.size
    show (stored c.kvs (7 + (i : Int)) .none).length ≤ _
    omega
  · rcases Nat.lt_or_eq_of_le (Nat.le_of_lt_succ hf) with e | e
    · obtain ⟨v, h1, h2⟩ := h.ent f p' e hp'
      refine ⟨v, ?_, h2⟩
      show valueAt (stored c.kvs (7 + (i : Int)) .none) _ = _
      rw [valueAt_stored, if_neg (by omega)]
      exact h1
    · subst e
      rw [hp] at hp'
      have e9 := Option.some.inj hp'
      subst e9
      refine ⟨.none, ?_, ?_⟩
      · show valueAt (stored c.kvs (7 + (f : Int)) .none) _ = _
        rw [valueAt_stored, if_pos rfl]
      · rw [he]
        exact rfl
theorem CsOk.put {w : World} {V : View} {dd : Addr} {ts : XT} {u q : Nat} {d : Bool} {i : Nat} {c : CS} (h : CsOk w V dd ts u q d i c) {p : Addr × XR} (hp : ts[i]? = some p) {o2 : Obj} {v : Value} {tl2 : Led} (hd : o2.IsDictOf (intKind prg w) (stored (stored c.kvs (7 + (i : Int)) .none) (7 + (i : Int)) v)) (hs : ∀ x ∈ c.tl, x ∈ tl2) (ho : ∀ x ∈ tl2, x.1 ≠ dd)
    (he : IsEnt (fun a o => (a, o) ∈ tl2) v (entOf u q d (rowsOf p.2))) : CsOk w V dd ts u q d (i + 1) ⟨o2, stored (stored c.kvs (7 + (i : Int)) .none) (7 + (i : Int)) v, tl2⟩ := by
  refine ⟨hd, ?_, ho, fun f p' hf hp' => ?_⟩
  · have h1 := stored_length_le c.kvs (7 + (i : Int)) .none
    have h3 := stored_length_le (stored c.kvs (7 + (i : Int)) .none) (7 + (i : Int)) v
    have h2 := h.size
    show (stored (stored c.kvs (7 + (i : Int)) .none) (7 + (i : Int)) v).length ≤ _
    omega
  · rcases Nat.lt_or_eq_of_le (Nat.le_of_lt_succ hf) with e | e
    · obtain ⟨v', h1, h2⟩ := h.ent f p' e hp'
      refine ⟨v', ?_, h2.mono fun a o hm => hs _ hm⟩
      show valueAt (stored (stored c.kvs (7 + (i : Int)) .none) (7 + (i : Int)) v) _ = _
      rw [valueAt_stored, if_neg (by omega), valueAt_stored, if_neg (by omega)]
      exact h1
    · subst e
      rw [hp] at hp'
      have e9 := Option.some.inj hp'
      subst e9
      refine ⟨v, ?_, he⟩
      show valueAt (stored (stored c.kvs (7 + (f : Int)) .none) (7 + (f : Int)) v) _ = _
      rw [valueAt_stored, if_pos rfl]
theorem cs_sub {L' dd : Addr} {oc1 oc2 o1 : Obj} {a : Addr × Obj} {own tq' tl9 : Led} {kvs : List (Int × Value)} (h : tl9 = own ++ tq') : ∀ p ∈ csLed L' dd oc1 oc2 ⟨o1, kvs, tq'⟩, p ∈ a :: (L' + 1 + 1, oc1) :: (L' + 1, oc2) :: (dd, o1) :: tl9 := by
  intro x hx
  rcases List.mem_cons.mp hx with rfl | hx
  · exact .tail _ (.tail _ (.tail _ (.head _)))
  rcases List.mem_cons.mp hx with rfl | hx
  · exact .tail _ (.head _)
  rcases List.mem_cons.mp hx with rfl | hx
  · exact .tail _ (.tail _ (.head _))
  · exact .tail _ (.tail _ (.tail _ (.tail _ (h ▸ List.mem_append_right _ hx))))
theorem cs_off {L' dd I : Addr} {oc1 oc2 ob o1 : Obj} {tq' : Led} {kvs : List (Int × Value)} (hw : ∀ p ∈ (dd, ob) :: (L' + 1 + 1, oc1) :: (L' + 1, oc2) :: tq', p.1 ≠ I) : ∀ p ∈ csLed L' dd oc1 oc2 ⟨o1, kvs, tq'⟩, p.1 ∉ [I] := by
  intro x hx hxI
  replace hxI := List.mem_singleton.mp hxI
  rcases List.mem_cons.mp hx with rfl | hx
  · exact hw (dd, ob) (.head _) hxI
  · exact hw x (.tail _ hx) hxI
theorem cache_spec (w : World) (V : View) (tl : Addr) (ts : XT) (u q : Nat) (d : Bool) (tu tq : Tok) (hx : IsTabs V tl ts) (hu : u < 5) (hl : ts.length ≤ 4) :
    Spec w 4 545 [.ref tl, .int (u : Int) tu, .int (-(q : Int)) tq, .bool d] [] V (fun r new => ∃ a kvs, r = .ref a ∧ IsD w (fun a o => (a, o) ∈ new) a kvs ∧ ∀ (f : Nat) p, ts[f]? = some p → ∃ v, valueAt kvs (7 + (f : Int)) = some v ∧ IsEnt (fun a o => (a, o) ∈ new) v (entOf u q d (rowsOf p.2))) := by
  obtain ⟨⟨tn, hx1⟩, hx2⟩ := hx
  unfold Spec
  rintro κ A₀ base h₀ L m mean mg mb ⟨hp₀, gn₀, dr₀, tk₀, os₀⟩ Q E B₀ F₀ X₀ N₀ T₀ hk₀ hV₀ hd₀ hu₀ hret₀
  refine wpAny_call ?_
  k_dflt (refine' enterC B₀ F₀ X₀ N₀ T₀ hV₀ hret₀ ?kA ?kF ?kK ?k6 ?k7 ?k8 ?k9 ?kB ?kD ?_ ?c2 ?c3 ?c4; (case kA => exact rfl); (case kF => exact rfl); (case kK => exact hk₀); (case k6 => k_is); (case k7 => k_is); (case k8 => ktr_room); (case k9 => exact BindsTo.of_eq rfl); (case kB => exact rfl); (case kD => decide +kernel); (case c2 => exact rfl); (case c3 => exact rfl); (case c4 => exact rfl); k_whole; clear hV₀ hret₀; intro g L' h₁ tk' cells' hV hret FG F' N' Y' lt' B' X' T'; k_cells Y'; (try simp only [List.cons_append, List.nil_append] at N'); clear X₀ T₀ N₀ F₀ B₀; (try dsimp only); (try k_fold))
  (repeat' ((fail_if_success (with_reducible show wpAny _ _ (exec (Stmt.Assign _ (Expr.ListComp _ _ _ _) _) _) _ _ _)); (fail_if_success (with_reducible show wpAny _ _ (eval (Expr.ListComp _ _ _ _) _) _ _ _)); (fail_if_success (with_reducible show wpAny _ _ (call (Value.builtin "list.append") _) _ _ _)); (fail_if_success (with_reducible show wpAny _ _ (setItem _ _ _) _ _ _)); (fail_if_success (with_reducible show wpAny _ _ (subscriptTail _ _ (Value.ref _) (Value.int _ _)) _ _ _)); (fail_if_success (with_reducible show wpAny _ _ (compareOp CmpOp.In _ (Value.ref _)) _ _ _)); (fail_if_success (with_reducible show wpAny _ _ (getMethod (Value.ref _) (Str.ofString "append") _) _ _ _)); (fail_if_success (with_reducible show wpAny _ _ (call (Value.builtin "sorted") _) _ _ _)); (fail_if_success (with_reducible show wpAny _ _ (call (Value.builtin "len") [Value.ref _]) _ _ _)); (fail_if_success (with_reducible show wpAny _ _ (assign (Expr.Tuple _ _ _) _ (Value.ref _)) _ _ _)); walk_at "STEP"))
  rename Fr _ _ _ _ => F5
  refine For_turns F5 ?_
  (repeat' ((fail_if_success (with_reducible show wpAny _ _ (exec (Stmt.Assign _ (Expr.ListComp _ _ _ _) _) _) _ _ _)); (fail_if_success (with_reducible show wpAny _ _ (eval (Expr.ListComp _ _ _ _) _) _ _ _)); (fail_if_success (with_reducible show wpAny _ _ (call (Value.builtin "list.append") _) _ _ _)); (fail_if_success (with_reducible show wpAny _ _ (setItem _ _ _) _ _ _)); (fail_if_success (with_reducible show wpAny _ _ (subscriptTail _ _ (Value.ref _) (Value.int _ _)) _ _ _)); (fail_if_success (with_reducible show wpAny _ _ (compareOp CmpOp.In _ (Value.ref _)) _ _ _)); (fail_if_success (with_reducible show wpAny _ _ (getMethod (Value.ref _) (Str.ofString "append") _) _ _ _)); (fail_if_success (with_reducible show wpAny _ _ (call (Value.builtin "sorted") _) _ _ _)); (fail_if_success (with_reducible show wpAny _ _ (call (Value.builtin "len") [Value.ref _]) _ _ _)); (fail_if_success (with_reducible show wpAny _ _ (assign (Expr.Tuple _ _ _) _ (Value.ref _)) _ _ _)); walk_at "STEP"))
  refine len_any (F5.keep _ _ (hV _ _ hx1)) (by rw [List.length_map]; omega) ?_
  intro lt1 lk1
  rw [List.length_map]
  rename_i oc1 oc2 hc1 hc2 dd hq od hsys _ _ hio _ hl1 _ hix N5
  (repeat' ((fail_if_success (with_reducible show wpAny _ _ (exec (Stmt.Assign _ (Expr.ListComp _ _ _ _) _) _) _ _ _)); (fail_if_success (with_reducible show wpAny _ _ (eval (Expr.ListComp _ _ _ _) _) _ _ _)); (fail_if_success (with_reducible show wpAny _ _ (call (Value.builtin "list.append") _) _ _ _)); (fail_if_success (with_reducible show wpAny _ _ (setItem _ _ _) _ _ _)); (fail_if_success (with_reducible show wpAny _ _ (subscriptTail _ _ (Value.ref _) (Value.int _ _)) _ _ _)); (fail_if_success (with_reducible show wpAny _ _ (compareOp CmpOp.In _ (Value.ref _)) _ _ _)); (fail_if_success (with_reducible show wpAny _ _ (getMethod (Value.ref _) (Str.ofString "append") _) _ _ _)); (fail_if_success (with_reducible show wpAny _ _ (call (Value.builtin "sorted") _) _ _ _)); (fail_if_success (with_reducible show wpAny _ _ (call (Value.builtin "len") [Value.ref _]) _ _ _)); (fail_if_success (with_reducible show wpAny _ _ (assign (Expr.Tuple _ _ _) _ (Value.ref _)) _ _ _)); walk_at "STEP"))
  rename Fr _ _ _ _ => F6
  rename News _ _ _ _ => N6
  refine turns_range (σ := CS) (n := ts.length) (fun _ => []) (fun c => csLed L' dd oc1 oc2 c) [Str.ofString "f", Str.ofString "ahead", Str.ofString "e"]
    (fun i c => CsOk w V dd ts u q d i c) ⟨od, [], []⟩ rfl (by assumption) (rsm_0 (by omega)) (rsz_0 _) F6 N6 (fun _ h => nomatch h) ⟨hio, Nat.zero_le _, (fun _ h => nomatch h), fun f p h => absurd h (Nat.not_lt_zero _)⟩ ?_ ?_
  · rintro i t ⟨ob, kvs, tq'⟩ um hh tk5 own I hi hP hw hI ho F' N'
    refine gen_turn ?_; intro Q8 hQ8
    clear F6 N6
    dsimp only [csLed] at N' ho hw
    dsimp only [kstB] at F'
    have ei : (0 : Int) + (i : Int) * 1 = (i : Int) := by omega
    rw [ei]
    (refine pk ?_; intro G9 hG9)
    obtain ⟨p, hp⟩ : ∃ p, ts[i]? = some p := ⟨ts[i], List.getElem?_eq_getElem hi⟩
    obtain ⟨⟨⟨rn, hr1⟩, hr2⟩, hsh⟩ := hx2 p (List.mem_of_getElem? hp)
    (refine hG9 ?_; clear hG9)
    (repeat' ((fail_if_success (with_reducible show wpAny _ _ (exec (Stmt.Assign _ (Expr.ListComp _ _ _ _) _) _) _ _ _)); (fail_if_success (with_reducible show wpAny _ _ (eval (Expr.ListComp _ _ _ _) _) _ _ _)); (fail_if_success (with_reducible show wpAny _ _ (call (Value.builtin "list.append") _) _ _ _)); (fail_if_success (with_reducible show wpAny _ _ (setItem _ _ _) _ _ _)); (fail_if_success (with_reducible show wpAny _ _ (subscriptTail _ _ (Value.ref _) (Value.int _ _)) _ _ _)); (fail_if_success (with_reducible show wpAny _ _ (compareOp CmpOp.In _ (Value.ref _)) _ _ _)); (fail_if_success (with_reducible show wpAny _ _ (getMethod (Value.ref _) (Str.ofString "append") _) _ _ _)); (fail_if_success (with_reducible show wpAny _ _ (call (Value.builtin "sorted") _) _ _ _)); (fail_if_success (with_reducible show wpAny _ _ (call (Value.builtin "len") [Value.ref _]) _ _ _)); (fail_if_success (with_reducible show wpAny _ _ (assign (Expr.Tuple _ _ _) _ (Value.ref _)) _ _ _)); walk_at "STEP"))
    rename News _ _ _ _ => N8
    refine setItem_d (news' := fun o' => own ++ ((dd, o') :: (L' + 1 + 1, oc1) :: (L' + 1, oc2) :: tq')) (by assumption) N8 (List.mem_append_right _ (.head _)) hP.dict (by have h0 : kvs.length ≤ 2 * i := hP.size; show kvs.length ≤ sizeLine; rw [sizeLine_eq]; omega) ?_ ?_
    · intro o' q hq
      rcases List.mem_append.mp hq with hq | hq
      · exact .inr ⟨List.mem_append_left _ hq, ho q hq _ (.head _)⟩
      rcases List.mem_cons.mp hq with rfl | hq
      · exact .inl rfl
      refine .inr ⟨List.mem_append_right _ (.tail _ hq), ?_⟩
      rcases List.mem_cons.mp hq with rfl | hq
      · exact Nat.ne_of_lt hl1.1
      rcases List.mem_cons.mp hq with rfl | hq
      · exact Nat.ne_of_lt hl1.2
      exact hP.off q hq
    intro h' o1 tk1 F' N' hd1
    clear N8
    (repeat' ((fail_if_success (with_reducible show wpAny _ _ (exec (Stmt.Assign _ (Expr.ListComp _ _ _ _) _) _) _ _ _)); (fail_if_success (with_reducible show wpAny _ _ (eval (Expr.ListComp _ _ _ _) _) _ _ _)); (fail_if_success (with_reducible show wpAny _ _ (call (Value.builtin "list.append") _) _ _ _)); (fail_if_success (with_reducible show wpAny _ _ (setItem _ _ _) _ _ _)); (fail_if_success (with_reducible show wpAny _ _ (subscriptTail _ _ (Value.ref _) (Value.int _ _)) _ _ _)); (fail_if_success (with_reducible show wpAny _ _ (compareOp CmpOp.In _ (Value.ref _)) _ _ _)); (fail_if_success (with_reducible show wpAny _ _ (getMethod (Value.ref _) (Str.ofString "append") _) _ _ _)); (fail_if_success (with_reducible show wpAny _ _ (call (Value.builtin "sorted") _) _ _ _)); (fail_if_success (with_reducible show wpAny _ _ (call (Value.builtin "len") [Value.ref _]) _ _ _)); (fail_if_success (with_reducible show wpAny _ _ (assign (Expr.Tuple _ _ _) _ (Value.ref _)) _ _ _)); walk_at "STEP"))
    rename News _ _ _ _ => N8
    obtain ⟨tl9, htl9⟩ : ∃ tl9 : Led, tl9 = own ++ tq' := ⟨_, rfl⟩
    have N9 := news_sub (news' := (L' + 1 + 1, oc1) :: (L' + 1, oc2) :: (dd, o1) :: tl9) N8 fun q hq => by
      rcases List.mem_cons.mp hq with rfl | hq
      · exact List.mem_append_right _ (.tail _ (.head _))
      rcases List.mem_cons.mp hq with rfl | hq
      · exact List.mem_append_right _ (.tail _ (.tail _ (.head _)))
      rcases List.mem_cons.mp hq with rfl | hq
      · exact List.mem_append_right _ (.head _)
      rw [htl9] at hq
      exact (List.mem_append.mp hq).elim (fun h => List.mem_append_left _ h) fun h => List.mem_append_right _ (.tail _ (.tail _ (.tail _ h)))
    clear N8
    k_dflt (refine LCt.Assign_ListComp_T (F₀ := by k_asm) (by rfl) (by with_unfolding_all rfl) (by with_unfolding_all rfl) (by decide) (by rfl) (by decide) (by rfl) (by rfl) (by rfl) ?_)
    (repeat' ((fail_if_success (with_reducible show wpAny _ _ (exec (Stmt.Assign _ (Expr.ListComp _ _ _ _) _) _) _ _ _)); (fail_if_success (with_reducible show wpAny _ _ (eval (Expr.ListComp _ _ _ _) _) _ _ _)); (fail_if_success (with_reducible show wpAny _ _ (call (Value.builtin "list.append") _) _ _ _)); (fail_if_success (with_reducible show wpAny _ _ (setItem _ _ _) _ _ _)); (fail_if_success (with_reducible show wpAny _ _ (subscriptTail _ _ (Value.ref _) (Value.int _ _)) _ _ _)); (fail_if_success (with_reducible show wpAny _ _ (compareOp CmpOp.In _ (Value.ref _)) _ _ _)); (fail_if_success (with_reducible show wpAny _ _ (getMethod (Value.ref _) (Str.ofString "append") _) _ _ _)); (fail_if_success (with_reducible show wpAny _ _ (call (Value.builtin "sorted") _) _ _ _)); (fail_if_success (with_reducible show wpAny _ _ (call (Value.builtin "len") [Value.ref _]) _ _ _)); (fail_if_success (with_reducible show wpAny _ _ (assign (Expr.Tuple _ _ _) _ (Value.ref _)) _ _ _)); walk_at "STEP"))
    rename Fr _ _ _ _ => F8
    refine item_any (F8.keep _ _ (hV _ _ hx1)) (k := i) (x := .ref p.1) (by rw [List.getElem?_map, hp]; rfl) (by omega) ?_
    rename News _ _ _ _ => N8
    refine LCt.CompSrcT.base (its := (refsR p.2).toArray) (by rfl) F8 N8 ⟨_, hV _ _ hr1, rfl, rn, rfl⟩ ?_ ?_
    · have : p.2.length ≤ 2 := by obtain ⟨e, h | ⟨e', h⟩⟩ := hsh <;> rw [h] <;> simp
      (simp only [List.size_toArray, List.length_map, List.length_append, List.length_cons, List.length_nil, sizeLine_eq]; omega)
    intro g'
    refine comp_ind p.2 (geR u q) _ (.inl ⟨_, hV _ _ hr1, rfl, rn, rfl⟩) ?_ ?_ ?_
    · intro j e ys CI coI CC coC CD cm hh6 tk6 E' he hC hx F' N' off' ne'
      (refine pk ?_; intro G9 hG9)
      obtain ⟨⟨e1, e2, e3, he1⟩, r1, r2, r3, r4⟩ := hr2 e (List.mem_of_getElem? he)
      (refine hG9 ?_; clear hG9)
      (repeat' ((fail_if_success (with_reducible show wpAny _ _ (exec (Stmt.Assign _ (Expr.ListComp _ _ _ _) _) _) _ _ _)); (fail_if_success (with_reducible show wpAny _ _ (eval (Expr.ListComp _ _ _ _) _) _ _ _)); (fail_if_success (with_reducible show wpAny _ _ (call (Value.builtin "list.append") _) _ _ _)); (fail_if_success (with_reducible show wpAny _ _ (setItem _ _ _) _ _ _)); (fail_if_success (with_reducible show wpAny _ _ (subscriptTail _ _ (Value.ref _) (Value.int _ _)) _ _ _)); (fail_if_success (with_reducible show wpAny _ _ (compareOp CmpOp.In _ (Value.ref _)) _ _ _)); (fail_if_success (with_reducible show wpAny _ _ (getMethod (Value.ref _) (Str.ofString "append") _) _ _ _)); (fail_if_success (with_reducible show wpAny _ _ (call (Value.builtin "sorted") _) _ _ _)); (fail_if_success (with_reducible show wpAny _ _ (call (Value.builtin "len") [Value.ref _]) _ _ _)); (fail_if_success (with_reducible show wpAny _ _ (assign (Expr.Tuple _ _ _) _ (Value.ref _)) _ _ _)); walk_at "STEP"))
      rename Fr _ _ _ _ => F9
      refine item_tupleT (tup_of_view F9 hV he1) (by decide) (by decide) (j := 0) rfl rfl ?_
      (repeat' ((fail_if_success (with_reducible show wpAny _ _ (exec (Stmt.Assign _ (Expr.ListComp _ _ _ _) _) _) _ _ _)); (fail_if_success (with_reducible show wpAny _ _ (eval (Expr.ListComp _ _ _ _) _) _ _ _)); (fail_if_success (with_reducible show wpAny _ _ (call (Value.builtin "list.append") _) _ _ _)); (fail_if_success (with_reducible show wpAny _ _ (setItem _ _ _) _ _ _)); (fail_if_success (with_reducible show wpAny _ _ (subscriptTail _ _ (Value.ref _) (Value.int _ _)) _ _ _)); (fail_if_success (with_reducible show wpAny _ _ (compareOp CmpOp.In _ (Value.ref _)) _ _ _)); (fail_if_success (with_reducible show wpAny _ _ (getMethod (Value.ref _) (Str.ofString "append") _) _ _ _)); (fail_if_success (with_reducible show wpAny _ _ (call (Value.builtin "sorted") _) _ _ _)); (fail_if_success (with_reducible show wpAny _ _ (call (Value.builtin "len") [Value.ref _]) _ _ _)); (fail_if_success (with_reducible show wpAny _ _ (assign (Expr.Tuple _ _ _) _ (Value.ref _)) _ _ _)); walk_at "STEP"))
      refine item_tupleT (tup_of_view F9 hV he1) (by decide) (by decide) (j := 1) rfl rfl ?_
      repeat' ((fail_if_success (with_reducible show wpAny _ _ (compareOp CmpOp.GtE (Value.ref _) (Value.ref _)) _ _ _)); walk_at "STEP")
      rename News _ _ _ _ => N8
      refine' ge_tup2 (N8.get ?m1) (N8.get ?m2) ?_ ?_
      case m1 => k_dflt k_mem
      case m2 => k_dflt k_mem
      · walk_at "ROOM"
      (repeat' ((fail_if_success (with_reducible show wpAny _ _ (exec (Stmt.Assign _ (Expr.ListComp _ _ _ _) _) _) _ _ _)); (fail_if_success (with_reducible show wpAny _ _ (eval (Expr.ListComp _ _ _ _) _) _ _ _)); (fail_if_success (with_reducible show wpAny _ _ (call (Value.builtin "list.append") _) _ _ _)); (fail_if_success (with_reducible show wpAny _ _ (setItem _ _ _) _ _ _)); (fail_if_success (with_reducible show wpAny _ _ (subscriptTail _ _ (Value.ref _) (Value.int _ _)) _ _ _)); (fail_if_success (with_reducible show wpAny _ _ (compareOp CmpOp.In _ (Value.ref _)) _ _ _)); (fail_if_success (with_reducible show wpAny _ _ (getMethod (Value.ref _) (Str.ofString "append") _) _ _ _)); (fail_if_success (with_reducible show wpAny _ _ (call (Value.builtin "sorted") _) _ _ _)); (fail_if_success (with_reducible show wpAny _ _ (call (Value.builtin "len") [Value.ref _]) _ _ _)); (fail_if_success (with_reducible show wpAny _ _ (assign (Expr.Tuple _ _ _) _ (Value.ref _)) _ _ _)); walk_at "STEP"))
      · exact geR_eq u q e.2
      · assumption
      · exact fun p hp => N8 p (.tail _ (.tail _ hp))
    · intro s' v C oC m₂ nw Q' E' hN hm hC hx hq
      exact LCgL.ld_own hN hm hC hx hq
    · unfold LCg.FinA
      intro AD hh7 tk7 F' N' off1
      (repeat' ((fail_if_success (with_reducible show wpAny _ _ (exec (Stmt.Assign _ (Expr.ListComp _ _ _ _) _) _) _ _ _)); (fail_if_success (with_reducible show wpAny _ _ (eval (Expr.ListComp _ _ _ _) _) _ _ _)); (fail_if_success (with_reducible show wpAny _ _ (call (Value.builtin "list.append") _) _ _ _)); (fail_if_success (with_reducible show wpAny _ _ (setItem _ _ _) _ _ _)); (fail_if_success (with_reducible show wpAny _ _ (subscriptTail _ _ (Value.ref _) (Value.int _ _)) _ _ _)); (fail_if_success (with_reducible show wpAny _ _ (compareOp CmpOp.In _ (Value.ref _)) _ _ _)); (fail_if_success (with_reducible show wpAny _ _ (getMethod (Value.ref _) (Str.ofString "append") _) _ _ _)); (fail_if_success (with_reducible show wpAny _ _ (call (Value.builtin "sorted") _) _ _ _)); (fail_if_success (with_reducible show wpAny _ _ (call (Value.builtin "len") [Value.ref _]) _ _ _)); (fail_if_success (with_reducible show wpAny _ _ (assign (Expr.Tuple _ _ _) _ (Value.ref _)) _ _ _)); walk_at "STEP"))
      rename News _ _ _ _ => N8
      have hfl : (refsR (p.2.filter fun p => geR u q p.2)).length ≤ 2 := by
        rw [List.length_map]
        refine Nat.le_trans (List.length_filter_le _ _) ?_
        obtain ⟨e, h | ⟨e', h⟩⟩ := hsh <;> rw [h] <;> simp
      refine len_any (N8 _ (.head _)).1 (by omega) ?_
      intro lt3 lk3
      (repeat' ((fail_if_success (with_reducible show wpAny _ _ (exec (Stmt.Assign _ (Expr.ListComp _ _ _ _) _) _) _ _ _)); (fail_if_success (with_reducible show wpAny _ _ (eval (Expr.ListComp _ _ _ _) _) _ _ _)); (fail_if_success (with_reducible show wpAny _ _ (call (Value.builtin "list.append") _) _ _ _)); (fail_if_success (with_reducible show wpAny _ _ (setItem _ _ _) _ _ _)); (fail_if_success (with_reducible show wpAny _ _ (subscriptTail _ _ (Value.ref _) (Value.int _ _)) _ _ _)); (fail_if_success (with_reducible show wpAny _ _ (compareOp CmpOp.In _ (Value.ref _)) _ _ _)); (fail_if_success (with_reducible show wpAny _ _ (getMethod (Value.ref _) (Str.ofString "append") _) _ _ _)); (fail_if_success (with_reducible show wpAny _ _ (call (Value.builtin "sorted") _) _ _ _)); (fail_if_success (with_reducible show wpAny _ _ (call (Value.builtin "len") [Value.ref _]) _ _ _)); (fail_if_success (with_reducible show wpAny _ _ (assign (Expr.Tuple _ _ _) _ (Value.ref _)) _ _ _)); walk_at "STEP"))
      · rename News _ _ _ _ => N8
        (refine pk ?_; intro G9 hG9)
        obtain ⟨r, rest, hrr⟩ : ∃ r rest, p.2.filter (fun p => geR u q p.2) = r :: rest := by
          cases h : p.2.filter (fun p => geR u q p.2) with
          | nil => rename _ > (0 : Int) => hpos; rw [h] at hpos; simp at hpos
          | cons r rest => exact ⟨r, rest, rfl⟩
        (refine hG9 ?_; clear hG9)
        rw [hrr] at N8
        have hrm : r ∈ p.2 := (List.mem_filter.mp (hrr ▸ List.mem_cons_self)).1
        have hrow := hr2 r hrm
        have hro := hrow.2
        (refine pk ?_; intro G9 hG9)
        obtain ⟨⟨e1, e2, e3, he1⟩, r1, r2, r3, r4⟩ := hrow
        (refine hG9 ?_; clear hG9)
        have hN8 := N8.get (.head _)
        refine item_any hN8 (k := 0) (x := .ref r.1) rfl (by omega) ?_
        (repeat' ((fail_if_success (with_reducible show wpAny _ _ (exec (Stmt.Assign _ (Expr.ListComp _ _ _ _) _) _) _ _ _)); (fail_if_success (with_reducible show wpAny _ _ (eval (Expr.ListComp _ _ _ _) _) _ _ _)); (fail_if_success (with_reducible show wpAny _ _ (call (Value.builtin "list.append") _) _ _ _)); (fail_if_success (with_reducible show wpAny _ _ (setItem _ _ _) _ _ _)); (fail_if_success (with_reducible show wpAny _ _ (subscriptTail _ _ (Value.ref _) (Value.int _ _)) _ _ _)); (fail_if_success (with_reducible show wpAny _ _ (compareOp CmpOp.In _ (Value.ref _)) _ _ _)); (fail_if_success (with_reducible show wpAny _ _ (getMethod (Value.ref _) (Str.ofString "append") _) _ _ _)); (fail_if_success (with_reducible show wpAny _ _ (call (Value.builtin "sorted") _) _ _ _)); (fail_if_success (with_reducible show wpAny _ _ (call (Value.builtin "len") [Value.ref _]) _ _ _)); (fail_if_success (with_reducible show wpAny _ _ (assign (Expr.Tuple _ _ _) _ (Value.ref _)) _ _ _)); walk_at "STEP"))
        refine item_tupleT (tup_of_view (by assumption) hV he1) (by decide) (by decide) (j := 0) rfl rfl ?_
        (repeat' ((fail_if_success (with_reducible show wpAny _ _ (exec (Stmt.Assign _ (Expr.ListComp _ _ _ _) _) _) _ _ _)); (fail_if_success (with_reducible show wpAny _ _ (eval (Expr.ListComp _ _ _ _) _) _ _ _)); (fail_if_success (with_reducible show wpAny _ _ (call (Value.builtin "list.append") _) _ _ _)); (fail_if_success (with_reducible show wpAny _ _ (setItem _ _ _) _ _ _)); (fail_if_success (with_reducible show wpAny _ _ (subscriptTail _ _ (Value.ref _) (Value.int _ _)) _ _ _)); (fail_if_success (with_reducible show wpAny _ _ (compareOp CmpOp.In _ (Value.ref _)) _ _ _)); (fail_if_success (with_reducible show wpAny _ _ (getMethod (Value.ref _) (Str.ofString "append") _) _ _ _)); (fail_if_success (with_reducible show wpAny _ _ (call (Value.builtin "sorted") _) _ _ _)); (fail_if_success (with_reducible show wpAny _ _ (call (Value.builtin "len") [Value.ref _]) _ _ _)); (fail_if_success (with_reducible show wpAny _ _ (assign (Expr.Tuple _ _ _) _ (Value.ref _)) _ _ _)); walk_at "STEP"))
        · refine item_any hN8 (k := 0) (x := .ref r.1) rfl (by omega) ?_
          (repeat' ((fail_if_success (with_reducible show wpAny _ _ (exec (Stmt.Assign _ (Expr.ListComp _ _ _ _) _) _) _ _ _)); (fail_if_success (with_reducible show wpAny _ _ (eval (Expr.ListComp _ _ _ _) _) _ _ _)); (fail_if_success (with_reducible show wpAny _ _ (call (Value.builtin "list.append") _) _ _ _)); (fail_if_success (with_reducible show wpAny _ _ (setItem _ _ _) _ _ _)); (fail_if_success (with_reducible show wpAny _ _ (subscriptTail _ _ (Value.ref _) (Value.int _ _)) _ _ _)); (fail_if_success (with_reducible show wpAny _ _ (compareOp CmpOp.In _ (Value.ref _)) _ _ _)); (fail_if_success (with_reducible show wpAny _ _ (getMethod (Value.ref _) (Str.ofString "append") _) _ _ _)); (fail_if_success (with_reducible show wpAny _ _ (call (Value.builtin "sorted") _) _ _ _)); (fail_if_success (with_reducible show wpAny _ _ (call (Value.builtin "len") [Value.ref _]) _ _ _)); (fail_if_success (with_reducible show wpAny _ _ (assign (Expr.Tuple _ _ _) _ (Value.ref _)) _ _ _)); walk_at "STEP"))
          refine' Spec.useA (ikeyL_spec w V r.1 r.2 ⟨⟨e1, e2, e3, he1⟩, hro⟩) ?kV ?_
          ((try (case kV => exact view_keep hV (by assumption))); intro r9 new9 h9 tk9 F' N' kp9 fr9 P9; (try k_sweep))
          (refine pk ?_; intro G9 hG9)
          obtain ⟨ikt, rfl⟩ := P9
          (refine hG9 ?_; clear hG9)
          dsimp only
          rename News _ _ _ _ => N10
          have N11 := news_sub (news' := (AD, LCg.lst (refsR (r :: rest))) :: (L' + 1 + 1, oc1) :: (L' + 1, oc2) :: (dd, o1) :: tl9) N10 fun p hp => List.mem_append_right _ hp
          clear N10
          (repeat' ((fail_if_success (with_reducible show wpAny _ _ (exec (Stmt.Assign _ (Expr.ListComp _ _ _ _) _) _) _ _ _)); (fail_if_success (with_reducible show wpAny _ _ (eval (Expr.ListComp _ _ _ _) _) _ _ _)); (fail_if_success (with_reducible show wpAny _ _ (call (Value.builtin "list.append") _) _ _ _)); (fail_if_success (with_reducible show wpAny _ _ (setItem _ _ _) _ _ _)); (fail_if_success (with_reducible show wpAny _ _ (subscriptTail _ _ (Value.ref _) (Value.int _ _)) _ _ _)); (fail_if_success (with_reducible show wpAny _ _ (compareOp CmpOp.In _ (Value.ref _)) _ _ _)); (fail_if_success (with_reducible show wpAny _ _ (getMethod (Value.ref _) (Str.ofString "append") _) _ _ _)); (fail_if_success (with_reducible show wpAny _ _ (call (Value.builtin "sorted") _) _ _ _)); (fail_if_success (with_reducible show wpAny _ _ (call (Value.builtin "len") [Value.ref _]) _ _ _)); (fail_if_success (with_reducible show wpAny _ _ (assign (Expr.Tuple _ _ _) _ (Value.ref _)) _ _ _)); walk_at "STEP"))
          refine item_tupleT (tup_of_view (by assumption) hV he1) (by decide) (by decide) (j := 0) rfl rfl ?_
          (repeat' ((fail_if_success (with_reducible show wpAny _ _ (exec (Stmt.Assign _ (Expr.ListComp _ _ _ _) _) _) _ _ _)); (fail_if_success (with_reducible show wpAny _ _ (eval (Expr.ListComp _ _ _ _) _) _ _ _)); (fail_if_success (with_reducible show wpAny _ _ (call (Value.builtin "list.append") _) _ _ _)); (fail_if_success (with_reducible show wpAny _ _ (setItem _ _ _) _ _ _)); (fail_if_success (with_reducible show wpAny _ _ (subscriptTail _ _ (Value.ref _) (Value.int _ _)) _ _ _)); (fail_if_success (with_reducible show wpAny _ _ (compareOp CmpOp.In _ (Value.ref _)) _ _ _)); (fail_if_success (with_reducible show wpAny _ _ (getMethod (Value.ref _) (Str.ofString "append") _) _ _ _)); (fail_if_success (with_reducible show wpAny _ _ (call (Value.builtin "sorted") _) _ _ _)); (fail_if_success (with_reducible show wpAny _ _ (call (Value.builtin "len") [Value.ref _]) _ _ _)); (fail_if_success (with_reducible show wpAny _ _ (assign (Expr.Tuple _ _ _) _ (Value.ref _)) _ _ _)); walk_at "STEP"))
          refine item_tupleT (tup_of_view (by assumption) hV he1) (by decide) (by decide) (j := 1) rfl rfl ?_
          have hby : ∀ x ∈ [65 + (r.2.u : Int), 0 - -(r.2.s : Int)], 0 ≤ x ∧ x < 256 := by
            intro x hx
            simp only [List.mem_cons, List.not_mem_nil, or_false] at hx
            omega
          (repeat' ((fail_if_success (with_reducible show wpAny _ _ (exec (Stmt.Assign _ (Expr.ListComp _ _ _ _) _) _) _ _ _)); (fail_if_success (with_reducible show wpAny _ _ (eval (Expr.ListComp _ _ _ _) _) _ _ _)); (fail_if_success (with_reducible show wpAny _ _ (call (Value.builtin "list.append") _) _ _ _)); (fail_if_success (with_reducible show wpAny _ _ (setItem _ _ _) _ _ _)); (fail_if_success (with_reducible show wpAny _ _ (subscriptTail _ _ (Value.ref _) (Value.int _ _)) _ _ _)); (fail_if_success (with_reducible show wpAny _ _ (compareOp CmpOp.In _ (Value.ref _)) _ _ _)); (fail_if_success (with_reducible show wpAny _ _ (getMethod (Value.ref _) (Str.ofString "append") _) _ _ _)); (fail_if_success (with_reducible show wpAny _ _ (call (Value.builtin "sorted") _) _ _ _)); (fail_if_success (with_reducible show wpAny _ _ (call (Value.builtin "len") [Value.ref _]) _ _ _)); (fail_if_success (with_reducible show wpAny _ _ (assign (Expr.Tuple _ _ _) _ (Value.ref _)) _ _ _)); walk_at "STEP"))
          rename Fr _ _ _ _ => F9
          rename News _ _ _ _ => N10
          have eb : (List.map (fun n : Int => n.toNat.toUInt8) [65 + (r.2.u : Int), 0 - -(r.2.s : Int)]) = [UInt8.ofNat (65 + r.2.u), UInt8.ofNat r.2.s] := by
            rw [show (0 - -(r.2.s : Int)) = (r.2.s : Int) by omega, show 65 + (r.2.u : Int) = ((65 + r.2.u : Nat) : Int) by omega]
            rfl
          rw [eb] at N10
          (refine pk ?_; intro G9 hG9)
          obtain ⟨ta, tb, N12⟩ : ∃ ta tb, News g L' (heapOf F9) ((t5, tupOf #[.bytes (U r.2.u ++ le8 (rtag r.2)).toArray ta, .bytes [UInt8.ofNat (65 + r.2.u), UInt8.ofNat r.2.s].toArray tb]) :: (L' + 1 + 1, oc1) :: (L' + 1, oc2) :: (dd, o1) :: tl9) := by
            exact ⟨_, _, fun x hx => (List.mem_cons.mp hx).elim (fun e => e ▸ N10 _ (.head _)) fun hx => N10 x (.tail _ (.tail _ (.tail _ hx)))⟩
          (refine hG9 ?_; clear hG9)
          have hddt : dd < t5 := lt5 (dd, o1) (.tail _ (.tail _ (.tail _ (.tail _ (.head _)))))
          have htlt : ∀ x ∈ tl9, x.1 < t5 := fun x hx => lt5 x (.tail _ (.tail _ (.tail _ (.tail _ (.tail _ hx)))))
          refine setItem_d (news' := fun o' => (t5, tupOf #[.bytes (U r.2.u ++ le8 (rtag r.2)).toArray ta, .bytes [UInt8.ofNat (65 + r.2.u), UInt8.ofNat r.2.s].toArray tb]) :: (L' + 1 + 1, oc1) :: (L' + 1, oc2) :: (dd, o') :: tl9) F9 N12 (.tail _ (.tail _ (.tail _ (.head _)))) hd1 (by have h0 : kvs.length ≤ 2 * i := hP.size; have := stored_length_le kvs (7 + (i : Int)) .none; show (stored kvs (7 + (i : Int)) .none).length ≤ sizeLine; rw [sizeLine_eq]; omega) ?_ ?_
          · intro o' x hx
            rcases List.mem_cons.mp hx with rfl | hx
            · exact .inr ⟨.head _, Nat.ne_of_gt hddt⟩
            rcases List.mem_cons.mp hx with rfl | hx
            · exact .inr ⟨.tail _ (.head _), Nat.ne_of_lt hl1.1⟩
            rcases List.mem_cons.mp hx with rfl | hx
            · exact .inr ⟨.tail _ (.tail _ (.head _)), Nat.ne_of_lt hl1.2⟩
            rcases List.mem_cons.mp hx with rfl | hx
            · exact .inl rfl
            refine .inr ⟨.tail _ (.tail _ (.tail _ (.tail _ hx))), ?_⟩
            rw [htl9] at hx
            exact (List.mem_append.mp hx).elim (fun h => ho x h _ (.head _)) (hP.off x)
          intro h' o2 tk8 F' N' hd2
          (repeat' ((fail_if_success (with_reducible show wpAny _ _ (exec (Stmt.Assign _ (Expr.ListComp _ _ _ _) _) _) _ _ _)); (fail_if_success (with_reducible show wpAny _ _ (eval (Expr.ListComp _ _ _ _) _) _ _ _)); (fail_if_success (with_reducible show wpAny _ _ (call (Value.builtin "list.append") _) _ _ _)); (fail_if_success (with_reducible show wpAny _ _ (setItem _ _ _) _ _ _)); (fail_if_success (with_reducible show wpAny _ _ (subscriptTail _ _ (Value.ref _) (Value.int _ _)) _ _ _)); (fail_if_success (with_reducible show wpAny _ _ (compareOp CmpOp.In _ (Value.ref _)) _ _ _)); (fail_if_success (with_reducible show wpAny _ _ (getMethod (Value.ref _) (Str.ofString "append") _) _ _ _)); (fail_if_success (with_reducible show wpAny _ _ (call (Value.builtin "sorted") _) _ _ _)); (fail_if_success (with_reducible show wpAny _ _ (call (Value.builtin "len") [Value.ref _]) _ _ _)); (fail_if_success (with_reducible show wpAny _ _ (assign (Expr.Tuple _ _ _) _ (Value.ref _)) _ _ _)); walk_at "STEP"))
          rename Fr _ _ _ _ => F9
          rename News _ _ _ _ => N10
          obtain ⟨oI, hoI⟩ := hI
          refine TurnE.intro ⟨o2, stored (stored kvs (7 + (i : Int)) .none) (7 + (i : Int)) (.ref t5), (t5, tupOf #[.bytes (U r.2.u ++ le8 (rtag r.2)).toArray ta, .bytes [UInt8.ofNat (65 + r.2.u), UInt8.ofNat r.2.s].toArray tb]) :: tq'⟩ F9 N10 (fun x hx => .tail _ (.tail _ (.tail _ (.tail _ (htl9 ▸ List.mem_append_left _ hx))))) ?_ ?_ (fun _ h => nomatch h) (by ksw_same) (hP.put hp hd2 (fun x hx => .tail _ hx) ?_ ?_)
          · intro x hx
            rcases List.mem_cons.mp hx with rfl | hx
            · exact .tail _ (.tail _ (.tail _ (.head _)))
            rcases List.mem_cons.mp hx with rfl | hx
            · exact .tail _ (.head _)
            rcases List.mem_cons.mp hx with rfl | hx
            · exact .tail _ (.tail _ (.head _))
            rcases List.mem_cons.mp hx with rfl | hx
            · exact .head _
            · exact .tail _ (.tail _ (.tail _ (.tail _ (htl9 ▸ List.mem_append_right _ hx))))
          · intro x hx hxI
            replace hxI := List.mem_singleton.mp hxI
            rcases List.mem_cons.mp hx with rfl | hx
            · exact hw (dd, ob) (.head _) hxI
            rcases List.mem_cons.mp hx with rfl | hx
            · exact hw _ (.tail _ (.head _)) hxI
            rcases List.mem_cons.mp hx with rfl | hx
            · exact hw _ (.tail _ (.tail _ (.head _))) hxI
            rcases List.mem_cons.mp hx with rfl | hx
            · exact absurd (htlt _ (htl9 ▸ List.mem_append_left _ hoI)) (by rw [← hxI]; exact Nat.lt_irrefl _)
            · exact hw x (.tail _ (.tail _ (.tail _ hx))) hxI
          · intro x hx
            rcases List.mem_cons.mp hx with rfl | hx
            · exact Nat.ne_of_gt hddt
            · exact hP.off x hx
          · have hent : entOf u q d (rowsOf p.2) = some (r.2.u, rtag r.2, [UInt8.ofNat (65 + r.2.u), UInt8.ofNat r.2.s]) := by
              unfold entOf
              rw [find_filter, hrr]
              show (if r.2.u = u ∨ d = false then _ else _) = _
              rw [if_pos (.inl (by omega))]
            rw [hent]
            exact ⟨t5, ta, tb, rfl, .head _, r1, rtag_in hro⟩
        · rename News _ _ _ _ => N10
          have hent : entOf u q d (rowsOf p.2) = none := by
            unfold entOf
            rw [find_filter, hrr]
            show (if r.2.u = u ∨ d = false then _ else _) = _
            rw [if_neg]
            rintro (h | h)
            · omega
            · rename d = true => hdt
              rw [hdt] at h
              cases h
          exact TurnE.intro ⟨o1, stored kvs (7 + (i : Int)) .none, tq'⟩ (by assumption) N10 (fun x hx => .tail _ (.tail _ (.tail _ (.tail _ (htl9 ▸ List.mem_append_left _ hx))))) (cs_sub htl9) (cs_off hw) (fun _ h => nomatch h) (by ksw_same) (hP.skip hp hd1 hent)
        · refine item_any hN8 (k := 0) (x := .ref r.1) rfl (by omega) ?_
          (repeat' ((fail_if_success (with_reducible show wpAny _ _ (exec (Stmt.Assign _ (Expr.ListComp _ _ _ _) _) _) _ _ _)); (fail_if_success (with_reducible show wpAny _ _ (eval (Expr.ListComp _ _ _ _) _) _ _ _)); (fail_if_success (with_reducible show wpAny _ _ (call (Value.builtin "list.append") _) _ _ _)); (fail_if_success (with_reducible show wpAny _ _ (setItem _ _ _) _ _ _)); (fail_if_success (with_reducible show wpAny _ _ (subscriptTail _ _ (Value.ref _) (Value.int _ _)) _ _ _)); (fail_if_success (with_reducible show wpAny _ _ (compareOp CmpOp.In _ (Value.ref _)) _ _ _)); (fail_if_success (with_reducible show wpAny _ _ (getMethod (Value.ref _) (Str.ofString "append") _) _ _ _)); (fail_if_success (with_reducible show wpAny _ _ (call (Value.builtin "sorted") _) _ _ _)); (fail_if_success (with_reducible show wpAny _ _ (call (Value.builtin "len") [Value.ref _]) _ _ _)); (fail_if_success (with_reducible show wpAny _ _ (assign (Expr.Tuple _ _ _) _ (Value.ref _)) _ _ _)); walk_at "STEP"))
          refine' Spec.useA (ikeyL_spec w V r.1 r.2 ⟨⟨e1, e2, e3, he1⟩, hro⟩) ?kV ?_
          ((try (case kV => exact view_keep hV (by assumption))); intro r9 new9 h9 tk9 F' N' kp9 fr9 P9; (try k_sweep))
          (refine pk ?_; intro G9 hG9)
          obtain ⟨ikt, rfl⟩ := P9
          (refine hG9 ?_; clear hG9)
          dsimp only
          rename News _ _ _ _ => N10
          have N11 := news_sub (news' := (AD, LCg.lst (refsR (r :: rest))) :: (L' + 1 + 1, oc1) :: (L' + 1, oc2) :: (dd, o1) :: tl9) N10 fun p hp => List.mem_append_right _ hp
          clear N10
          (repeat' ((fail_if_success (with_reducible show wpAny _ _ (exec (Stmt.Assign _ (Expr.ListComp _ _ _ _) _) _) _ _ _)); (fail_if_success (with_reducible show wpAny _ _ (eval (Expr.ListComp _ _ _ _) _) _ _ _)); (fail_if_success (with_reducible show wpAny _ _ (call (Value.builtin "list.append") _) _ _ _)); (fail_if_success (with_reducible show wpAny _ _ (setItem _ _ _) _ _ _)); (fail_if_success (with_reducible show wpAny _ _ (subscriptTail _ _ (Value.ref _) (Value.int _ _)) _ _ _)); (fail_if_success (with_reducible show wpAny _ _ (compareOp CmpOp.In _ (Value.ref _)) _ _ _)); (fail_if_success (with_reducible show wpAny _ _ (getMethod (Value.ref _) (Str.ofString "append") _) _ _ _)); (fail_if_success (with_reducible show wpAny _ _ (call (Value.builtin "sorted") _) _ _ _)); (fail_if_success (with_reducible show wpAny _ _ (call (Value.builtin "len") [Value.ref _]) _ _ _)); (fail_if_success (with_reducible show wpAny _ _ (assign (Expr.Tuple _ _ _) _ (Value.ref _)) _ _ _)); walk_at "STEP"))
          refine item_tupleT (tup_of_view (by assumption) hV he1) (by decide) (by decide) (j := 0) rfl rfl ?_
          (repeat' ((fail_if_success (with_reducible show wpAny _ _ (exec (Stmt.Assign _ (Expr.ListComp _ _ _ _) _) _) _ _ _)); (fail_if_success (with_reducible show wpAny _ _ (eval (Expr.ListComp _ _ _ _) _) _ _ _)); (fail_if_success (with_reducible show wpAny _ _ (call (Value.builtin "list.append") _) _ _ _)); (fail_if_success (with_reducible show wpAny _ _ (setItem _ _ _) _ _ _)); (fail_if_success (with_reducible show wpAny _ _ (subscriptTail _ _ (Value.ref _) (Value.int _ _)) _ _ _)); (fail_if_success (with_reducible show wpAny _ _ (compareOp CmpOp.In _ (Value.ref _)) _ _ _)); (fail_if_success (with_reducible show wpAny _ _ (getMethod (Value.ref _) (Str.ofString "append") _) _ _ _)); (fail_if_success (with_reducible show wpAny _ _ (call (Value.builtin "sorted") _) _ _ _)); (fail_if_success (with_reducible show wpAny _ _ (call (Value.builtin "len") [Value.ref _]) _ _ _)); (fail_if_success (with_reducible show wpAny _ _ (assign (Expr.Tuple _ _ _) _ (Value.ref _)) _ _ _)); walk_at "STEP"))
          refine item_tupleT (tup_of_view (by assumption) hV he1) (by decide) (by decide) (j := 1) rfl rfl ?_
          have hby : ∀ x ∈ [65 + (r.2.u : Int), 0 - -(r.2.s : Int)], 0 ≤ x ∧ x < 256 := by
            intro x hx
            simp only [List.mem_cons, List.not_mem_nil, or_false] at hx
            omega
          (repeat' ((fail_if_success (with_reducible show wpAny _ _ (exec (Stmt.Assign _ (Expr.ListComp _ _ _ _) _) _) _ _ _)); (fail_if_success (with_reducible show wpAny _ _ (eval (Expr.ListComp _ _ _ _) _) _ _ _)); (fail_if_success (with_reducible show wpAny _ _ (call (Value.builtin "list.append") _) _ _ _)); (fail_if_success (with_reducible show wpAny _ _ (setItem _ _ _) _ _ _)); (fail_if_success (with_reducible show wpAny _ _ (subscriptTail _ _ (Value.ref _) (Value.int _ _)) _ _ _)); (fail_if_success (with_reducible show wpAny _ _ (compareOp CmpOp.In _ (Value.ref _)) _ _ _)); (fail_if_success (with_reducible show wpAny _ _ (getMethod (Value.ref _) (Str.ofString "append") _) _ _ _)); (fail_if_success (with_reducible show wpAny _ _ (call (Value.builtin "sorted") _) _ _ _)); (fail_if_success (with_reducible show wpAny _ _ (call (Value.builtin "len") [Value.ref _]) _ _ _)); (fail_if_success (with_reducible show wpAny _ _ (assign (Expr.Tuple _ _ _) _ (Value.ref _)) _ _ _)); walk_at "STEP"))
          rename Fr _ _ _ _ => F9
          rename News _ _ _ _ => N10
          have eb : (List.map (fun n : Int => n.toNat.toUInt8) [65 + (r.2.u : Int), 0 - -(r.2.s : Int)]) = [UInt8.ofNat (65 + r.2.u), UInt8.ofNat r.2.s] := by
            rw [show (0 - -(r.2.s : Int)) = (r.2.s : Int) by omega, show 65 + (r.2.u : Int) = ((65 + r.2.u : Nat) : Int) by omega]
            rfl
          rw [eb] at N10
          (refine pk ?_; intro G9 hG9)
          obtain ⟨ta, tb, N12⟩ : ∃ ta tb, News g L' (heapOf F9) ((t5, tupOf #[.bytes (U r.2.u ++ le8 (rtag r.2)).toArray ta, .bytes [UInt8.ofNat (65 + r.2.u), UInt8.ofNat r.2.s].toArray tb]) :: (L' + 1 + 1, oc1) :: (L' + 1, oc2) :: (dd, o1) :: tl9) := by
            exact ⟨_, _, fun x hx => (List.mem_cons.mp hx).elim (fun e => e ▸ N10 _ (.head _)) fun hx => N10 x (.tail _ (.tail _ (.tail _ hx)))⟩
          (refine hG9 ?_; clear hG9)
          have hddt : dd < t5 := lt5 (dd, o1) (.tail _ (.tail _ (.tail _ (.tail _ (.head _)))))
          have htlt : ∀ x ∈ tl9, x.1 < t5 := fun x hx => lt5 x (.tail _ (.tail _ (.tail _ (.tail _ (.tail _ hx)))))
          refine setItem_d (news' := fun o' => (t5, tupOf #[.bytes (U r.2.u ++ le8 (rtag r.2)).toArray ta, .bytes [UInt8.ofNat (65 + r.2.u), UInt8.ofNat r.2.s].toArray tb]) :: (L' + 1 + 1, oc1) :: (L' + 1, oc2) :: (dd, o') :: tl9) F9 N12 (.tail _ (.tail _ (.tail _ (.head _)))) hd1 (by have h0 : kvs.length ≤ 2 * i := hP.size; have := stored_length_le kvs (7 + (i : Int)) .none; show (stored kvs (7 + (i : Int)) .none).length ≤ sizeLine; rw [sizeLine_eq]; omega) ?_ ?_
          · intro o' x hx
            rcases List.mem_cons.mp hx with rfl | hx
            · exact .inr ⟨.head _, Nat.ne_of_gt hddt⟩
            rcases List.mem_cons.mp hx with rfl | hx
            · exact .inr ⟨.tail _ (.head _), Nat.ne_of_lt hl1.1⟩
            rcases List.mem_cons.mp hx with rfl | hx
            · exact .inr ⟨.tail _ (.tail _ (.head _)), Nat.ne_of_lt hl1.2⟩
            rcases List.mem_cons.mp hx with rfl | hx
            · exact .inl rfl
            refine .inr ⟨.tail _ (.tail _ (.tail _ (.tail _ hx))), ?_⟩
            rw [htl9] at hx
            exact (List.mem_append.mp hx).elim (fun h => ho x h _ (.head _)) (hP.off x)
          intro h' o2 tk8 F' N' hd2
          (repeat' ((fail_if_success (with_reducible show wpAny _ _ (exec (Stmt.Assign _ (Expr.ListComp _ _ _ _) _) _) _ _ _)); (fail_if_success (with_reducible show wpAny _ _ (eval (Expr.ListComp _ _ _ _) _) _ _ _)); (fail_if_success (with_reducible show wpAny _ _ (call (Value.builtin "list.append") _) _ _ _)); (fail_if_success (with_reducible show wpAny _ _ (setItem _ _ _) _ _ _)); (fail_if_success (with_reducible show wpAny _ _ (subscriptTail _ _ (Value.ref _) (Value.int _ _)) _ _ _)); (fail_if_success (with_reducible show wpAny _ _ (compareOp CmpOp.In _ (Value.ref _)) _ _ _)); (fail_if_success (with_reducible show wpAny _ _ (getMethod (Value.ref _) (Str.ofString "append") _) _ _ _)); (fail_if_success (with_reducible show wpAny _ _ (call (Value.builtin "sorted") _) _ _ _)); (fail_if_success (with_reducible show wpAny _ _ (call (Value.builtin "len") [Value.ref _]) _ _ _)); (fail_if_success (with_reducible show wpAny _ _ (assign (Expr.Tuple _ _ _) _ (Value.ref _)) _ _ _)); walk_at "STEP"))
          rename Fr _ _ _ _ => F9
          rename News _ _ _ _ => N10
          obtain ⟨oI, hoI⟩ := hI
          refine TurnE.intro ⟨o2, stored (stored kvs (7 + (i : Int)) .none) (7 + (i : Int)) (.ref t5), (t5, tupOf #[.bytes (U r.2.u ++ le8 (rtag r.2)).toArray ta, .bytes [UInt8.ofNat (65 + r.2.u), UInt8.ofNat r.2.s].toArray tb]) :: tq'⟩ F9 N10 (fun x hx => .tail _ (.tail _ (.tail _ (.tail _ (htl9 ▸ List.mem_append_left _ hx))))) ?_ ?_ (fun _ h => nomatch h) (by ksw_same) (hP.put hp hd2 (fun x hx => .tail _ hx) ?_ ?_)
          · intro x hx
            rcases List.mem_cons.mp hx with rfl | hx
            · exact .tail _ (.tail _ (.tail _ (.head _)))
            rcases List.mem_cons.mp hx with rfl | hx
            · exact .tail _ (.head _)
            rcases List.mem_cons.mp hx with rfl | hx
            · exact .tail _ (.tail _ (.head _))
            rcases List.mem_cons.mp hx with rfl | hx
            · exact .head _
            · exact .tail _ (.tail _ (.tail _ (.tail _ (htl9 ▸ List.mem_append_right _ hx))))
          · intro x hx hxI
            replace hxI := List.mem_singleton.mp hxI
            rcases List.mem_cons.mp hx with rfl | hx
            · exact hw (dd, ob) (.head _) hxI
            rcases List.mem_cons.mp hx with rfl | hx
            · exact hw _ (.tail _ (.head _)) hxI
            rcases List.mem_cons.mp hx with rfl | hx
            · exact hw _ (.tail _ (.tail _ (.head _))) hxI
            rcases List.mem_cons.mp hx with rfl | hx
            · exact absurd (htlt _ (htl9 ▸ List.mem_append_left _ hoI)) (by rw [← hxI]; exact Nat.lt_irrefl _)
            · exact hw x (.tail _ (.tail _ (.tail _ hx))) hxI
          · intro x hx
            rcases List.mem_cons.mp hx with rfl | hx
            · exact Nat.ne_of_gt hddt
            · exact hP.off x hx
          · have hent : entOf u q d (rowsOf p.2) = some (r.2.u, rtag r.2, [UInt8.ofNat (65 + r.2.u), UInt8.ofNat r.2.s]) := by
              unfold entOf
              rw [find_filter, hrr]
              show (if r.2.u = u ∨ d = false then _ else _) = _
              rw [if_pos (.inr (by assumption))]
            rw [hent]
            exact ⟨t5, ta, tb, rfl, .head _, r1, rtag_in hro⟩
      · rename News _ _ _ _ => N10
        have hnil : p.2.filter (fun p => geR u q p.2) = [] := by
          cases h : p.2.filter (fun p => geR u q p.2) with
          | nil => rfl
          | cons r rest => rename ¬ _ > (0 : Int) => hpos; rw [h] at hpos; simp at hpos
        have hent : entOf u q d (rowsOf p.2) = none := by
          unfold entOf
          rw [find_filter, hnil]
          rfl
        exact TurnE.intro ⟨o1, stored kvs (7 + (i : Int)) .none, tq'⟩ (by assumption) N10 (fun x hx => .tail _ (.tail _ (.tail _ (.tail _ (htl9 ▸ List.mem_append_left _ hx))))) (cs_sub htl9) (cs_off hw) (fun _ h => nomatch h) (by ksw_same) (hP.skip hp hd1 hent)
  · rintro ⟨ob, kvs, tq'⟩ um hh tk5 hP F' N'
    clear F6 N6
    dsimp only [csLed] at N'
    dsimp only [kstB] at F'
    (repeat' ((fail_if_success (with_reducible show wpAny _ _ (exec (Stmt.Assign _ (Expr.ListComp _ _ _ _) _) _) _ _ _)); (fail_if_success (with_reducible show wpAny _ _ (eval (Expr.ListComp _ _ _ _) _) _ _ _)); (fail_if_success (with_reducible show wpAny _ _ (call (Value.builtin "list.append") _) _ _ _)); (fail_if_success (with_reducible show wpAny _ _ (setItem _ _ _) _ _ _)); (fail_if_success (with_reducible show wpAny _ _ (subscriptTail _ _ (Value.ref _) (Value.int _ _)) _ _ _)); (fail_if_success (with_reducible show wpAny _ _ (compareOp CmpOp.In _ (Value.ref _)) _ _ _)); (fail_if_success (with_reducible show wpAny _ _ (getMethod (Value.ref _) (Str.ofString "append") _) _ _ _)); (fail_if_success (with_reducible show wpAny _ _ (call (Value.builtin "sorted") _) _ _ _)); (fail_if_success (with_reducible show wpAny _ _ (call (Value.builtin "len") [Value.ref _]) _ _ _)); (fail_if_success (with_reducible show wpAny _ _ (assign (Expr.Tuple _ _ _) _ (Value.ref _)) _ _ _)); walk_at "STEP"))
    ((try dsimp only); refine hret _ _ _ _ kp (fresh_of (by assumption)) kF kN ?_)
    refine ⟨dd, kvs, rfl, ⟨hsys, ob, .head _, hP.dict⟩, fun f p hp => ?_⟩
    (refine pk ?_; intro G9 hG9)
    obtain ⟨v, h1, h2⟩ := hP.ent f p (List.getElem?_eq_some_iff.mp hp).1 hp
    (refine hG9 ?_; clear hG9)
    exact ⟨v, h1, h2.mono fun a o h => .tail _ (.tail _ (.tail _ h))⟩
end
section
abbrev StrKeys (es : List DictEntry) : Prop := es.any (·.refKey) = false
theorem isStr_self (name : Str) (t : Tok) : (Value.str name t).isStr name = true := by rw [isStr_of]; exact isStrOf_self name t
theorem getL_of {nm : Str} {es : List DictEntry} (h : StrKeys es) : getL nm es = some ((es.find? (·.key.isStr nm)).map (·.val)) := by
  unfold getL
  cases he : es.find? (·.key.isStr nm) with
  | some e => rfl
  | none => show (if es.any (·.refKey) then none else some none) = _; rw [h]; rfl
theorem put_any {name : Str} {hsh : Int} {t : Tok} {v : Value} : ∀ {es : List DictEntry}, StrKeys es → StrKeys (putL name hsh (.str name t) v es)
  | [], _ => by
    show (DictEntry.refKey _ || false) = false
    rw [Bool.or_false]
    exact isStr_notRef (name' := name) _ (isStr_self name t)
  | e :: r, h => by
    have h' := Bool.or_eq_false_iff.mp (show (e.refKey || r.any (·.refKey)) = false from h)
    unfold putL
    split
    · rename_i he
      show (DictEntry.refKey _ || r.any (·.refKey)) = false
      rw [h'.2, Bool.or_false]
      exact isStr_notRef (name' := name) _ he
    · show (e.refKey || _) = false
      rw [h'.1]
      exact put_any h'.2
theorem put_find {name nm : Str} {hsh : Int} {t : Tok} {v : Value} : ∀ {es : List DictEntry}, ((putL name hsh (.str name t) v es).find? (·.key.isStr nm)).map (·.val) = if nm = name then some v else (es.find? (·.key.isStr nm)).map (·.val)
  | [] => by
    have h1 : (Value.str name t).isStr name = true := isStr_self name t
    by_cases e : nm = name
    · subst e
      simp [putL, h1]
    · have h2 : (Value.str name t).isStr nm = false := isStr_other e ⟨hsh, .str name t, v⟩ h1
      simp [putL, h2, e]
  | e :: r => by
    unfold putL
    by_cases he : e.key.isStr name = true
    · rw [if_pos he]
      by_cases x : nm = name
      · subst x
        simp [he]
      · have h2 : e.key.isStr nm = false := isStr_other x e he
        simp [h2, x]
    · rw [if_neg he]
      cases h2 : e.key.isStr nm with
      | true =>
        have x : nm ≠ name := fun x => he (x ▸ h2)
        simp [h2, x]
      | false =>
        have ih := @put_find name nm hsh t v r
        simp only [List.find?_cons, h2]
        exact ih
theorem getL_put {name : Str} {hsh : Int} {t : Tok} {v : Value} {es : List DictEntry} (h : StrKeys es) (nm : Str) : getL nm (putL name hsh (.str name t) v es) = if nm = name then some (some v) else getL nm es := by
  rw [getL_of (put_any h), getL_of h, put_find]
  split <;> rfl
theorem put_len {name : Str} {hsh : Int} {k v : Value} : ∀ {es : List DictEntry}, (putL name hsh k v es).length ≤ es.length + 1
  | [] => Nat.le_refl _
  | e :: r => by
    unfold putL
    split
    · exact Nat.le_succ _
    · exact Nat.succ_le_succ put_len
/-- an attribute stored, the dict's entries left unsaid -/
theorem set_abs {prog : Program} {w : World} {A : Around} {E : Value → Shared → Prop} {s : Shared} {K : Frag} {h₀ : Heap} {L x C dx : Addr} {ox : Obj} {m : Str → Option Value} {news : Led} {es : List DictEntry} {n b : Nat} {name : Str} {v : Value} {Q : Unit → Shared → Prop} {nw : List DictEntry → Nat → Led}
    (F : Fr h₀ L s.heap m) (X₀ : K.In h₀) (N : News h₀ L s.heap news) (I : InstAt s.heap x ox C (some (dictOf es n))) (hd : ox.dict = some dx)
    (hs : findIn K (.ref C) "__setattr__" = some (some (.builtin "object.__setattr__"))) (hp : plainOver K C = true) (ht : takerIn K C name = some none) (hh : hasDictIn K C = true) (hS : StrKeys es) (hb : es.length ≤ b) (hz : Nat.ble b 900 = true)
    (U : ∀ es' n', Upd dx (dictOf es n) (dictOf es' n') news (nw es' n'))
    (h : ∀ h' tk' es' n', StrKeys es' → es'.length ≤ b + 1 → (∀ nm, getL nm es' = if nm = name then some (some v) else getL nm es) → Fr h₀ L h' m → News h₀ L h' (nw es' n') → Q () { s with heap := h', toks := tk' }) :
    wpAny (model prog w) A (setAttr (.ref x) name v) Q E s :=
  set_dict F X₀ N I hd hs hp ht hh (by rw [getL_of hS]; rfl) rfl (U _ _) (by have := @put_len name (PyData.keyHash w.params name) (.str name (s.toks + 1)) v es; have := Nat.le_of_ble_eq_true hz; omega)
    fun h' F' N' => h h' _ _ _ (put_any hS) (Nat.le_trans put_len (Nat.succ_le_succ hb)) (getL_put hS) F' N'
theorem set_abs0 {prog : Program} {w : World} {A : Around} {E : Value → Shared → Prop} {s : Shared} {K : Frag} {h₀ : Heap} {L x C dx : Addr} {ox : Obj} {m : Str → Option Value} {news : Led} {es : List DictEntry} {n b : Nat} {name : Str} {v : Value} {Q : Unit → Shared → Prop} {nw : List DictEntry → Nat → Led}
    (F : Fr h₀ L s.heap m) (X₀ : K.In h₀) (N : News h₀ L s.heap news) (I : InstAt s.heap x ox C (some (dictOf es n))) (hd : ox.dict = some dx)
    (hs : findIn K (.ref C) "__setattr__" = some (some (.builtin "object.__setattr__"))) (hp : plainOver K C = true) (ht : takerIn K C name = some none) (hh : hasDictIn K C = true) (hS : StrKeys es) (hb : es.length ≤ b) (hz : Nat.ble b 900 = true)
    (U : ∀ es' n', Upd dx (dictOf es n) (dictOf es' n') news (nw es' n'))
    (h : ∀ h' tk' es' n', StrKeys es' → es'.length ≤ b + 1 → Fr h₀ L h' m → News h₀ L h' (nw es' n') → Q () { s with heap := h', toks := tk' }) :
    wpAny (model prog w) A (setAttr (.ref x) name v) Q E s := set_abs F X₀ N I hd hs hp ht hh hS hb hz U fun h' tk' es' n' a b _ => h h' tk' es' n' a b
section
set_option hygiene false
local macro_rules | `(tactic| walk_at "setAttr ref") => `(tactic| (k_here; k_dflt (refine' set_abs0 ?k1 ?k2 ?k3 ?k4 ?k5 ?k6 ?k7 ?k8 ?k9 ?k10 ?k11 ?k12 ?k13 ?_; (case k1 => k_asm); (case k2 => k_asm); (case k3 => k_asm); (case k4 => k_inst); (case k5 => exact rfl); (case k6 => k_is); (case k7 => k_is); (case k8 => k_is); (case k9 => k_is); (case k10 => first | assumption | exact rfl); (case k11 => first | assumption | exact Nat.le_refl _); (case k12 => exact rfl); (case k13 => intro _ _; k_upd); k_whole); intro h' tk' es9 n9 hS9 hb9 F' N'; (try k_sweep)))
set_option hygiene true
theorem optNew_spec (w : World) (V : View) : Spec w 6 305 [] [] V (fun r new => ∃ op dop en es, r = .ref op ∧ (op, instObj 305 dop) ∈ new ∧ (dop, dictOf es en) ∈ new ∧ StrKeys es ∧ es.length ≤ 100 ∧ @LT.lt Nat _ dop op) := by
  unfold Spec
  rintro κ A₀ base h₀ L m mean mg mb ⟨hp₀, gn₀, dr₀, tk₀, os₀⟩ Q E B₀ F₀ X₀ N₀ T₀ hk₀ hV₀ hd₀ hu₀ hret₀
  refine wpAny_call ?_
  k_dflt (refine' enter_cls B₀ F₀ X₀ T₀ hV₀ hret₀ ?kA ?kF ?kK ?kM ?kI ?kT ?k6 ?k7 ?k8 ?k9 ?kB ?_ ?c5 ?c2 ?c3 ?c4; (case kA => exact rfl); (case kF => exact rfl); (case kK => exact hk₀); (case kM => k_is); (case kI => k_is); (case kT => k_is); (case k6 => k_is); (case k7 => k_is); (case k8 => (dsimp only [ktr, ktrTop]; omega)); (case k9 => exact fun _ _ => BindsTo.of_eq rfl); (case c5 => decide); (case kB => exact fun _ => locs rfl); (case c2 => exact rfl); (case c3 => exact rfl); (case c4 => exact rfl); k_whole; clear hV₀ hret₀; intro g L' h₁ sx sdx sh s₁ Q' hV hret FG F' N' hdx hxL B' X' T'; (k_lt2 hdx); (k_lt2 hxL); clear X₀ T₀ N₀ F₀ B₀; (try dsimp only); (try k_fold))
  (repeat' walk_at "STEP")
  ((try dsimp only); refine hret _ _ _ _ kp (fresh_of (by assumption)) kF kN ?_)
  refine ⟨rfl, sx, sdx, _, _, rfl, .tail _ (.head _), .tail _ (.tail _ (.head _)), by assumption, Nat.le_trans (by assumption) (Nat.le_of_ble_eq_true rfl), hdx⟩
end
end
section
structure PF where
  rows : List Row
  lv : Nat
  mt : Addr
  sz : Int
def rowD : Row := ⟨0, 0, 0⟩
def PF.lo (p : PF) : Row := p.rows.headD rowD
def PF.hi (p : PF) : Row := p.rows.getLastD rowD
def fmOf (i : Nat) (p : PF) : FM := ⟨7 + (i : Int), p.sz, p.lo.u, rtag p.lo, p.hi.u, rtag p.hi⟩
def yOf (i : Nat) (p : PF) : Addr × FM := (p.mt, fmOf i p)
def RowsOk (i : Nat) (rs : List Row) : Prop :=
  (∃ r, rs = [r] ∧ RowOk r ∧ r.s = 2 * i + 1) ∨ (∃ r r', rs = [r, r'] ∧ RowOk r ∧ RowOk r' ∧ ((r.s = 2 * i + 1 ∧ r'.s = 2 * i + 2) ∨ (r.s = 2 * i + 2 ∧ r'.s = 2 * i + 1)) ∧ (r.u < r'.u ∨ (r.u = r'.u ∧ r.s > r'.s)))
theorem RowsOk.lohi {i : Nat} {p : PF} (h : RowsOk i p.rows) : RowOk p.lo ∧ RowOk p.hi ∧ p.lo.u ≤ p.hi.u ∧ (p.lo.u = p.hi.u → rtag p.lo ≥ rtag p.hi) := by
  unfold PF.lo PF.hi
  rcases h with ⟨r, e, h1, h2⟩ | ⟨r, r', e, h1, h2, h3, h4⟩
  · rw [e]
    exact ⟨h1, h1, Nat.le_refl _, fun _ => Nat.le_refl _⟩
  · rw [e]
    refine ⟨h1, h2, ?_, fun e => ?_⟩
    · show r.u ≤ r'.u
      omega
    · have e' : r.u = r'.u := e
      have k2 := h2.2.2.2
      show r.s * 256 + r.k ≥ r'.s * 256 + r'.k
      omega
theorem RowsOk.span {i : Nat} {p : PF} (h : RowsOk i p.rows) {r : Row} (hr : r ∈ p.rows) : p.lo.u ≤ r.u ∧ r.u ≤ p.hi.u ∧ (r.u = p.hi.u → rtag p.hi ≤ rtag r) ∧ (r.s = 2 * i + 1 ∨ r.s = 2 * i + 2) ∧ RowOk r := by
  unfold PF.lo PF.hi
  rcases h with ⟨r0, e, h1, h2⟩ | ⟨r0, r1, e, h1, h2, h3, h4⟩
  · rw [e] at hr ⊢
    rw [List.mem_singleton.mp hr]
    exact ⟨Nat.le_refl _, Nat.le_refl _, fun _ => Nat.le_refl _, .inl h2, h1⟩
  · rw [e] at hr ⊢
    have k2 := h2.2.2.2
    rcases List.mem_cons.mp hr with rfl | hr
    · refine ⟨Nat.le_refl _, ?_, fun e => ?_, by omega, h1⟩
      · show r.u ≤ r1.u
        omega
      · have e' : r.u = r1.u := e
        show r1.s * 256 + r1.k ≤ r.s * 256 + r.k
        omega
    · rw [List.mem_singleton.mp hr]
      refine ⟨?_, Nat.le_refl _, fun _ => Nat.le_refl _, by omega, h2⟩
      show r0.u ≤ r1.u
      omega
/-- the first entry at or behind the asked one -/
theorem find_hit {i u q : Nat} {rs : List Row} (h : RowsOk i rs) {r : Row} (hr : r ∈ rs) (hu : r.u = u) (hq : r.s ≤ q) :
    ∃ r0, rs.find? (geR u q) = some r0 ∧ r0 ∈ rs ∧ r0.u = u ∧ r0.s ≤ q ∧ ∀ r' ∈ rs, r'.u = u → r'.s ≤ q → r'.s ≤ r0.s := by
  rcases h with ⟨r0, e, h1, h2⟩ | ⟨r0, r1, e, h1, h2, h3, h4⟩
  · rw [e] at hr ⊢
    have e0 := List.mem_singleton.mp hr
    subst e0
    refine ⟨r, ?_, .head _, hu, hq, fun r' hr' _ _ => by rw [List.mem_singleton.mp hr']; exact Nat.le_refl _⟩
    rw [List.find?_cons, show geR u q r = true from decide_eq_true (.inr ⟨hu, hq⟩)]
  · rw [e] at hr ⊢
    by_cases h0 : geR u q r0 = true
    · have h0' := of_decide_eq_true h0
      have hu0 : r0.u = u := by
        rcases List.mem_cons.mp hr with rfl | hr
        · exact hu
        · have := List.mem_singleton.mp hr; subst this; omega
      refine ⟨r0, by rw [List.find?_cons, h0], .head _, hu0, by omega, fun r' hr' hu' hq' => ?_⟩
      rcases List.mem_cons.mp hr' with rfl | hr'
      · exact Nat.le_refl _
      · have := List.mem_singleton.mp hr'; subst this; omega
    · have h0' : geR u q r0 = false := by simpa using h0
      have h0'' := of_decide_eq_false h0'
      have e1 : r = r1 := by
        rcases List.mem_cons.mp hr with rfl | hr
        · exact absurd (.inr ⟨hu, hq⟩) h0''
        · exact List.mem_singleton.mp hr
      subst e1
      refine ⟨r, by rw [List.find?_cons, h0', List.find?_cons, show geR u q r = true from decide_eq_true (.inr ⟨hu, hq⟩)], .tail _ (.head _), hu, hq, fun r' hr' hu' hq' => ?_⟩
      rcases List.mem_cons.mp hr' with rfl | hr'
      · exact absurd (.inr ⟨hu', hq'⟩) h0''
      · rw [List.mem_singleton.mp hr']; exact Nat.le_refl _
def valR (u : Nat) (r : Row) : Bool × Int × List UInt8 := if r.k = 1 then (true, 1, [UInt8.ofNat (65 + u), UInt8.ofNat r.s]) else (true, 0, [])
theorem told_none {u q : Nat} : ∀ {l : List Row}, (∀ r ∈ l, ¬ (r.u = u ∧ r.s ≤ q)) → ∀ acc, l.foldl (toldS u q) acc = acc
  | [], _, _ => rfl
  | r :: l, h, acc => by
    rw [List.foldl_cons, toldS, if_neg (h r (.head _))]
    exact told_none (fun r' hr' => h r' (.tail _ hr')) acc
theorem told_hit {u q : Nat} {r : Row} (hu : r.u = u ∧ r.s ≤ q) : ∀ {l : List Row}, l.Pairwise (fun a b => a.s < b.s) → r ∈ l → (∀ r' ∈ l, r'.u = u → r'.s ≤ q → r'.s ≤ r.s) → ∀ acc, l.foldl (toldS u q) acc = valR u r
  | [], _, hr, _, _ => nomatch hr
  | a :: l, hp, hr, hm, acc => by
    rw [List.foldl_cons]
    rcases List.mem_cons.mp hr with rfl | hr
    · rw [told_none, toldS, if_pos hu]
      · rfl
      · rintro r' hr' ⟨h1, h2⟩
        have h3 := (List.pairwise_cons.mp hp).1 r' hr'
        have h4 := hm r' (.tail _ hr') h1 h2
        omega
    · exact told_hit hu (List.pairwise_cons.mp hp).2 hr (fun r' hr' => hm r' (.tail _ hr')) _
def hitC (ca : Int → Ent) (u : Nat) (c : Nat × Addr × FM) : Bool := match ca c.2.2.num with
  | none => false
  | some (u', _, _) => decide (u' = u)
theorem getP_find (ca : Int → Ent) (u : Nat) : ∀ cs : List (Nat × Addr × FM), getP ca u cs = match cs.find? (hitC ca u) with
    | none => (false, 0, [])
    | some c => match ca c.2.2.num with
      | none => (false, 0, [])
      | some (_, t, b) => if t % 256 = 0 then (true, 0, []) else (true, 1, b)
  | [] => rfl
  | c :: r => by
    rw [List.find?_cons]
    cases h : ca c.2.2.num with
    | none =>
      rw [show hitC ca u c = false by unfold hitC; rw [h], getP_skip h]
      exact getP_find ca u r
    | some e =>
      obtain ⟨u', t, b⟩ := e
      by_cases hu : u' = u
      · rw [show hitC ca u c = true by unfold hitC; rw [h]; exact decide_eq_true hu, getP_hit h hu]
        show _ = match ca c.2.2.num with | none => _ | some (_, t, b) => _
        rw [h]
      · rw [show hitC ca u c = false by unfold hitC; rw [h]; exact decide_eq_false hu, getP_other h hu]
        exact getP_find ca u r
end
section
/-- what holds of the flushes and of the levels -/
structure PInv (count : Nat) (fs : List PF) (X : List XM) : Prop where
  len : X.length = count
  row : ∀ (i : Nat) (p : PF), fs[i]? = some p → RowsOk i p.rows ∧ p.lv < count
  mem : ∀ (k : Nat) (xs : XM), X[k]? = some xs → ∀ y, y ∈ xs ↔ ∃ (i : Nat) (p : PF), fs[i]? = some p ∧ p.lv = k ∧ y = yOf i p
  l0 : ∀ xs, X[0]? = some xs → xs.Pairwise (fun a b => a.2.num < b.2.num)
  lk : ∀ (k : Nat) (xs : XM), k ≠ 0 → X[k]? = some xs → LvlOk xs
  ord : ∀ (i j : Nat) (p q : PF), i < j → fs[i]? = some p → fs[j]? = some q → p.lo.u ≤ q.hi.u → q.lo.u ≤ p.hi.u → q.lv < p.lv ∨ (p.lv = 0 ∧ q.lv = 0)
  nums : (X.flatMap numsX).Perm ((List.range fs.length).map fun (i : Nat) => 7 + (i : Int))
theorem find_last {α : Type} {f : α → Bool} {n : α → Int} {c : α} : ∀ {l : List α}, l.Pairwise (fun a b => n a > n b) → c ∈ l → f c = true → (∀ d ∈ l, f d = true → n d ≤ n c) → l.find? f = some c
  | [], _, h, _, _ => nomatch h
  | a :: l, hp, hc, hf, hm => by
    rw [List.find?_cons]
    rcases List.mem_cons.mp hc with rfl | hc
    · rw [hf]
    · have h1 := (List.pairwise_cons.mp hp).1 c hc
      cases h : f a with
      | true => have := hm a (.head _) h; omega
      | false => exact find_last (List.pairwise_cons.mp hp).2 hc hf fun d hd => hm d (.tail _ hd)
theorem find_flat {α : Type} {f : α → Bool} {g : Nat → List α} {c : α} {k : Nat} (hg : (g k).find? f = some c) : ∀ {n a : Nat}, a ≤ k → k < a + n → (∀ m, a ≤ m → m < k → (g m).find? f = none) → ((List.range' a n).flatMap g).find? f = some c
  | 0, a, h1, h2, _ => by omega
  | n + 1, a, h1, h2, h3 => by
    rw [List.range'_succ, List.flatMap_cons, List.find?_append]
    rcases Nat.lt_or_eq_of_le h1 with e | e
    · rw [h3 a (Nat.le_refl _) e]
      exact find_flat hg (n := n) (a := a + 1) e (by omega) fun m hm => h3 m (by omega)
    · subst e
      rw [hg]
      rfl
theorem find_candAt {xs : XM} (hok : LvlOk xs) (h5 : ∀ p ∈ xs, p.2.lu < 5 ∧ p.2.hu < 5) {u t : Nat} (hu : u < 5) {y : Addr × FM} (hy : y ∈ xs) (h1 : y.2.lu ≤ u) (h2 : u ≤ y.2.hu) (h3 : y.2.hu = u → y.2.ht ≤ t) : candAt u t xs = [y] := by
  have hny : notBelow u t y = true := decide_eq_true fun h => by
    rw [cmpI_neg (h5 y hy).2 hu] at h
    omega
  obtain ⟨j, hj⟩ := List.mem_iff_getElem?.mp hy
  have hfind : xs.find? (notBelow u t) = xs[j]? := by
    refine find_at (Nat.le_of_lt (List.getElem?_eq_some_iff.mp hj).1) (fun k hk => ?_) fun ⟨p, hp, hlt⟩ => ?_
    · have hkl : k < xs.length := Nat.lt_trans hk (List.getElem?_eq_some_iff.mp hj).1
      have hp : xs[k]? = some xs[k] := List.getElem?_eq_getElem hkl
      refine ⟨_, hp, ?_⟩
      have hl := hok.2 k j _ y hk hp hj
      rw [cmpI_neg (h5 _ (List.getElem_mem hkl)).2 hu]
      omega
    · rw [hj] at hp
      have e9 := Option.some.inj hp
      subst e9
      exact of_decide_eq_true hny hlt
  rw [candAt, hfind, hj]
  show List.filter _ [y] = _
  simp [h1]
theorem PF.num_inj {i j : Nat} {p q : PF} (h : (yOf i p).2.num = (yOf j q).2.num) : i = j := by
  have : 7 + (i : Int) = 7 + (j : Int) := h
  omega
theorem pairwise_s_inj {l : List Row} (h : l.Pairwise (fun a b => a.s < b.s)) {a b : Row} (ha : a ∈ l) (hb : b ∈ l) (e : a.s = b.s) (hne : ¬ a = b) : False := by
  induction l with
  | nil => cases ha
  | cons x l ih =>
    have hx := List.pairwise_cons.mp h
    rcases List.mem_cons.mp ha with rfl | ha <;> rcases List.mem_cons.mp hb with rfl | hb
    · exact hne rfl
    · have := hx.1 b hb; omega
    · rename a ∈ l => ha'; have := hx.1 a ha'; omega
    · exact ih hx.2 ha hb
/-- the law's end -/
theorem get_told {ls : Lvls} {count : Nat} {fs : List PF} (I : PInv count fs (ls.map (·.2))) (hc : 0 < count) {hist : List Row} (hh : hist.Pairwise (fun a b => a.s < b.s)) (hr : ∀ r, r ∈ hist ↔ ∃ (i : Nat) (p : PF), fs[i]? = some p ∧ r ∈ p.rows) {ca : Int → Ent} {u q : Nat} {d : Bool} (hu : u < 5)
    (hca : ∀ (i : Nat) (p : PF), fs[i]? = some p → ca (7 + (i : Int)) = entOf u q d p.rows) : getP ca u (cands ls u (q * 256 + 1)) = toldP hist u q := by
  have h5 : ∀ (k : Nat) (xs : XM), (ls.map (·.2))[k]? = some xs → ∀ y ∈ xs, y.2.lu < 5 ∧ y.2.hu < 5 := fun k xs hk y hy => by
    obtain ⟨i, p, h1, h2, rfl⟩ := (I.mem k xs hk y).mp hy
    have := (I.row i p h1).1.lohi
    exact ⟨this.1.1, this.2.1.1⟩
  -- a candidate that hits is a table with an entry of the key
  have hitOf : ∀ (i : Nat) (p : PF) (k : Nat), fs[i]? = some p → (hitC ca u (k, yOf i p) = true ↔ ∃ r ∈ p.rows, r.u = u ∧ r.s ≤ q) := fun i p k hi => by
    have hro := (I.row i p hi).1
    have e : ca (yOf i p).2.num = entOf u q d p.rows := hca i p hi
    unfold hitC
    show (match ca (yOf i p).2.num with | none => false | some (u', _, _) => decide (u' = u)) = true ↔ _
    rw [e]
    constructor
    · intro h
      cases hf : p.rows.find? (geR u q) with
      | none => unfold entOf at h; rw [hf] at h; cases h
      | some r =>
        unfold entOf at h
        rw [hf] at h
        have hg : r.u > u ∨ (r.u = u ∧ r.s ≤ q) := of_decide_eq_true (show geR u q r = true from List.find?_some hf)
        dsimp only at h
        split at h
        · cases h
        · rename_i u' t' b' he
          split at he
          · have e9 := Option.some.inj he
            have e8 : r.u = u' := congrArg (·.1) e9
            have e7 : u' = u := of_decide_eq_true h
            refine ⟨r, List.mem_of_find?_eq_some hf, by omega, ?_⟩
            rcases hg with hg | hg
            · omega
            · exact hg.2
          · cases he
    · rintro ⟨r, hr, h1, h2⟩
      obtain ⟨r0, hf, h3, h4, h5, h6⟩ := find_hit hro hr h1 h2
      unfold entOf
      rw [hf]
      dsimp only
      rw [if_pos (.inl h4)]
      exact decide_eq_true h4
  have key : ∀ (k : Nat) (y : Addr × FM), y ∈ (ls.map (·.2)).getD k [] → ∃ xs, (ls.map (·.2))[k]? = some xs ∧ y ∈ xs := by
    intro k y hy
    rw [List.getD_eq_getElem?_getD] at hy
    cases hk : (ls.map (·.2))[k]? with
    | none => rw [hk] at hy; simp at hy
    | some xs => rw [hk] at hy; exact ⟨xs, rfl, by simpa using hy⟩
  rw [getP_find, toldP]
  by_cases hex : ∃ r ∈ hist, r.u = u ∧ r.s ≤ q
  rotate_left
  · rw [told_none (fun r hr' hh' => hex ⟨r, hr', hh'⟩)]
    have hnone : (cands ls u (q * 256 + 1)).find? (hitC ca u) = none := by
      refine List.find?_eq_none.mpr fun c hc' hit => ?_
      have : ∃ (k : Nat) (xs : XM), (ls.map (·.2))[k]? = some xs ∧ c.2 ∈ xs := by
        unfold cands at hc'
        rcases List.mem_append.mp hc' with h | h
        · obtain ⟨y, hy, rfl⟩ := List.mem_map.mp h
          exact ⟨0, key 0 y (List.mem_reverse.mp (List.mem_filter.mp hy).1)⟩
        · obtain ⟨k, _, hk⟩ := List.mem_flatMap.mp h
          obtain ⟨y, hy, rfl⟩ := List.mem_map.mp hk
          have h1 := (List.mem_filter.mp hy).1
          rw [Option.mem_toList] at h1
          exact ⟨k, key k y (List.mem_of_find?_eq_some h1)⟩
      obtain ⟨k, xs, hk, hcx⟩ := this
      obtain ⟨i, p, h1, h2, h3⟩ := (I.mem k xs hk _).mp hcx
      have hit' : hitC ca u (c.1, yOf i p) = true := by rw [← h3]; exact hit
      obtain ⟨r, hr1, hr2⟩ := (hitOf i p c.1 h1).mp hit'
      exact hex ⟨r, (hr r).mpr ⟨i, p, h1, hr1⟩, hr2⟩
    rw [hnone]
  · -- the newest entry, and its table
    obtain ⟨rm, hrm1, hrm2, hrm3⟩ : ∃ r ∈ hist, (r.u = u ∧ r.s ≤ q) ∧ ∀ r' ∈ hist, r'.u = u → r'.s ≤ q → r'.s ≤ r.s := by
      clear hca hitOf key h5 I hr
      induction hist with
      | nil => obtain ⟨r, hr, _⟩ := hex; cases hr
      | cons a l ih =>
        have hl := List.pairwise_cons.mp hh
        by_cases hl' : ∃ r ∈ l, r.u = u ∧ r.s ≤ q
        · obtain ⟨r, h1, h2, h3⟩ := ih hl.2 hl'
          refine ⟨r, .tail _ h1, h2, fun r' hr' h4 h5 => ?_⟩
          rcases List.mem_cons.mp hr' with rfl | hr'
          · exact Nat.le_of_lt (hl.1 r h1)
          · exact h3 r' hr' h4 h5
        · obtain ⟨r, hr, h2⟩ := hex
          rcases List.mem_cons.mp hr with rfl | hr
          · refine ⟨r, .head _, h2, fun r' hr' h4 h5 => ?_⟩
            rcases List.mem_cons.mp hr' with rfl | hr'
            · exact Nat.le_refl _
            · exact absurd ⟨r', hr', h4, h5⟩ hl'
          · exact absurd ⟨r, hr, h2⟩ hl'
    rw [told_hit hrm2 hh hrm1 hrm3]
    obtain ⟨j, pj, hj, hrj⟩ := (hr rm).mp hrm1
    have hjr := (I.row j pj hj).1
    have hjl := (I.row j pj hj).2
    obtain ⟨s1, s2, s3, s4, s5⟩ := hjr.span hrj
    -- who hits is no newer
    have newer : ∀ (i : Nat) (p : PF) (k : Nat), fs[i]? = some p → hitC ca u (k, yOf i p) = true → i ≤ j ∧ p.lo.u ≤ u ∧ u ≤ p.hi.u := fun i p k hi hh' => by
      obtain ⟨r, hr1, hr2, hr3⟩ := (hitOf i p k hi).mp hh'
      obtain ⟨t1, t2, t3, t4, t5⟩ := (I.row i p hi).1.span hr1
      have h4 := hrm3 r ((hr r).mpr ⟨i, p, hi, hr1⟩) hr2 hr3
      refine ⟨?_, by omega, by omega⟩
      rcases Nat.lt_or_ge j i with h | h
      · omega
      · exact h
    have hitj : ∀ k, hitC ca u (k, yOf j pj) = true := fun k => (hitOf j pj k hj).mpr ⟨rm, hrj, hrm2⟩
    have hfind : (cands ls u (q * 256 + 1)).find? (hitC ca u) = some (pj.lv, yOf j pj) := by
      unfold cands
      rw [List.find?_append]
      have hj0 : pj.lv < (ls.map (·.2)).length := by rw [I.len]; exact hjl
      obtain ⟨xj, hxj⟩ : ∃ x, (ls.map (·.2))[pj.lv]? = some x := ⟨_, List.getElem?_eq_getElem hj0⟩
      have hmj : yOf j pj ∈ xj := (I.mem pj.lv xj hxj _).mpr ⟨j, pj, hj, rfl, rfl⟩
      obtain ⟨x0, hx0⟩ : ∃ x, (ls.map (·.2))[0]? = some x := ⟨_, List.getElem?_eq_getElem (by rw [I.len]; exact hc)⟩
      have e0 : (ls.map (·.2)).getD 0 [] = x0 := by rw [List.getD_eq_getElem?_getD, hx0]; rfl
      rw [e0]
      by_cases hlv : pj.lv = 0
      · rw [hlv, hx0] at hxj
        have e9 := Option.some.inj hxj
        subst e9
        rw [find_last (n := fun c : Nat × Addr × FM => c.2.2.num) (c := (0, yOf j pj))]
        · rw [hlv]; rfl
        · refine List.pairwise_map.mpr ?_
          refine List.Pairwise.filter _ ?_
          exact List.pairwise_reverse.mpr (I.l0 x0 hx0)
        · refine List.mem_map_of_mem (f := fun p : Addr × FM => (0, p)) (List.mem_filter.mpr ⟨List.mem_reverse.mpr hmj, decide_eq_true ⟨?_, ?_⟩⟩)
          · show pj.lo.u ≤ u
            omega
          · show u ≤ pj.hi.u
            omega
        · exact hitj 0
        · intro c hc' hit
          obtain ⟨y, hy, rfl⟩ := List.mem_map.mp hc'
          obtain ⟨i, p, h1, h2, rfl⟩ := (I.mem 0 x0 hx0 _).mp (List.mem_reverse.mp (List.mem_filter.mp hy).1)
          have := (newer i p 0 h1 hit).1
          show 7 + (i : Int) ≤ 7 + (j : Int)
          omega
      · have hnone : ((x0.reverse.filter (span u)).map fun p => ((0 : Nat), p)).find? (hitC ca u) = none := by
          refine List.find?_eq_none.mpr fun c hc' hit => ?_
          obtain ⟨y, hy, rfl⟩ := List.mem_map.mp hc'
          obtain ⟨i, p, h1, h2, rfl⟩ := (I.mem 0 x0 hx0 _).mp (List.mem_reverse.mp (List.mem_filter.mp hy).1)
          obtain ⟨n1, n2, n3⟩ := newer i p 0 h1 hit
          have hij : i < j := by
            rcases Nat.lt_or_eq_of_le n1 with h | h
            · exact h
            · subst h; rw [hj] at h1; have := Option.some.inj h1; subst this; omega
          have := I.ord i j p pj hij h1 hj (by omega) (by omega)
          omega
        rw [hnone, Option.none_or]
        have hln : ls.length = count := by have := I.len; rwa [List.length_map] at this
        refine find_flat (k := pj.lv) ?_ (by omega) (by omega) ?_
        · have ej : (ls.map (·.2)).getD pj.lv [] = xj := by rw [List.getD_eq_getElem?_getD, hxj]; rfl
          rw [ej, find_candAt (I.lk pj.lv xj hlv hxj) (h5 pj.lv xj hxj) hu hmj ?_ ?_ ?_]
          · show List.find? _ [(pj.lv, yOf j pj)] = _
            rw [List.find?_cons, hitj]
          · show pj.lo.u ≤ u
            omega
          · show u ≤ pj.hi.u
            omega
          · intro e
            have e' : pj.hi.u = u := e
            have h1 := s3 (by omega)
            have h2 := s5.2.2.2
            show rtag pj.hi ≤ q * 256 + 1
            have h3 : rtag rm = rm.s * 256 + rm.k := rfl
            omega
        · intro m hm1 hm2
          refine List.find?_eq_none.mpr fun c hc' hit => ?_
          obtain ⟨y, hy, rfl⟩ := List.mem_map.mp hc'
          have h1 := (List.mem_filter.mp hy).1
          rw [Option.mem_toList] at h1
          obtain ⟨xs, hk, hcx⟩ := key m y (List.mem_of_find?_eq_some h1)
          obtain ⟨i, p, g1, g2, rfl⟩ := (I.mem m xs hk _).mp hcx
          obtain ⟨n1, n2, n3⟩ := newer i p m g1 hit
          have hij : i < j := by
            rcases Nat.lt_or_eq_of_le n1 with h | h
            · exact h
            · subst h; rw [hj] at g1; have := Option.some.inj g1; subst this; omega
          have := I.ord i j p pj hij g1 hj (by omega) (by omega)
          omega
    rw [hfind]
    show (match ca (yOf j pj).2.num with | none => _ | some (_, t, b) => _) = _
    rw [show ca (yOf j pj).2.num = entOf u q d pj.rows from hca j pj hj]
    obtain ⟨r0, hf, h3, h4, h5', h6⟩ := find_hit hjr hrj hrm2.1 hrm2.2
    have er : r0 = rm := by
      have k1 := h6 rm hrj hrm2.1 hrm2.2
      have k2 := hrm3 r0 ((hr r0).mpr ⟨j, pj, hj, h3⟩) h4 h5'
      have k3 : r0.s = rm.s := Nat.le_antisymm k2 k1
      refine Classical.byContradiction fun hne => ?_
      have m1 := (hr r0).mpr ⟨j, pj, hj, h3⟩
      exact pairwise_s_inj hh m1 hrm1 k3 hne
    subst er
    unfold entOf
    rw [hf]
    dsimp only
    rw [if_pos (.inl h4)]
    have hk := s5.2.2.2
    show (if (r0.s * 256 + r0.k) % 256 = 0 then _ else _) = valR u r0
    unfold valR
    rw [h4]
    by_cases hk1 : r0.k = 1
    · rw [if_neg (by omega), if_pos hk1]
    · rw [if_pos (by omega), if_neg hk1]
end
section
theorem lvlOk_iff {xs : XM} : LvlOk xs ↔ (∀ p ∈ xs, p.2.lu ≤ p.2.hu) ∧ xs.Pairwise (fun a b => a.2.hu < b.2.lu) := by
  unfold LvlOk
  constructor
  · rintro ⟨h1, h2⟩
    refine ⟨h1, List.pairwise_iff_getElem.mpr fun i j hi hj hij => h2 i j _ _ hij (List.getElem?_eq_getElem hi) (List.getElem?_eq_getElem hj)⟩
  · rintro ⟨h1, h2⟩
    refine ⟨h1, fun j k p q hjk hp hq => ?_⟩
    obtain ⟨lj, ej⟩ := List.getElem?_eq_some_iff.mp hp
    obtain ⟨lk, ek⟩ := List.getElem?_eq_some_iff.mp hq
    have := List.pairwise_iff_getElem.mp h2 j k lj lk hjk
    rw [ej, ek] at this
    exact this
theorem take_all {α : Type} {f : α → Bool} {l : List α} (h : ∀ a ∈ l, f a = true) : l.takeWhile f = l ∧ l.dropWhile f = [] := by
  induction l with
  | nil => exact ⟨rfl, rfl⟩
  | cons a l ih =>
    have h1 := h a (.head _)
    have h2 := ih fun b hb => h b (.tail _ hb)
    rw [List.takeWhile_cons, List.dropWhile_cons, if_pos h1, if_pos h1, h2.1]
    exact ⟨rfl, h2.2⟩
theorem take_mem {α : Type} {f : α → Bool} : ∀ {l : List α} {a : α}, a ∈ l.takeWhile f → f a = true ∧ a ∈ l
  | [], _, h => nomatch h
  | x :: l, a, h => by
    rw [List.takeWhile_cons] at h
    split at h
    · rename_i hx
      rcases List.mem_cons.mp h with rfl | h
      · exact ⟨hx, .head _⟩
      · have := take_mem h; exact ⟨this.1, .tail _ this.2⟩
    · cases h
theorem drop_mem {f : Addr × FM → Bool} : ∀ {l : XM}, (∀ a b, a ∈ l → b ∈ l → a.2.num = a.2.num → f a = false → True) → ∀ {a}, a ∈ l.dropWhile f → a ∈ l
  | [], _, _, h => nomatch h
  | x :: l, _, a, h => by
    rw [List.dropWhile_cons] at h
    split at h
    · exact .tail _ (drop_mem (fun _ _ _ _ _ _ => trivial) h)
    · exact h
/-- what the level's order says of a new table that meets none there -/
theorem bef_low {lv : Nat} (h0 : lv ≠ 0) {a f : FM} (h1 : a.lu < 5) (h2 : f.lu < 5) (hle : a.lu ≤ a.hu) (hf : f.lu ≤ f.hu) (hno : ¬ (f.lu ≤ a.hu ∧ a.lu ≤ f.hu)) : befB lv a f = decide (a.hu < f.lu) := by
  unfold befB
  rw [if_pos (Nat.pos_of_ne_zero h0)]
  have hn := cmpI_neg (ti := a.lt) (tj := f.lt) h1 h2
  have hp := cmpI_pos (ti := a.lt) (tj := f.lt) h1 h2
  by_cases h : a.hu < f.lu
  · have : cmpI (U a.lu) a.lt (U f.lu) f.lt < 0 := hn.mpr (.inl (by omega))
    rw [if_pos (by omega), decide_eq_true this, decide_eq_true h]
  · have : cmpI (U a.lu) a.lt (U f.lu) f.lt > 0 := hp.mpr (.inl (by omega))
    rw [if_pos (by omega), decide_eq_false (by omega), decide_eq_false h]
theorem drop_high {lv : Nat} {f : FM} {xs : XM} (hp : xs.Pairwise (fun a b => a.2.hu < b.2.lu)) (hl : ∀ a ∈ xs, a.2.lu ≤ a.2.hu) (hb : ∀ a ∈ xs, befB lv a.2 f = decide (a.2.hu < f.lu)) : ∀ a ∈ xs.dropWhile (fun p => befB lv p.2 f), a ∈ xs ∧ ¬ a.2.hu < f.lu := by
  induction xs with
  | nil => exact fun _ h => nomatch h
  | cons x xs ih =>
    intro a ha
    rw [List.dropWhile_cons] at ha
    have hx := List.pairwise_cons.mp hp
    split at ha
    · have := ih hx.2 (fun b hb' => hl b (.tail _ hb')) (fun b hb' => hb b (.tail _ hb')) a ha
      exact ⟨.tail _ this.1, this.2⟩
    · rename_i h
      have h0 : ¬ x.2.hu < f.lu := fun h' => h (by rw [hb x (.head _)]; exact decide_eq_true h')
      rcases List.mem_cons.mp ha with rfl | ha
      · exact ⟨.head _, h0⟩
      · have h1 := hx.1 a ha
        have h2 := hl a (.tail _ ha)
        have h3 := hl x (.head _)
        exact ⟨.tail _ ha, by omega⟩
theorem PInv.step {count : Nat} {fs : List PF} {X : List XM} (I : PInv count fs X) {p : PF} {n : Nat} (hn : n = fs.length) (hp : RowsOk n p.rows) (hlv : p.lv < count)
    (hmeet : p.lv ≠ 0 → ∀ (k : Nat) (xs : XM), k ≤ p.lv → X[k]? = some xs → ∀ y ∈ xs, ¬ (p.lo.u ≤ y.2.hu ∧ y.2.lu ≤ p.hi.u)) :
    (∀ (k : Nat) (xs : XM), X[k]? = some xs → ChkOk k (finX p.lv p.mt (fmOf n p) k xs)) ∧
    (∀ xs, X[p.lv]? = some xs → ∀ (j k : Nat) a b, j ≤ k → xs[j]? = some a → xs[k]? = some b → befB p.lv b.2 (fmOf n p) = true → befB p.lv a.2 (fmOf n p) = true) ∧
    (∀ y ∈ X.flatMap numsX, y ≠ (fmOf n p).num) ∧ (X.flatMap numsX).Nodup ∧ (X.flatMap numsX).length = n ∧
    ∀ X' : List XM, X'.length = X.length → (∀ (k : Nat) (xs : XM), X[k]? = some xs → X'[k]? = some (finX p.lv p.mt (fmOf n p) k xs)) → PInv count (fs ++ [p]) X' := by
  subst hn
  have hlh := hp.lohi
  have hyok : ∀ (k : Nat) xs, X[k]? = some xs → ∀ y ∈ xs, y.2.lu < 5 ∧ y.2.hu < 5 ∧ y.2.lu ≤ y.2.hu ∧ (y.2.lu = y.2.hu → y.2.lt ≥ y.2.ht) ∧ y.2.num < 7 + (fs.length : Int) := fun k xs hk y hy => by
    obtain ⟨i, pi, h1, h2, rfl⟩ := (I.mem k xs hk y).mp hy
    have h3 := (I.row i pi h1).1.lohi
    have h4 := (List.getElem?_eq_some_iff.mp h1).1
    refine ⟨h3.1.1, h3.2.1.1, h3.2.2.1, h3.2.2.2, ?_⟩
    show 7 + (i : Int) < _
    omega
  have hnew : (fmOf fs.length p).lu < 5 ∧ (fmOf fs.length p).hu < 5 ∧ (fmOf fs.length p).lu ≤ (fmOf fs.length p).hu := ⟨hlh.1.1, hlh.2.1.1, hlh.2.2.1⟩
  obtain ⟨xl, hxl⟩ : ∃ x, X[p.lv]? = some x := ⟨_, List.getElem?_eq_getElem (by rw [I.len]; exact hlv)⟩
  -- the order at the new table's level
  have bef0 : p.lv = 0 → ∀ a ∈ xl, befB p.lv a.2 (fmOf fs.length p) = true := fun h a ha => by
    have := (hyok _ _ hxl a ha).2.2.2.2
    unfold befB
    rw [if_neg (by omega)]
    exact decide_eq_true this
  have befL : p.lv ≠ 0 → ∀ a ∈ xl, befB p.lv a.2 (fmOf fs.length p) = decide (a.2.hu < (fmOf fs.length p).lu) := fun h a ha => by
    obtain ⟨h1, h2, h3, h4, h5⟩ := hyok _ _ hxl a ha
    exact bef_low h h1 hnew.1 h3 hnew.2.2 (hmeet h p.lv xl (Nat.le_refl _) hxl a ha)
  have ins0 : p.lv = 0 → insM p.lv p.mt (fmOf fs.length p) xl = xl ++ [yOf fs.length p] := fun h => by
    unfold insM
    rw [(take_all (bef0 h)).1, (take_all (bef0 h)).2]
    rfl
  have insL : p.lv ≠ 0 → LvlOk (insM p.lv p.mt (fmOf fs.length p) xl) := fun h => by
    have hk := lvlOk_iff.mp (I.lk p.lv xl h hxl)
    have hpw : (xl.takeWhile (fun a => befB p.lv a.2 (fmOf fs.length p)) ++ xl.dropWhile (fun a => befB p.lv a.2 (fmOf fs.length p))).Pairwise (fun a b => a.2.hu < b.2.lu) := by rw [List.takeWhile_append_dropWhile]; exact hk.2
    obtain ⟨w1, w2, w3⟩ := List.pairwise_append.mp hpw
    refine lvlOk_iff.mpr ⟨fun a ha => ?_, ?_⟩
    · rcases List.mem_cons.mp ((insM_perm _ _ _ _).mem_iff.mp ha) with rfl | ha
      · exact hnew.2.2
      · exact hk.1 a ha
    · unfold insM
      refine List.pairwise_append.mpr ⟨w1, List.pairwise_cons.mpr ⟨fun b hb => ?_, w2⟩, fun a ha b hb => ?_⟩
      · obtain ⟨hb1, hb2⟩ := drop_high hk.2 hk.1 (befL h) b hb
        have := hmeet h p.lv xl (Nat.le_refl _) hxl b hb1
        have h3 : ¬ b.2.hu < p.lo.u := hb2
        show p.hi.u < b.2.lu
        omega
      · rcases List.mem_cons.mp hb with rfl | hb
        · obtain ⟨ha1, ha2⟩ := take_mem ha
          rw [befL h a ha2] at ha1
          exact of_decide_eq_true ha1
        · exact w3 a ha b hb
  have hnums := I.nums
  have hnm : ∀ y ∈ X.flatMap numsX, y ≠ (fmOf fs.length p).num := fun y hy e => by
    have := hnums.mem_iff.mp hy
    obtain ⟨i, hi, rfl⟩ := List.mem_map.mp this
    have h1 := List.mem_range.mp hi
    have h2 : 7 + (i : Int) = 7 + (fs.length : Int) := e
    omega
  have hnd : ((List.range fs.length).map fun (i : Nat) => 7 + (i : Int)).Nodup := by
    refine List.pairwise_map.mpr (List.nodup_range.imp fun {a b} hne e => hne (by omega))
  have hchk : ∀ (k : Nat) (xs : XM), X[k]? = some xs → (∀ y ∈ finX p.lv p.mt (fmOf fs.length p) k xs, ¬ cmpI (U y.2.lu) y.2.lt (U y.2.hu) y.2.ht > 0) ∧ (k = 0 → (finX p.lv p.mt (fmOf fs.length p) k xs).Pairwise (fun a b => a.2.num < b.2.num)) ∧ (k ≠ 0 → LvlOk (finX p.lv p.mt (fmOf fs.length p) k xs)) := fun k xs hk => by
    refine ⟨fun y hy => ?_, fun h => ?_, fun h => ?_⟩
    · have : y.2.lu < 5 ∧ y.2.hu < 5 ∧ y.2.lu ≤ y.2.hu ∧ (y.2.lu = y.2.hu → y.2.lt ≥ y.2.ht) := by
        rcases finX_mem hy with rfl | hy
        · exact ⟨hlh.1.1, hlh.2.1.1, hlh.2.2.1, hlh.2.2.2⟩
        · obtain ⟨h1, h2, h3, h4, _⟩ := hyok k xs hk y hy
          exact ⟨h1, h2, h3, h4⟩
      rw [cmpI_pos this.1 this.2.1]
      omega
    · subst h
      unfold finX
      split
      · rename_i e
        rw [← e] at hxl
        rw [hk] at hxl
        have e9 := Option.some.inj hxl
        subst e9
        rw [ins0 e.symm]
        refine List.pairwise_append.mpr ⟨I.l0 xs hk, List.pairwise_singleton _ _, fun a ha b hb => ?_⟩
        rw [List.mem_singleton.mp hb]
        exact (hyok 0 xs hk a ha).2.2.2.2
      · exact I.l0 xs hk
    · unfold finX
      split
      · rename_i e
        subst e
        rw [hk] at hxl
        have e9 := Option.some.inj hxl
        subst e9
        exact insL h
      · exact I.lk k xs h hk
  refine ⟨fun k xs hk => ⟨(hchk k xs hk).1, fun h i j a b hij ha hb => ?_, (hchk k xs hk).2.2⟩, fun xs hxs j k a b hjk ha hb hbb => ?_, hnm, hnums.nodup_iff.mpr hnd, by rw [hnums.length_eq, List.length_map, List.length_range], fun X' hX1 hX2 => ?_⟩
  · obtain ⟨li, ei⟩ := List.getElem?_eq_some_iff.mp ha
    obtain ⟨lj, ej⟩ := List.getElem?_eq_some_iff.mp hb
    have := List.pairwise_iff_getElem.mp ((hchk k xs hk).2.1 h) i j li lj hij
    rw [ei, ej] at this
    exact this
  · rw [hxl] at hxs
    have e9 := Option.some.inj hxs
    subst e9
    by_cases h : p.lv = 0
    · exact bef0 h a (List.mem_of_getElem? ha)
    · rw [befL h b (List.mem_of_getElem? hb)] at hbb
      rw [befL h a (List.mem_of_getElem? ha)]
      have h1 := of_decide_eq_true hbb
      have h2 := (I.lk p.lv xl h hxl).le hjk ha hb
      exact decide_eq_true (by omega)
  · have hX : ∀ (k : Nat) (xs' : XM), X'[k]? = some xs' → ∃ xs, X[k]? = some xs ∧ xs' = finX p.lv p.mt (fmOf fs.length p) k xs := fun k xs' h => by
      have hk : k < X.length := by rw [← hX1]; exact (List.getElem?_eq_some_iff.mp h).1
      have h1 := List.getElem?_eq_getElem hk
      have h2 := hX2 k _ h1
      rw [h] at h2
      exact ⟨_, h1, Option.some.inj h2⟩
    have hget : ∀ (i : Nat) (q : PF), (fs ++ [p])[i]? = some q → fs[i]? = some q ∨ (i = fs.length ∧ q = p) := fun i q h => by
      rcases Nat.lt_or_ge i fs.length with hi | hi
      · rw [List.getElem?_append_left hi] at h
        exact .inl h
      · rw [List.getElem?_append_right hi] at h
        have h0 : i - fs.length = 0 := by
          have := (List.getElem?_eq_some_iff.mp h).1
          simp at this
          omega
        rw [h0] at h
        exact .inr ⟨by omega, (Option.some.inj h).symm⟩
    have hget1 : ∀ (i : Nat) (q : PF), fs[i]? = some q → (fs ++ [p])[i]? = some q := fun i q h => by
      rw [List.getElem?_append_left (List.getElem?_eq_some_iff.mp h).1]
      exact h
    have hget2 : (fs ++ [p])[fs.length]? = some p := by
      rw [List.getElem?_append_right (Nat.le_refl _), Nat.sub_self]
      rfl
    refine ⟨hX1.trans I.len, fun i q hq => ?_, fun k xs' hk y => ?_, fun xs' hk => ?_, fun k xs' h0 hk => ?_, fun i j a b hij ha hb h1 h2 => ?_, ?_⟩
    · rcases hget i q hq with h | ⟨rfl, rfl⟩
      · exact I.row i q h
      · exact ⟨hp, hlv⟩
    · obtain ⟨xs, hxs, rfl⟩ := hX k xs' hk
      constructor
      · intro hy
        unfold finX at hy
        split at hy
        · rename_i e
          rcases List.mem_cons.mp ((insM_perm _ _ _ _).mem_iff.mp hy) with rfl | hy
          · exact ⟨fs.length, p, hget2, e.symm, rfl⟩
          · obtain ⟨i, q, g1, g2, g3⟩ := (I.mem k xs hxs y).mp hy
            exact ⟨i, q, hget1 i q g1, g2, g3⟩
        · obtain ⟨i, q, g1, g2, g3⟩ := (I.mem k xs hxs y).mp hy
          exact ⟨i, q, hget1 i q g1, g2, g3⟩
      · rintro ⟨i, q, g1, g2, g3⟩
        unfold finX
        rcases hget i q g1 with h | ⟨rfl, rfl⟩
        · have hy := (I.mem k xs hxs y).mpr ⟨i, q, h, g2, g3⟩
          split
          · exact (insM_perm _ _ _ _).mem_iff.mpr (.tail _ hy)
          · exact hy
        · rw [if_pos g2.symm, g3]
          exact (insM_perm _ _ _ _).mem_iff.mpr (.head _)
    · obtain ⟨xs, hxs, rfl⟩ := hX 0 xs' hk
      exact (hchk 0 xs hxs).2.1 rfl
    · obtain ⟨xs, hxs, rfl⟩ := hX k xs' hk
      exact (hchk k xs hxs).2.2 h0
    · rcases hget i a ha with ga | ⟨rfl, rfl⟩ <;> rcases hget j b hb with gb | ⟨rfl, rfl⟩
      · exact I.ord i j a b hij ga gb h1 h2
      · by_cases hb0 : b.lv = 0
        · omega
        · left
          refine Classical.byContradiction fun hlt => ?_
          obtain ⟨xa, hxa⟩ : ∃ x, X[a.lv]? = some x := ⟨_, List.getElem?_eq_getElem (by rw [I.len]; exact (I.row i a ga).2)⟩
          have := hmeet hb0 a.lv xa (by omega) hxa (yOf i a) ((I.mem a.lv xa hxa _).mpr ⟨i, a, ga, rfl, rfl⟩)
          exact this ⟨h2, h1⟩
      · have := (List.getElem?_eq_some_iff.mp gb).1
        omega
      · omega
    · have e : X' = X.set p.lv (insM p.lv p.mt (fmOf fs.length p) xl) := by
        refine List.ext_getElem? fun k => ?_
        rw [List.getElem?_set]
        rcases Nat.lt_or_ge k X.length with hk | hk
        · have h1 := List.getElem?_eq_getElem hk
          rw [hX2 k _ h1]
          unfold finX
          by_cases hkl : k = p.lv
          · subst hkl
            rw [h1] at hxl
            rw [if_pos rfl, if_pos rfl, if_pos hk, Option.some.inj hxl]
          · rw [if_neg hkl, if_neg (Ne.symm hkl), h1]
        · rw [List.getElem?_eq_none (by omega), List.getElem?_eq_none hk, if_neg (by rw [I.len] at hk; omega)]
      rw [e]
      refine (flat_set (y := (p.mt, fmOf fs.length p)) hxl (insM_perm _ _ _ _)).trans ?_
      rw [List.length_append, List.length_singleton, List.range_succ, List.map_append]
      exact (hnums.cons _).trans (List.perm_append_singleton _ _).symm
theorem PInv.start (count : Nat) (X : List XM) (h : X.length = count) (h0 : ∀ (k : Nat) (xs : XM), X[k]? = some xs → xs = []) : PInv count [] X := by
  refine ⟨h, fun i p hp => by simp at hp, fun k xs hk y => ?_, fun xs hk => by rw [h0 0 xs hk]; exact .nil, fun k xs _ hk => ?_, fun i j p q _ hp => by simp at hp, ?_⟩
  · rw [h0 k xs hk]
    constructor
    · intro h; cases h
    · rintro ⟨i, p, hp, _⟩
      simp at hp
  · rw [h0 k xs hk]
    exact lvlOk_iff.mpr ⟨fun _ h => (nomatch h), .nil⟩
  · have : X.flatMap numsX = [] := by
      refine List.flatMap_eq_nil_iff.mpr fun xs hxs => ?_
      obtain ⟨k, hk⟩ := List.mem_iff_getElem?.mp hxs
      rw [h0 k xs hk]
      rfl
    rw [this]
    exact .nil
end
section
abbrev ledOf {g h : Heap} {L : Addr} {news : Led} (_ : News g L h news) : Led := news
theorem execs_app (env : PySem.Env) (bs : List Stmt) : ∀ as : List Stmt, execs (as ++ bs) env = (execs as env >>= fun f => match f with | .next => execs bs env | f => pure f)
  | [] => by rw [execs_nil, pure_bind]; rfl
  | a :: r => by
    rw [List.cons_append, execs_cons, execs_cons, bind_assoc]
    congr 1
    funext f
    cases f with
    | next => exact execs_app env bs r
    | brk => rw [pure_bind]
    | cont => rw [pure_bind]
    | ret v => rw [pure_bind]
theorem wp_split {M : Model} {A : Around} {env : PySem.Env} {as bs : List Stmt} {s : Shared} {Q QA : Flow → Shared → Prop} {E : Value → Shared → Prop} (ha : wpAny M A (execs as env) QA E s) (hq : ∀ f s', QA f s' → match f with | .next => wpAny M A (execs bs env) Q E s' | f => Q f s') : wpAny M A (execs (as ++ bs) env) Q E s := by
  rw [execs_app]
  refine wpAny_bind (wpAny_mono ha (fun f s' h => ?_) fun _ _ e => e)
  have := hq f s' h
  cases f with
  | next => exact this
  | brk => exact wpAny_pure this
  | cont => exact wpAny_pure this
  | ret v => exact wpAny_pure this
theorem wp_cut {M : Model} {A : Around} {env : PySem.Env} (n : Nat) {l : List Stmt} {s : Shared} {Q QA : Flow → Shared → Prop} {E : Value → Shared → Prop} (ha : wpAny M A (execs (l.take n) env) QA E s) (hq : ∀ f s', QA f s' → match f with | .next => wpAny M A (execs (l.drop n) env) Q E s' | f => Q f s') : wpAny M A (execs l env) Q E s := by
  have := wp_split ha hq
  rwa [List.take_append_drop] at this
theorem fmod_ok (k : Int) : 0 ≤ k.fmod 999983 ∧ k.fmod 999983 < 999983 := ⟨Int.fmod_nonneg_of_pos _ (by decide), Int.fmod_lt_of_pos _ (by decide)⟩
/-- behind the list of draws -/
inductive NumsAt (s1 : Shared) (fl : Flow) (s' : Shared) : Prop
  | mk (p1_ : fl = Flow.next) (h' : Heap) (tk' : Nat) (um : Str → Option Value) (nl : Addr) (vs : List Value) (ns : List Int) (n : Nat) (p2_ : s' = ⟨h', s1.gens, s1.drawn, tk', s1.os⟩) (p3_ : Fr s1.heap s1.heap.objs.size h' (fun y => if y = Str.ofString "nums" then some (.ref nl) else um y)) (p4_ : News s1.heap s1.heap.objs.size h' [(nl, listOf vs.toArray n)]) (p5_ : IntsAre vs ns) (p6_ : 0 < ns.length) (p7_ : ns.length ≤ 9) (p8_ : ∀ x ∈ ns, 0 ≤ x ∧ x < 999983) : NumsAt s1 fl s'
structure FLS where
  tab : Addr
  xs : XR
  p : PF
  lt : Addr
structure LS where
  led : Led
  vx : Addr
  ls : Lvls
  hl : Addr
  hx : XR
  fl : List FLS
  c1 : Nat
  c2 : Nat
abbrev inL (led : Led) : View := fun a o => (a, o) ∈ led
abbrev tabRefs (fl : List FLS) : List Value := fl.map fun x => Value.ref x.tab
abbrev laidRefs (fl : List FLS) : List Value := fl.map fun x => Value.ref x.lt
abbrev lawLed (ta la : Addr) (c : LS) : Led := (ta, listOf (tabRefs c.fl).toArray c.c1) :: (la, listOf (laidRefs c.fl).toArray c.c2) :: c.led
abbrev lawPs (nl op ta la : Addr) (c : LS) : List (Str × Value) := [(Str.ofString "nums", .ref nl), (Str.ofString "options", .ref op), (Str.ofString "version", .ref c.vx), (Str.ofString "history", .ref c.hl), (Str.ofString "tables", .ref ta), (Str.ofString "laid", .ref la)]
structure LOk (w : World) (cnt mm mf : Nat) (nl op ord ta la : Addr) (i : Nat) (c : LS) : Prop where
  flen : c.fl.length = i
  nums : ∃ vs ns n, (nl, listOf vs.toArray n) ∈ c.led ∧ IntsAre vs ns ∧ 0 < ns.length ∧ ns.length ≤ 9 ∧ ∀ x ∈ ns, 0 ≤ x ∧ x < 999983
  opt : IsOpt (inL c.led) op mm 1 mf
  bnd : 2 ≤ cnt ∧ cnt ≤ 4 ∧ mm < cnt ∧ mf ≤ 5
  ver : IsVer w.params (inL c.led) c.vx ord c.ls
  inv : PInv cnt (c.fl.map (·.p)) (c.ls.map (·.2))
  tabs : ∀ x ∈ c.fl, IsRows (inL c.led) x.tab x.xs ∧ x.p.rows = rowsOf x.xs ∧ ∃ e, x.xs = [e] ∨ ∃ e', x.xs = [e, e']
  laid : ∀ x ∈ c.fl, (∃ t1 t2 t3, (x.lt, tupOf [.int (x.p.lo.u : Int) t1, .int (x.p.hi.u : Int) t2, .int (x.p.lv : Int) t3].toArray) ∈ c.led) ∧ x.p.lv ≤ mm
  hist : IsRows (inL c.led) c.hl c.hx
  hasc : (rowsOf c.hx).Pairwise (fun a b => a.s < b.s)
  hmax : ∀ r ∈ rowsOf c.hx, r.s ≤ 2 * i
  hmem : ∀ r, r ∈ rowsOf c.hx ↔ ∃ x ∈ c.fl, r ∈ x.p.rows
  hlen : c.hx.length ≤ 2 * i
  off : ∀ p ∈ c.led, p.1 ≠ ta ∧ p.1 ≠ la
  ne : ta ≠ la
/-- between the law's loops, behind so many flushes -/
inductive LawAt (w : World) (s1 : Shared) (i : Nat) (fl : Flow) (s' : Shared) : Prop
  | mk (p1_ : fl = Flow.next) (h' : Heap) (tk' : Nat) (um : Str → Option Value) (cnt mm mf : Nat) (nl op ord ta la : Addr) (c : LS) (p2_ : s' = ⟨h', s1.gens, s1.drawn, tk', s1.os⟩) (p3_ : Fr s1.heap s1.heap.objs.size h' (kstB um (lawPs nl op ta la c))) (p4_ : News s1.heap s1.heap.objs.size h' (lawLed ta la c)) (p5_ : LOk w cnt mm mf nl op ord ta la i c) : LawAt w s1 i fl s'
theorem kstB_self {m : Str → Option Value} : ∀ {ps : List (Str × Value)}, (∀ p ∈ ps, m p.1 = some p.2) → kstB m ps = m
  | [], _ => rfl
  | p :: r, h => by
    funext z
    show (if z = p.1 then some p.2 else kstB m r z) = m z
    split
    · rename_i e
      rw [e, h p (.head _)]
    · rw [kstB_self fun q hq => h q (.tail _ hq)]
theorem fr_kst {h₀ h : Heap} {L : Addr} {m : Str → Option Value} {ps : List (Str × Value)} (F : Fr h₀ L h m) (hk : ∀ p ∈ ps, m p.1 = some p.2) : Fr h₀ L h (kstB m ps) := by rw [kstB_self hk]; exact F
theorem all6 {m : Str → Option Value} {a b c d e f : Str} {x y z v u t : Value} (h1 : m a = some x) (h2 : m b = some y) (h3 : m c = some z) (h4 : m d = some v) (h5 : m e = some u) (h6 : m f = some t) : ∀ p ∈ [(a, x), (b, y), (c, z), (d, v), (e, u), (f, t)], m p.1 = some p.2 := fun p hp => by
  rcases List.mem_cons.mp hp with rfl | hp
  · exact h1
  rcases List.mem_cons.mp hp with rfl | hp
  · exact h2
  · exact all4 h3 h4 h5 h6 p hp
/-- within a flush: its rows laid, sorted, and the history grown -/
inductive RowsAt (s1 : Shared) (nl op ta la I : Addr) (c : LS) (own : Led) (f : Nat) (tf : Tok) (fl : Flow) (s' : Shared) : Prop
  | mk (p1_ : fl = Flow.next) (h' : Heap) (tk' : Nat) (um : Str → Option Value) (led' : Led) (y : Nat) (ty : Tok) (ra hl' : Addr) (xs hx' : XR) (p2_ : s' = ⟨h', s1.gens, s1.drawn, tk', s1.os⟩) (p3_ : Fr s1.heap s1.heap.objs.size h' (kstB um ((Str.ofString "f", .int (f : Int) tf) :: (Str.ofString "y", .int (y : Int) ty) :: (Str.ofString "rows", .ref ra) :: lawPs nl op ta la ⟨led', c.vx, c.ls, hl', hx', c.fl, c.c1, c.c2⟩))) (p4_ : News s1.heap s1.heap.objs.size h' (own ++ lawLed ta la ⟨led', c.vx, c.ls, hl', hx', c.fl, c.c1, c.c2⟩)) (p5_ : (∀ p ∈ c.led, p ∈ led')) (p6_ : (∀ p ∈ led', p.1 ≠ ta ∧ p.1 ≠ la ∧ p.1 ≠ I)) (p7_ : IsRows (inL led') ra xs) (p8_ : RowsOk f (rowsOf xs)) (p9_ : (∃ e, xs = [e] ∨ ∃ e', xs = [e, e'])) (p10_ : IsRows (inL led') hl' hx') (p11_ : (rowsOf hx').Pairwise (fun a b => a.s < b.s)) (p12_ : (∀ r ∈ rowsOf hx', r.s ≤ 2 * (f + 1))) (p13_ : (∀ r, r ∈ rowsOf hx' ↔ r ∈ rowsOf c.hx ∨ r ∈ rowsOf xs)) (p14_ : hx'.length ≤ 2 * (f + 1)) : RowsAt s1 nl op ta la I c own f tf fl s'
end
section
section
variable {prog : Program} {w : World} {A : Around} {E : Value → Shared → Prop} {s : Shared} {env : PySem.Env} {h₀ : Heap} {target : Expr} {body : List Stmt} {Q : Flow → Shared → Prop}
/-- the end of a turn, where no other name counts -/
def TurnG {σ : Type} (h₀ : Heap) (L : Addr) (wr : List Addr) (own : Led) (ps : σ → List (Str × Value)) (Lf : σ → Led) (P' : σ → Prop) (s₁ s₂ : Shared) : Prop :=
  ∃ (c' : σ) (h' : Heap) (tk : Nat) (m' : Str → Option Value) (news' : Led), s₂ = { s₁ with heap := h', toks := tk } ∧ Fr h₀ L h' m' ∧ News h₀ L h' news' ∧ (∀ p ∈ own, p ∈ news') ∧ (∀ p ∈ Lf c', p ∈ news') ∧ (∀ p ∈ Lf c', p.1 ∉ wr) ∧
    (∀ p ∈ ps c', m' p.1 = some p.2) ∧ P' c'
def TurnQ {σ : Type} (h₀ : Heap) (L : Addr) (wr : List Addr) (own : Led) (ps : σ → List (Str × Value)) (Lf : σ → Led) (P' : σ → Prop) (s₁ : Shared) (Q : Flow → Shared → Prop) (f : Flow) (s₂ : Shared) : Prop :=
  match f with
  | .ret v => Q (.ret v) s₂
  | .brk => Q .next s₂
  | _ => TurnG h₀ L wr own ps Lf P' s₁ s₂
theorem TurnG.intro {σ : Type} {L : Addr} {wr : List Addr} {own : Led} {m' : Str → Option Value} {ps : σ → List (Str × Value)} {Lf : σ → Led} {P' : σ → Prop} {s₁ : Shared} {h' : Heap} {tk : Nat} {news' : Led} (c' : σ)
    (F : Fr h₀ L h' m') (N : News h₀ L h' news') (ho : ∀ p ∈ own, p ∈ news') (hl : ∀ p ∈ Lf c', p ∈ news') (hw : ∀ p ∈ Lf c', p.1 ∉ wr) (hk : ∀ p ∈ ps c', m' p.1 = some p.2) (hp : P' c') :
    TurnG h₀ L wr own ps Lf P' s₁ { s₁ with heap := h', toks := tk } := ⟨c', h', tk, m', news', rfl, F, N, ho, hl, hw, hk, hp⟩
theorem turns_coreF {σ : Type} {I : Addr} {fp wr : List Addr} {n : Nat} {Pv Md : Nat → Value → Heap → Prop} {St : Nat → Heap → Prop} {m₀ : Str → Option Value} {hp : Heap} {tk0 : Nat}
    (ps : σ → List (Str × Value)) (Lf : σ → Led) (P : Nat → σ → Prop) (c₀ : σ)
    (W : KTurns prog w A target I fp wr n Pv Md St) (hLf : env.locals ∉ fp) (hwr : ∀ b ∈ wr, h₀.get? b = none) (hst : St 0 hp) (F : Fr h₀ env.locals hp m₀) (N : News h₀ env.locals hp (Lf c₀)) (hw : ∀ p ∈ Lf c₀, p.1 ∉ wr)
    (hk : ∀ p ∈ ps c₀, m₀ p.1 = some p.2) (h0 : P 0 c₀)
    (turn : ∀ i v (c : σ) (u : Str → Option Value) h tk own, i < n → Pv i v h → P i c → (∀ p ∈ Lf c, p.1 ∉ wr) → (∀ p ∈ own, p.1 ∈ fp) → (∀ b ∈ fp, h₀.get? b = none → ∀ o, h.get? b = some o → (b, o) ∈ own) → St (i + 1) h →
      Fr h₀ env.locals h (kstB u (ps c)) → News h₀ env.locals h (own ++ Lf c) →
      wpAny (model prog w) A (assign target env v) (fun _ s₃ => wpAny (model prog w) A (execs body env) (TurnQ h₀ env.locals wr own ps Lf (P (i + 1)) { s with heap := h, toks := tk } Q) E s₃) E { s with heap := h, toks := tk })
    (done : ∀ (c : σ) (u : Str → Option Value) h tk, P n c → Fr h₀ env.locals h (kstB u (ps c)) → News h₀ env.locals h (Lf c) → Q .next { s with heap := h, toks := tk }) :
    TurnsAt prog w A h₀ env target body Q E (.ref I) { s with heap := hp, toks := tk0 } := by
  let J : Nat → (Str → Option Value) → Led → Prop := fun i m₁ nx => ∃ c : σ, nx = Lf c ∧ (∀ p ∈ ps c, m₁ p.1 = some p.2) ∧ P i c
  refine ⟨I, fp, wr, n, Pv, Md, St, m₀, Lf c₀, J, rfl, W, hLf, hwr, hw, hst, F, N, ⟨c₀, rfl, hk, h0⟩, ?_, ?_⟩
  · rintro i v m₁ news₁ h₁ tk₁ own hin hPi ⟨c, rfl, h1, hP⟩ hoff hown hget hall hst₁ F₁ N₁
    have F₂ := fr_kst F₁ h1
    have fin : ∀ s₂, TurnG h₀ env.locals wr own ps Lf (P (i + 1)) { s with heap := h₁, toks := tk₁ } s₂ → LoopStepU h₀ env.locals wr own (J (i + 1)) { s with heap := h₁, toks := tk₁ } .next s₂ := by
      rintro s₂ ⟨c', h', tk, m', news', e, F', N', ho, hl, hw', hk', hp'⟩
      refine ⟨rfl, h', tk, m', Lf c', e, F', fun p hp => ?_, hw', c', rfl, hk', hp'⟩
      rcases List.mem_append.mp hp with hp | hp
      · exact N' p (ho p hp)
      · exact N' p (hl p hp)
    refine wpAny_mono (turn i v c m₁ h₁ tk₁ own hin hPi hP hoff hown hall hst₁ F₂ N₁) (fun _ s₃ h₃ => wpAny_mono h₃ (fun f s₂ p => ?_) fun _ _ e => e) fun _ _ e => e
    cases f with
    | ret v => exact .ret p
    | brk => exact .brk p
    | next => exact .next (fin _ p)
    | cont => exact .cont (fin _ p)
  · rintro h' tk m' news' F' N' _ ⟨c, rfl, h1, hP⟩
    exact done c m' h' tk hP (fr_kst F' h1) N'
/-- a loop over a range, where no other name counts -/
theorem turns_rangeF {σ : Type} {r : Addr} {a₀ b₀ c₁ : Int} {t₀ u₀ v₀ : Tok} {n : Nat} {m₀ : Str → Option Value} (ps : σ → List (Str × Value)) (Lf : σ → Led) (P : Nat → σ → Prop) (c₀ : σ)
    (hh : A.handled = none) (hr : IsRange s.heap r a₀ b₀ c₁ t₀ u₀ v₀) (hsmall : Builtin.Range.small a₀ b₀ c₁ = true) (hn : Builtin.Range.rangeSize a₀ b₀ c₁ = (n : Int)) (F : Fr h₀ env.locals s.heap m₀) (N : News h₀ env.locals s.heap (Lf c₀)) (hk : ∀ p ∈ ps c₀, m₀ p.1 = some p.2) (h0 : P 0 c₀)
    (turn : ∀ (i : Nat) t (c : σ) (u : Str → Option Value) h tk own I, i < n → P i c → (∀ p ∈ Lf c, p.1 ≠ I) → (∃ o, (I, o) ∈ own) → (∀ p ∈ own, ∀ q ∈ Lf c, p.1 ≠ q.1) →
      Fr h₀ env.locals h (kstB u (ps c)) → News h₀ env.locals h (own ++ Lf c) →
      wpAny (model prog w) A (assign target env (.int (a₀ + (i : Int) * c₁) t)) (fun _ s₃ => wpAny (model prog w) A (execs body env) (TurnQ h₀ env.locals [I] own ps Lf (P (i + 1)) { s with heap := h, toks := tk } Q) E s₃) E { s with heap := h, toks := tk })
    (done : ∀ (c : σ) (u : Str → Option Value) h tk, P n c → Fr h₀ env.locals h (kstB u (ps c)) → News h₀ env.locals h (Lf c) → Q .next { s with heap := h, toks := tk }) :
    wpAny (model prog w) A (pyIter (.ref r)) (fun it s₂ => TurnsAt prog w A h₀ env target body Q E it s₂) E s := by
  refine wpAny_pyIter_range hr hsmall ?_
  have W := KTurns.ofWalks (target := target) (Walks.range (prog := prog) (w := w) hh s.heap.objs.size a₀ c₁ n) fun i v s Q E st q => letGo_range st q
  refine turns_coreF (tk0 := s.toks) ps Lf P c₀ W ?_ ?_ (by show IsRangeIter _ _ _ _ _; rw [hn]; simpa using Heap.get?_push_size _ rfl) (F.push _) (fun p hp => ⟨Heap.get?_push_of_some _ (N p hp).1, (N p hp).2⟩) ?_ hk h0 ?_ ?_
  · intro hm
    exact absurd F.ns.lt ((List.mem_singleton.mp hm) ▸ Nat.lt_irrefl _)
  · intro b hb
    rw [List.mem_singleton.mp hb]
    exact next_is_new F
  · intro p hp hI
    exact absurd (Heap.lt_size (N p hp).1) ((List.mem_singleton.mp hI) ▸ Nat.lt_irrefl _)
  · rintro i v c u h tk own hin hPv hP hw hown hall hst F₁ N₁
    obtain ⟨t, rfl⟩ := hPv
    refine turn i t c u h tk own _ hin hP (fun p hp e => hw p hp (by rw [e]; exact List.mem_singleton.mpr rfl)) ⟨_, hall _ (by simp) (next_is_new F) _ hst⟩ (fun p hp q hq e => ?_) F₁ N₁
    exact hw q hq (by rw [← e]; exact hown p hp)
  · exact done
end
end
section
theorem list_sort_one {prog : Program} {w : World} {A : Around} {E : Value → Shared → Prop} {s : Shared} {h₀ : Heap} {L a : Addr} {m : Str → Option Value} {news : Led} {x : Value} {n : Nat} {P : PySem.Fin → Shared → Prop} (F : Fr h₀ L s.heap m) (N : News h₀ L s.heap news) (ho : s.heap.get? a = some (seqObj "list" [x].toArray n)) (haL : a ≠ L) (ha0 : h₀.get? a = none) (hna : ∀ p ∈ news, p.1 ≠ a)
    (k : ∀ h' c, Fr h₀ L h' m → News h₀ L h' ((a, seqObj "list" [x].toArray c) :: news) → P (.done (.ret .none)) { s with heap := h' }) : wpAny (model prog w) A (Builtin.«list.sort» ⟨[.ref a], []⟩) P E s := by
  have s1 := Heap.SameBut.update s.heap a (Obj.mapSeq fun _ => (#[] : Array Value))
  obtain ⟨e1, ho1⟩ : ∃ e1, (s.heap.update a (Obj.mapSeq fun _ => (#[] : Array Value))).get? a = some (seqObj "list" #[] e1) := ⟨_, get?_update_seq ho fun _ => #[]⟩
  have F3 : Fr h₀ L (((s.heap.update a (Obj.mapSeq fun _ => (#[] : Array Value))).push (seqObj "tuple" [x].toArray 0)).push (seqObj "list" #[] 0)) m := ((kas_fr F s1 haL ha0).push _).push _
  have N2 : News h₀ L (((s.heap.update a (Obj.mapSeq fun _ => (#[] : Array Value))).push (seqObj "tuple" [x].toArray 0)).push (seqObj "list" #[] 0)) news :=
    (kas_news N s1 hna).grown fun b x e => Heap.get?_push_of_some _ (Heap.get?_push_of_some _ e)
  have ho3 : (((s.heap.update a (Obj.mapSeq fun _ => (#[] : Array Value))).push (seqObj "tuple" [x].toArray 0)).push (seqObj "list" #[] 0)).get? a = some (seqObj "list" #[] e1) := Heap.get?_push_of_some _ (Heap.get?_push_of_some _ ho1)
  rw [list_sort_plain]
  refine wpAny_bind (listItems_at ho rfl ?_)
  refine wpAny_bind (listUpdate_at ho rfl ?_ (by rw [List.size_toArray, sizeLine_eq]; exact Nat.le_of_ble_eq_true rfl) (Nat.zero_le _))
  refine wpAny_bind (seqEpoch_at ho1 rfl ?_)
  refine wpAny_bind (wpAny_newTuple ?_ (by show [x].length ≤ _; rw [sizeLine_eq]; exact Nat.le_of_ble_eq_true rfl))
  refine wpAny_bind (wpAny_newList ?_ (Nat.zero_le _))
  refine wpAny_holding ?_
  show wpAny (model prog w) A _ P E { s with heap := ((s.heap.update a (Obj.mapSeq fun _ => (#[] : Array Value))).push (seqObj "tuple" [x].toArray 0)).push (seqObj "list" #[] 0) }
  dsimp only
  have hn2 : [x].toArray.size < 2 := by simp
  rw [if_pos hn2, if_pos hn2]
  refine wpAny_bind (wpAny_pure ?_)
  refine wpAny_bind (wpAny_of_eq (a := ((), SortSt.mk' general' ([x].toArray.zip [x].toArray) #[] 7 none)) rfl ?_)
  dsimp only
  have hout : (arrOf (SortSt.mk' general' ([x].toArray.zip [x].toArray) #[] 7 none)).map (·.2) = [x].toArray := by with_unfolding_all rfl
  rw [hout]
  have s2 := Heap.SameBut.update (((s.heap.update a (Obj.mapSeq fun _ => (#[] : Array Value))).push (seqObj "tuple" [x].toArray 0)).push (seqObj "list" #[] 0)) a (Obj.mapSeq fun _ => [x].toArray)
  obtain ⟨c2, hc2⟩ : ∃ c2, ((((s.heap.update a (Obj.mapSeq fun _ => (#[] : Array Value))).push (seqObj "tuple" [x].toArray 0)).push (seqObj "list" #[] 0)).update a (Obj.mapSeq fun _ => [x].toArray)).get? a = some (seqObj "list" [x].toArray c2) := ⟨_, get?_update_seq ho3 fun _ => [x].toArray⟩
  refine wpAny_bind (seqEpoch_at ho3 rfl ?_)
  refine wpAny_bind (listUpdate_at ho3 rfl ?_ (Nat.zero_le _) (by rw [List.size_toArray, sizeLine_eq]; exact Nat.le_of_ble_eq_true rfl))
  simp only [bne_self_eq_false, Bool.false_eq_true, if_false]
  refine wpAny_pure (k _ c2 (kas_fr F3 s2 haL ha0) fun p hp => ?_)
  rcases List.mem_cons.mp hp with rfl | hp
  · exact ⟨hc2, haL, ha0⟩
  · exact kas_news N2 s2 hna p hp
theorem sorted_one {prog : Program} {w : World} {A : Around} {E : Value → Shared → Prop} {s : Shared} {h₀ : Heap} {L l : Addr} {m : Str → Option Value} {news : Led} {x : Value} {Q : Value → Shared → Prop} (F : Fr h₀ L s.heap m) (N : News h₀ L s.heap news) (hl : s.heap.IsList l [x].toArray)
    (h : ∀ D c h', Fr h₀ L h' m → News h₀ L h' ((D, listOf [x].toArray c) :: news) → (∀ q ∈ news, q.1 < D) → Q (.ref D) { s with heap := h' }) : wpAny (model prog w) A (call (.builtin "sorted") [.ref l]) Q E s := by
  refine Calls.call_function_entry kind_sorted plain_sorted entry_sorted (args_sorted1 _) ?_
  unfold Builtin.«sorted»
  refine wpAny_bind (m := checkCount "sorted" 1 1 _) (wpAny_pure ?_)
  refine wpAny_bind (collect_list hl ?_ (by rw [sizeLine_eq]; exact Nat.le_of_ble_eq_true rfl))
  refine wpAny_bind (wpAny_newList ?_ (by rw [sizeLine_eq]; exact Nat.le_of_ble_eq_true rfl))
  have hsz : ((s.heap.push (seqObj "list" #[] 0)).update s.heap.objs.size (Obj.mapSeq (· ++ [x].toArray))).objs.size = s.heap.objs.size + 1 := by
    rw [Heap.size_update, size_push']
  have hoL : (((s.heap.push (seqObj "list" #[] 0)).update s.heap.objs.size (Obj.mapSeq (· ++ [x].toArray))).push (seqObj "list" [x].toArray 0)).get? (s.heap.objs.size + 1) = some (seqObj "list" [x].toArray 0) := by
    rw [← hsz]; exact Heap.get?_push_size _ rfl
  have keep : ∀ b o, s.heap.get? b = some o → (((s.heap.push (seqObj "list" #[] 0)).update s.heap.objs.size (Obj.mapSeq (· ++ [x].toArray))).push (seqObj "list" [x].toArray 0)).get? b = some o := fun b o q => by
    have hlt : b < s.heap.objs.size := Heap.lt_size q
    rw [Heap.get?_push_ne _ _ _ (by rw [hsz]; exact Nat.ne_of_lt (Nat.lt_succ_of_lt hlt)), Heap.get?_update_ne _ _ _ _ (Nat.ne_of_lt hlt), Heap.get?_push_ne _ _ _ (Nat.ne_of_lt hlt)]
    exact q
  have hL : L < s.heap.objs.size := F.ns.lt
  show wpAny _ _ _ _ _ { s with heap := ((s.heap.push (seqObj "list" #[] 0)).update s.heap.objs.size (Obj.mapSeq (· ++ [x].toArray))).push (seqObj "list" [x].toArray 0) }
  rw [hsz]
  refine wpAny_bind (wpAny_holding (wpAny_call_entry slot_list_sort ⟨_, hoL, rfl⟩ entry_list_sort ?body (args_list_sort _)))
  case body =>
    refine list_sort_one (s := { s with heap := ((s.heap.push (seqObj "list" #[] 0)).update s.heap.objs.size (Obj.mapSeq (· ++ [x].toArray))).push (seqObj "list" [x].toArray 0) })
      (F.kept keep) (N.grown keep) hoL (Nat.ne_of_gt (Nat.lt_succ_of_lt hL)) (Heap.get?_none_of_le (Nat.le_trans F.above (Nat.le_succ_of_le (Nat.le_of_lt hL))))
      (fun p hp => Nat.ne_of_lt (Nat.lt_succ_of_lt (Heap.lt_size (N p hp).1))) fun h' c F' N' => ?_
    exact ⟨_, rfl, wpAny_pure ⟨_, rfl, h _ c h' F' N' fun q hq => Nat.lt_succ_of_lt (Heap.lt_size (N q hq).1)⟩⟩
theorem add_led {prog : Program} {w : World} {A : Around} {E : Value → Shared → Prop} {s : Shared} {h₀ : Heap} {L l b : Addr} {m : Str → Option Value} {news : Led} {vs ws : List Value} {n k : Nat} {Q : Value → Shared → Prop} (F : Fr h₀ L s.heap m) (N : News h₀ L s.heap news) (hl : (l, listOf vs.toArray n) ∈ news) (hb : (b, listOf ws.toArray k) ∈ news) (hsz : vs.length + ws.length ≤ 1000)
    (h : ∀ D h', Fr h₀ L h' m → News h₀ L h' ((D, listOf (vs ++ ws).toArray 0) :: news) → (∀ q ∈ news, q.1 < D) → Q (.ref D) { s with heap := h' }) : wpAny (model prog w) A (binaryOp .Add (.ref l) (.ref b)) Q E s :=
  add_lists F N ⟨_, (N _ hl).1, rfl, n, rfl⟩ ⟨_, (N _ hb).1, rfl, k, rfl⟩ (fun h' F' N' => h _ h' F' N' fun q hq => Heap.lt_size (N q hq).1) (by rw [sizeLine_eq]; omega)
theorem allLt_ne {D : Addr} : ∀ {l : Led}, AllLt D l → ∀ p ∈ l, p.1 ≠ D
  | [], _ => fun _ h => nomatch h
  | q :: r, h => fun p hp => (List.mem_cons.mp hp).elim (fun e => e ▸ Nat.ne_of_lt h.1) (allLt_ne h.2 p)
theorem refsR_app (a b : XR) : refsR (a ++ b) = refsR a ++ refsR b := List.map_append
theorem rows_close {w : World} {s1 : Shared} {cnt mm mf : Nat} {nl op ord ta la I : Addr} {f : Nat} {tf ty : Tok} {c : LS} {own tl0 X : Led} {h' : Heap} {tk' : Nat} {m : Str → Option Value} {y k2 : Nat} {D1 D2 : Addr} {ws xs : XR} (hok : LOk w cnt mm mf nl op ord ta la f c)
    (htl0 : tl0 = own ++ lawLed ta la c) (hw : ∀ p ∈ lawLed ta la c, p.1 ≠ I)
    (F : Fr s1.heap s1.heap.objs.size h' m) (hk : ∀ p ∈ (Str.ofString "f", Value.int (f : Int) tf) :: (Str.ofString "y", Value.int (y : Int) ty) :: (Str.ofString "rows", Value.ref D2) :: lawPs nl op ta la ⟨[], c.vx, c.ls, D1, [], [], 0, 0⟩, m p.1 = some p.2) (N : News s1.heap s1.heap.objs.size h' X)
    (htl : ∀ p ∈ tl0, p ∈ X) (hD2 : (D2, listOf (refsR xs).toArray k2) ∈ X) (hD1 : (D1, listOf (refsR (c.hx ++ ws)).toArray 0) ∈ X) (o1 : ∀ x ∈ D1 :: D2 :: ws.map (·.1), x ≠ ta ∧ x ≠ la ∧ x ≠ I)
    (hperm : ∀ e, e ∈ xs ↔ e ∈ ws) (hrok : RowsOk f (rowsOf xs)) (hsh : ∃ e, xs = [e] ∨ ∃ e', xs = [e, e']) (hrow : ∀ e ∈ ws, (∃ t1 t2 t3, (e.1, tupOf [.int (e.2.u : Int) t1, .int (-(e.2.s : Int)) t2, .int (e.2.k : Int) t3].toArray) ∈ X) ∧ RowOk e.2)
    (hws : (rowsOf ws).Pairwise (fun a b => a.s < b.s)) (hwr : ∀ r ∈ rowsOf ws, 2 * f < r.s ∧ r.s ≤ 2 * (f + 1)) (hwl : ws.length ≤ 2) : RowsAt s1 nl op ta la I c own f tf .next ⟨h', s1.gens, s1.drawn, tk', s1.os⟩ := by
  obtain ⟨led', hled'⟩ : ∃ led' : Led, led' = X.filter fun p => decide (p.1 ≠ ta ∧ p.1 ≠ la ∧ p.1 ≠ I) := ⟨_, rfl⟩
  have hin : ∀ {p : Addr × Obj}, p ∈ X → (p.1 ≠ ta ∧ p.1 ≠ la ∧ p.1 ≠ I) → p ∈ led' := fun h1 h2 => hled' ▸ List.mem_filter.mpr ⟨h1, decide_eq_true h2⟩
  have hmono : ∀ p ∈ c.led, p ∈ led' := fun p hp => hin (htl p (htl0 ▸ List.mem_append_right _ (.tail _ (.tail _ hp)))) ⟨(hok.off p hp).1, (hok.off p hp).2, hw p (.tail _ (.tail _ hp))⟩
  have hrowV : ∀ e ∈ ws, IsRow (inL led') e.1 e.2 := fun e he => by
    obtain ⟨⟨t1, t2, t3, h1⟩, h2⟩ := hrow e he
    exact ⟨⟨t1, t2, t3, hin h1 (o1 e.1 (.tail _ (.tail _ (List.mem_map_of_mem he))))⟩, h2⟩
  refine ⟨rfl, h', tk', m, led', y, ty, D2, D1, xs, c.hx ++ ws, rfl, ?_, ?_, hmono, fun p hp => ?_, ?_, hrok, hsh, ?_, ?_, ?_, ?_, ?_⟩
  · exact fr_kst F hk
  · intro p hp
    rcases List.mem_append.mp hp with hp | hp
    · exact N p (htl p (htl0 ▸ List.mem_append_left _ hp))
    rcases List.mem_cons.mp hp with rfl | hp
    · exact N _ (htl _ (htl0 ▸ List.mem_append_right _ (.head _)))
    rcases List.mem_cons.mp hp with rfl | hp
    · exact N _ (htl _ (htl0 ▸ List.mem_append_right _ (.tail _ (.head _))))
    · rw [hled'] at hp
      exact N p (List.mem_filter.mp hp).1
  · rw [hled'] at hp
    exact of_decide_eq_true (List.mem_filter.mp hp).2
  · exact ⟨⟨k2, hin hD2 (o1 D2 (.tail _ (.head _)))⟩, fun e he => hrowV e ((hperm e).mp he)⟩
  · refine ⟨⟨0, hin hD1 (o1 D1 (.head _))⟩, fun e he => ?_⟩
    rcases List.mem_append.mp he with he | he
    · exact (hok.hist.2 e he).mono fun a o h => hmono _ h
    · exact hrowV e he
  · rw [rowsOf, List.map_append]
    refine List.pairwise_append.mpr ⟨hok.hasc, hws, fun a ha b hb => ?_⟩
    have h1 := hok.hmax a ha
    have h2 := hwr b hb
    omega
  · intro r hr
    rw [rowsOf, List.map_append] at hr
    rcases List.mem_append.mp hr with hr | hr
    · have := hok.hmax r hr; omega
    · exact (hwr r hr).2
  · intro r
    rw [rowsOf, List.map_append, List.mem_append]
    refine or_congr Iff.rfl ?_
    constructor
    · intro h
      obtain ⟨e, he, rfl⟩ := List.mem_map.mp h
      exact List.mem_map_of_mem ((hperm e).mpr he)
    · intro h
      obtain ⟨e, he, rfl⟩ := List.mem_map.mp h
      exact List.mem_map_of_mem ((hperm e).mp he)
  · rw [List.length_append]
    have := hok.hlen
    omega
theorem all9 {m : Str → Option Value} {a b c : Str} {x y z : Value} {ps : List (Str × Value)} (h1 : m a = some x) (h2 : m b = some y) (h3 : m c = some z) (h : ∀ p ∈ ps, m p.1 = some p.2) : ∀ p ∈ (a, x) :: (b, y) :: (c, z) :: ps, m p.1 = some p.2 := fun p hp => by
  rcases List.mem_cons.mp hp with rfl | hp
  · exact h1
  rcases List.mem_cons.mp hp with rfl | hp
  · exact h2
  rcases List.mem_cons.mp hp with rfl | hp
  · exact h3
  · exact h p hp
end
section
abbrev loR (xs : XR) : Row := (rowsOf xs).headD rowD
abbrev hiR (xs : XR) : Row := (rowsOf xs).getLastD rowD
/-- within a flush: laid on its level -/
inductive LaidAt (s1 : Shared) (nl op ta la I : Addr) (cnt mm : Nat) (c : LS) (own : Led) (f : Nat) (tf : Tok) (fl : Flow) (s' : Shared) : Prop
  | mk (p1_ : fl = Flow.next) (h' : Heap) (tk' : Nat) (um : Str → Option Value) (led' : Led) (y : Nat) (ty : Tok) (ra hl' lt : Addr) (xs hx' : XR) (lv : Nat) (tl t1 t2 t3 : Tok) (p2_ : s' = ⟨h', s1.gens, s1.drawn, tk', s1.os⟩) (p3_ : Fr s1.heap s1.heap.objs.size h' (kstB um ((Str.ofString "level", .int (lv : Int) tl) :: (Str.ofString "f", .int (f : Int) tf) :: (Str.ofString "y", .int (y : Int) ty) :: (Str.ofString "rows", .ref ra) :: lawPs nl op ta la ⟨led', c.vx, c.ls, hl', hx', c.fl, c.c1, c.c2⟩))) (p4_ : News s1.heap s1.heap.objs.size h' (own ++ (ta, listOf (tabRefs c.fl ++ [Value.ref ra]).toArray (c.c1 + 1)) :: (la, listOf (laidRefs c.fl ++ [Value.ref lt]).toArray (c.c2 + 1)) :: led')) (p5_ : (∀ p ∈ c.led, p ∈ led')) (p6_ : (∀ p ∈ led', p.1 ≠ ta ∧ p.1 ≠ la ∧ p.1 ≠ I)) (p7_ : IsRows (inL led') ra xs) (p8_ : RowsOk f (rowsOf xs)) (p9_ : (∃ e, xs = [e] ∨ ∃ e', xs = [e, e'])) (p10_ : (IsRows (inL led') hl' hx' ∧ (rowsOf hx').Pairwise (fun a b => a.s < b.s) ∧ (∀ r ∈ rowsOf hx', r.s ≤ 2 * (f + 1)) ∧ (∀ r, r ∈ rowsOf hx' ↔ r ∈ rowsOf c.hx ∨ r ∈ rowsOf xs) ∧ hx'.length ≤ 2 * (f + 1))) (p11_ : (lt, tupOf [.int ((loR xs).u : Int) t1, .int ((hiR xs).u : Int) t2, .int (lv : Int) t3].toArray) ∈ led') (p12_ : lv ≤ mm) (p13_ : lv < cnt) (p14_ : (lv ≠ 0 → ∀ j, j ≤ lv → NoMeet c.ls j (loR xs).u (hiR xs).u)) : LaidAt s1 nl op ta la I cnt mm c own f tf fl s'
theorem rows_ends {i : Nat} {xs : XR} (h : RowsOk i (rowsOf xs)) (hs : ∃ e, xs = [e] ∨ ∃ e', xs = [e, e']) : ∃ ef el : Addr × Row, ef ∈ xs ∧ el ∈ xs ∧ ef.2 = loR xs ∧ el.2 = hiR xs ∧ (refsR xs)[0]? = some (.ref ef.1) ∧ (refsR xs)[(refsR xs).length - 1]? = some (.ref el.1) ∧ 0 < (refsR xs).length ∧ (refsR xs).length ≤ 2 := by
  obtain ⟨e, rfl | ⟨e', rfl⟩⟩ := hs
  · exact ⟨e, e, .head _, .head _, rfl, rfl, rfl, rfl, Nat.zero_lt_one, Nat.le_succ 1⟩
  · exact ⟨e, e', .head _, .tail _ (.head _), rfl, rfl, rfl, rfl, Nat.zero_lt_two, Nat.le_refl 2⟩
theorem item_last {prog : Program} {w : World} {A : Around} {E : Value → Shared → Prop} {s : Shared} {value slice : Expr} {l : Addr} {vs : List Value} {n : Nat} {u : Tok} {x : Value} {Q : Value → Shared → Prop} (hg : s.heap.get? l = some (listOf vs.toArray n)) (hx : vs[vs.length - 1]? = some x) (h0 : 0 < vs.length) (hz : vs.length ≤ 1000) (h : Q x s)
    (hs : subscripted slice false (.ref l) (.int (-1) u) = operate [.ref l, .int (-1) u] (getItem (.ref l) (.int (-1) u)) := by with_unfolding_all rfl) :
    wpAny (model prog w) A (subscriptTail value slice (.ref l) (.int (-1) u)) Q E s := by
  have hl : s.heap.IsList l vs.toArray := ⟨_, hg, rfl, n, rfl⟩
  refine tail_any hl.typeIs slot_list_getitem.lookup (wpAny_getItem_list_neg hl (by decide) (by rw [List.size_toArray]; omega) (by decide) (x := x) ?_ h) hs
  rw [show ((-1 : Int) + (vs.toArray.size : Int)).toNat = vs.length - 1 by rw [List.size_toArray]; omega]
  simpa using hx
theorem tup_of_news {h₀ h : Heap} {L a : Addr} {news : Led} {vs : List Value} {n : Nat} (N : News h₀ L h news) (hm : (a, { cls := .type "tuple", data := .seq vs.toArray n }) ∈ news) : IsTup h a vs.toArray := ⟨_, (N _ hm).1, rfl, n, rfl⟩
theorem lvls_len {w : World} {cnt mm mf : Nat} {nl op ord ta la : Addr} {i : Nat} {c : LS} (h : LOk w cnt mm mf nl op ord ta la i c) : c.ls.length = cnt ∧ (numsOfL c.ls).length = i := by
  refine ⟨by have := h.inv.len; rwa [List.length_map] at this, ?_⟩
  rw [numsOfL_eq, h.inv.nums.length_eq, List.length_map, List.length_range, List.length_map, h.flen]
end
section
/-- within a flush: its edit made -/
inductive EditAt (w : World) (s1 : Shared) (nl op ta la I : Addr) (cnt mm : Nat) (c : LS) (own : Led) (f : Nat) (fl : Flow) (s' : Shared) : Prop
  | mk (p1_ : fl = Flow.next) (h' : Heap) (tk' : Nat) (um : Str → Option Value) (led' : Led) (ra hl' lt ex mt : Addr) (xs hx' : XR) (lv : Nat) (sz : Int) (t1 t2 t3 : Tok) (p2_ : s' = ⟨h', s1.gens, s1.drawn, tk', s1.os⟩) (p3_ : Fr s1.heap s1.heap.objs.size h' (kstB um ((Str.ofString "edit", .ref ex) :: lawPs nl op ta la ⟨led', c.vx, c.ls, hl', hx', c.fl, c.c1, c.c2⟩))) (p4_ : News s1.heap s1.heap.objs.size h' (own ++ (ta, listOf (tabRefs c.fl ++ [Value.ref ra]).toArray (c.c1 + 1)) :: (la, listOf (laidRefs c.fl ++ [Value.ref lt]).toArray (c.c2 + 1)) :: led')) (p5_ : (∀ p ∈ c.led, p ∈ led')) (p6_ : (∀ p ∈ led', p.1 ≠ ta ∧ p.1 ≠ la ∧ p.1 ≠ I)) (p7_ : IsRows (inL led') ra xs) (p8_ : RowsOk f (rowsOf xs)) (p9_ : (∃ e, xs = [e] ∨ ∃ e', xs = [e, e'])) (p10_ : (IsRows (inL led') hl' hx' ∧ (rowsOf hx').Pairwise (fun a b => a.s < b.s) ∧ (∀ r ∈ rowsOf hx', r.s ≤ 2 * (f + 1)) ∧ (∀ r, r ∈ rowsOf hx' ↔ r ∈ rowsOf c.hx ∨ r ∈ rowsOf xs) ∧ hx'.length ≤ 2 * (f + 1))) (p11_ : (lt, tupOf [.int ((loR xs).u : Int) t1, .int ((hiR xs).u : Int) t2, .int (lv : Int) t3].toArray) ∈ led') (p12_ : lv ≤ mm) (p13_ : lv < cnt) (p14_ : (lv ≠ 0 → ∀ j, j ≤ lv → NoMeet c.ls j (loR xs).u (hiR xs).u)) (p15_ : IsEdit (inL led') ex lv mt) (p16_ : IsMeta w.params (inL led') mt (fmOf f ⟨rowsOf xs, lv, mt, sz⟩)) : EditAt w s1 nl op ta la I cnt mm c own f fl s'
theorem IsEdit.mono {V V' : View} {e mt : Addr} {lv : Nat} (h : IsEdit V e lv mt) (k : ∀ a o, V a o → V' a o) : IsEdit V' e lv mt := by
  obtain ⟨de, es, n, ed, ea, tp, k1, k2, t, e1, e2, e3, e4, e5, e6, e7, e8⟩ := h
  exact ⟨de, es, n, ed, ea, tp, k1, k2, t, k _ _ e1, k _ _ e2, e3, e4, e5, k _ _ e6, k _ _ e7, k _ _ e8⟩
theorem U_len100 {u : Nat} (h : u < 5) : (U u).length ≤ 100 := by
  have : u = 0 ∨ u = 1 ∨ u = 2 ∨ u = 3 ∨ u = 4 := by omega
  rcases this with rfl | rfl | rfl | rfl | rfl <;> decide
theorem lo_ends {xs : XR} {lv : Nat} {mt : Addr} {sz : Int} (hs : ∃ e, xs = [e] ∨ ∃ e', xs = [e, e']) : (PF.mk (rowsOf xs) lv mt sz).lo = loR xs ∧ (PF.mk (rowsOf xs) lv mt sz).hi = hiR xs := by
  obtain ⟨e, rfl | ⟨e', rfl⟩⟩ := hs
  · exact ⟨rfl, rfl⟩
  · exact ⟨rfl, rfl⟩
theorem allLt_lt {D : Addr} : ∀ {l : Led}, AllLt D l → ∀ p ∈ l, @LT.lt Nat _ p.1 D
  | [], _, _, h => nomatch h
  | _ :: _, hl, p, h => by
    rcases List.mem_cons.mp h with rfl | h
    · exact hl.1
    · exact allLt_lt hl.2 p h
end
section
/-- values that are these ints -/
def IntVs (vs : List Value) (ns : List Int) : Prop := ∃ ts : List Tok, vs = List.zipWith (fun n t => Value.int n t) ns ts ∧ ts.length = ns.length
theorem IntVs.nil : IntVs [] [] := ⟨[], rfl, rfl⟩
theorem IntVs.snoc {vs : List Value} {ns : List Int} {n : Int} {t : Tok} (h : IntVs vs ns) : IntVs (vs ++ [.int n t]) (ns ++ [n]) := by
  obtain ⟨ts, rfl, h2⟩ := h
  refine ⟨ts ++ [t], ?_, by simp [h2]⟩
  rw [List.zipWith_append h2.symm]
  rfl
theorem IntVs.mem {vs : List Value} {ns : List Int} (h : IntVs vs ns) {n : Int} (hn : n ∈ ns) : ∃ (i : Nat) (t : Tok), vs[i]? = some (.int n t) := by
  obtain ⟨ts, rfl, h2⟩ := h
  obtain ⟨i, hi⟩ := List.mem_iff_getElem?.mp hn
  have hl := (List.getElem?_eq_some_iff.mp hi).1
  refine ⟨i, ts[i]'(by omega), ?_⟩
  rw [List.getElem?_zipWith, hi, List.getElem?_eq_getElem (by omega)]
theorem IntVs.are {vs : List Value} {ns : List Int} (h : IntVs vs ns) : IntsAre vs ns := by
  obtain ⟨ts, rfl, h2⟩ := h
  induction ns generalizing ts with
  | nil => exact .nil
  | cons n r ih =>
    cases ts with
    | nil => cases h2
    | cons t ts => exact .cons n t (ih ts (by simpa using h2))
open LCg in
theorem comp_nums {prog : Program} {w : World} {A : Around} {h₀ : Heap} {L : Addr} {m : Str → Option Value} {env : PySem.Env} {elt : Expr} {x : Str} {scope : Scope} {cl : List (Str × Addr)} {s : Shared} {S : Led → Prop} {Fin : List Value → Led → Prop} (xs : XM) (news : Led) (hS : S news)
    (turn : ∀ (j : Nat) (e : Addr × FM) (ys : List Value) (I : Addr) (oI : Obj) (C : Addr) (oC : Obj) (D : Addr) (m₂ : Str → Option Value) (h : Heap) (tk : Nat) (E' : Value → Shared → Prop), xs[j]? = some e → NsObj oC m₂ → m₂ x = some (.ref e.1) → Fr h₀ L h m → News h₀ L h ((I, oI) :: (C, oC) :: (D, lst ys) :: news) → Off3 I C D news → ((@Ne Nat I C) ∧ (@Ne Nat I D) ∧ (@Ne Nat C D)) →
      wpAny (model prog w) A (eval elt (compEnvC scope cl C env)) (fun y s' => (∃ t, y = .int e.2.num t) ∧ ∃ h' tk', s' = { s with heap := h', toks := tk' } ∧ Fr h₀ L h' m ∧ News h₀ L h' ((I, oI) :: (C, oC) :: (D, lst ys) :: news)) E' { s with heap := h, toks := tk })
    (fin : ∀ ys, IntVs ys (numsX xs) → Fin ys news) : CompRest prog w A h₀ L m env elt x scope cl s S (fun i v => (xs.map fun p => Value.ref p.1).toArray[i]? = some v) Fin (xs.map fun p => Value.ref p.1).toArray.size 0 [] news := by
  have key : ∀ k j ys, k + j = xs.length → IntVs ys (numsX (xs.take j)) → CompRest prog w A h₀ L m env elt x scope cl s S (fun i v => (xs.map fun p => Value.ref p.1).toArray[i]? = some v) Fin k j ys news := by
    intro k
    induction k with
    | zero =>
      intro j ys hj hy
      rw [show j = xs.length by omega, List.take_length] at hy
      exact CompRest.zero (fin ys hy)
    | succ k ih =>
      intro j ys hj hy
      have hlt : j < xs.length := by omega
      have he : xs[j]? = some xs[j] := List.getElem?_eq_getElem hlt
      refine CompRest.succ fun v I oI C oC D m₂ h tk E' hv hC hx F N off ne => ?_
      have ev : v = .ref xs[j].1 := by
        have : (xs.map fun p => Value.ref p.1)[j]? = some v := by simpa using hv
        rw [List.getElem?_map, he] at this
        exact (Option.some.inj this).symm
      subst ev
      refine wpAny_mono (turn j _ ys I oI C oC D m₂ h tk E' he hC hx F N off ne) (fun y s' hok => ?_) fun _ _ e => e
      obtain ⟨⟨t, rfl⟩, h', tk', rfl, F', N'⟩ := hok
      refine CompEnd.intro (s₁ := { s with heap := h, toks := tk }) F' N' news (fun p hp => hp) off hS (ih (j + 1) _ (by omega) ?_)
      have e9 : numsX (xs.take (j + 1)) = numsX (xs.take j) ++ [xs[j].2.num] := by
        rw [List.take_add_one, he]
        exact List.map_append
      rw [e9]
      exact hy.snoc
  have := key xs.length 0 [] (by omega) IntVs.nil
  rwa [show (xs.map fun p => Value.ref p.1).toArray.size = xs.length by simp]
end
section
open PySem.SeqAt in
theorem eq_at_bytes {A : Around} {s : Shared} {b : Array UInt8} {t u : Tok} : EqAt A s (.bytes b t) (.bytes b u) true := fun prog w E Q h => by
  unfold eqBool
  refine wpAny_holding ?_
  refine wpAny_ite_split (fun _ => wpAny_bind (wpAny_rule (wpAny_pure h))) (fun _ => ?_)
  exact wpAny_bind (eq_bytes (wpAny_truthy_bool (by rw [beq_self_eq_true]; exact h)))
open PySem.SeqAt in
theorem eq_at_int {A : Around} {s : Shared} {i : Int} {t u : Tok} : EqAt A s (.int i t) (.int i u) true := fun prog w E Q h =>
  wpAny_eqBool_int (by rw [beq_self_eq_true]; exact h)
/-- two tuples of the same flag, int and bytes do not differ -/
theorem ne_same3 {prog : Program} {w : World} {A : Around} {E : Value → Shared → Prop} {s : Shared} {a b : Addr} {p : Bool} {i : Int} {bs : Array UInt8} {t1 t2 u1 u2 : Tok} {Q : Value → Shared → Prop}
    (ha : s.heap.get? a = some (tupOf #[.bool p, .int i t1, .bytes bs t2])) (hb : s.heap.get? b = some (tupOf #[.bool p, .int i u1, .bytes bs u2])) (hu : A.units < cLine) (h : Q (.bool false) s) : wpAny (model prog w) A (compareOp .NotEq (.ref a) (.ref b)) Q E s := by
  refine PySem.SeqAt.RcNeAt.tuples (e := fun _ => true) ⟨_, ha, rfl, _, rfl⟩ ⟨_, hb, rfl, _, rfl⟩ hu ?_ prog w E Q ?_
  · intro j h1 h2
    match j, h1, h2 with
    | 0, _, _ => exact PySem.SeqAt.EqAt.same _
    | 1, _, _ => exact eq_at_int
    | 2, _, _ => exact eq_at_bytes
  · exact h
/-- what the cache tells of a table's number -/
def caOf (fl : List FLS) (u q : Nat) (d : Bool) (i : Int) : Ent := match fl[(i - 7).toNat]? with
  | none => none
  | some x => entOf u q d (rowsOf x.xs)
theorem ca_at {fl : List FLS} {u q : Nat} {d : Bool} {i : Nat} {x : FLS} (h : fl[i]? = some x) : caOf fl u q d (7 + (i : Int)) = entOf u q d (rowsOf x.xs) := by
  unfold caOf
  rw [show (7 + (i : Int) - 7).toNat = i by omega, h]
section
variable {w : World} {cnt mm mf : Nat} {nl op ord ta la : Addr} {i : Nat} {c : LS} {u q : Nat} {d : Bool}
theorem law_answer (hok : LOk w cnt mm mf nl op ord ta la i c) (hu : u < 5) : getP (caOf c.fl u q d) u (cands c.ls u (q * 256 + 1)) = toldP (rowsOf c.hx) u q := by
  have hb := hok.bnd.1
  refine get_told hok.inv (by omega) hok.hasc ?_ hu (d := d) ?_
  · intro r
    rw [hok.hmem r]
    constructor
    · rintro ⟨x, hx, hr⟩
      obtain ⟨j, hj⟩ := List.mem_iff_getElem?.mp hx
      exact ⟨j, x.p, by rw [List.getElem?_map, hj]; rfl, hr⟩
    · rintro ⟨j, p, hj, hr⟩
      obtain ⟨x, hx, rfl⟩ := Option.map_eq_some_iff.mp ((List.getElem?_map).symm.trans hj)
      exact ⟨x, List.mem_of_getElem? hx, hr⟩
  · intro j p hj
    obtain ⟨x, hx, rfl⟩ := Option.map_eq_some_iff.mp ((List.getElem?_map).symm.trans hj)
    rw [ca_at hx, (hok.tabs x (List.mem_of_getElem? hx)).2.1]
abbrev tabsX (fl : List FLS) : XT := fl.map fun x => (x.tab, x.xs)
theorem law_ents (hok : LOk w cnt mm mf nl op ord ta la i c) {V : View} {kvs : List (Int × Value)} (h : ∀ (f : Nat) p, (tabsX c.fl)[f]? = some p → ∃ v, valueAt kvs (7 + (f : Int)) = some v ∧ IsEnt V v (entOf u q d (rowsOf p.2))) :
    ∀ p ∈ c.ls, ∀ y ∈ p.2, ∃ v, valueAt kvs y.2.num = some v ∧ IsEnt V v (caOf c.fl u q d y.2.num) := by
  intro p hp y hy
  obtain ⟨k, hk⟩ := List.mem_iff_getElem?.mp hp
  obtain ⟨j, pf, hj, -, rfl⟩ := (hok.inv.mem k p.2 (by rw [List.getElem?_map, hk]; rfl) y).mp hy
  obtain ⟨x, hx, rfl⟩ := Option.map_eq_some_iff.mp ((List.getElem?_map).symm.trans hj)
  show ∃ v, valueAt kvs (7 + (j : Int)) = some v ∧ IsEnt V v (caOf c.fl u q d (7 + (j : Int)))
  rw [ca_at hx]
  exact h j (x.tab, x.xs) (by rw [List.getElem?_map, hx]; rfl)
theorem law_tabs (hok : LOk w cnt mm mf nl op ord ta la i c) : IsTabs (inL ((ta, listOf (tabRefs c.fl).toArray c.c1) :: c.led)) ta (tabsX c.fl) := by
  refine ⟨⟨c.c1, ?_⟩, ?_⟩
  · show (_, _) ∈ _
    rw [List.map_map]
    exact .head _
  · intro p hp
    obtain ⟨x, hx, rfl⟩ := List.mem_map.mp hp
    obtain ⟨h1, -, h3⟩ := hok.tabs x hx
    exact ⟨h1.mono fun a o h => .tail _ h, h3⟩
end
theorem seq_in {q : Nat} (h : q < 10) : q ∈ seqL := by
  have : ∀ q < 10, q ∈ seqL := by decide
  exact this q h
end
section
local macro_rules | `(tactic| k_all) => `(tactic| first | assumption | exact allLt_ne (by assumption) | exact allLt_ne (And.right (by assumption : _ ∧ AllLt _ _)) | exact allLt_ne (And.right (And.right (by assumption : _ ∧ _ ∧ AllLt _ _))) | exact allLt_ne (And.right (And.right (And.right (by assumption : _ ∧ _ ∧ _ ∧ AllLt _ _)))) | exact allLt_ne (And.right (And.right (And.right (And.right (by assumption : _ ∧ _ ∧ _ ∧ _ ∧ AllLt _ _))))))
theorem law_holds : PySem.Challenge.rw_nz0375_01.Holds := by
  w_on
  refine MineHd.saidx fun said => ?_
  refine PySem.W.holds_open (q := MineHd.hdx.view_1_2) (loose := []) (Xt := fun s => xlAt MineHd.hdx.view_1_2 [] s && recOk (RowW.records PySem.Challenge.rw_nz0375_01.row.toRowW) s) (XP := XL MineHd.hdx.view_1_2 [])
    (Yf := Hook.obs (kHook MineHd.hdx.heap_1_1 MineHd.adrs (fun _ => by kernel_rfl))) (Ya := Hook.val (kHook MineHd.hdx.heap_1_1 MineHd.adrs (fun _ => by kernel_rfl))) (YP := Hook.says (kHook MineHd.hdx.heap_1_1 MineHd.adrs (fun _ => by kernel_rfl))) (N := 9294)
    MineHd.hdx.left (Hook.of _) (Hook.keeps _) (fun s e => xl_of s (Bool.and_eq_true_iff.mp e).1) XL.keeps (by rfl) (by rfl) (by rfl) (fun s e => recFacts_of (Bool.and_eq_true_iff.mp e).2) (by rfl) said (by decide +kernel) ⟨rfl, rfl, rfl, rfl, rfl, by decide +kernel⟩ ?hw ?hc
  case hw => w_witness2
  clear said
  k_go0
  rename Shared => s1
  rename World => w
  all_goals try k_fold
  refine gen_QE ?_
  intro Q9 E9 hQ9 pE9
  refine wp_cut 2 (QA := NumsAt s1) ?_ ?_
  · dsimp only [List.take]
    as_aux_lemma =>
      (repeat' ((fail_if_success (with_reducible show wpAny _ _ (exec (Stmt.Assign _ (Expr.ListComp _ _ _ _) _) _) _ _ _)); (fail_if_success (with_reducible show wpAny _ _ (eval (Expr.ListComp _ _ _ _) _) _ _ _)); (fail_if_success (with_reducible show wpAny _ _ (call (Value.builtin "list.append") _) _ _ _)); (fail_if_success (with_reducible show wpAny _ _ (setItem _ _ _) _ _ _)); (fail_if_success (with_reducible show wpAny _ _ (subscriptTail _ _ (Value.ref _) (Value.int _ _)) _ _ _)); (fail_if_success (with_reducible show wpAny _ _ (compareOp CmpOp.In _ (Value.ref _)) _ _ _)); (fail_if_success (with_reducible show wpAny _ _ (getMethod (Value.ref _) (Str.ofString "append") _) _ _ _)); (fail_if_success (with_reducible show wpAny _ _ (call (Value.builtin "sorted") _) _ _ _)); (fail_if_success (with_reducible show wpAny _ _ (call (Value.builtin "len") [Value.ref _]) _ _ _)); (fail_if_success (with_reducible show wpAny _ _ (assign (Expr.Tuple _ _ _) _ (Value.ref _)) _ _ _)); walk_at "STEP"))
      repeat' ((fail_if_success (with_reducible show wpAny _ _ (exec (Stmt.If _ _ _ _) _) _ _ _)); walk_at "STEP")
      rename News _ _ _ _ => N1
      rename IntsAre _ (List.map (fun k' : Int => k'.fmod 999983) _) => I1
      rename List Int => scr
      have hlen : (List.map (fun k' : Int => k'.fmod 999983) (List.take 9 scr)).length ≤ 9 := by rw [List.length_map, List.length_take]; omega
      (repeat' walk_at "STEP")
      · rename News _ _ _ _ => N2
        rename Fr _ _ _ _ => F2
        obtain ⟨t5, N3⟩ : ∃ t5, News s1.heap s1.heap.objs.size (heapOf F2) [(l5, listOf [Value.int 5 t5].toArray 0)] := ⟨_, fun p hp => (List.mem_singleton.mp hp).symm ▸ N2 _ (.head _)⟩
        refine ⟨rfl, _, _, _, _, _, [5], 0, rfl, F2, N3, .cons _ _ .nil, by decide, by decide, fun x hx => ?_⟩
        rw [List.mem_singleton.mp hx]; decide
      · rename News _ _ _ _ => N2
        refine ⟨rfl, _, _, _, _, _, _, _, rfl, (by assumption), fun p hp => (List.mem_singleton.mp hp).symm ▸ N2 _ (.head _), I1, ?_, hlen, fun x hx => ?_⟩
        · rename ¬ _ = (0 : Int) => hne
          omega
        · obtain ⟨k, _, rfl⟩ := List.mem_map.mp hx
          exact fmod_ok k
  rintro fl s' ⟨rfl, h', tk', um, nl, vs, ns, nn, rfl, F', N', hi, h1, h2, hb⟩
  dsimp only [List.drop]
  refine wp_cut 11 (QA := LawAt w s1 0) ?_ ?_
  · dsimp only [List.take]
    as_aux_lemma =>
      repeat' ((fail_if_success (with_reducible show wpAny _ _ (call (Value.ref 533) _) _ _ _)); walk_at "STEP")
      rename News s1.heap _ _ _ => N2
      refine' Spec.useA (draw_spec w (inL [(nl, listOf vs.toArray nn)]) nl vs ns nn 0 _ (.head _) hi h1 h2 hb (by omega) (by omega)) ?kV ?_
      case kV => exact fun a o h => (N2 _ h).1
      ((try (case kV => exact view_keep hV (by assumption))); intro r9 new9 h9 tk9 F' N' kp9 fr9 P9; (try k_sweep))
      (refine pk ?_; intro G9 hG9)
      obtain ⟨a, at', rfl, ha⟩ := P9
      (refine hG9 ?_; clear hG9)
      dsimp only
      have N3 := news_sub (news' := [(nl, listOf vs.toArray nn)]) (by assumption : News s1.heap s1.heap.objs.size _ (new9 ++ _)) fun p hp => List.mem_append_right _ hp
      clear N2 kp9 fr9 N'
      have ha3 : 0 ≤ (a : Int).fmod 3 ∧ (a : Int).fmod 3 < 3 := ⟨Int.fmod_nonneg_of_pos _ (by decide), Int.fmod_lt_of_pos _ (by decide)⟩
      have hc0 : (2 + (a : Int).fmod 3) ≠ 0 := by omega
      repeat' ((fail_if_success (with_reducible show wpAny _ _ (call (Value.ref 305) _) _ _ _)); walk_at "STEP")
      rename News s1.heap _ _ _ => N5
      have x1 := (N5 _ (.head _)).1
      refine' Spec.useA (optNew_spec w (inL [])) ?kV ?_
      case kV => exact fun _ _ h => nomatch h
      ((try (case kV => exact view_keep hV (by assumption))); intro r9 new9 h9 tk9 F' N' kp9 fr9 P9; (try k_sweep))
      (refine pk ?_; intro G9 hG9)
      obtain ⟨op, dop, en0, es0, e9, hp1, hp2, hS0, hb0, hlt⟩ := P9
      have hne1 : @Ne Nat op dop := Nat.ne_of_gt hlt
      have hne2 : @Ne Nat nl dop := fun e => by
        have x2 := fr9 _ hp2
        rw [← e] at x2
        exact absurd (x1.symm.trans x2) (fun h => nomatch h)
      have N6 := news_sub (news' := [(op, instObj 305 dop), (dop, dictOf es0 en0), (nl, listOf vs.toArray nn)]) (by assumption : News s1.heap s1.heap.objs.size _ (new9 ++ _)) fun p hp => by
        rcases List.mem_cons.mp hp with rfl | hp
        · exact List.mem_append_left _ hp1
        rcases List.mem_cons.mp hp with rfl | hp
        · exact List.mem_append_left _ hp2
        · exact List.mem_append_right _ hp
      (refine hG9 ?_; clear hG9)
      subst e9
      clear x1 N' kp9 fr9 hp1 hp2
      try dsimp only
      repeat' ((fail_if_success (with_reducible show wpAny _ _ (setAttr (Value.ref _) _ _) _ _ _)); walk_at "STEP")
      k_here
      first | (k_dflt (refine' set_abs ?k1 ?k2 ?k3 ?k4 ?k5 ?k6 ?k7 ?k8 ?k9 ?k10 ?k11 ?k12 ?k13 ?_; (case k1 => k_asm); (case k2 => k_asm); (case k3 => k_asm); (case k4 => k_inst); (case k5 => exact rfl); (case k6 => k_is); (case k7 => k_is); (case k8 => k_is); (case k9 => k_is); (case k10 => assumption); (case k11 => assumption); (case k12 => exact rfl); (case k13 => intro _ _; k_upd); k_whole)) | fail "seta"
      intro h' tk' es1 en1 hS1 hb1 k1 F' N'
      try k_sweep
      repeat' ((fail_if_success (with_reducible show wpAny _ _ (setAttr (Value.ref _) _ _) _ _ _)); walk_at "STEP")
      k_here
      first | (k_dflt (refine' set_abs ?k1 ?k2 ?k3 ?k4 ?k5 ?k6 ?k7 ?k8 ?k9 ?k10 ?k11 ?k12 ?k13 ?_; (case k1 => k_asm); (case k2 => k_asm); (case k3 => k_asm); (case k4 => k_inst); (case k5 => exact rfl); (case k6 => k_is); (case k7 => k_is); (case k8 => k_is); (case k9 => k_is); (case k10 => assumption); (case k11 => assumption); (case k12 => exact rfl); (case k13 => intro _ _; k_upd); k_whole)) | fail "seta"
      intro h' tk' es2 en2 hS2 hb2 k2 F' N'
      try k_sweep
      repeat' ((fail_if_success (with_reducible show wpAny _ _ (setAttr (Value.ref _) _ _) _ _ _)); walk_at "STEP")
      k_here
      first | (k_dflt (refine' set_abs ?k1 ?k2 ?k3 ?k4 ?k5 ?k6 ?k7 ?k8 ?k9 ?k10 ?k11 ?k12 ?k13 ?_; (case k1 => k_asm); (case k2 => k_asm); (case k3 => k_asm); (case k4 => k_inst); (case k5 => exact rfl); (case k6 => k_is); (case k7 => k_is); (case k8 => k_is); (case k9 => k_is); (case k10 => assumption); (case k11 => assumption); (case k12 => exact rfl); (case k13 => intro _ _; k_upd); k_whole)) | fail "seta"
      intro h' tk' es3 en3 hS3 hb3 k3 F' N'
      try k_sweep
      repeat' ((fail_if_success (with_reducible show wpAny _ _ (setAttr (Value.ref _) _ _) _ _ _)); walk_at "STEP")
      k_here
      first | (k_dflt (refine' set_abs ?k1 ?k2 ?k3 ?k4 ?k5 ?k6 ?k7 ?k8 ?k9 ?k10 ?k11 ?k12 ?k13 ?_; (case k1 => k_asm); (case k2 => k_asm); (case k3 => k_asm); (case k4 => k_inst); (case k5 => exact rfl); (case k6 => k_is); (case k7 => k_is); (case k8 => k_is); (case k9 => k_is); (case k10 => assumption); (case k11 => assumption); (case k12 => exact rfl); (case k13 => intro _ _; k_upd); k_whole)) | fail "seta"
      intro h' tk' es4 en4 hS4 hb4 k4 F' N'
      try k_sweep
      (repeat' ((fail_if_success (with_reducible show wpAny _ _ (exec (Stmt.Assign _ (Expr.ListComp _ _ _ _) _) _) _ _ _)); (fail_if_success (with_reducible show wpAny _ _ (eval (Expr.ListComp _ _ _ _) _) _ _ _)); (fail_if_success (with_reducible show wpAny _ _ (call (Value.builtin "list.append") _) _ _ _)); (fail_if_success (with_reducible show wpAny _ _ (setItem _ _ _) _ _ _)); (fail_if_success (with_reducible show wpAny _ _ (subscriptTail _ _ (Value.ref _) (Value.int _ _)) _ _ _)); (fail_if_success (with_reducible show wpAny _ _ (compareOp CmpOp.In _ (Value.ref _)) _ _ _)); (fail_if_success (with_reducible show wpAny _ _ (getMethod (Value.ref _) (Str.ofString "append") _) _ _ _)); (fail_if_success (with_reducible show wpAny _ _ (call (Value.builtin "sorted") _) _ _ _)); (fail_if_success (with_reducible show wpAny _ _ (call (Value.builtin "len") [Value.ref _]) _ _ _)); (fail_if_success (with_reducible show wpAny _ _ (assign (Expr.Tuple _ _ _) _ (Value.ref _)) _ _ _)); walk_at "STEP"))
      (refine pk ?_; intro G9 hG9)
      obtain ⟨mm, hmm⟩ : ∃ mm : Nat, ((a : Int).fdiv 3).fmod (2 + (a : Int).fmod 3) = (mm : Int) := ⟨_, (Int.toNat_of_nonneg (Int.fmod_nonneg_of_pos _ (by omega))).symm⟩
      have hmm1 : ((a : Int).fdiv 3).fmod (2 + (a : Int).fmod 3) < 2 + (a : Int).fmod 3 := Int.fmod_lt_of_pos _ (by omega)
      obtain ⟨mf, hmf⟩ : ∃ mf : Nat, 1 + ((a : Int).fdiv 12).fmod 5 = (mf : Int) := ⟨_, (Int.toNat_of_nonneg (by have := Int.fmod_nonneg_of_pos ((a : Int).fdiv 12) (by decide : (0 : Int) < 5); omega)).symm⟩
      have hmf1 : ((a : Int).fdiv 12).fmod 5 < 5 := Int.fmod_lt_of_pos _ (by decide)
      obtain ⟨cnt, hcnt⟩ : ∃ cnt : Nat, 2 + (a : Int).fmod 3 = (cnt : Int) := ⟨_, (Int.toNat_of_nonneg (by omega)).symm⟩
      (refine hG9 ?_; clear hG9)
      rename News s1.heap _ _ _ => N2
      rename Fr s1.heap _ _ _ => F2
      rw [hmm, hcnt] at hmm1
      have hc1 : 2 ≤ cnt ∧ cnt ≤ 4 := by omega
      have hm1 : mm < cnt := by omega
      have hf1 : mf ≤ 5 := by omega
      rw [hcnt]
      obtain ⟨led0, hled0⟩ : ∃ led0 : Led, led0 = ledOf N2 := ⟨_, rfl⟩
      have N7 : News s1.heap s1.heap.objs.size (heapOf F2) led0 := hled0 ▸ N2
      have hop : mOf F2 (Str.ofString "options") = some (.ref op) := rfl
      have hop1 : (op, instObj 305 dop) ∈ led0 := by rw [hled0]; k_dflt k_mem
      have hop2 : (dop, dictOf es4 en4) ∈ led0 := by rw [hled0]; k_dflt k_mem
      obtain ⟨t1, hop3⟩ : ∃ t1, getL (Str.ofString "max_mem_level") es4 = some (some (.int (mm : Int) t1)) := ⟨_, (k4 _).trans ((if_neg (by decide +kernel)).trans ((k3 _).trans ((if_neg (by decide +kernel)).trans ((k2 _).trans ((if_pos rfl).trans (by rw [hmm]))))))⟩
      obtain ⟨t2, hop4⟩ : ∃ t2, getL (Str.ofString "grandparent_factor") es4 = some (some (.int ((1 : Nat) : Int) t2)) := ⟨_, (k4 _).trans ((if_neg (by decide +kernel)).trans ((k3 _).trans (if_pos rfl)))⟩
      obtain ⟨t3, hop5⟩ : ∃ t3, getL (Str.ofString "max_file_size") es4 = some (some (.int (mf : Int) t3)) := ⟨_, (k4 _).trans ((if_pos rfl).trans (by rw [hmf]))⟩
      refine' Spec.use (verNew_spec w (inL led0) _ cnt _ (by omega)) ?kB ?kF ?kX ?kN ?kT ?kk ?kV ?kd ?ku ?_
      case kV => exact fun a o h => (N7 _ h).1
      case kN => exact N7
      case kB => k_asm
      case kF => k_asm
      case kX => k_asm
      case kT => k_asm
      case kk => first | exact rfl | assumption
      case kd => walk_at "ROOM"
      case ku => walk_at "ROOM"
      intro r9 new9 h9 tk9 F' N' kp9 fr9 P9
      (refine pk ?_; intro G9 hG9)
      obtain ⟨nx, nfa, as, rfl, hvh, hlen, hasc, hmem⟩ := P9
      (refine hG9 ?_; clear hG9)
      (refine pk ?_; intro G9 hG9)
      obtain ⟨ord, hord, hvh⟩ : ∃ ord, IsOrder w.params (inL led0) ord ∧ VerHd w.params new9 nx ord nfa as := by
        refine' ⟨_, ⟨_, _, _, _, _, ?m1, ?m2, ?m3, ?m4⟩, hvh⟩
        case m1 => (show (_, _) ∈ led0); rw [hled0]; k_dflt k_mem
        case m2 => (show (_, _) ∈ led0); rw [hled0]; k_dflt k_mem
        case m3 => (show (_, _) ∈ led0); rw [hled0]; k_dflt k_mem
        case m4 => (show (_, _) ∈ led0); rw [hled0]; k_dflt k_mem
      (refine hG9 ?_; clear hG9)
      have hnl : (nl, listOf vs.toArray nn) ∈ led0 := by rw [hled0]; k_dflt k_mem
      dsimp only
      obtain ⟨ledA, hledA⟩ : ∃ ledA : Led, ledA = new9 ++ led0 := ⟨_, rfl⟩
      have N4 := news_sub (news' := ledA) N' fun p hp => by rwa [hledA] at hp
      clear hled0 N2 N7 N'
      (repeat' ((fail_if_success (with_reducible show wpAny _ _ (exec (Stmt.Assign _ (Expr.ListComp _ _ _ _) _) _) _ _ _)); (fail_if_success (with_reducible show wpAny _ _ (eval (Expr.ListComp _ _ _ _) _) _ _ _)); (fail_if_success (with_reducible show wpAny _ _ (call (Value.builtin "list.append") _) _ _ _)); (fail_if_success (with_reducible show wpAny _ _ (setItem _ _ _) _ _ _)); (fail_if_success (with_reducible show wpAny _ _ (subscriptTail _ _ (Value.ref _) (Value.int _ _)) _ _ _)); (fail_if_success (with_reducible show wpAny _ _ (compareOp CmpOp.In _ (Value.ref _)) _ _ _)); (fail_if_success (with_reducible show wpAny _ _ (getMethod (Value.ref _) (Str.ofString "append") _) _ _ _)); (fail_if_success (with_reducible show wpAny _ _ (call (Value.builtin "sorted") _) _ _ _)); (fail_if_success (with_reducible show wpAny _ _ (call (Value.builtin "len") [Value.ref _]) _ _ _)); (fail_if_success (with_reducible show wpAny _ _ (assign (Expr.Tuple _ _ _) _ (Value.ref _)) _ _ _)); walk_at "STEP"))
      rename News s1.heap _ _ _ => N5
      rename Fr s1.heap _ _ _ => F5
      rename ∀ p, p ∈ ledA → _ => lA
      rename _ < _ ∧ AllLt _ ledA => lB
      rename _ < _ ∧ _ < _ ∧ AllLt _ ledA => lC
      obtain ⟨hl0, ta, la, hF, hN, o1, o2, o3⟩ : ∃ hl ta la, (∀ p ∈ lawPs nl op ta la ⟨[], nx, [], hl, [], [], 0, 0⟩, mOf F5 p.1 = some p.2) ∧ News s1.heap s1.heap.objs.size (heapOf F5) ((la, listOf ([] : List Value).toArray 0) :: (ta, listOf ([] : List Value).toArray 0) :: (hl, listOf ([] : List Value).toArray 0) :: ledA) ∧ (∀ p ∈ ledA, @LT.lt Nat _ p.1 hl) ∧ @LT.lt Nat _ hl ta ∧ @LT.lt Nat _ ta la := ⟨_, _, _, all6 rfl hop rfl rfl rfl rfl, N5, lA, lB.1, lC.1⟩
      have hA0 : ∀ p ∈ led0, p ∈ ledA := fun p hp => hledA ▸ List.mem_append_right _ hp
      have hAn : ∀ p ∈ new9, p ∈ ledA := fun p hp => hledA ▸ List.mem_append_left _ hp
      (refine pk ?_; intro G9 hG9)
      obtain ⟨ndx, nn', n1, n2, n3, n4, n5, n6, ntn, nnf, ntr, nsc, nns, nta, ntb, b1, b2, b3, b4⟩ := hvh
      (refine hG9 ?_; clear hG9)
      refine ⟨rfl, heapOf F5, _, mOf F5, cnt, mm, mf, nl, op, ord, ta, la, ⟨(hl0, listOf ([] : List Value).toArray 0) :: ledA, nx, as.map fun a => (a, []), hl0, [], [], 0, 0⟩, rfl, fr_kst F5 hF, fun p hp => hN p ?_, ?_⟩
      · rcases List.mem_cons.mp hp with rfl | hp
        · exact .tail _ (.head _)
        rcases List.mem_cons.mp hp with rfl | hp
        · exact .head _
        · exact .tail _ (.tail _ hp)
      refine ⟨rfl, ⟨vs, ns, nn, .tail _ (hA0 _ hnl), hi, h1, h2, hb⟩, ⟨dop, es4, en4, t1, t2, t3, .tail _ (hA0 _ hop1), .tail _ (hA0 _ hop2), hop3, hop4, hop5⟩, ⟨hc1.1, hc1.2, hm1, hf1⟩, ?_, ?_, (fun _ h => nomatch h), (fun _ h => nomatch h), ⟨⟨0, .head _⟩, fun _ h => nomatch h⟩, .nil, (fun _ h => nomatch h), (fun r => ⟨(fun h => nomatch h), (fun ⟨x, hx, _⟩ => nomatch hx)⟩), Nat.le_refl _, ?_, Nat.ne_of_lt o3⟩
      · refine ⟨ndx, nn', n1, n2, n3, n4, n5, n6, ntn, nfa, nnf, ntr, nsc, nns, nta, ntb, 0, .tail _ (hAn _ b1), .tail _ (hAn _ ?_), hord.mono fun a o h => .tail _ (hA0 _ h), .tail _ (hAn _ ?_), .tail _ (hAn _ b4), fun p hp => ?_, rfl⟩
        · rw [List.length_map]; exact b2
        · rw [List.map_map]; exact b3
        · obtain ⟨a, ha', rfl⟩ := List.mem_map.mp hp
          exact ⟨⟨0, .tail _ (hAn _ (hmem a ha'))⟩, fun _ h => nomatch h⟩
      · refine PInv.start cnt _ (by rw [List.length_map, List.length_map, hlen]) fun k xs hk => ?_
        rw [List.map_map, List.getElem?_map] at hk
        obtain ⟨a, _, rfl⟩ := Option.map_eq_some_iff.mp hk
        rfl
      · intro p hp
        rcases List.mem_cons.mp hp with rfl | hp
        · exact ⟨Nat.ne_of_lt o2, Nat.ne_of_lt (Nat.lt_trans o2 o3)⟩
        · have := o1 p hp
          exact ⟨Nat.ne_of_lt (Nat.lt_trans this o2), Nat.ne_of_lt (Nat.lt_trans this (Nat.lt_trans o2 o3))⟩
  clear F' N' hi h1 h2 hb
  rintro fl s' ⟨rfl, h', tk', um, cnt, mm, mf, nl, op, ord, ta, la, c, rfl, F', N', hok⟩
  dsimp only [List.drop]
  refine wp_cut 1 (QA := LawAt w s1 4) ?_ ?_
  · dsimp only [List.take]
    (repeat' ((fail_if_success (with_reducible show wpAny _ _ (exec (Stmt.Assign _ (Expr.ListComp _ _ _ _) _) _) _ _ _)); (fail_if_success (with_reducible show wpAny _ _ (eval (Expr.ListComp _ _ _ _) _) _ _ _)); (fail_if_success (with_reducible show wpAny _ _ (call (Value.builtin "list.append") _) _ _ _)); (fail_if_success (with_reducible show wpAny _ _ (setItem _ _ _) _ _ _)); (fail_if_success (with_reducible show wpAny _ _ (subscriptTail _ _ (Value.ref _) (Value.int _ _)) _ _ _)); (fail_if_success (with_reducible show wpAny _ _ (compareOp CmpOp.In _ (Value.ref _)) _ _ _)); (fail_if_success (with_reducible show wpAny _ _ (getMethod (Value.ref _) (Str.ofString "append") _) _ _ _)); (fail_if_success (with_reducible show wpAny _ _ (call (Value.builtin "sorted") _) _ _ _)); (fail_if_success (with_reducible show wpAny _ _ (call (Value.builtin "len") [Value.ref _]) _ _ _)); (fail_if_success (with_reducible show wpAny _ _ (assign (Expr.Tuple _ _ _) _ (Value.ref _)) _ _ _)); walk_at "STEP"))
    refine For_turns F' ?_
    (repeat' ((fail_if_success (with_reducible show wpAny _ _ (exec (Stmt.Assign _ (Expr.ListComp _ _ _ _) _) _) _ _ _)); (fail_if_success (with_reducible show wpAny _ _ (eval (Expr.ListComp _ _ _ _) _) _ _ _)); (fail_if_success (with_reducible show wpAny _ _ (call (Value.builtin "list.append") _) _ _ _)); (fail_if_success (with_reducible show wpAny _ _ (setItem _ _ _) _ _ _)); (fail_if_success (with_reducible show wpAny _ _ (subscriptTail _ _ (Value.ref _) (Value.int _ _)) _ _ _)); (fail_if_success (with_reducible show wpAny _ _ (compareOp CmpOp.In _ (Value.ref _)) _ _ _)); (fail_if_success (with_reducible show wpAny _ _ (getMethod (Value.ref _) (Str.ofString "append") _) _ _ _)); (fail_if_success (with_reducible show wpAny _ _ (call (Value.builtin "sorted") _) _ _ _)); (fail_if_success (with_reducible show wpAny _ _ (call (Value.builtin "len") [Value.ref _]) _ _ _)); (fail_if_success (with_reducible show wpAny _ _ (assign (Expr.Tuple _ _ _) _ (Value.ref _)) _ _ _)); walk_at "STEP"))
    rename Fr s1.heap _ _ _ => F6
    rename News s1.heap _ _ _ => N6
    have hk5 : ∀ p ∈ lawPs nl op ta la c, mOf F6 p.1 = some p.2 := all6 rfl rfl rfl rfl rfl rfl
    refine turns_rangeF (σ := LS) (n := 4) (fun c => lawPs nl op ta la c) (fun c => lawLed ta la c)
      (fun i c => LOk w cnt mm mf nl op ord ta la i c) c rfl (by assumption) (by decide) (by decide) F6 N6 hk5 hok ?_ ?_
    · rintro f t c um hh tk5 own I hi hok hw hI ho F' N'
      refine gen_turn ?_; intro Q8 hQ8
      clear hk5 F6 N6
      dsimp only [kstB, lawPs] at F'
      have ei : (0 : Int) + (f : Int) * 1 = (f : Int) := by omega
      rw [ei]
      dsimp only [lawLed] at N' hw ho
      repeat' ((fail_if_success (with_reducible show wpAny _ _ (execs (_ :: _) _) _ _ _)); walk_at "STEP")
      rename Fr s1.heap _ _ _ => F5
      rename News s1.heap _ _ _ => N5
      refine wp_cut 5 (QA := RowsAt s1 nl op ta la I c own f t) ?_ ?_
      · dsimp only [List.take]
        (refine pk ?_; intro G9 hG9)
        obtain ⟨vs, ns, nn, hn1, hn2, hn3, hn4, hn5⟩ := hok.nums
        (refine hG9 ?_; clear hG9)
        clear F'
        repeat' ((fail_if_success (with_reducible show wpAny _ _ (call (Value.ref 533) _) _ _ _)); walk_at "STEP")
        refine' Spec.use (draw_spec w (inL c.led) nl vs ns nn (1 + (f : Int)) _ hn1 hn2 hn3 hn4 hn5 (by omega) (by omega)) ?kB ?kF ?kX ?kN ?kT ?kk ?kV ?kd ?ku ?_
        case kN => exact N5
        case kV => exact fun a o h => (N5 _ (List.mem_append_right _ (.tail _ (.tail _ h)))).1
        case kB => k_asm
        case kF => k_asm
        case kX => k_asm
        case kT => k_asm
        case kk => first | exact rfl | assumption
        case kd => walk_at "ROOM"
        case ku => walk_at "ROOM"
        intro r9 new9 h9 tk9 F8 N8 kp9 fr9 P9
        (refine pk ?_; intro G9 hG9)
        obtain ⟨y, yt, rfl, hy⟩ := P9
        (refine hG9 ?_; clear hG9)
        dsimp only
        obtain ⟨tl0, htl0⟩ : ∃ tl0 : Led, tl0 = own ++ (ta, listOf (tabRefs c.fl).toArray c.c1) :: (la, listOf (laidRefs c.fl).toArray c.c2) :: c.led := ⟨_, rfl⟩
        have N9 := news_sub (news' := tl0) N8 fun p hp => List.mem_append_right _ (htl0 ▸ hp)
        clear N8 N5 F5 N'
        have q1 := Int.fmod_nonneg_of_pos (y : Int) (by decide : (0 : Int) < 5)
        have q2 := Int.fmod_lt_of_pos (y : Int) (by decide : (0 : Int) < 5)
        have q3 := Int.fmod_nonneg_of_pos ((y : Int).fdiv 50) (by decide : (0 : Int) < 2)
        have q4 := Int.fmod_lt_of_pos ((y : Int).fdiv 50) (by decide : (0 : Int) < 2)
        have q5 := Int.fmod_nonneg_of_pos ((y : Int).fdiv 10) (by decide : (0 : Int) < 5)
        have q6 := Int.fmod_lt_of_pos ((y : Int).fdiv 10) (by decide : (0 : Int) < 5)
        have q7 := Int.fmod_nonneg_of_pos ((y : Int).fdiv 100) (by decide : (0 : Int) < 2)
        have q8 := Int.fmod_lt_of_pos ((y : Int).fdiv 100) (by decide : (0 : Int) < 2)
        (refine pk ?_; intro G9 hG9)
        obtain ⟨u0, hu0⟩ : ∃ u0 : Nat, (y : Int).fmod 5 = (u0 : Int) := ⟨_, (Int.toNat_of_nonneg q1).symm⟩
        obtain ⟨k0, hk0⟩ : ∃ k0 : Nat, 1 - ((y : Int).fdiv 50).fmod 2 = (k0 : Int) := ⟨_, (Int.toNat_of_nonneg (by omega)).symm⟩
        obtain ⟨u1, hu1⟩ : ∃ u1 : Nat, ((y : Int).fdiv 10).fmod 5 = (u1 : Int) := ⟨_, (Int.toNat_of_nonneg q5).symm⟩
        obtain ⟨k1, hk1⟩ : ∃ k1 : Nat, 1 - ((y : Int).fdiv 100).fmod 2 = (k1 : Int) := ⟨_, (Int.toNat_of_nonneg (by omega)).symm⟩
        have hs0 : -1 - 2 * (f : Int) = -((2 * f + 1 : Nat) : Int) := by omega
        have hs1 : -2 - 2 * (f : Int) = -((2 * f + 2 : Nat) : Int) := by omega
        have ok0 : RowOk ⟨u0, 2 * f + 1, k0⟩ := ⟨by show u0 < 5; omega, by show 1 ≤ 2 * f + 1; omega, by show 2 * f + 1 ≤ 9; omega, by show k0 ≤ 1; omega⟩
        have ok1 : RowOk ⟨u1, 2 * f + 2, k1⟩ := ⟨by show u1 < 5; omega, by show 1 ≤ 2 * f + 2; omega, by show 2 * f + 2 ≤ 9; omega, by show k1 ≤ 1; omega⟩
        obtain ⟨⟨hnh, hh1⟩, hh2⟩ := hok.hist
        have hht : (c.hl, listOf (refsR c.hx).toArray hnh) ∈ tl0 := htl0 ▸ List.mem_append_right _ (.tail _ (.tail _ hh1))
        have hhl : (refsR c.hx).length ≤ 100 := by rw [List.length_map]; have := hok.hlen; omega
        obtain ⟨oI, hoI⟩ := hI
        (refine hG9 ?_; clear hG9)
        have offs : ∀ {x : Addr}, (∀ p ∈ tl0, p.1 < x) → x ≠ ta ∧ x ≠ la ∧ x ≠ I := fun {x} h => ⟨Nat.ne_of_gt (h _ (htl0 ▸ List.mem_append_right _ (.head _))), Nat.ne_of_gt (h _ (htl0 ▸ List.mem_append_right _ (.tail _ (.head _)))), Nat.ne_of_gt (h _ (htl0 ▸ List.mem_append_left _ hoI))⟩
        repeat' ((fail_if_success (with_reducible show wpAny _ _ (binaryOp .Add (Value.ref _) (Value.ref _)) _ _ _)); walk_at "STEP")
        · rename ∀ p, p ∈ tl0 → _ => ltA
          rename News s1.heap _ _ _ => N5
          rename Fr s1.heap _ _ _ => F5
          rw [hu0, hk0, hs0, hu1, hk1, hs1] at N5
          (refine pk ?_; intro G9 hG9)
          obtain ⟨e0, e1, t1, t2, t3, t4, t5', t6, cR, g0, g1, g2, N6⟩ : ∃ e0 e1 t1 t2 t3 t4 t5' t6 cR, (∀ p ∈ tl0, p.1 < e0) ∧ @LT.lt Nat _ e0 l5 ∧ @LT.lt Nat _ l5 e1 ∧ News s1.heap s1.heap.objs.size (heapOf F5) ((e1, tupOf [.int (u1 : Int) t4, .int (-((2 * f + 2 : Nat) : Int)) t5', .int (k1 : Int) t6].toArray) :: (l5, listOf [Value.ref e0, Value.ref e1].toArray cR) :: (e0, tupOf [.int (u0 : Int) t1, .int (-((2 * f + 1 : Nat) : Int)) t2, .int (k0 : Int) t3].toArray) :: tl0) := ⟨_, _, _, _, _, _, _, _, _, ltA, by omega, by omega, N5⟩
          (refine hG9 ?_; clear hG9)
          refine add_led F5 N6 (.tail _ (.tail _ (.tail _ hht))) (.tail _ (.head _)) (by show _ + 2 ≤ _; omega) ?_
          intro D1 hp1 F7 N7 lt7
          clear N5 N6
          (repeat' ((fail_if_success (with_reducible show wpAny _ _ (exec (Stmt.Assign _ (Expr.ListComp _ _ _ _) _) _) _ _ _)); (fail_if_success (with_reducible show wpAny _ _ (eval (Expr.ListComp _ _ _ _) _) _ _ _)); (fail_if_success (with_reducible show wpAny _ _ (call (Value.builtin "list.append") _) _ _ _)); (fail_if_success (with_reducible show wpAny _ _ (setItem _ _ _) _ _ _)); (fail_if_success (with_reducible show wpAny _ _ (subscriptTail _ _ (Value.ref _) (Value.int _ _)) _ _ _)); (fail_if_success (with_reducible show wpAny _ _ (compareOp CmpOp.In _ (Value.ref _)) _ _ _)); (fail_if_success (with_reducible show wpAny _ _ (getMethod (Value.ref _) (Str.ofString "append") _) _ _ _)); (fail_if_success (with_reducible show wpAny _ _ (call (Value.builtin "sorted") _) _ _ _)); (fail_if_success (with_reducible show wpAny _ _ (call (Value.builtin "len") [Value.ref _]) _ _ _)); (fail_if_success (with_reducible show wpAny _ _ (assign (Expr.Tuple _ _ _) _ (Value.ref _)) _ _ _)); walk_at "STEP"))
          have lt8 := allLt_of lt7
          simp only [AllLt] at lt8
          (with_unfolding_all refine' kat_sorted ?k1 ?k2 ?k3 ?k4 ?k5 ?_)
          (case k1 => first | k_asm | fail "k1")
          (case k2 => first | k_asm | fail "k2")
          (case k3 => first | kso_list | fail "k3")
          (case k4 => first | exact Nat.le_of_ble_eq_true rfl | fail "k4")
          (case k5 => first | exact Nat.le_of_ble_eq_true rfl | fail "k5")
          intro D' e' h' F' N' l1
          have ltD : ∀ p ∈ tl0, p.1 < D' := fun p hp => l1 p (.tail _ (.tail _ (.tail _ (.tail _ hp))))
          have lt1 : ∀ p ∈ tl0, p.1 < D1 := fun p hp => lt7 p (.tail _ (.tail _ (.tail _ hp)))
          have lte : ∀ p ∈ tl0, p.1 < e1 := fun p hp => Nat.lt_trans (g0 p hp) (Nat.lt_trans g1 g2)
          have o9 : ∀ x ∈ D1 :: D' :: [e0, e1], x ≠ ta ∧ x ≠ la ∧ x ≠ I := fun x hx => by
            rcases List.mem_cons.mp hx with rfl | hx
            · exact offs lt1
            rcases List.mem_cons.mp hx with rfl | hx
            · exact offs ltD
            rcases List.mem_cons.mp hx with rfl | hx
            · exact offs g0
            · rw [List.mem_singleton.mp hx]; exact offs lte
          (try k_lt l1)
          (try k_sweep)
          kat_kinds
          (repeat' walk_at "STEP")
          all_goals (first | (exfalso; omega) | skip)
          all_goals (rename News s1.heap _ _ _ => N9; rename Fr s1.heap _ _ _ => F9)
          all_goals (
            have hk9 : ∀ p ∈ (Str.ofString "f", Value.int (f : Int) t) :: (Str.ofString "y", Value.int (y : Int) yt) :: (Str.ofString "rows", Value.ref D') :: lawPs nl op ta la ⟨[], c.vx, c.ls, D1, [], [], 0, 0⟩, mOf F9 p.1 = some p.2 := all9 rfl rfl rfl (all6 rfl rfl rfl rfl rfl rfl)
            have hrw : ∀ e ∈ [(e0, (⟨u0, 2 * f + 1, k0⟩ : Row)), (e1, ⟨u1, 2 * f + 2, k1⟩)], (∃ t1 t2 t3, (e.1, tupOf [.int (e.2.u : Int) t1, .int (-(e.2.s : Int)) t2, .int (e.2.k : Int) t3].toArray) ∈ ledOf N9) ∧ RowOk e.2 := fun e he => by
              rcases List.mem_cons.mp he with rfl | he
              · exact ⟨⟨_, _, _, .tail _ (.tail _ (.tail _ (.tail _ (.head _))))⟩, ok0⟩
              · rw [List.mem_singleton.mp he]
                exact ⟨⟨_, _, _, .tail _ (.tail _ (.head _))⟩, ok1⟩
            have hws : (rowsOf [(e0, (⟨u0, 2 * f + 1, k0⟩ : Row)), (e1, ⟨u1, 2 * f + 2, k1⟩)]).Pairwise (fun a b => a.s < b.s) := .cons (fun b hb => by rw [List.mem_singleton.mp hb]; exact Nat.lt_succ_self _) (List.pairwise_singleton _ _)
            have hwr : ∀ r ∈ rowsOf [(e0, (⟨u0, 2 * f + 1, k0⟩ : Row)), (e1, ⟨u1, 2 * f + 2, k1⟩)], 2 * f < r.s ∧ r.s ≤ 2 * (f + 1) := fun r hr => by
              rcases List.mem_cons.mp hr with rfl | hr
              · exact ⟨Nat.lt_succ_self _, by show 2 * f + 1 ≤ _; omega⟩
              · rw [List.mem_singleton.mp hr]
                exact ⟨by show _ < 2 * f + 2; omega, by show 2 * f + 2 ≤ _; omega⟩
            have htl : ∀ p ∈ tl0, p ∈ ledOf N9 := fun p hp => .tail _ (.tail _ (.tail _ (.tail _ (.tail _ hp)))))
          all_goals first
            | exact rows_close hok htl0 hw F9 hk9 N9 htl (k2 := _) (xs := [(e0, ⟨u0, 2 * f + 1, k0⟩), (e1, ⟨u1, 2 * f + 2, k1⟩)]) (ws := [(e0, ⟨u0, 2 * f + 1, k0⟩), (e1, ⟨u1, 2 * f + 2, k1⟩)]) (.head _) (by rw [refsR_app]; exact .tail _ (.head _)) o9 (fun _ => Iff.rfl) (.inr ⟨_, _, rfl, ok0, ok1, .inl ⟨rfl, rfl⟩, .inl (by show u0 < u1; omega)⟩) ⟨_, .inr ⟨_, rfl⟩⟩ hrw hws hwr (Nat.le_refl _)
            | exact rows_close hok htl0 hw F9 hk9 N9 htl (k2 := _) (xs := [(e1, ⟨u1, 2 * f + 2, k1⟩), (e0, ⟨u0, 2 * f + 1, k0⟩)]) (ws := [(e0, ⟨u0, 2 * f + 1, k0⟩), (e1, ⟨u1, 2 * f + 2, k1⟩)]) (.head _) (by rw [refsR_app]; exact .tail _ (.head _)) o9 (fun e => by simp only [List.mem_cons, List.not_mem_nil, or_false]; exact or_comm) (.inr ⟨_, _, rfl, ok1, ok0, .inr ⟨rfl, rfl⟩, by show u1 < u0 ∨ (u1 = u0 ∧ 2 * f + 2 > 2 * f + 1); omega⟩) ⟨_, .inr ⟨_, rfl⟩⟩ hrw hws hwr (Nat.le_refl _)
        · rename ∀ p, p ∈ tl0 → _ => ltA
          rename News s1.heap _ _ _ => N5
          rename Fr s1.heap _ _ _ => F5
          rw [hu0, hk0, hs0] at N5
          (refine pk ?_; intro G9 hG9)
          obtain ⟨e0, t1, t2, t3, g0, N6⟩ : ∃ e0 t1 t2 t3, (∀ p ∈ tl0, p.1 < e0) ∧ News s1.heap s1.heap.objs.size (heapOf F5) ((l5, listOf [Value.ref e0].toArray 0) :: (e0, tupOf [.int (u0 : Int) t1, .int (-((2 * f + 1 : Nat) : Int)) t2, .int (k0 : Int) t3].toArray) :: tl0) := ⟨_, _, _, _, ltA, N5⟩
          (refine hG9 ?_; clear hG9)
          refine add_led F5 N6 (.tail _ (.tail _ hht)) (.head _) (by show _ + 1 ≤ _; omega) ?_
          intro D1 hp1 F7 N7 lt7
          clear N5 N6
          (repeat' ((fail_if_success (with_reducible show wpAny _ _ (exec (Stmt.Assign _ (Expr.ListComp _ _ _ _) _) _) _ _ _)); (fail_if_success (with_reducible show wpAny _ _ (eval (Expr.ListComp _ _ _ _) _) _ _ _)); (fail_if_success (with_reducible show wpAny _ _ (call (Value.builtin "list.append") _) _ _ _)); (fail_if_success (with_reducible show wpAny _ _ (setItem _ _ _) _ _ _)); (fail_if_success (with_reducible show wpAny _ _ (subscriptTail _ _ (Value.ref _) (Value.int _ _)) _ _ _)); (fail_if_success (with_reducible show wpAny _ _ (compareOp CmpOp.In _ (Value.ref _)) _ _ _)); (fail_if_success (with_reducible show wpAny _ _ (getMethod (Value.ref _) (Str.ofString "append") _) _ _ _)); (fail_if_success (with_reducible show wpAny _ _ (call (Value.builtin "sorted") _) _ _ _)); (fail_if_success (with_reducible show wpAny _ _ (call (Value.builtin "len") [Value.ref _]) _ _ _)); (fail_if_success (with_reducible show wpAny _ _ (assign (Expr.Tuple _ _ _) _ (Value.ref _)) _ _ _)); walk_at "STEP"))
          rename News s1.heap _ _ _ => N8
          refine sorted_one (by assumption) N8 ⟨_, (N8 _ (.tail _ (.head _))).1, rfl, _, rfl⟩ ?_
          intro D2 c2 hp2 F9 N9 lt9
          (repeat' ((fail_if_success (with_reducible show wpAny _ _ (exec (Stmt.Assign _ (Expr.ListComp _ _ _ _) _) _) _ _ _)); (fail_if_success (with_reducible show wpAny _ _ (eval (Expr.ListComp _ _ _ _) _) _ _ _)); (fail_if_success (with_reducible show wpAny _ _ (call (Value.builtin "list.append") _) _ _ _)); (fail_if_success (with_reducible show wpAny _ _ (setItem _ _ _) _ _ _)); (fail_if_success (with_reducible show wpAny _ _ (subscriptTail _ _ (Value.ref _) (Value.int _ _)) _ _ _)); (fail_if_success (with_reducible show wpAny _ _ (compareOp CmpOp.In _ (Value.ref _)) _ _ _)); (fail_if_success (with_reducible show wpAny _ _ (getMethod (Value.ref _) (Str.ofString "append") _) _ _ _)); (fail_if_success (with_reducible show wpAny _ _ (call (Value.builtin "sorted") _) _ _ _)); (fail_if_success (with_reducible show wpAny _ _ (call (Value.builtin "len") [Value.ref _]) _ _ _)); (fail_if_success (with_reducible show wpAny _ _ (assign (Expr.Tuple _ _ _) _ (Value.ref _)) _ _ _)); walk_at "STEP"))
          rename News s1.heap _ _ _ => N9
          rename Fr s1.heap _ _ _ => F9
          have lt1 : ∀ p ∈ tl0, p.1 < D1 := fun p hp => lt7 p (.tail _ (.tail _ hp))
          have ltD : ∀ p ∈ tl0, p.1 < D2 := fun p hp => lt9 p (.tail _ (.tail _ (.tail _ hp)))
          have o9 : ∀ x ∈ D1 :: D2 :: [e0], x ≠ ta ∧ x ≠ la ∧ x ≠ I := fun x hx => by
            rcases List.mem_cons.mp hx with rfl | hx
            · exact offs lt1
            rcases List.mem_cons.mp hx with rfl | hx
            · exact offs ltD
            · rw [List.mem_singleton.mp hx]; exact offs g0
          have hrw : ∀ e ∈ [(e0, (⟨u0, 2 * f + 1, k0⟩ : Row))], (∃ t1 t2 t3, (e.1, tupOf [.int (e.2.u : Int) t1, .int (-(e.2.s : Int)) t2, .int (e.2.k : Int) t3].toArray) ∈ ledOf N9) ∧ RowOk e.2 := fun e he => by
            rw [List.mem_singleton.mp he]
            exact ⟨⟨_, _, _, .tail _ (.tail _ (.tail _ (.head _)))⟩, ok0⟩
          have hk9 : ∀ p ∈ (Str.ofString "f", Value.int (f : Int) t) :: (Str.ofString "y", Value.int (y : Int) yt) :: (Str.ofString "rows", Value.ref D2) :: lawPs nl op ta la ⟨[], c.vx, c.ls, D1, [], [], 0, 0⟩, mOf F9 p.1 = some p.2 := all9 rfl rfl rfl (all6 rfl rfl rfl rfl rfl rfl)
          exact rows_close hok htl0 hw F9 hk9 N9 (fun p hp => .tail _ (.tail _ (.tail _ (.tail _ hp)))) (k2 := c2) (xs := [(e0, ⟨u0, 2 * f + 1, k0⟩)]) (ws := [(e0, ⟨u0, 2 * f + 1, k0⟩)]) (.head _) (by rw [refsR_app]; exact .tail _ (.head _)) o9 (fun _ => Iff.rfl) (.inl ⟨_, rfl, ok0, rfl⟩) ⟨_, .inl rfl⟩ hrw (List.pairwise_singleton _ _) (fun r hr => by rw [List.mem_singleton.mp hr]; exact ⟨Nat.lt_succ_self _, by show 2 * f + 1 ≤ _; omega⟩) (Nat.le_succ 1)
      rintro fl s' ⟨rfl, h2, tk2, um2, led2, y, ty, ra, hl2, xs, hx2, rfl, F2, N2, l1, l2, l3, l4, l5, l6, l7, l8, l9, l10⟩
      clear F5 N5 F' N'
      dsimp only [List.drop]
      refine wp_cut 7 (QA := LaidAt s1 nl op ta la I cnt mm c own f t) ?_ ?_
      · dsimp only [List.take]
        as_aux_lemma =>
          (refine pk ?_; intro G9 hG9)
          obtain ⟨tl1, htl1⟩ : ∃ tl1 : Led, tl1 = own ++ led2 := ⟨_, rfl⟩
          obtain ⟨oI, hoI⟩ := hI
          (refine hG9 ?_; clear hG9)
          have hne : @Ne Nat ta la := hok.ne
          have hta : ∀ p ∈ tl1, p.1 ≠ ta := fun p hp => by
            rw [htl1] at hp
            exact (List.mem_append.mp hp).elim (fun h => ho p h _ (.head _)) fun h => (l2 p h).1
          have hla : ∀ p ∈ tl1, p.1 ≠ la := fun p hp => by
            rw [htl1] at hp
            exact (List.mem_append.mp hp).elim (fun h => ho p h _ (.tail _ (.head _))) fun h => (l2 p h).2.1
          have hled : ∀ p ∈ led2, p ∈ tl1 := fun p hp => htl1 ▸ List.mem_append_right _ hp
          have N3 := news_sub (news' := (ta, listOf (tabRefs c.fl).toArray c.c1) :: (la, listOf (laidRefs c.fl).toArray c.c2) :: tl1) N2 fun p hp => by
            rcases List.mem_cons.mp hp with rfl | hp
            · exact List.mem_append_right _ (.head _)
            rcases List.mem_cons.mp hp with rfl | hp
            · exact List.mem_append_right _ (.tail _ (.head _))
            rw [htl1] at hp
            exact (List.mem_append.mp hp).elim (fun h => List.mem_append_left _ h) fun h => List.mem_append_right _ (.tail _ (.tail _ h))
          clear N2
          dsimp only [kstB, lawPs] at F2
          (refine pk ?_; intro G9 hG9)
          obtain ⟨ef, el, x1, x2, x3, x4, x5, x6, x7, x8⟩ := rows_ends l4 l5
          obtain ⟨⟨rn, hr1⟩, hr2⟩ := l3
          obtain ⟨⟨fa1, fa2, fa3, hfa⟩, hfo⟩ := hr2 ef x1
          obtain ⟨⟨la1, la2, la3, hla1⟩, hlo⟩ := hr2 el x2
          (refine hG9 ?_; clear hG9)
          have hfl : (tabRefs c.fl).length = f := by rw [List.length_map]; exact hok.flen
          have hfl2 : (laidRefs c.fl).length = f := by rw [List.length_map]; exact hok.flen
          have hsz1 : (tabRefs c.fl).toArray.size ≤ sizeLine := by rw [List.size_toArray, sizeLine_eq]; omega
          (repeat' ((fail_if_success (with_reducible show wpAny _ _ (exec (Stmt.Assign _ (Expr.ListComp _ _ _ _) _) _) _ _ _)); (fail_if_success (with_reducible show wpAny _ _ (eval (Expr.ListComp _ _ _ _) _) _ _ _)); (fail_if_success (with_reducible show wpAny _ _ (call (Value.builtin "list.append") _) _ _ _)); (fail_if_success (with_reducible show wpAny _ _ (setItem _ _ _) _ _ _)); (fail_if_success (with_reducible show wpAny _ _ (subscriptTail _ _ (Value.ref _) (Value.int _ _)) _ _ _)); (fail_if_success (with_reducible show wpAny _ _ (compareOp CmpOp.In _ (Value.ref _)) _ _ _)); (fail_if_success (with_reducible show wpAny _ _ (getMethod (Value.ref _) (Str.ofString "append") _) _ _ _)); (fail_if_success (with_reducible show wpAny _ _ (call (Value.builtin "sorted") _) _ _ _)); (fail_if_success (with_reducible show wpAny _ _ (call (Value.builtin "len") [Value.ref _]) _ _ _)); (fail_if_success (with_reducible show wpAny _ _ (assign (Expr.Tuple _ _ _) _ (Value.ref _)) _ _ _)); walk_at "STEP"))
          walk_at "STEP"
          (repeat' ((fail_if_success (with_reducible show wpAny _ _ (exec (Stmt.Assign _ (Expr.ListComp _ _ _ _) _) _) _ _ _)); (fail_if_success (with_reducible show wpAny _ _ (eval (Expr.ListComp _ _ _ _) _) _ _ _)); (fail_if_success (with_reducible show wpAny _ _ (call (Value.builtin "list.append") _) _ _ _)); (fail_if_success (with_reducible show wpAny _ _ (setItem _ _ _) _ _ _)); (fail_if_success (with_reducible show wpAny _ _ (subscriptTail _ _ (Value.ref _) (Value.int _ _)) _ _ _)); (fail_if_success (with_reducible show wpAny _ _ (compareOp CmpOp.In _ (Value.ref _)) _ _ _)); (fail_if_success (with_reducible show wpAny _ _ (getMethod (Value.ref _) (Str.ofString "append") _) _ _ _)); (fail_if_success (with_reducible show wpAny _ _ (call (Value.builtin "sorted") _) _ _ _)); (fail_if_success (with_reducible show wpAny _ _ (call (Value.builtin "len") [Value.ref _]) _ _ _)); (fail_if_success (with_reducible show wpAny _ _ (assign (Expr.Tuple _ _ _) _ (Value.ref _)) _ _ _)); walk_at "STEP"))
          rename News s1.heap _ _ _ => N5
          refine append_K (by assumption) N5 (.head (fun p hp => (List.mem_cons.mp hp).elim (fun e => e ▸ hne.symm) (hta p))) ?_ hsz1
          intro h' F' N'
          rw [show (tabRefs c.fl).toArray.push (Value.ref ra) = (tabRefs c.fl ++ [Value.ref ra]).toArray by simp] at N'
          clear N5
          (repeat' ((fail_if_success (with_reducible show wpAny _ _ (exec (Stmt.Assign _ (Expr.ListComp _ _ _ _) _) _) _ _ _)); (fail_if_success (with_reducible show wpAny _ _ (eval (Expr.ListComp _ _ _ _) _) _ _ _)); (fail_if_success (with_reducible show wpAny _ _ (call (Value.builtin "list.append") _) _ _ _)); (fail_if_success (with_reducible show wpAny _ _ (setItem _ _ _) _ _ _)); (fail_if_success (with_reducible show wpAny _ _ (subscriptTail _ _ (Value.ref _) (Value.int _ _)) _ _ _)); (fail_if_success (with_reducible show wpAny _ _ (compareOp CmpOp.In _ (Value.ref _)) _ _ _)); (fail_if_success (with_reducible show wpAny _ _ (getMethod (Value.ref _) (Str.ofString "append") _) _ _ _)); (fail_if_success (with_reducible show wpAny _ _ (call (Value.builtin "sorted") _) _ _ _)); (fail_if_success (with_reducible show wpAny _ _ (call (Value.builtin "len") [Value.ref _]) _ _ _)); (fail_if_success (with_reducible show wpAny _ _ (assign (Expr.Tuple _ _ _) _ (Value.ref _)) _ _ _)); walk_at "STEP"))
          rename News s1.heap _ _ _ => N5
          refine item_any (N5 _ (.tail _ (.tail _ (hled _ hr1)))).1 (k := 0) x5 (by omega) ?_
          (repeat' ((fail_if_success (with_reducible show wpAny _ _ (exec (Stmt.Assign _ (Expr.ListComp _ _ _ _) _) _) _ _ _)); (fail_if_success (with_reducible show wpAny _ _ (eval (Expr.ListComp _ _ _ _) _) _ _ _)); (fail_if_success (with_reducible show wpAny _ _ (call (Value.builtin "list.append") _) _ _ _)); (fail_if_success (with_reducible show wpAny _ _ (setItem _ _ _) _ _ _)); (fail_if_success (with_reducible show wpAny _ _ (subscriptTail _ _ (Value.ref _) (Value.int _ _)) _ _ _)); (fail_if_success (with_reducible show wpAny _ _ (compareOp CmpOp.In _ (Value.ref _)) _ _ _)); (fail_if_success (with_reducible show wpAny _ _ (getMethod (Value.ref _) (Str.ofString "append") _) _ _ _)); (fail_if_success (with_reducible show wpAny _ _ (call (Value.builtin "sorted") _) _ _ _)); (fail_if_success (with_reducible show wpAny _ _ (call (Value.builtin "len") [Value.ref _]) _ _ _)); (fail_if_success (with_reducible show wpAny _ _ (assign (Expr.Tuple _ _ _) _ (Value.ref _)) _ _ _)); walk_at "STEP"))
          refine item_tupleT (tup_of_news N5 (.tail _ (.tail _ (hled _ hfa)))) (by decide) (by decide) (j := 0) rfl rfl ?_
          (repeat' ((fail_if_success (with_reducible show wpAny _ _ (exec (Stmt.Assign _ (Expr.ListComp _ _ _ _) _) _) _ _ _)); (fail_if_success (with_reducible show wpAny _ _ (eval (Expr.ListComp _ _ _ _) _) _ _ _)); (fail_if_success (with_reducible show wpAny _ _ (call (Value.builtin "list.append") _) _ _ _)); (fail_if_success (with_reducible show wpAny _ _ (setItem _ _ _) _ _ _)); (fail_if_success (with_reducible show wpAny _ _ (subscriptTail _ _ (Value.ref _) (Value.int _ _)) _ _ _)); (fail_if_success (with_reducible show wpAny _ _ (compareOp CmpOp.In _ (Value.ref _)) _ _ _)); (fail_if_success (with_reducible show wpAny _ _ (getMethod (Value.ref _) (Str.ofString "append") _) _ _ _)); (fail_if_success (with_reducible show wpAny _ _ (call (Value.builtin "sorted") _) _ _ _)); (fail_if_success (with_reducible show wpAny _ _ (call (Value.builtin "len") [Value.ref _]) _ _ _)); (fail_if_success (with_reducible show wpAny _ _ (assign (Expr.Tuple _ _ _) _ (Value.ref _)) _ _ _)); walk_at "STEP"))
          rename News s1.heap _ _ _ => N5
          refine item_last (N5 _ (.tail _ (.tail _ (hled _ hr1)))).1 x6 x7 (by omega) ?_
          (repeat' ((fail_if_success (with_reducible show wpAny _ _ (exec (Stmt.Assign _ (Expr.ListComp _ _ _ _) _) _) _ _ _)); (fail_if_success (with_reducible show wpAny _ _ (eval (Expr.ListComp _ _ _ _) _) _ _ _)); (fail_if_success (with_reducible show wpAny _ _ (call (Value.builtin "list.append") _) _ _ _)); (fail_if_success (with_reducible show wpAny _ _ (setItem _ _ _) _ _ _)); (fail_if_success (with_reducible show wpAny _ _ (subscriptTail _ _ (Value.ref _) (Value.int _ _)) _ _ _)); (fail_if_success (with_reducible show wpAny _ _ (compareOp CmpOp.In _ (Value.ref _)) _ _ _)); (fail_if_success (with_reducible show wpAny _ _ (getMethod (Value.ref _) (Str.ofString "append") _) _ _ _)); (fail_if_success (with_reducible show wpAny _ _ (call (Value.builtin "sorted") _) _ _ _)); (fail_if_success (with_reducible show wpAny _ _ (call (Value.builtin "len") [Value.ref _]) _ _ _)); (fail_if_success (with_reducible show wpAny _ _ (assign (Expr.Tuple _ _ _) _ (Value.ref _)) _ _ _)); walk_at "STEP"))
          refine item_tupleT (tup_of_news N5 (.tail _ (.tail _ (hled _ hla1)))) (by decide) (by decide) (j := 0) rfl rfl ?_
          (refine pk ?_; intro G9 hG9)
          obtain ⟨vdx, vn, t1, t2, t3, t4, t5', t6, tn, fa, nf, tr, sc, ns', tta, ttb, sa, v1, v2, v3, v4, v5, v6, v7⟩ := hok.ver
          obtain ⟨odx, oes, on, ot1, ot2, ot3, p1, p2, p3, p4, p5⟩ := hok.opt
          (refine hG9 ?_; clear hG9)
          have N6 := news_front (news_front (news_front (news_front N5 (.tail _ (.tail _ (hled _ (l1 _ v2))))) (.tail _ (.tail _ (.tail _ (hled _ (l1 _ v1)))))) (.tail _ (.tail _ (.tail _ (.tail _ (hled _ (l1 _ p2))))))) (.tail _ (.tail _ (.tail _ (.tail _ (.tail _ (hled _ (l1 _ p1)))))))
          clear N5
          (repeat' ((fail_if_success (with_reducible show wpAny _ _ (exec (Stmt.Assign _ (Expr.ListComp _ _ _ _) _) _) _ _ _)); (fail_if_success (with_reducible show wpAny _ _ (eval (Expr.ListComp _ _ _ _) _) _ _ _)); (fail_if_success (with_reducible show wpAny _ _ (call (Value.builtin "list.append") _) _ _ _)); (fail_if_success (with_reducible show wpAny _ _ (setItem _ _ _) _ _ _)); (fail_if_success (with_reducible show wpAny _ _ (subscriptTail _ _ (Value.ref _) (Value.int _ _)) _ _ _)); (fail_if_success (with_reducible show wpAny _ _ (compareOp CmpOp.In _ (Value.ref _)) _ _ _)); (fail_if_success (with_reducible show wpAny _ _ (getMethod (Value.ref _) (Str.ofString "append") _) _ _ _)); (fail_if_success (with_reducible show wpAny _ _ (call (Value.builtin "sorted") _) _ _ _)); (fail_if_success (with_reducible show wpAny _ _ (call (Value.builtin "len") [Value.ref _]) _ _ _)); (fail_if_success (with_reducible show wpAny _ _ (assign (Expr.Tuple _ _ _) _ (Value.ref _)) _ _ _)); walk_at "STEP"))
          rename News s1.heap _ _ _ => N5
          refine' Spec.useA (users_spec w (inL [])) ?kV ?_
          case kV => exact fun _ _ h => nomatch h
          ((try (case kV => exact view_keep hV (by assumption))); intro r9 new9 h9 tk9 F' N' kp9 fr9 P9; (try k_sweep))
          (refine pk ?_; intro G9 hG9)
          obtain ⟨ud, un, utk, rfl, hud⟩ := P9
          (refine hG9 ?_; clear hG9)
          dsimp only
          (repeat' ((fail_if_success (with_reducible show wpAny _ _ (exec (Stmt.Assign _ (Expr.ListComp _ _ _ _) _) _) _ _ _)); (fail_if_success (with_reducible show wpAny _ _ (eval (Expr.ListComp _ _ _ _) _) _ _ _)); (fail_if_success (with_reducible show wpAny _ _ (call (Value.builtin "list.append") _) _ _ _)); (fail_if_success (with_reducible show wpAny _ _ (setItem _ _ _) _ _ _)); (fail_if_success (with_reducible show wpAny _ _ (subscriptTail _ _ (Value.ref _) (Value.int _ _)) _ _ _)); (fail_if_success (with_reducible show wpAny _ _ (compareOp CmpOp.In _ (Value.ref _)) _ _ _)); (fail_if_success (with_reducible show wpAny _ _ (getMethod (Value.ref _) (Str.ofString "append") _) _ _ _)); (fail_if_success (with_reducible show wpAny _ _ (call (Value.builtin "sorted") _) _ _ _)); (fail_if_success (with_reducible show wpAny _ _ (call (Value.builtin "len") [Value.ref _]) _ _ _)); (fail_if_success (with_reducible show wpAny _ _ (assign (Expr.Tuple _ _ _) _ (Value.ref _)) _ _ _)); walk_at "STEP"))
          rename News s1.heap _ _ _ => N5
          refine item_any (N5 _ (List.mem_append_left _ hud)).1 (k := ef.2.u) (users_at utk hfo.1) (by have := hfo.1; omega) ?_
          (repeat' ((fail_if_success (with_reducible show wpAny _ _ (exec (Stmt.Assign _ (Expr.ListComp _ _ _ _) _) _) _ _ _)); (fail_if_success (with_reducible show wpAny _ _ (eval (Expr.ListComp _ _ _ _) _) _ _ _)); (fail_if_success (with_reducible show wpAny _ _ (call (Value.builtin "list.append") _) _ _ _)); (fail_if_success (with_reducible show wpAny _ _ (setItem _ _ _) _ _ _)); (fail_if_success (with_reducible show wpAny _ _ (subscriptTail _ _ (Value.ref _) (Value.int _ _)) _ _ _)); (fail_if_success (with_reducible show wpAny _ _ (compareOp CmpOp.In _ (Value.ref _)) _ _ _)); (fail_if_success (with_reducible show wpAny _ _ (getMethod (Value.ref _) (Str.ofString "append") _) _ _ _)); (fail_if_success (with_reducible show wpAny _ _ (call (Value.builtin "sorted") _) _ _ _)); (fail_if_success (with_reducible show wpAny _ _ (call (Value.builtin "len") [Value.ref _]) _ _ _)); (fail_if_success (with_reducible show wpAny _ _ (assign (Expr.Tuple _ _ _) _ (Value.ref _)) _ _ _)); walk_at "STEP"))
          rename News s1.heap _ _ _ => N5
          have N6 := news_sub N5 fun p hp => List.mem_append_right _ hp
          clear N5
          refine' Spec.useA (users_spec w (inL [])) ?kV ?_
          case kV => exact fun _ _ h => nomatch h
          ((try (case kV => exact view_keep hV (by assumption))); intro r9 new9 h9 tk9 F' N' kp9 fr9 P9; (try k_sweep))
          (refine pk ?_; intro G9 hG9)
          obtain ⟨ud2, un2, utk2, rfl, hud2⟩ := P9
          (refine hG9 ?_; clear hG9)
          dsimp only
          (repeat' ((fail_if_success (with_reducible show wpAny _ _ (exec (Stmt.Assign _ (Expr.ListComp _ _ _ _) _) _) _ _ _)); (fail_if_success (with_reducible show wpAny _ _ (eval (Expr.ListComp _ _ _ _) _) _ _ _)); (fail_if_success (with_reducible show wpAny _ _ (call (Value.builtin "list.append") _) _ _ _)); (fail_if_success (with_reducible show wpAny _ _ (setItem _ _ _) _ _ _)); (fail_if_success (with_reducible show wpAny _ _ (subscriptTail _ _ (Value.ref _) (Value.int _ _)) _ _ _)); (fail_if_success (with_reducible show wpAny _ _ (compareOp CmpOp.In _ (Value.ref _)) _ _ _)); (fail_if_success (with_reducible show wpAny _ _ (getMethod (Value.ref _) (Str.ofString "append") _) _ _ _)); (fail_if_success (with_reducible show wpAny _ _ (call (Value.builtin "sorted") _) _ _ _)); (fail_if_success (with_reducible show wpAny _ _ (call (Value.builtin "len") [Value.ref _]) _ _ _)); (fail_if_success (with_reducible show wpAny _ _ (assign (Expr.Tuple _ _ _) _ (Value.ref _)) _ _ _)); walk_at "STEP"))
          rename News s1.heap _ _ _ => N5
          refine item_any (N5 _ (List.mem_append_left _ hud2)).1 (k := el.2.u) (users_at utk2 hlo.1) (by have := hlo.1; omega) ?_
          (repeat' ((fail_if_success (with_reducible show wpAny _ _ (exec (Stmt.Assign _ (Expr.ListComp _ _ _ _) _) _) _ _ _)); (fail_if_success (with_reducible show wpAny _ _ (eval (Expr.ListComp _ _ _ _) _) _ _ _)); (fail_if_success (with_reducible show wpAny _ _ (call (Value.builtin "list.append") _) _ _ _)); (fail_if_success (with_reducible show wpAny _ _ (setItem _ _ _) _ _ _)); (fail_if_success (with_reducible show wpAny _ _ (subscriptTail _ _ (Value.ref _) (Value.int _ _)) _ _ _)); (fail_if_success (with_reducible show wpAny _ _ (compareOp CmpOp.In _ (Value.ref _)) _ _ _)); (fail_if_success (with_reducible show wpAny _ _ (getMethod (Value.ref _) (Str.ofString "append") _) _ _ _)); (fail_if_success (with_reducible show wpAny _ _ (call (Value.builtin "sorted") _) _ _ _)); (fail_if_success (with_reducible show wpAny _ _ (call (Value.builtin "len") [Value.ref _]) _ _ _)); (fail_if_success (with_reducible show wpAny _ _ (assign (Expr.Tuple _ _ _) _ (Value.ref _)) _ _ _)); walk_at "STEP"))
          rename News s1.heap _ _ _ => N5
          have N6 := news_sub N5 fun p hp => List.mem_append_right _ hp
          clear N5
          (refine pk ?_; intro G9 hG9)
          obtain ⟨hls1, hls2⟩ := lvls_len hok
          have hzz : ∀ p ∈ c.ls, p.2.length ≤ 1000 := fun p hp => by have := numsOfL_len_mem hp; omega
          have hlk : ∀ k la xs, k ≠ 0 → c.ls[k]? = some (la, xs) → LvlOk xs := fun k la xs h0 hk => hok.inv.lk k xs h0 (by rw [List.getElem?_map, hk]; rfl)
          obtain ⟨hb1, hb2, hb3, hb4⟩ := hok.bnd
          (refine hG9 ?_; clear hG9)
          refine' Spec.useA (lfm_spec w (inL led2) c.vx ord op c.ls ef.2.u el.2.u mm 1 mf _ _ (hok.ver.mono fun a o h => l1 _ h) (by omega) hzz (by omega) hlk hfo.1 hlo.1 ⟨odx, oes, on, ot1, ot2, ot3, l1 _ p1, l1 _ p2, p3, p4, p5⟩ (by decide) (by omega)) ?kV ?_
          case kV => exact fun a o h => (N6 _ (.tail _ (.tail _ (.tail _ (.tail _ (.tail _ (.tail _ (hled _ h)))))))).1
          ((try (case kV => exact view_keep hV (by assumption))); intro r9 new9 h9 tk9 F' N' kp9 fr9 P9; (try k_sweep))
          (refine pk ?_; intro G9 hG9)
          obtain ⟨lv, lvt, rfl, hk1, hk2, hk3⟩ := P9
          (refine hG9 ?_; clear hG9)
          dsimp only
          rename News s1.heap _ _ _ => N5
          have N7 := news_sub N5 fun p hp => List.mem_append_right _ hp
          clear N5
          (repeat' ((fail_if_success (with_reducible show wpAny _ _ (exec (Stmt.Assign _ (Expr.ListComp _ _ _ _) _) _) _ _ _)); (fail_if_success (with_reducible show wpAny _ _ (eval (Expr.ListComp _ _ _ _) _) _ _ _)); (fail_if_success (with_reducible show wpAny _ _ (call (Value.builtin "list.append") _) _ _ _)); (fail_if_success (with_reducible show wpAny _ _ (setItem _ _ _) _ _ _)); (fail_if_success (with_reducible show wpAny _ _ (subscriptTail _ _ (Value.ref _) (Value.int _ _)) _ _ _)); (fail_if_success (with_reducible show wpAny _ _ (compareOp CmpOp.In _ (Value.ref _)) _ _ _)); (fail_if_success (with_reducible show wpAny _ _ (getMethod (Value.ref _) (Str.ofString "append") _) _ _ _)); (fail_if_success (with_reducible show wpAny _ _ (call (Value.builtin "sorted") _) _ _ _)); (fail_if_success (with_reducible show wpAny _ _ (call (Value.builtin "len") [Value.ref _]) _ _ _)); (fail_if_success (with_reducible show wpAny _ _ (assign (Expr.Tuple _ _ _) _ (Value.ref _)) _ _ _)); walk_at "STEP"))
          all_goals first | (exfalso; omega) | skip
          rename Fr s1.heap _ _ _ => F5
          refine For_turns F5 ?_
          (repeat' ((fail_if_success (with_reducible show wpAny _ _ (exec (Stmt.Assign _ (Expr.ListComp _ _ _ _) _) _) _ _ _)); (fail_if_success (with_reducible show wpAny _ _ (eval (Expr.ListComp _ _ _ _) _) _ _ _)); (fail_if_success (with_reducible show wpAny _ _ (call (Value.builtin "list.append") _) _ _ _)); (fail_if_success (with_reducible show wpAny _ _ (setItem _ _ _) _ _ _)); (fail_if_success (with_reducible show wpAny _ _ (subscriptTail _ _ (Value.ref _) (Value.int _ _)) _ _ _)); (fail_if_success (with_reducible show wpAny _ _ (compareOp CmpOp.In _ (Value.ref _)) _ _ _)); (fail_if_success (with_reducible show wpAny _ _ (getMethod (Value.ref _) (Str.ofString "append") _) _ _ _)); (fail_if_success (with_reducible show wpAny _ _ (call (Value.builtin "sorted") _) _ _ _)); (fail_if_success (with_reducible show wpAny _ _ (call (Value.builtin "len") [Value.ref _]) _ _ _)); (fail_if_success (with_reducible show wpAny _ _ (assign (Expr.Tuple _ _ _) _ (Value.ref _)) _ _ _)); walk_at "STEP"))
          rename Fr s1.heap _ _ _ => F6
          rename News s1.heap _ _ _ => N6
          refine turns_led2 (σ := Unit) (l := la) (vs := laidRefs c.fl) (nn := c.c2) (fun _ => []) (fun _ => (ta, listOf (tabRefs c.fl ++ [Value.ref ra]).toArray (c.c1 + 1)) :: (la, listOf (laidRefs c.fl).toArray c.c2) :: tl1) [Str.ofString "before"] (fun _ _ => True) () rfl F6 N6 (.tail _ (.tail _ (.tail _ (.tail _ (.tail _ (.head _)))))) (fun p hp => .tail _ (.tail _ (.tail _ (.tail _ hp)))) (fun _ h => nomatch h) trivial ?_ ?_
          · rintro i v ⟨⟩ um hh tk5 own' J hj _ hw' hI' hl' hoj F' N'
            refine gen_turn ?_; intro Q8 hQ8
            clear F6 N6
            dsimp only [kstB] at F'
            obtain ⟨x, hx, rfl⟩ := Option.map_eq_some_iff.mp ((List.getElem?_map).symm.trans hj)
            (refine pk ?_; intro G9 hG9)
            obtain ⟨⟨xt1, xt2, xt3, hxl⟩, hxm⟩ := hok.laid x (List.mem_of_getElem? hx)
            have hpx : (c.fl.map (·.p))[i]? = some x.p := by rw [List.getElem?_map, hx]; rfl
            have hxlv := (hok.inv.row i x.p hpx).2
            obtain ⟨qx, hqx⟩ : ∃ q, c.ls[x.p.lv]? = some q := ⟨_, List.getElem?_eq_getElem (by omega)⟩
            (refine hG9 ?_; clear hG9)
            have hno : lv ≠ 0 → x.p.lv ≤ lv → ¬ (ef.2.u ≤ x.p.hi.u ∧ x.p.lo.u ≤ el.2.u) := fun h0 h1 => by
              have hm := (hok.inv.mem x.p.lv qx.2 (by rw [List.getElem?_map, hqx]; rfl) (yOf i x.p)).mpr ⟨i, x.p, hpx, rfl, rfl⟩
              exact hk3 h0 x.p.lv h1 qx.1 qx.2 hqx _ hm
            have hxN : ∀ {p : Addr × Obj}, p ∈ tl1 → p ∈ own' ++ (ta, listOf (tabRefs c.fl ++ [Value.ref ra]).toArray (c.c1 + 1)) :: (la, listOf (laidRefs c.fl).toArray c.c2) :: tl1 := fun h => List.mem_append_right _ (.tail _ (.tail _ h))
            (repeat' ((fail_if_success (with_reducible show wpAny _ _ (exec (Stmt.Assign _ (Expr.ListComp _ _ _ _) _) _) _ _ _)); (fail_if_success (with_reducible show wpAny _ _ (eval (Expr.ListComp _ _ _ _) _) _ _ _)); (fail_if_success (with_reducible show wpAny _ _ (call (Value.builtin "list.append") _) _ _ _)); (fail_if_success (with_reducible show wpAny _ _ (setItem _ _ _) _ _ _)); (fail_if_success (with_reducible show wpAny _ _ (subscriptTail _ _ (Value.ref _) (Value.int _ _)) _ _ _)); (fail_if_success (with_reducible show wpAny _ _ (compareOp CmpOp.In _ (Value.ref _)) _ _ _)); (fail_if_success (with_reducible show wpAny _ _ (getMethod (Value.ref _) (Str.ofString "append") _) _ _ _)); (fail_if_success (with_reducible show wpAny _ _ (call (Value.builtin "sorted") _) _ _ _)); (fail_if_success (with_reducible show wpAny _ _ (call (Value.builtin "len") [Value.ref _]) _ _ _)); (fail_if_success (with_reducible show wpAny _ _ (assign (Expr.Tuple _ _ _) _ (Value.ref _)) _ _ _)); walk_at "STEP"))
            rename News s1.heap _ _ _ => N8
            refine item_tupleT (tup_of_news N8 (hxN (hled _ (l1 _ hxl)))) (by decide) (by decide) (j := 0) rfl rfl ?_
            (repeat' ((fail_if_success (with_reducible show wpAny _ _ (exec (Stmt.Assign _ (Expr.ListComp _ _ _ _) _) _) _ _ _)); (fail_if_success (with_reducible show wpAny _ _ (eval (Expr.ListComp _ _ _ _) _) _ _ _)); (fail_if_success (with_reducible show wpAny _ _ (call (Value.builtin "list.append") _) _ _ _)); (fail_if_success (with_reducible show wpAny _ _ (setItem _ _ _) _ _ _)); (fail_if_success (with_reducible show wpAny _ _ (subscriptTail _ _ (Value.ref _) (Value.int _ _)) _ _ _)); (fail_if_success (with_reducible show wpAny _ _ (compareOp CmpOp.In _ (Value.ref _)) _ _ _)); (fail_if_success (with_reducible show wpAny _ _ (getMethod (Value.ref _) (Str.ofString "append") _) _ _ _)); (fail_if_success (with_reducible show wpAny _ _ (call (Value.builtin "sorted") _) _ _ _)); (fail_if_success (with_reducible show wpAny _ _ (call (Value.builtin "len") [Value.ref _]) _ _ _)); (fail_if_success (with_reducible show wpAny _ _ (assign (Expr.Tuple _ _ _) _ (Value.ref _)) _ _ _)); walk_at "STEP"))
            · refine item_tupleT (tup_of_news N8 (hxN (hled _ (l1 _ hxl)))) (by decide) (by decide) (j := 1) rfl rfl ?_
              (repeat' ((fail_if_success (with_reducible show wpAny _ _ (exec (Stmt.Assign _ (Expr.ListComp _ _ _ _) _) _) _ _ _)); (fail_if_success (with_reducible show wpAny _ _ (eval (Expr.ListComp _ _ _ _) _) _ _ _)); (fail_if_success (with_reducible show wpAny _ _ (call (Value.builtin "list.append") _) _ _ _)); (fail_if_success (with_reducible show wpAny _ _ (setItem _ _ _) _ _ _)); (fail_if_success (with_reducible show wpAny _ _ (subscriptTail _ _ (Value.ref _) (Value.int _ _)) _ _ _)); (fail_if_success (with_reducible show wpAny _ _ (compareOp CmpOp.In _ (Value.ref _)) _ _ _)); (fail_if_success (with_reducible show wpAny _ _ (getMethod (Value.ref _) (Str.ofString "append") _) _ _ _)); (fail_if_success (with_reducible show wpAny _ _ (call (Value.builtin "sorted") _) _ _ _)); (fail_if_success (with_reducible show wpAny _ _ (call (Value.builtin "len") [Value.ref _]) _ _ _)); (fail_if_success (with_reducible show wpAny _ _ (assign (Expr.Tuple _ _ _) _ (Value.ref _)) _ _ _)); walk_at "STEP"))
              · refine item_tupleT (tup_of_news N8 (hxN (hled _ (l1 _ hxl)))) (by decide) (by decide) (j := 2) rfl rfl ?_
                (repeat' ((fail_if_success (with_reducible show wpAny _ _ (exec (Stmt.Assign _ (Expr.ListComp _ _ _ _) _) _) _ _ _)); (fail_if_success (with_reducible show wpAny _ _ (eval (Expr.ListComp _ _ _ _) _) _ _ _)); (fail_if_success (with_reducible show wpAny _ _ (call (Value.builtin "list.append") _) _ _ _)); (fail_if_success (with_reducible show wpAny _ _ (setItem _ _ _) _ _ _)); (fail_if_success (with_reducible show wpAny _ _ (subscriptTail _ _ (Value.ref _) (Value.int _ _)) _ _ _)); (fail_if_success (with_reducible show wpAny _ _ (compareOp CmpOp.In _ (Value.ref _)) _ _ _)); (fail_if_success (with_reducible show wpAny _ _ (getMethod (Value.ref _) (Str.ofString "append") _) _ _ _)); (fail_if_success (with_reducible show wpAny _ _ (call (Value.builtin "sorted") _) _ _ _)); (fail_if_success (with_reducible show wpAny _ _ (call (Value.builtin "len") [Value.ref _]) _ _ _)); (fail_if_success (with_reducible show wpAny _ _ (assign (Expr.Tuple _ _ _) _ (Value.ref _)) _ _ _)); walk_at "STEP"))
                all_goals first
                  | exact TurnE.intro () (by assumption) (by assumption) (fun p hp => List.mem_append_left _ hp) (fun p hp => List.mem_append_right _ hp) (fun p hp h => hw' p hp (List.mem_singleton.mp h)) (fun _ h => nomatch h) (by ksw_same) trivial
                  | skip
                exfalso
                have := hno (by omega) (by omega)
                omega
              · exact TurnE.intro () (by assumption) (by assumption) (fun p hp => List.mem_append_left _ hp) (fun p hp => List.mem_append_right _ hp) (fun p hp h => hw' p hp (List.mem_singleton.mp h)) (fun _ h => nomatch h) (by ksw_same) trivial
            · exact TurnE.intro () (by assumption) (by assumption) (fun p hp => List.mem_append_left _ hp) (fun p hp => List.mem_append_right _ hp) (fun p hp h => hw' p hp (List.mem_singleton.mp h)) (fun _ h => nomatch h) (by ksw_same) trivial
          · rintro ⟨⟩ um hh tk5 _ F' N'
            clear F6 N6
            dsimp only [kstB] at F'
            (repeat' ((fail_if_success (with_reducible show wpAny _ _ (exec (Stmt.Assign _ (Expr.ListComp _ _ _ _) _) _) _ _ _)); (fail_if_success (with_reducible show wpAny _ _ (eval (Expr.ListComp _ _ _ _) _) _ _ _)); (fail_if_success (with_reducible show wpAny _ _ (call (Value.builtin "list.append") _) _ _ _)); (fail_if_success (with_reducible show wpAny _ _ (setItem _ _ _) _ _ _)); (fail_if_success (with_reducible show wpAny _ _ (subscriptTail _ _ (Value.ref _) (Value.int _ _)) _ _ _)); (fail_if_success (with_reducible show wpAny _ _ (compareOp CmpOp.In _ (Value.ref _)) _ _ _)); (fail_if_success (with_reducible show wpAny _ _ (getMethod (Value.ref _) (Str.ofString "append") _) _ _ _)); (fail_if_success (with_reducible show wpAny _ _ (call (Value.builtin "sorted") _) _ _ _)); (fail_if_success (with_reducible show wpAny _ _ (call (Value.builtin "len") [Value.ref _]) _ _ _)); (fail_if_success (with_reducible show wpAny _ _ (assign (Expr.Tuple _ _ _) _ (Value.ref _)) _ _ _)); walk_at "STEP"))
            walk_at "STEP"
            (repeat' ((fail_if_success (with_reducible show wpAny _ _ (exec (Stmt.Assign _ (Expr.ListComp _ _ _ _) _) _) _ _ _)); (fail_if_success (with_reducible show wpAny _ _ (eval (Expr.ListComp _ _ _ _) _) _ _ _)); (fail_if_success (with_reducible show wpAny _ _ (call (Value.builtin "list.append") _) _ _ _)); (fail_if_success (with_reducible show wpAny _ _ (setItem _ _ _) _ _ _)); (fail_if_success (with_reducible show wpAny _ _ (subscriptTail _ _ (Value.ref _) (Value.int _ _)) _ _ _)); (fail_if_success (with_reducible show wpAny _ _ (compareOp CmpOp.In _ (Value.ref _)) _ _ _)); (fail_if_success (with_reducible show wpAny _ _ (getMethod (Value.ref _) (Str.ofString "append") _) _ _ _)); (fail_if_success (with_reducible show wpAny _ _ (call (Value.builtin "sorted") _) _ _ _)); (fail_if_success (with_reducible show wpAny _ _ (call (Value.builtin "len") [Value.ref _]) _ _ _)); (fail_if_success (with_reducible show wpAny _ _ (assign (Expr.Tuple _ _ _) _ (Value.ref _)) _ _ _)); walk_at "STEP"))
            rename News s1.heap _ _ _ => N5
            have hla5 : @LT.lt Nat _ la t5 := lt5 (la, listOf (laidRefs c.fl).toArray c.c2) (.tail _ (.head _))
            have hta5 : @LT.lt Nat _ ta t5 := lt5 (ta, listOf (tabRefs c.fl ++ [Value.ref ra]).toArray (c.c1 + 1)) (.head _)
            have hI5 : I < t5 := lt5 (I, oI) (.tail _ (.tail _ (htl1 ▸ List.mem_append_left _ hoI)))
            refine append_K (by assumption) N5 (.tail (Nat.ne_of_gt hla5) (.tail hne (.head hla))) ?_ (by rw [List.size_toArray, sizeLine_eq]; omega)
            intro h' F' N'
            rw [show (laidRefs c.fl).toArray.push (Value.ref t5) = (laidRefs c.fl ++ [Value.ref t5]).toArray by simp] at N'
            clear N5
            (repeat' ((fail_if_success (with_reducible show wpAny _ _ (exec (Stmt.Assign _ (Expr.ListComp _ _ _ _) _) _) _ _ _)); (fail_if_success (with_reducible show wpAny _ _ (eval (Expr.ListComp _ _ _ _) _) _ _ _)); (fail_if_success (with_reducible show wpAny _ _ (call (Value.builtin "list.append") _) _ _ _)); (fail_if_success (with_reducible show wpAny _ _ (setItem _ _ _) _ _ _)); (fail_if_success (with_reducible show wpAny _ _ (subscriptTail _ _ (Value.ref _) (Value.int _ _)) _ _ _)); (fail_if_success (with_reducible show wpAny _ _ (compareOp CmpOp.In _ (Value.ref _)) _ _ _)); (fail_if_success (with_reducible show wpAny _ _ (getMethod (Value.ref _) (Str.ofString "append") _) _ _ _)); (fail_if_success (with_reducible show wpAny _ _ (call (Value.builtin "sorted") _) _ _ _)); (fail_if_success (with_reducible show wpAny _ _ (call (Value.builtin "len") [Value.ref _]) _ _ _)); (fail_if_success (with_reducible show wpAny _ _ (assign (Expr.Tuple _ _ _) _ (Value.ref _)) _ _ _)); walk_at "STEP"))
            rename News s1.heap _ _ _ => N9
            rename Fr s1.heap _ _ _ => F9
            have hk9 : ∀ p ∈ (Str.ofString "level", Value.int (lv : Int) lvt) :: (Str.ofString "f", Value.int (f : Int) t) :: (Str.ofString "y", Value.int (y : Int) ty) :: (Str.ofString "rows", Value.ref ra) :: lawPs nl op ta la ⟨[], c.vx, c.ls, hl2, [], [], 0, 0⟩, mOf F9 p.1 = some p.2 := fun p hp => (List.mem_cons.mp hp).elim (fun e => e ▸ rfl) (all9 rfl rfl rfl (all6 rfl rfl rfl rfl rfl rfl) p)
            refine ⟨rfl, heapOf F9, _, mOf F9, (t5, tupOf [.int (ef.2.u : Int) fa1, .int (el.2.u : Int) la1, .int (lv : Int) lvt].toArray) :: led2, y, ty, ra, hl2, t5, xs, hx2, lv, lvt, fa1, la1, lvt, rfl, fr_kst F9 hk9, fun p hp => ?_, fun p hp => .tail _ (l1 p hp), fun p hp => ?_, ⟨⟨rn, .tail _ hr1⟩, fun e he => (hr2 e he).mono fun a o h => .tail _ h⟩, l4, l5, ⟨l6.mono fun a o h => .tail _ h, l7, l8, l9, l10⟩, by rw [← x3, ← x4]; exact .head _, hk1, by omega, by rw [← x3, ← x4]; exact hk3⟩
            · rcases List.mem_append.mp hp with hp | hp
              · exact N9 p (.tail _ (.tail _ (.tail _ (htl1 ▸ List.mem_append_left _ hp))))
              rcases List.mem_cons.mp hp with rfl | hp
              · exact N9 _ (.tail _ (.head _))
              rcases List.mem_cons.mp hp with rfl | hp
              · exact N9 _ (.tail _ (.tail _ (.head _)))
              rcases List.mem_cons.mp hp with rfl | hp
              · exact N9 _ (.head _)
              · exact N9 p (.tail _ (.tail _ (.tail _ (hled p hp))))
            · rcases List.mem_cons.mp hp with rfl | hp
              · exact ⟨Nat.ne_of_gt hta5, Nat.ne_of_gt hla5, Nat.ne_of_gt hI5⟩
              · exact l2 p hp
      rintro fl s' ⟨rfl, h3, tk3, um3, led3, y, ty, ra, hl3, lt, xs, hx3, lv, tl, t1, t2, t3, rfl, F3, N3, m1, m2, m3, m4, m5, m6, m7, m8, m9, m10⟩
      clear F2 N2 l1 l2 l3 l4 l5 l6 l7 l8 l9 l10
      dsimp only [List.drop]
      refine wp_cut 2 (QA := EditAt w s1 nl op ta la I cnt mm c own f) ?_ ?_
      · dsimp only [List.take]
        as_aux_lemma =>
          obtain ⟨tl1, htl1⟩ : ∃ tl1 : Led, tl1 = own ++ (ta, listOf (tabRefs c.fl ++ [Value.ref ra]).toArray (c.c1 + 1)) :: (la, listOf (laidRefs c.fl ++ [Value.ref lt]).toArray (c.c2 + 1)) :: led3 := ⟨_, rfl⟩
          rw [← htl1] at N3
          have hled : ∀ p ∈ led3, p ∈ tl1 := fun p hp => htl1 ▸ List.mem_append_right _ (.tail _ (.tail _ hp))
          dsimp only [kstB, lawPs] at F3
          (refine pk ?_; intro G9 hG9)
          obtain ⟨ef, el, x1, x2, x3, x4, x5, x6, x7, x8⟩ := rows_ends m4 m5
          obtain ⟨⟨rn, hr1⟩, hr2⟩ := m3
          obtain ⟨⟨fa1, fa2, fa3, hfa⟩, hfo⟩ := hr2 ef x1
          obtain ⟨⟨la1, la2, la3, hla1⟩, hlo⟩ := hr2 el x2
          (refine hG9 ?_; clear hG9)
          have q1 := Int.fmod_nonneg_of_pos ((y : Int).fdiv 200) (by decide : (0 : Int) < 4)
          (repeat' ((fail_if_success (with_reducible show wpAny _ _ (exec (Stmt.Assign _ (Expr.ListComp _ _ _ _) _) _) _ _ _)); (fail_if_success (with_reducible show wpAny _ _ (eval (Expr.ListComp _ _ _ _) _) _ _ _)); (fail_if_success (with_reducible show wpAny _ _ (call (Value.builtin "list.append") _) _ _ _)); (fail_if_success (with_reducible show wpAny _ _ (setItem _ _ _) _ _ _)); (fail_if_success (with_reducible show wpAny _ _ (subscriptTail _ _ (Value.ref _) (Value.int _ _)) _ _ _)); (fail_if_success (with_reducible show wpAny _ _ (compareOp CmpOp.In _ (Value.ref _)) _ _ _)); (fail_if_success (with_reducible show wpAny _ _ (getMethod (Value.ref _) (Str.ofString "append") _) _ _ _)); (fail_if_success (with_reducible show wpAny _ _ (call (Value.builtin "sorted") _) _ _ _)); (fail_if_success (with_reducible show wpAny _ _ (call (Value.builtin "len") [Value.ref _]) _ _ _)); (fail_if_success (with_reducible show wpAny _ _ (assign (Expr.Tuple _ _ _) _ (Value.ref _)) _ _ _)); walk_at "STEP"))
          walk_at "STEP"
          (repeat' ((fail_if_success (with_reducible show wpAny _ _ (exec (Stmt.Assign _ (Expr.ListComp _ _ _ _) _) _) _ _ _)); (fail_if_success (with_reducible show wpAny _ _ (eval (Expr.ListComp _ _ _ _) _) _ _ _)); (fail_if_success (with_reducible show wpAny _ _ (call (Value.builtin "list.append") _) _ _ _)); (fail_if_success (with_reducible show wpAny _ _ (setItem _ _ _) _ _ _)); (fail_if_success (with_reducible show wpAny _ _ (subscriptTail _ _ (Value.ref _) (Value.int _ _)) _ _ _)); (fail_if_success (with_reducible show wpAny _ _ (compareOp CmpOp.In _ (Value.ref _)) _ _ _)); (fail_if_success (with_reducible show wpAny _ _ (getMethod (Value.ref _) (Str.ofString "append") _) _ _ _)); (fail_if_success (with_reducible show wpAny _ _ (call (Value.builtin "sorted") _) _ _ _)); (fail_if_success (with_reducible show wpAny _ _ (call (Value.builtin "len") [Value.ref _]) _ _ _)); (fail_if_success (with_reducible show wpAny _ _ (assign (Expr.Tuple _ _ _) _ (Value.ref _)) _ _ _)); walk_at "STEP"))
          rename News s1.heap _ _ _ => N5
          rename Fr s1.heap _ _ _ => F5
          (refine pk ?_; intro G9 hG9)
          obtain ⟨L2, hL2⟩ : ∃ L2 : Led, L2 = (ledOf N5).tail := ⟨_, rfl⟩
          have hoff2 : ∀ p ∈ L2, p.1 ≠ l5 := by
            rw [hL2]
            dsimp only [ledOf, List.tail]
            k_all
          have hsub2 : ∀ p ∈ tl1, p ∈ L2 := by
            rw [hL2]
            intro p hp
            dsimp only [ledOf, List.tail]
            repeat (first | exact hp | refine List.Mem.tail _ ?_)
          refine' @cps (∀ ex, mOf F5 (Str.ofString "edit") = some (.ref ex) → ∀ dex en edl es, (ex, instObj 368 dex) ∈ L2 → (dex, dictOf es en) ∈ L2 → getL (Str.ofString "deleted") es = some (some (.ref edl)) → (edl, listOf (([] : List Value)).toArray 0) ∈ L2 → getL (Str.ofString "added") es = some (some (.ref l5)) → getL (Str.ofString "reset") es = some (some (.bool false)) → (∀ p ∈ tl1, @LT.lt Nat _ p.1 dex) → @LT.lt Nat _ dex ex → (∀ p ∈ tl1, p.1 ≠ edl) → G9) ?hs _ rfl _ _ _ _ ?h1 ?h2 ?h3 ?h4 ?h5 ?h6 ?h7 ?h8 ?h9
          case h1 => rw [hL2]; dsimp only [ledOf, List.tail]; k_dflt k_mem
          case h2 => rw [hL2]; dsimp only [ledOf, List.tail]; k_dflt k_mem
          case h3 => rfl
          case h4 => rw [hL2]; dsimp only [ledOf, List.tail]; k_dflt k_mem
          case h5 => rfl
          case h6 => rfl
          case h7 => assumption
          case h8 => assumption
          case h9 => k_all
          intro ex hex dex en edl es hex1 hex2 hex3 hex4 hex5 hex6 hex7 hex8 hex9
          have hex0 := (Value.ref.inj (Option.some.inj hex)).symm
          subst hex0
          clear hex
          have N6 : News s1.heap s1.heap.objs.size (heapOf F5) ((l5, listOf (([] : List Value)).toArray 0) :: L2) := hL2 ▸ N5
          clear hL2 N5
          (refine hG9 ?_; clear hG9)
          refine item_any (N6 _ (.tail _ (hsub2 _ (hled _ hr1)))).1 (k := 0) x5 (by omega) ?_
          (repeat' ((fail_if_success (with_reducible show wpAny _ _ (exec (Stmt.Assign _ (Expr.ListComp _ _ _ _) _) _) _ _ _)); (fail_if_success (with_reducible show wpAny _ _ (eval (Expr.ListComp _ _ _ _) _) _ _ _)); (fail_if_success (with_reducible show wpAny _ _ (call (Value.builtin "list.append") _) _ _ _)); (fail_if_success (with_reducible show wpAny _ _ (setItem _ _ _) _ _ _)); (fail_if_success (with_reducible show wpAny _ _ (subscriptTail _ _ (Value.ref _) (Value.int _ _)) _ _ _)); (fail_if_success (with_reducible show wpAny _ _ (compareOp CmpOp.In _ (Value.ref _)) _ _ _)); (fail_if_success (with_reducible show wpAny _ _ (getMethod (Value.ref _) (Str.ofString "append") _) _ _ _)); (fail_if_success (with_reducible show wpAny _ _ (call (Value.builtin "sorted") _) _ _ _)); (fail_if_success (with_reducible show wpAny _ _ (call (Value.builtin "len") [Value.ref _]) _ _ _)); (fail_if_success (with_reducible show wpAny _ _ (assign (Expr.Tuple _ _ _) _ (Value.ref _)) _ _ _)); walk_at "STEP"))
          refine' Spec.use (ikeyL_spec w (inL led3) ef.1 ef.2 ⟨⟨fa1, fa2, fa3, hfa⟩, hfo⟩) ?kB ?kF ?kX ?kN ?kT ?kk ?kV ?kd ?ku ?_
          case kN => exact N6
          case kV => exact fun a o h => (N6 _ (.tail _ (hsub2 _ (hled _ h)))).1
          case kB => k_asm
          case kF => k_asm
          case kX => k_asm
          case kT => k_asm
          case kk => first | exact rfl | assumption
          case kd => walk_at "ROOM"
          case ku => walk_at "ROOM"
          intro r9 new9 h9 tk9 F' N' kp9 fr9 P9
          (refine pk ?_; intro G9 hG9)
          obtain ⟨ik1, rfl⟩ := P9
          (refine hG9 ?_; clear hG9)
          dsimp only
          have N7 := news_sub N' fun p hp => List.mem_append_right _ hp
          clear N' N6 kp9 fr9
          (repeat' ((fail_if_success (with_reducible show wpAny _ _ (exec (Stmt.Assign _ (Expr.ListComp _ _ _ _) _) _) _ _ _)); (fail_if_success (with_reducible show wpAny _ _ (eval (Expr.ListComp _ _ _ _) _) _ _ _)); (fail_if_success (with_reducible show wpAny _ _ (call (Value.builtin "list.append") _) _ _ _)); (fail_if_success (with_reducible show wpAny _ _ (setItem _ _ _) _ _ _)); (fail_if_success (with_reducible show wpAny _ _ (subscriptTail _ _ (Value.ref _) (Value.int _ _)) _ _ _)); (fail_if_success (with_reducible show wpAny _ _ (compareOp CmpOp.In _ (Value.ref _)) _ _ _)); (fail_if_success (with_reducible show wpAny _ _ (getMethod (Value.ref _) (Str.ofString "append") _) _ _ _)); (fail_if_success (with_reducible show wpAny _ _ (call (Value.builtin "sorted") _) _ _ _)); (fail_if_success (with_reducible show wpAny _ _ (call (Value.builtin "len") [Value.ref _]) _ _ _)); (fail_if_success (with_reducible show wpAny _ _ (assign (Expr.Tuple _ _ _) _ (Value.ref _)) _ _ _)); walk_at "STEP"))
          rename News s1.heap _ _ _ => N6
          refine item_last (N6 _ (.tail _ (hsub2 _ (hled _ hr1)))).1 x6 x7 (by omega) ?_
          (repeat' ((fail_if_success (with_reducible show wpAny _ _ (exec (Stmt.Assign _ (Expr.ListComp _ _ _ _) _) _) _ _ _)); (fail_if_success (with_reducible show wpAny _ _ (eval (Expr.ListComp _ _ _ _) _) _ _ _)); (fail_if_success (with_reducible show wpAny _ _ (call (Value.builtin "list.append") _) _ _ _)); (fail_if_success (with_reducible show wpAny _ _ (setItem _ _ _) _ _ _)); (fail_if_success (with_reducible show wpAny _ _ (subscriptTail _ _ (Value.ref _) (Value.int _ _)) _ _ _)); (fail_if_success (with_reducible show wpAny _ _ (compareOp CmpOp.In _ (Value.ref _)) _ _ _)); (fail_if_success (with_reducible show wpAny _ _ (getMethod (Value.ref _) (Str.ofString "append") _) _ _ _)); (fail_if_success (with_reducible show wpAny _ _ (call (Value.builtin "sorted") _) _ _ _)); (fail_if_success (with_reducible show wpAny _ _ (call (Value.builtin "len") [Value.ref _]) _ _ _)); (fail_if_success (with_reducible show wpAny _ _ (assign (Expr.Tuple _ _ _) _ (Value.ref _)) _ _ _)); walk_at "STEP"))
          refine' Spec.use (ikeyL_spec w (inL led3) el.1 el.2 ⟨⟨la1, la2, la3, hla1⟩, hlo⟩) ?kB ?kF ?kX ?kN ?kT ?kk ?kV ?kd ?ku ?_
          case kN => exact N6
          case kV => exact fun a o h => (N6 _ (.tail _ (hsub2 _ (hled _ h)))).1
          case kB => k_asm
          case kF => k_asm
          case kX => k_asm
          case kT => k_asm
          case kk => first | exact rfl | assumption
          case kd => walk_at "ROOM"
          case ku => walk_at "ROOM"
          intro r9 new9 h9 tk9 F' N' kp9 fr9 P9
          (refine pk ?_; intro G9 hG9)
          obtain ⟨ik2, rfl⟩ := P9
          (refine hG9 ?_; clear hG9)
          dsimp only
          have N7 := news_sub N' fun p hp => List.mem_append_right _ hp
          clear N' N6 kp9 fr9
          have hoff3 := hoff2
          (repeat' ((fail_if_success (with_reducible show wpAny _ _ (exec (Stmt.Assign _ (Expr.ListComp _ _ _ _) _) _) _ _ _)); (fail_if_success (with_reducible show wpAny _ _ (eval (Expr.ListComp _ _ _ _) _) _ _ _)); (fail_if_success (with_reducible show wpAny _ _ (call (Value.builtin "list.append") _) _ _ _)); (fail_if_success (with_reducible show wpAny _ _ (setItem _ _ _) _ _ _)); (fail_if_success (with_reducible show wpAny _ _ (subscriptTail _ _ (Value.ref _) (Value.int _ _)) _ _ _)); (fail_if_success (with_reducible show wpAny _ _ (compareOp CmpOp.In _ (Value.ref _)) _ _ _)); (fail_if_success (with_reducible show wpAny _ _ (getMethod (Value.ref _) (Str.ofString "append") _) _ _ _)); (fail_if_success (with_reducible show wpAny _ _ (call (Value.builtin "sorted") _) _ _ _)); (fail_if_success (with_reducible show wpAny _ _ (call (Value.builtin "len") [Value.ref _]) _ _ _)); (fail_if_success (with_reducible show wpAny _ _ (assign (Expr.Tuple _ _ _) _ (Value.ref _)) _ _ _)); walk_at "STEP"))
          have hsub3 : ∀ p ∈ tl1, p ∈ (l5, listOf (([] : List Value)).toArray 0) :: L2 := fun p hp => .tail _ (hsub2 p hp)
          walk_at "call builtin:list.append"
          (repeat' ((fail_if_success (with_reducible show wpAny _ _ (exec (Stmt.Assign _ (Expr.ListComp _ _ _ _) _) _) _ _ _)); (fail_if_success (with_reducible show wpAny _ _ (eval (Expr.ListComp _ _ _ _) _) _ _ _)); (fail_if_success (with_reducible show wpAny _ _ (call (Value.builtin "list.append") _) _ _ _)); (fail_if_success (with_reducible show wpAny _ _ (setItem _ _ _) _ _ _)); (fail_if_success (with_reducible show wpAny _ _ (subscriptTail _ _ (Value.ref _) (Value.int _ _)) _ _ _)); (fail_if_success (with_reducible show wpAny _ _ (compareOp CmpOp.In _ (Value.ref _)) _ _ _)); (fail_if_success (with_reducible show wpAny _ _ (getMethod (Value.ref _) (Str.ofString "append") _) _ _ _)); (fail_if_success (with_reducible show wpAny _ _ (call (Value.builtin "sorted") _) _ _ _)); (fail_if_success (with_reducible show wpAny _ _ (call (Value.builtin "len") [Value.ref _]) _ _ _)); (fail_if_success (with_reducible show wpAny _ _ (assign (Expr.Tuple _ _ _) _ (Value.ref _)) _ _ _)); walk_at "STEP"))
          rename News s1.heap _ _ _ => N9
          rename Fr s1.heap _ _ _ => F9
          have hk9 : ∀ p ∈ (Str.ofString "edit", Value.ref ex) :: lawPs nl op ta la ⟨[], c.vx, c.ls, hl3, [], [], 0, 0⟩, mOf F9 p.1 = some p.2 := fun p hp => (List.mem_cons.mp hp).elim (fun e => e ▸ rfl) (all6 rfl rfl rfl rfl rfl rfl p)
          have ht5 : ∀ p ∈ L2, p.1 ≠ t5 := by k_all
          (refine pk ?_; intro G9 hG9)
          obtain ⟨X, hX⟩ : ∃ X : Led, X = ledOf N9 := ⟨_, rfl⟩
          dsimp only [ledOf] at hX
          refine' @cps (∀ mt md es9 mk1 mk2 mk3 mk4 mn ms, (t5, tupOf [Value.int (lv : Int) tl, .ref mt].toArray) ∈ X → (mt, instObj 333 md) ∈ X → (md, dictOf es9 4) ∈ X → (@LT.lt Nat _ l5 md ∧ AllLt md L2) → @LT.lt Nat _ md mt → (l5, listOf [Value.ref t5].toArray 1) ∈ X →
              es9 = [fe w.params "number" mk1 (.int (7 + (f : Int)) mn), fe w.params "size" mk2 (.int (1 + ((y : Int).fdiv 200).fmod 4) ms), fe w.params "smallest" mk3 (.bytes (U ef.2.u ++ le8 (rtag ef.2)).toArray ik1), fe w.params "largest" mk4 (.bytes (U el.2.u ++ le8 (rtag el.2)).toArray ik2)] → G9) ?ht _ _ _ _ _ _ _ _ _ ?g1 ?g2 ?g3 ?g4 ?g5 ?g6 ?g7
          case g1 => rw [hX]; k_dflt k_mem
          case g2 => rw [hX]; k_dflt k_mem
          case g3 => rw [hX]; k_dflt k_mem
          case g4 => assumption
          case g5 => assumption
          case g6 => rw [hX]; k_dflt k_mem
          case g7 => rfl
          intro mt md es9 mk1 mk2 mk3 mk4 mn ms hm1 hm2 hm3 hm4 hm5 hm6 hm7
          have hsub9 : ∀ p ∈ L2, p ∈ X := fun p hp => hX ▸ .tail _ (.tail _ (.tail _ (.tail _ hp)))
          have N10 := hX ▸ N9
          obtain ⟨oI, hoI⟩ := hI
          have hoff9 : ∀ a : Addr, (∀ p ∈ tl1, p.1 ≠ a) → a ≠ ta ∧ a ≠ la ∧ a ≠ I := fun a h => by
            rw [htl1] at h
            exact ⟨fun e => h _ (List.mem_append_right _ (.head _)) e.symm, fun e => h _ (List.mem_append_right _ (.tail _ (.head _))) e.symm, fun e => h _ (List.mem_append_left _ hoI) e.symm⟩
          have o1 := hoff9 t5 fun p hp => ht5 p (hsub2 p hp)
          have o2 := hoff9 md fun p hp => Nat.ne_of_lt (allLt_lt hm4.2 p (hsub2 p hp))
          have o3 := hoff9 mt fun p hp => Nat.ne_of_lt (Nat.lt_trans (allLt_lt hm4.2 p (hsub2 p hp)) hm5)
          have o4 := hoff9 l5 fun p hp => hoff2 p (hsub2 p hp)
          have o5 := hoff9 dex fun p hp => Nat.ne_of_lt (hex7 p hp)
          have o6 := hoff9 ex fun p hp => Nat.ne_of_lt (Nat.lt_trans (hex7 p hp) hex8)
          have o7 := hoff9 edl hex9
          obtain ⟨led', hled'⟩ : ∃ led' : Led, led' = X.filter fun p => decide (p.1 ≠ ta ∧ p.1 ≠ la ∧ p.1 ≠ I) := ⟨_, rfl⟩
          (refine hG9 ?_; clear hG9)
          have hin : ∀ {p : Addr × Obj}, p ∈ X → (p.1 ≠ ta ∧ p.1 ≠ la ∧ p.1 ≠ I) → p ∈ led' := fun h1 h2 => hled' ▸ List.mem_filter.mpr ⟨h1, decide_eq_true h2⟩
          have hmono : ∀ p ∈ led3, p ∈ led' := fun p hp => hin (hsub9 p (hsub2 p (hled p hp))) (m2 p hp)
          have hxl := lo_ends (lv := lv) (mt := mt) (sz := 1 + ((y : Int).fdiv 200).fmod 4) m5
          refine ⟨rfl, heapOf F9, _, mOf F9, led', ra, hl3, lt, ex, mt, xs, hx3, lv, 1 + ((y : Int).fdiv 200).fmod 4, t1, t2, t3, rfl, fr_kst F9 hk9, fun p hp => ?_, fun p hp => hmono p (m1 p hp), fun p hp => ?_, ⟨⟨rn, hmono _ hr1⟩, fun e he => (hr2 e he).mono fun a o h => hmono _ h⟩, m4, m5, ⟨m6.1.mono fun a o h => hmono _ h, m6.2⟩, hmono _ m7, m8, m9, m10, ⟨dex, es, en, edl, l5, t5, 0, 1, tl, hin (hsub9 _ hex1) o6, hin (hsub9 _ hex2) o5, hex3, hex5, hex6, hin (hsub9 _ hex4) o7, hin hm6 o4, hin hm1 o1⟩, ?_⟩
          · rcases List.mem_append.mp hp with hp | hp
            · exact N10 p (hsub9 p (hsub2 p (htl1 ▸ List.mem_append_left _ hp)))
            rcases List.mem_cons.mp hp with rfl | hp
            · exact N10 _ (hsub9 _ (hsub2 _ (htl1 ▸ List.mem_append_right _ (.head _))))
            rcases List.mem_cons.mp hp with rfl | hp
            · exact N10 _ (hsub9 _ (hsub2 _ (htl1 ▸ List.mem_append_right _ (.tail _ (.head _)))))
            · rw [hled'] at hp
              exact N10 p (List.mem_filter.mp hp).1
          · rw [hled'] at hp
            exact of_decide_eq_true (List.mem_filter.mp hp).2
          · have e1 : (fmOf f ⟨rowsOf xs, lv, mt, 1 + ((y : Int).fdiv 200).fmod 4⟩) = ⟨7 + (f : Int), 1 + ((y : Int).fdiv 200).fmod 4, ef.2.u, rtag ef.2, el.2.u, rtag el.2⟩ := by
              unfold fmOf
              rw [hxl.1, hxl.2, x3, x4]
            rw [e1]
            exact ⟨md, 4, mk1, mk2, mk3, mk4, mn, ms, ik1, ik2, hin hm2 o3, hm7 ▸ hin hm3 o2, U_len _, U_len _, rtag_in hfo, rtag_in hlo, hfo.1, hlo.1⟩
      rintro fl s' ⟨rfl, h4, tk4, um4, led4, ra4, hl4, lt4, ex, mt, xs4, hx4, lv4, sz, t14, t24, t34, rfl, F4, N4, n1, n2, n3, n4, n5, n6, n7, n8, n9, n10, n11, n12⟩
      clear F3 N3 m1 m2 m3 m4 m5 m6 m7 m8 m9 m10
      dsimp only [List.drop]
      as_aux_lemma =>
        dsimp only [kstB, lawPs] at F4
        obtain ⟨tl1, htl1⟩ : ∃ tl1 : Led, tl1 = own ++ (ta, listOf (tabRefs c.fl ++ [Value.ref ra4]).toArray (c.c1 + 1)) :: (la, listOf (laidRefs c.fl ++ [Value.ref lt4]).toArray (c.c2 + 1)) :: led4 := ⟨_, rfl⟩
        rw [← htl1] at N4
        have hled : ∀ p ∈ led4, p ∈ tl1 := fun p hp => htl1 ▸ List.mem_append_right _ (.tail _ (.tail _ hp))
        (refine pk ?_; intro G9 hG9)
        obtain ⟨hls1, hls2⟩ := lvls_len hok
        obtain ⟨hb1, hb2, hb3, hb4⟩ := hok.bnd
        (refine hG9 ?_; clear hG9)
        have hver : IsVer w.params (inL led4) c.vx ord c.ls := hok.ver.mono fun a o h => n1 _ h
        have hcn : f = (c.fl.map (·.p)).length := by rw [List.length_map]; exact hok.flen.symm
        have hxl := lo_ends (lv := lv4) (mt := mt) (sz := sz) n5
        obtain ⟨fm, hfm⟩ : ∃ fm : FM, fm = fmOf f ⟨rowsOf xs4, lv4, mt, sz⟩ := ⟨_, rfl⟩
        (refine pk ?_; intro G9 hG9)
        obtain ⟨st1, st2, st3, st4, st5, st6⟩ := hok.inv.step (p := ⟨rowsOf xs4, lv4, mt, sz⟩) hcn n4 n9 (fun h0 k xs hk hX y hy => by
          obtain ⟨q, hq1, rfl⟩ := Option.map_eq_some_iff.mp ((List.getElem?_map).symm.trans hX)
          have := n10 h0 k hk q.1 q.2 hq1 y hy
          rw [hxl.1, hxl.2]
          omega)
        (refine hG9 ?_; clear hG9)
        rw [← hfm] at st1 st2 st3 n12
        have N6 := N4
        (repeat' ((fail_if_success (with_reducible show wpAny _ _ (exec (Stmt.Assign _ (Expr.ListComp _ _ _ _) _) _) _ _ _)); (fail_if_success (with_reducible show wpAny _ _ (eval (Expr.ListComp _ _ _ _) _) _ _ _)); (fail_if_success (with_reducible show wpAny _ _ (call (Value.builtin "list.append") _) _ _ _)); (fail_if_success (with_reducible show wpAny _ _ (setItem _ _ _) _ _ _)); (fail_if_success (with_reducible show wpAny _ _ (subscriptTail _ _ (Value.ref _) (Value.int _ _)) _ _ _)); (fail_if_success (with_reducible show wpAny _ _ (compareOp CmpOp.In _ (Value.ref _)) _ _ _)); (fail_if_success (with_reducible show wpAny _ _ (getMethod (Value.ref _) (Str.ofString "append") _) _ _ _)); (fail_if_success (with_reducible show wpAny _ _ (call (Value.builtin "sorted") _) _ _ _)); (fail_if_success (with_reducible show wpAny _ _ (call (Value.builtin "len") [Value.ref _]) _ _ _)); (fail_if_success (with_reducible show wpAny _ _ (assign (Expr.Tuple _ _ _) _ (Value.ref _)) _ _ _)); walk_at "STEP"))
        rename News s1.heap _ _ _ => N7
        have hg7 := fun p hp => (N7 p hp).1
        refine' Spec.useA (mkNew_spec w (inL led4) c.vx ord c.ls hver (by omega)) ?kV ?_
        case kV => exact fun a o h => (N7 _ (hled _ h)).1
        ((try (case kV => exact view_keep hV (by assumption))); intro r9 new9 h9 tk9 F' N' kp9 fr9 P9; (try k_sweep))
        (refine pk ?_; intro G9 hG9)
        obtain ⟨x, dx, dl, al, k1, k2, k3, k4, dels, adds, c1, c2, rfl, rfl, mo1, mo2, mo3, mo4⟩ := P9
        (refine hG9 ?_; clear hG9)
        dsimp only
        have hoffM : ∀ p ∈ tl1, ∀ q ∈ mkL w.params x dx dl al c.vx k1 k2 k3 k4 dels adds c1 c2, p.1 ≠ q.1 := fun p hp q hq e => by
          have e1 := hg7 p hp
          have e2 := fr9 q hq
          rw [e] at e1
          exact absurd (e1.symm.trans e2) (fun h => nomatch h)
        clear fr9 hg7
        (repeat' ((fail_if_success (with_reducible show wpAny _ _ (exec (Stmt.Assign _ (Expr.ListComp _ _ _ _) _) _) _ _ _)); (fail_if_success (with_reducible show wpAny _ _ (eval (Expr.ListComp _ _ _ _) _) _ _ _)); (fail_if_success (with_reducible show wpAny _ _ (call (Value.builtin "list.append") _) _ _ _)); (fail_if_success (with_reducible show wpAny _ _ (setItem _ _ _) _ _ _)); (fail_if_success (with_reducible show wpAny _ _ (subscriptTail _ _ (Value.ref _) (Value.int _ _)) _ _ _)); (fail_if_success (with_reducible show wpAny _ _ (compareOp CmpOp.In _ (Value.ref _)) _ _ _)); (fail_if_success (with_reducible show wpAny _ _ (getMethod (Value.ref _) (Str.ofString "append") _) _ _ _)); (fail_if_success (with_reducible show wpAny _ _ (call (Value.builtin "sorted") _) _ _ _)); (fail_if_success (with_reducible show wpAny _ _ (call (Value.builtin "len") [Value.ref _]) _ _ _)); (fail_if_success (with_reducible show wpAny _ _ (assign (Expr.Tuple _ _ _) _ (Value.ref _)) _ _ _)); walk_at "STEP"))
        rename News s1.heap _ _ _ => N8
        refine' Spec.useT (apply_spec w (inL led4) ex x dx dl al c.vx ord mt k1 k2 k3 k4 dels adds c1 c2 lv4 fm c.ls n11 n12 hver mo1 mo2 mo3 mo4 (by omega) (by omega)) tl1 ?kB ?kF ?kX N8 ?kt ?kr ?kT ?kk ?kV ?kd ?ku ?_
        case kB => k_asm
        case kF => k_asm
        case kX => k_asm
        case kT => k_asm
        case kk => first | exact rfl | assumption
        case kd => walk_at "ROOM"
        case ku => walk_at "ROOM"
        case kt => exact fun p hp => List.mem_append_left _ hp
        case kr => exact fun p hp => ⟨List.mem_append_right _ hp, hoffM p hp⟩
        case kV => exact fun a o h => ⟨(N8 _ (List.mem_append_right _ (hled _ h))).1, hoffM _ (hled _ h)⟩
        intro r9 new9 h9 tk9 F' N' P9
        (refine pk ?_; intro G9 hG9)
        obtain ⟨a, o1, o2, rfl, ha1, ha2, rfl⟩ := P9
        (refine hG9 ?_; clear hG9)
        dsimp only
        try k_sweep
        (repeat' ((fail_if_success (with_reducible show wpAny _ _ (exec (Stmt.Assign _ (Expr.ListComp _ _ _ _) _) _) _ _ _)); (fail_if_success (with_reducible show wpAny _ _ (eval (Expr.ListComp _ _ _ _) _) _ _ _)); (fail_if_success (with_reducible show wpAny _ _ (call (Value.builtin "list.append") _) _ _ _)); (fail_if_success (with_reducible show wpAny _ _ (setItem _ _ _) _ _ _)); (fail_if_success (with_reducible show wpAny _ _ (subscriptTail _ _ (Value.ref _) (Value.int _ _)) _ _ _)); (fail_if_success (with_reducible show wpAny _ _ (compareOp CmpOp.In _ (Value.ref _)) _ _ _)); (fail_if_success (with_reducible show wpAny _ _ (getMethod (Value.ref _) (Str.ofString "append") _) _ _ _)); (fail_if_success (with_reducible show wpAny _ _ (call (Value.builtin "sorted") _) _ _ _)); (fail_if_success (with_reducible show wpAny _ _ (call (Value.builtin "len") [Value.ref _]) _ _ _)); (fail_if_success (with_reducible show wpAny _ _ (assign (Expr.Tuple _ _ _) _ (Value.ref _)) _ _ _)); walk_at "STEP"))
        rename News s1.heap _ _ _ => N9
        (refine pk ?_; intro G9 hG9)
        obtain ⟨oI, hoI⟩ := hI
        have hta : (ta, listOf (tabRefs c.fl ++ [Value.ref ra4]).toArray (c.c1 + 1)) ∈ tl1 := htl1 ▸ List.mem_append_right _ (.head _)
        have hla : (la, listOf (laidRefs c.fl ++ [Value.ref lt4]).toArray (c.c2 + 1)) ∈ tl1 := htl1 ▸ List.mem_append_right _ (.tail _ (.head _))
        have hIt : (I, oI) ∈ tl1 := htl1 ▸ List.mem_append_left _ hoI
        have offT : ∀ q ∈ mkL w.params x dx dl al c.vx k1 k2 k3 k4 dels adds c1 c2, q.1 ≠ ta ∧ q.1 ≠ la ∧ q.1 ≠ I := fun q hq => ⟨fun e => hoffM _ hta q hq e.symm, fun e => hoffM _ hla q hq e.symm, fun e => hoffM _ hIt q hq e.symm⟩
        have of1 := offT _ (.head _)
        have of2 := offT _ (.tail _ (.head _))
        have of3 := offT _ (.tail _ (.tail _ (.head _)))
        have of4 := offT _ (.tail _ (.tail _ (.tail _ (.head _))))
        have offN : ∀ q ∈ mkL w.params x dx dl al c.vx k1 k2 k3 k4 dels (adds.set lv4 (a, o2)) c1 c2, q.1 ≠ ta ∧ q.1 ≠ la ∧ q.1 ≠ I :=
          mkL_cases of1 of2 of3 of4 (fun p hp => offT p (.tail _ (.tail _ (.tail _ (.tail _ (List.mem_append_left _ hp))))))
            fun p hp => (List.mem_or_eq_of_mem_set hp).elim (fun h => offT p (.tail _ (.tail _ (.tail _ (.tail _ (List.mem_append_right _ h)))))) fun e => e ▸ offT (a, o1) (.tail _ (.tail _ (.tail _ (.tail _ (List.mem_append_right _ (List.mem_of_getElem? ha1))))))
        obtain ⟨X, hX⟩ : ∃ X : Led, X = mkL w.params x dx dl al c.vx k1 k2 k3 k4 dels (adds.set lv4 (a, o2)) c1 c2 ++ led4 := ⟨_, rfl⟩
        (refine hG9 ?_; clear hG9)
        have hXm : ∀ p ∈ mkL w.params x dx dl al c.vx k1 k2 k3 k4 dels (adds.set lv4 (a, o2)) c1 c2, p ∈ X := fun p hp => hX ▸ List.mem_append_left _ hp
        have hX4 : ∀ p ∈ led4, p ∈ X := fun p hp => hX ▸ List.mem_append_right _ hp
        have hXo : ∀ p ∈ X, p.1 ≠ ta ∧ p.1 ≠ la ∧ p.1 ≠ I := fun p hp => by
          rw [hX] at hp
          exact (List.mem_append.mp hp).elim (offN p) (n2 p)
        have N10 := news_sub (news' := X ++ tl1) N9 fun p hp => (List.mem_append.mp hp).elim (fun h => by
          rw [hX] at h
          exact (List.mem_append.mp h).elim (fun h => List.mem_append_left _ h) fun h => List.mem_append_right _ (hled _ h)) fun h => List.mem_append_right _ h
        have hg10 := fun p hp => (N10 p hp).1
        have hlz := numsOfL_eq c.ls
        have hfin : Spec w 14 512 [.ref x] [] (inL X) (fun r new => ∃ x' ls', r = .ref x' ∧ IsVer w.params (VN (inL X) new) x' ord ls' ∧ ls'.length = c.ls.length ∧ ∀ k p, c.ls[k]? = some p → ∃ a, ls'[k]? = some (a, finX lv4 mt fm k p.2)) := by
          refine finish_spec w (inL X) x c.vx ord dl al mt fm dels (adds.set lv4 (a, o2)) c1 c2 lv4 c.ls ⟨dx, 4, k1, k2, k3, k4, hXm _ (.tail _ (.tail _ (.head _))), hXm _ (.tail _ (.tail _ (.tail _ (.head _))))⟩ (hXm _ (.tail _ (.head _))) (hXm _ (.head _))
            (fun p hp => ⟨hXm _ (.tail _ (.tail _ (.tail _ (.tail _ (List.mem_append_left _ hp))))), mo4 p (List.mem_append_left _ hp)⟩) ?_ mo2 (by rw [List.length_set]; exact mo3) (hver.mono fun a o h => hX4 _ h) (n12.mono fun a o h => hX4 _ h) (by omega) (by omega) (by omega) ?_ ?_ ?_ ?_
          · intro k p hp
            refine ⟨hXm _ (.tail _ (.tail _ (.tail _ (.tail _ (List.mem_append_right _ (List.mem_of_getElem? hp)))))), ?_⟩
            by_cases hk : k = lv4
            · subst hk
              rw [List.getElem?_set_self (by omega)] at hp
              rw [if_pos rfl, ← Option.some.inj hp]
              exact ha2
            · rw [List.getElem?_set_ne (fun e => hk e.symm)] at hp
              rw [if_neg hk]
              exact mo4 p (List.mem_append_right _ (List.mem_of_getElem? hp))
          · rw [hlz]; exact st3
          · rw [hlz]; exact st4
          · intro k p hp
            exact st1 k p.2 (by rw [List.getElem?_map, hp]; rfl)
          · intro p hp
            exact st2 p.2 (by rw [List.getElem?_map, hp]; rfl)
        refine' Spec.use hfin ?kB ?kF ?kX ?kN ?kT ?kk ?kV ?kd ?ku ?_
        case kN => exact N10
        case kV => exact fun a o h => (N10 _ (List.mem_append_left _ h)).1
        case kB => k_asm
        case kF => k_asm
        case kX => k_asm
        case kT => k_asm
        case kk => first | exact rfl | assumption
        case kd => walk_at "ROOM"
        case ku => walk_at "ROOM"
        intro r9 new9 h9 tk9 F' N' kp9 fr9 P9
        (refine pk ?_; intro G9 hG9)
        obtain ⟨vx', ls', rfl, g1, g2, g3⟩ := P9
        (refine hG9 ?_; clear hG9)
        dsimp only
        try k_sweep
        (repeat' ((fail_if_success (with_reducible show wpAny _ _ (exec (Stmt.Assign _ (Expr.ListComp _ _ _ _) _) _) _ _ _)); (fail_if_success (with_reducible show wpAny _ _ (eval (Expr.ListComp _ _ _ _) _) _ _ _)); (fail_if_success (with_reducible show wpAny _ _ (call (Value.builtin "list.append") _) _ _ _)); (fail_if_success (with_reducible show wpAny _ _ (setItem _ _ _) _ _ _)); (fail_if_success (with_reducible show wpAny _ _ (subscriptTail _ _ (Value.ref _) (Value.int _ _)) _ _ _)); (fail_if_success (with_reducible show wpAny _ _ (compareOp CmpOp.In _ (Value.ref _)) _ _ _)); (fail_if_success (with_reducible show wpAny _ _ (getMethod (Value.ref _) (Str.ofString "append") _) _ _ _)); (fail_if_success (with_reducible show wpAny _ _ (call (Value.builtin "sorted") _) _ _ _)); (fail_if_success (with_reducible show wpAny _ _ (call (Value.builtin "len") [Value.ref _]) _ _ _)); (fail_if_success (with_reducible show wpAny _ _ (assign (Expr.Tuple _ _ _) _ (Value.ref _)) _ _ _)); walk_at "STEP"))
        rename News s1.heap _ _ _ => N11
        rename Fr s1.heap _ _ _ => F11
        have offW : ∀ q ∈ new9, q.1 ≠ ta ∧ q.1 ≠ la ∧ q.1 ≠ I := by
          have key : ∀ p ∈ tl1, ∀ q ∈ new9, q.1 ≠ p.1 := fun p hp q hq e => by
            have e1 := hg10 p (List.mem_append_right _ hp)
            have e2 := fr9 q hq
            rw [e] at e2
            exact absurd (e1.symm.trans e2) (fun h => nomatch h)
          exact fun q hq => ⟨key _ hta q hq, key _ hla q hq, key _ hIt q hq⟩
        have hL5 : ∀ p ∈ led4, p ∈ new9 ++ X := fun p hp => List.mem_append_right _ (hX4 p hp)
        have hc5 : ∀ p ∈ c.led, p ∈ new9 ++ X := fun p hp => hL5 p (n1 p hp)
        have ht5 : ∀ p ∈ tl1, p ∈ new9 ++ (X ++ tl1) := fun p hp => List.mem_append_right _ (List.mem_append_right _ hp)
        have ho5 : ∀ p ∈ new9 ++ X, p.1 ≠ ta ∧ p.1 ≠ la ∧ p.1 ≠ I := fun p hp => (List.mem_append.mp hp).elim (offW p) (hXo p)
        have etab : tabRefs (c.fl ++ [⟨ra4, xs4, ⟨rowsOf xs4, lv4, mt, sz⟩, lt4⟩]) = tabRefs c.fl ++ [Value.ref ra4] := by simp
        have elaid : laidRefs (c.fl ++ [⟨ra4, xs4, ⟨rowsOf xs4, lv4, mt, sz⟩, lt4⟩]) = laidRefs c.fl ++ [Value.ref lt4] := by simp
        have hk9 : ∀ p ∈ lawPs nl op ta la ⟨[], vx', c.ls, hl4, [], [], 0, 0⟩, mOf F11 p.1 = some p.2 := all6 rfl rfl rfl rfl rfl rfl
        refine TurnG.intro ⟨new9 ++ X, vx', ls', hl4, hx4, c.fl ++ [⟨ra4, xs4, ⟨rowsOf xs4, lv4, mt, sz⟩, lt4⟩], c.c1 + 1, c.c2 + 1⟩ F11 N11 (fun p hp => ht5 p (htl1 ▸ List.mem_append_left _ hp)) (fun p hp => ?_) (fun p hp => ?_) hk9 ?_
        · dsimp only [lawLed] at hp
          rw [etab, elaid] at hp
          rcases List.mem_cons.mp hp with rfl | hp
          · exact ht5 _ hta
          rcases List.mem_cons.mp hp with rfl | hp
          · exact ht5 _ hla
          · exact (List.mem_append.mp hp).elim (fun h => List.mem_append_left _ h) fun h => List.mem_append_right _ (List.mem_append_left _ h)
        · intro hm
          have e := List.mem_singleton.mp hm
          dsimp only [lawLed] at hp
          rcases List.mem_cons.mp hp with rfl | hp
          · exact hw _ (.head _) e
          rcases List.mem_cons.mp hp with rfl | hp
          · exact hw _ (.tail _ (.head _)) e
          · exact (ho5 p hp).2.2 e
        · obtain ⟨nvs, nns, nn, z1, z2, z3, z4, z5⟩ := hok.nums
          (refine pk ?_; intro G9 hG9)
          obtain ⟨n61, n62, n63, n64, n65⟩ := n6
          obtain ⟨odx, oes, on, ot1, ot2, ot3, p1, p2, p3, p4, p5⟩ := hok.opt
          (refine hG9 ?_; clear hG9)
          refine ⟨?_, ⟨nvs, nns, nn, hc5 _ z1, z2, z3, z4, z5⟩, ⟨odx, oes, on, ot1, ot2, ot3, hc5 _ p1, hc5 _ p2, p3, p4, p5⟩, hok.bnd, g1.mono fun a o h => h.elim (fun h => List.mem_append_right _ h) fun h => List.mem_append_left _ h, ?_, ?_, ?_, n61.mono fun a o h => hL5 _ h, n62, n63, ?_, n65, fun p hp => ⟨(ho5 p hp).1, (ho5 p hp).2.1⟩, hok.ne⟩
          · rw [List.length_append, List.length_singleton, hok.flen]
          · rw [List.map_append]
            refine st6 _ (by rw [List.length_map, List.length_map]; exact g2) fun k xs hk => ?_
            obtain ⟨q, hq1, rfl⟩ := Option.map_eq_some_iff.mp ((List.getElem?_map).symm.trans hk)
            obtain ⟨a9, h9'⟩ := g3 k q hq1
            rw [List.getElem?_map, h9', hfm]
            rfl
          · intro y hy
            rcases List.mem_append.mp hy with hy | hy
            · obtain ⟨y1, y2⟩ := hok.tabs y hy
              exact ⟨y1.mono fun a o h => hc5 _ h, y2⟩
            · rw [List.mem_singleton.mp hy]
              exact ⟨n3.mono fun a o h => hL5 _ h, rfl, n5⟩
          · intro y hy
            rcases List.mem_append.mp hy with hy | hy
            · obtain ⟨⟨y1, y2, y3, y4⟩, y5⟩ := hok.laid y hy
              exact ⟨⟨y1, y2, y3, hc5 _ y4⟩, y5⟩
            · rw [List.mem_singleton.mp hy]
              refine ⟨⟨t14, t24, t34, ?_⟩, n8⟩
              rw [hxl.1, hxl.2]
              exact hL5 _ n7
          · intro r
            rw [n64 r, hok.hmem r]
            constructor
            · rintro (⟨y, hy, h⟩ | h)
              · exact ⟨y, List.mem_append_left _ hy, h⟩
              · exact ⟨_, List.mem_append_right _ (.head _), h⟩
            · rintro ⟨y, hy, h⟩
              rcases List.mem_append.mp hy with hy | hy
              · exact .inl ⟨y, hy, h⟩
              · rw [List.mem_singleton.mp hy] at h
                exact .inr h
    · rintro c um hh tk5 hok F' N'
      clear hk5 F6 N6
      (repeat' ((fail_if_success (with_reducible show wpAny _ _ (exec (Stmt.Assign _ (Expr.ListComp _ _ _ _) _) _) _ _ _)); (fail_if_success (with_reducible show wpAny _ _ (eval (Expr.ListComp _ _ _ _) _) _ _ _)); (fail_if_success (with_reducible show wpAny _ _ (call (Value.builtin "list.append") _) _ _ _)); (fail_if_success (with_reducible show wpAny _ _ (setItem _ _ _) _ _ _)); (fail_if_success (with_reducible show wpAny _ _ (subscriptTail _ _ (Value.ref _) (Value.int _ _)) _ _ _)); (fail_if_success (with_reducible show wpAny _ _ (compareOp CmpOp.In _ (Value.ref _)) _ _ _)); (fail_if_success (with_reducible show wpAny _ _ (getMethod (Value.ref _) (Str.ofString "append") _) _ _ _)); (fail_if_success (with_reducible show wpAny _ _ (call (Value.builtin "sorted") _) _ _ _)); (fail_if_success (with_reducible show wpAny _ _ (call (Value.builtin "len") [Value.ref _]) _ _ _)); (fail_if_success (with_reducible show wpAny _ _ (assign (Expr.Tuple _ _ _) _ (Value.ref _)) _ _ _)); walk_at "STEP"))
      exact ⟨rfl, hh, tk5, _, cnt, mm, mf, nl, op, ord, ta, la, c, rfl, F', N', hok⟩
  clear F' N' hok
  rintro fl s' ⟨rfl, h', tk', um, cnt, mm, mf, nl, op, ord, ta, la, c, rfl, F', N', hok⟩
  dsimp only [List.drop]
  refine wp_cut 1 (QA := LawAt w s1 4) ?_ ?_
  · dsimp only [List.take]
    as_aux_lemma =>
      (repeat' ((fail_if_success (with_reducible show wpAny _ _ (exec (Stmt.Assign _ (Expr.ListComp _ _ _ _) _) _) _ _ _)); (fail_if_success (with_reducible show wpAny _ _ (eval (Expr.ListComp _ _ _ _) _) _ _ _)); (fail_if_success (with_reducible show wpAny _ _ (call (Value.builtin "list.append") _) _ _ _)); (fail_if_success (with_reducible show wpAny _ _ (setItem _ _ _) _ _ _)); (fail_if_success (with_reducible show wpAny _ _ (subscriptTail _ _ (Value.ref _) (Value.int _ _)) _ _ _)); (fail_if_success (with_reducible show wpAny _ _ (compareOp CmpOp.In _ (Value.ref _)) _ _ _)); (fail_if_success (with_reducible show wpAny _ _ (getMethod (Value.ref _) (Str.ofString "append") _) _ _ _)); (fail_if_success (with_reducible show wpAny _ _ (call (Value.builtin "sorted") _) _ _ _)); (fail_if_success (with_reducible show wpAny _ _ (call (Value.builtin "len") [Value.ref _]) _ _ _)); (fail_if_success (with_reducible show wpAny _ _ (assign (Expr.Tuple _ _ _) _ (Value.ref _)) _ _ _)); walk_at "STEP"))
      refine For_turns F' ?_
      (repeat' ((fail_if_success (with_reducible show wpAny _ _ (exec (Stmt.Assign _ (Expr.ListComp _ _ _ _) _) _) _ _ _)); (fail_if_success (with_reducible show wpAny _ _ (eval (Expr.ListComp _ _ _ _) _) _ _ _)); (fail_if_success (with_reducible show wpAny _ _ (call (Value.builtin "list.append") _) _ _ _)); (fail_if_success (with_reducible show wpAny _ _ (setItem _ _ _) _ _ _)); (fail_if_success (with_reducible show wpAny _ _ (subscriptTail _ _ (Value.ref _) (Value.int _ _)) _ _ _)); (fail_if_success (with_reducible show wpAny _ _ (compareOp CmpOp.In _ (Value.ref _)) _ _ _)); (fail_if_success (with_reducible show wpAny _ _ (getMethod (Value.ref _) (Str.ofString "append") _) _ _ _)); (fail_if_success (with_reducible show wpAny _ _ (call (Value.builtin "sorted") _) _ _ _)); (fail_if_success (with_reducible show wpAny _ _ (call (Value.builtin "len") [Value.ref _]) _ _ _)); (fail_if_success (with_reducible show wpAny _ _ (assign (Expr.Tuple _ _ _) _ (Value.ref _)) _ _ _)); walk_at "STEP"))
      rename Fr s1.heap _ _ _ => F6
      rename News s1.heap _ _ _ => N6
      have hk5 : ∀ p ∈ lawPs nl op ta la c, mOf F6 p.1 = some p.2 := all6 rfl rfl rfl rfl rfl rfl
      refine turns_rangeF (σ := Unit) (n := 4) (fun _ => lawPs nl op ta la c) (fun _ => lawLed ta la c)
        (fun _ _ => True) () rfl (by assumption) (by decide) (by decide) F6 N6 hk5 trivial ?_ ?_
      · rintro f t ⟨⟩ um hh tk5 own I hi - hw hI ho F' N'
        refine gen_turn ?_; intro Q8 hQ8
        clear hk5 F6 N6
        dsimp only [kstB, lawPs] at F'
        have ei : (0 : Int) + (f : Int) * 1 = (f : Int) := by omega
        rw [ei]
        dsimp only [lawLed] at N' hw ho
        have hfl : c.fl.length = 4 := hok.flen
        (refine pk ?_; intro G9 hG9)
        obtain ⟨fx, hfx⟩ : ∃ q, c.fl[f]? = some q := ⟨_, List.getElem?_eq_getElem (by omega)⟩
        obtain ⟨⟨xt1, xt2, xt3, hxl⟩, hxm⟩ := hok.laid fx (List.mem_of_getElem? hfx)
        have hpx : (c.fl.map (·.p))[f]? = some fx.p := by rw [List.getElem?_map, hfx]; rfl
        have hxlv := (hok.inv.row f fx.p hpx).2
        obtain ⟨hb1, hb2, hb3, hb4⟩ := hok.bnd
        have hcl : c.ls.length = cnt := (lvls_len hok).1
        obtain ⟨qx, hqx⟩ : ∃ q, c.ls[fx.p.lv]? = some q := ⟨_, List.getElem?_eq_getElem (by omega)⟩
        have hmem : yOf f fx.p ∈ qx.2 := (hok.inv.mem fx.p.lv qx.2 (by rw [List.getElem?_map, hqx]; rfl) (yOf f fx.p)).mpr ⟨f, fx.p, hpx, rfl, rfl⟩
        obtain ⟨vdx, vn, t1, t2, t3, t4, t5', t6, tn, fa, nf, tr, sc, ns', tta, ttb, sa, v1, v2, v3, v4, v5, v6, v7⟩ := hok.ver
        obtain ⟨tl1, htl1⟩ : ∃ tl1 : Led, tl1 = own ++ (ta, listOf (tabRefs c.fl).toArray c.c1) :: (la, listOf (laidRefs c.fl).toArray c.c2) :: c.led := ⟨_, rfl⟩
        (refine hG9 ?_; clear hG9)
        rw [← htl1] at N'
        have hled : ∀ p ∈ c.led, p ∈ tl1 := fun p hp => htl1 ▸ List.mem_append_right _ (.tail _ (.tail _ hp))
        have hla : (la, listOf (laidRefs c.fl).toArray c.c2) ∈ tl1 := htl1 ▸ List.mem_append_right _ (.tail _ (.head _))
        have N6 := news_front (news_front (news_front N' (hled _ v2)) (.tail _ (hled _ v1))) (.tail _ (.tail _ hla))
        clear N'
        (repeat' ((fail_if_success (with_reducible show wpAny _ _ (exec (Stmt.Assign _ (Expr.ListComp _ _ _ _) _) _) _ _ _)); (fail_if_success (with_reducible show wpAny _ _ (eval (Expr.ListComp _ _ _ _) _) _ _ _)); (fail_if_success (with_reducible show wpAny _ _ (call (Value.builtin "list.append") _) _ _ _)); (fail_if_success (with_reducible show wpAny _ _ (setItem _ _ _) _ _ _)); (fail_if_success (with_reducible show wpAny _ _ (subscriptTail _ _ (Value.ref _) (Value.int _ _)) _ _ _)); (fail_if_success (with_reducible show wpAny _ _ (compareOp CmpOp.In _ (Value.ref _)) _ _ _)); (fail_if_success (with_reducible show wpAny _ _ (getMethod (Value.ref _) (Str.ofString "append") _) _ _ _)); (fail_if_success (with_reducible show wpAny _ _ (call (Value.builtin "sorted") _) _ _ _)); (fail_if_success (with_reducible show wpAny _ _ (call (Value.builtin "len") [Value.ref _]) _ _ _)); (fail_if_success (with_reducible show wpAny _ _ (assign (Expr.Tuple _ _ _) _ (Value.ref _)) _ _ _)); walk_at "STEP"))
        k_dflt (refine LCg.ListComp_U (F₀ := by k_asm) (by with_unfolding_all rfl) (by decide) (by rfl) (by decide) (by rfl) ?_)
        (repeat' ((fail_if_success (with_reducible show wpAny _ _ (exec (Stmt.Assign _ (Expr.ListComp _ _ _ _) _) _) _ _ _)); (fail_if_success (with_reducible show wpAny _ _ (eval (Expr.ListComp _ _ _ _) _) _ _ _)); (fail_if_success (with_reducible show wpAny _ _ (call (Value.builtin "list.append") _) _ _ _)); (fail_if_success (with_reducible show wpAny _ _ (setItem _ _ _) _ _ _)); (fail_if_success (with_reducible show wpAny _ _ (subscriptTail _ _ (Value.ref _) (Value.int _ _)) _ _ _)); (fail_if_success (with_reducible show wpAny _ _ (compareOp CmpOp.In _ (Value.ref _)) _ _ _)); (fail_if_success (with_reducible show wpAny _ _ (getMethod (Value.ref _) (Str.ofString "append") _) _ _ _)); (fail_if_success (with_reducible show wpAny _ _ (call (Value.builtin "sorted") _) _ _ _)); (fail_if_success (with_reducible show wpAny _ _ (call (Value.builtin "len") [Value.ref _]) _ _ _)); (fail_if_success (with_reducible show wpAny _ _ (assign (Expr.Tuple _ _ _) _ (Value.ref _)) _ _ _)); walk_at "STEP"))
        rename News s1.heap _ _ _ => N7
        refine item_any (N7 _ (.head _)).1 (k := f) (x := .ref fx.lt) (by rw [List.getElem?_map, hfx]; rfl) (by omega) ?_
        (repeat' ((fail_if_success (with_reducible show wpAny _ _ (exec (Stmt.Assign _ (Expr.ListComp _ _ _ _) _) _) _ _ _)); (fail_if_success (with_reducible show wpAny _ _ (eval (Expr.ListComp _ _ _ _) _) _ _ _)); (fail_if_success (with_reducible show wpAny _ _ (call (Value.builtin "list.append") _) _ _ _)); (fail_if_success (with_reducible show wpAny _ _ (setItem _ _ _) _ _ _)); (fail_if_success (with_reducible show wpAny _ _ (subscriptTail _ _ (Value.ref _) (Value.int _ _)) _ _ _)); (fail_if_success (with_reducible show wpAny _ _ (compareOp CmpOp.In _ (Value.ref _)) _ _ _)); (fail_if_success (with_reducible show wpAny _ _ (getMethod (Value.ref _) (Str.ofString "append") _) _ _ _)); (fail_if_success (with_reducible show wpAny _ _ (call (Value.builtin "sorted") _) _ _ _)); (fail_if_success (with_reducible show wpAny _ _ (call (Value.builtin "len") [Value.ref _]) _ _ _)); (fail_if_success (with_reducible show wpAny _ _ (assign (Expr.Tuple _ _ _) _ (Value.ref _)) _ _ _)); walk_at "STEP"))
        rename News s1.heap _ _ _ => N8
        refine item_tupleT (tup_of_news N8 (.tail _ (.tail _ (.tail _ (hled _ hxl))))) (by decide) (by decide) (j := 2) rfl rfl ?_
        (repeat' ((fail_if_success (with_reducible show wpAny _ _ (exec (Stmt.Assign _ (Expr.ListComp _ _ _ _) _) _) _ _ _)); (fail_if_success (with_reducible show wpAny _ _ (eval (Expr.ListComp _ _ _ _) _) _ _ _)); (fail_if_success (with_reducible show wpAny _ _ (call (Value.builtin "list.append") _) _ _ _)); (fail_if_success (with_reducible show wpAny _ _ (setItem _ _ _) _ _ _)); (fail_if_success (with_reducible show wpAny _ _ (subscriptTail _ _ (Value.ref _) (Value.int _ _)) _ _ _)); (fail_if_success (with_reducible show wpAny _ _ (compareOp CmpOp.In _ (Value.ref _)) _ _ _)); (fail_if_success (with_reducible show wpAny _ _ (getMethod (Value.ref _) (Str.ofString "append") _) _ _ _)); (fail_if_success (with_reducible show wpAny _ _ (call (Value.builtin "sorted") _) _ _ _)); (fail_if_success (with_reducible show wpAny _ _ (call (Value.builtin "len") [Value.ref _]) _ _ _)); (fail_if_success (with_reducible show wpAny _ _ (assign (Expr.Tuple _ _ _) _ (Value.ref _)) _ _ _)); walk_at "STEP"))
        rename News s1.heap _ _ _ => N9
        refine item_any (N9 _ (.tail _ (.tail _ (.tail _ (hled _ v4))))).1 (k := fx.p.lv) (x := .ref qx.1) (by rw [List.getElem?_map, hqx]; rfl) (by omega) ?_
        (refine pk ?_; intro G9 hG9)
        obtain ⟨⟨fn, hf1⟩, hf2⟩ := v6 qx (List.mem_of_getElem? hqx)
        (refine hG9 ?_; clear hG9)
        have hzq : qx.2.length ≤ 1000 := by have := numsOfL_len_mem (List.mem_of_getElem? hqx); have := (lvls_len hok).2; omega
        refine LCg.CompSrc.ledger (its := (refsOf qx.2).toArray) (by rfl) (by assumption) N9 (.tail _ (.tail _ (.tail _ (hled _ hf1)))) (by rw [List.size_toArray, List.length_map, sizeLine_eq]; omega) ?_
        intro g'
        refine comp_nums qx.2 _ (.inr ⟨_, .tail _ (.tail _ (.tail _ (hled _ hf1))), rfl, fn, rfl⟩) ?_ ?_
        · intro j e ys CI coI CC coC CD cm hh6 tk6 E' he hC hx F' N' off' ne'
          (refine pk ?_; intro G9 hG9)
          obtain ⟨mdx, mdn, mt1, mt2, mt3, mt4, mtn, mts, mta, mtb, j1, j2, j3⟩ := hf2 e (List.mem_of_getElem? he)
          (refine hG9 ?_; clear hG9)
          have N10 := news_front (news_front N' (.tail _ (.tail _ (.tail _ (.tail _ (.tail _ (.tail _ (hled _ j2)))))))) (.tail _ (.tail _ (.tail _ (.tail _ (.tail _ (.tail _ (.tail _ (hled _ j1))))))))
          clear N'
          try dsimp only
          walk_at "STEP"
          try dsimp only
          (repeat' ((fail_if_success (with_reducible show wpAny _ _ (exec (Stmt.Assign _ (Expr.ListComp _ _ _ _) _) _) _ _ _)); (fail_if_success (with_reducible show wpAny _ _ (eval (Expr.ListComp _ _ _ _) _) _ _ _)); (fail_if_success (with_reducible show wpAny _ _ (call (Value.builtin "list.append") _) _ _ _)); (fail_if_success (with_reducible show wpAny _ _ (setItem _ _ _) _ _ _)); (fail_if_success (with_reducible show wpAny _ _ (subscriptTail _ _ (Value.ref _) (Value.int _ _)) _ _ _)); (fail_if_success (with_reducible show wpAny _ _ (compareOp CmpOp.In _ (Value.ref _)) _ _ _)); (fail_if_success (with_reducible show wpAny _ _ (getMethod (Value.ref _) (Str.ofString "append") _) _ _ _)); (fail_if_success (with_reducible show wpAny _ _ (call (Value.builtin "sorted") _) _ _ _)); (fail_if_success (with_reducible show wpAny _ _ (call (Value.builtin "len") [Value.ref _]) _ _ _)); (fail_if_success (with_reducible show wpAny _ _ (assign (Expr.Tuple _ _ _) _ (Value.ref _)) _ _ _)); walk_at "STEP"))
          all_goals first | assumption | exact fun p hp => N10 p (.tail _ (.tail _ hp))
        · intro ys hys
          repeat' ((fail_if_success (with_reducible show wpAny _ _ (compareOp CmpOp.NotIn _ _) _ _ _)); walk_at "STEP")
          rename Fr s1.heap _ _ _ => F8
          rename News s1.heap _ _ _ => N8
          have hin : ((numsX qx.2).any fun n => n == 7 + (f : Int)) = true := List.any_eq_true.mpr ⟨_, List.mem_map_of_mem hmem, beq_self_eq_true _⟩
          refine notin_list_ints (ns := numsX qx.2) ⟨_, (N8 _ (.head _)).1, rfl, _, rfl⟩ hys.are ?_
          rw [hin]
          (repeat' ((fail_if_success (with_reducible show wpAny _ _ (exec (Stmt.Assign _ (Expr.ListComp _ _ _ _) _) _) _ _ _)); (fail_if_success (with_reducible show wpAny _ _ (eval (Expr.ListComp _ _ _ _) _) _ _ _)); (fail_if_success (with_reducible show wpAny _ _ (call (Value.builtin "list.append") _) _ _ _)); (fail_if_success (with_reducible show wpAny _ _ (setItem _ _ _) _ _ _)); (fail_if_success (with_reducible show wpAny _ _ (subscriptTail _ _ (Value.ref _) (Value.int _ _)) _ _ _)); (fail_if_success (with_reducible show wpAny _ _ (compareOp CmpOp.In _ (Value.ref _)) _ _ _)); (fail_if_success (with_reducible show wpAny _ _ (getMethod (Value.ref _) (Str.ofString "append") _) _ _ _)); (fail_if_success (with_reducible show wpAny _ _ (call (Value.builtin "sorted") _) _ _ _)); (fail_if_success (with_reducible show wpAny _ _ (call (Value.builtin "len") [Value.ref _]) _ _ _)); (fail_if_success (with_reducible show wpAny _ _ (assign (Expr.Tuple _ _ _) _ (Value.ref _)) _ _ _)); walk_at "STEP"))
          rename Fr s1.heap _ _ _ => F9
          rename News s1.heap _ _ _ => N9
          have hk9 : ∀ p ∈ lawPs nl op ta la c, mOf F9 p.1 = some p.2 := all6 rfl rfl rfl rfl rfl rfl
          refine TurnG.intro () F9 (fun p hp => N9 p (.tail _ (.tail _ (.tail _ (.tail _ hp))))) (fun p hp => htl1 ▸ List.mem_append_left _ hp) (fun p hp => htl1 ▸ List.mem_append_right _ hp) (fun p hp h => hw p hp (List.mem_singleton.mp h)) hk9 trivial
      · rintro ⟨⟩ um hh tk5 - F' N'
        clear hk5 F6 N6
        (repeat' ((fail_if_success (with_reducible show wpAny _ _ (exec (Stmt.Assign _ (Expr.ListComp _ _ _ _) _) _) _ _ _)); (fail_if_success (with_reducible show wpAny _ _ (eval (Expr.ListComp _ _ _ _) _) _ _ _)); (fail_if_success (with_reducible show wpAny _ _ (call (Value.builtin "list.append") _) _ _ _)); (fail_if_success (with_reducible show wpAny _ _ (setItem _ _ _) _ _ _)); (fail_if_success (with_reducible show wpAny _ _ (subscriptTail _ _ (Value.ref _) (Value.int _ _)) _ _ _)); (fail_if_success (with_reducible show wpAny _ _ (compareOp CmpOp.In _ (Value.ref _)) _ _ _)); (fail_if_success (with_reducible show wpAny _ _ (getMethod (Value.ref _) (Str.ofString "append") _) _ _ _)); (fail_if_success (with_reducible show wpAny _ _ (call (Value.builtin "sorted") _) _ _ _)); (fail_if_success (with_reducible show wpAny _ _ (call (Value.builtin "len") [Value.ref _]) _ _ _)); (fail_if_success (with_reducible show wpAny _ _ (assign (Expr.Tuple _ _ _) _ (Value.ref _)) _ _ _)); walk_at "STEP"))
        exact ⟨rfl, hh, tk5, _, cnt, mm, mf, nl, op, ord, ta, la, c, rfl, F', N', hok⟩
  clear F' N' hok
  rintro fl s' ⟨rfl, h', tk', um, cnt, mm, mf, nl, op, ord, ta, la, c, rfl, F', N', hok⟩
  dsimp only [List.drop]
  refine wp_cut 1 (QA := LawAt w s1 4) ?_ ?_
  · dsimp only [List.take]
    as_aux_lemma =>
      (repeat' ((fail_if_success (with_reducible show wpAny _ _ (exec (Stmt.Assign _ (Expr.ListComp _ _ _ _) _) _) _ _ _)); (fail_if_success (with_reducible show wpAny _ _ (eval (Expr.ListComp _ _ _ _) _) _ _ _)); (fail_if_success (with_reducible show wpAny _ _ (call (Value.builtin "list.append") _) _ _ _)); (fail_if_success (with_reducible show wpAny _ _ (setItem _ _ _) _ _ _)); (fail_if_success (with_reducible show wpAny _ _ (subscriptTail _ _ (Value.ref _) (Value.int _ _)) _ _ _)); (fail_if_success (with_reducible show wpAny _ _ (compareOp CmpOp.In _ (Value.ref _)) _ _ _)); (fail_if_success (with_reducible show wpAny _ _ (getMethod (Value.ref _) (Str.ofString "append") _) _ _ _)); (fail_if_success (with_reducible show wpAny _ _ (call (Value.builtin "sorted") _) _ _ _)); (fail_if_success (with_reducible show wpAny _ _ (call (Value.builtin "len") [Value.ref _]) _ _ _)); (fail_if_success (with_reducible show wpAny _ _ (assign (Expr.Tuple _ _ _) _ (Value.ref _)) _ _ _)); walk_at "STEP"))
      refine For_turns F' ?_
      (repeat' ((fail_if_success (with_reducible show wpAny _ _ (exec (Stmt.Assign _ (Expr.ListComp _ _ _ _) _) _) _ _ _)); (fail_if_success (with_reducible show wpAny _ _ (eval (Expr.ListComp _ _ _ _) _) _ _ _)); (fail_if_success (with_reducible show wpAny _ _ (call (Value.builtin "list.append") _) _ _ _)); (fail_if_success (with_reducible show wpAny _ _ (setItem _ _ _) _ _ _)); (fail_if_success (with_reducible show wpAny _ _ (subscriptTail _ _ (Value.ref _) (Value.int _ _)) _ _ _)); (fail_if_success (with_reducible show wpAny _ _ (compareOp CmpOp.In _ (Value.ref _)) _ _ _)); (fail_if_success (with_reducible show wpAny _ _ (getMethod (Value.ref _) (Str.ofString "append") _) _ _ _)); (fail_if_success (with_reducible show wpAny _ _ (call (Value.builtin "sorted") _) _ _ _)); (fail_if_success (with_reducible show wpAny _ _ (call (Value.builtin "len") [Value.ref _]) _ _ _)); (fail_if_success (with_reducible show wpAny _ _ (assign (Expr.Tuple _ _ _) _ (Value.ref _)) _ _ _)); walk_at "STEP"))
      rename Fr s1.heap _ _ _ => F6
      rename News s1.heap _ _ _ => N6
      have hk5 : ∀ p ∈ lawPs nl op ta la c, mOf F6 p.1 = some p.2 := all6 rfl rfl rfl rfl rfl rfl
      refine turns_rangeF (σ := Unit) (n := 4) (fun _ => lawPs nl op ta la c) (fun _ => lawLed ta la c)
        (fun _ _ => True) () rfl (by assumption) (by decide) (by decide) F6 N6 hk5 trivial ?_ ?_
      · rintro f t ⟨⟩ um hh tk5 own I hi - hw hI ho F' N'
        refine gen_turn ?_; intro Q8 hQ8
        clear hk5 F6 N6
        dsimp only [kstB, lawPs] at F'
        have ei : (0 : Int) + (f : Int) * 1 = (f : Int) := by omega
        rw [ei]
        dsimp only [lawLed] at N' hw ho
        (refine pk ?_; intro G9 hG9)
        obtain ⟨vs, ns, nn, hn1, hn2, hn3, hn4, hn5⟩ := hok.nums
        obtain ⟨tl1, htl1⟩ : ∃ tl1 : Led, tl1 = own ++ (ta, listOf (tabRefs c.fl).toArray c.c1) :: (la, listOf (laidRefs c.fl).toArray c.c2) :: c.led := ⟨_, rfl⟩
        (refine hG9 ?_; clear hG9)
        rw [← htl1] at N'
        have hled : ∀ p ∈ c.led, p ∈ tl1 := fun p hp => htl1 ▸ List.mem_append_right _ (.tail _ (.tail _ hp))
        have hta : (ta, listOf (tabRefs c.fl).toArray c.c1) ∈ tl1 := htl1 ▸ List.mem_append_right _ (.head _)
        have hlawL : ∀ p ∈ lawLed ta la c, p ∈ tl1 := fun p hp => htl1 ▸ List.mem_append_right _ hp
        have hown : ∀ p ∈ own, p ∈ tl1 := fun p hp => htl1 ▸ List.mem_append_left _ hp
        clear htl1
        (repeat' ((fail_if_success (with_reducible show wpAny _ _ (exec (Stmt.Assign _ (Expr.ListComp _ _ _ _) _) _) _ _ _)); (fail_if_success (with_reducible show wpAny _ _ (eval (Expr.ListComp _ _ _ _) _) _ _ _)); (fail_if_success (with_reducible show wpAny _ _ (call (Value.builtin "list.append") _) _ _ _)); (fail_if_success (with_reducible show wpAny _ _ (setItem _ _ _) _ _ _)); (fail_if_success (with_reducible show wpAny _ _ (subscriptTail _ _ (Value.ref _) (Value.int _ _)) _ _ _)); (fail_if_success (with_reducible show wpAny _ _ (compareOp CmpOp.In _ (Value.ref _)) _ _ _)); (fail_if_success (with_reducible show wpAny _ _ (getMethod (Value.ref _) (Str.ofString "append") _) _ _ _)); (fail_if_success (with_reducible show wpAny _ _ (call (Value.builtin "sorted") _) _ _ _)); (fail_if_success (with_reducible show wpAny _ _ (call (Value.builtin "len") [Value.ref _]) _ _ _)); (fail_if_success (with_reducible show wpAny _ _ (assign (Expr.Tuple _ _ _) _ (Value.ref _)) _ _ _)); walk_at "STEP"))
        rename News s1.heap _ _ _ => N5
        refine' Spec.useA (draw_spec w (inL c.led) nl vs ns nn (5 + (f : Int)) _ hn1 hn2 hn3 hn4 hn5 (by omega) (by omega)) ?kV ?_
        case kV => exact fun a o h => (N5 _ (hled _ h)).1
        ((try (case kV => exact view_keep hV (by assumption))); intro r9 new9 h9 tk9 F' N' kp9 fr9 P9; (try k_sweep))
        (refine pk ?_; intro G9 hG9)
        obtain ⟨q, qt, rfl, hq⟩ := P9
        (refine hG9 ?_; clear hG9)
        dsimp only
        rename News s1.heap _ _ _ => N8
        have N9 := news_sub (news' := tl1) N8 fun p hp => List.mem_append_right _ hp
        clear N8 kp9 fr9
        have q1 := Int.fmod_nonneg_of_pos (q : Int) (by decide : (0 : Int) < 5)
        have q2 := Int.fmod_lt_of_pos (q : Int) (by decide : (0 : Int) < 5)
        have q3 := Int.fmod_nonneg_of_pos ((q : Int).fdiv 5) (by decide : (0 : Int) < 10)
        have q4 := Int.fmod_lt_of_pos ((q : Int).fdiv 5) (by decide : (0 : Int) < 10)
        (refine pk ?_; intro G9 hG9)
        obtain ⟨u, hu⟩ : ∃ u : Nat, (q : Int).fmod 5 = (u : Int) := ⟨_, (Int.toNat_of_nonneg q1).symm⟩
        obtain ⟨mq, hmq⟩ : ∃ mq : Nat, ((q : Int).fdiv 5).fmod 10 = (mq : Int) := ⟨_, (Int.toNat_of_nonneg q3).symm⟩
        (refine hG9 ?_; clear hG9)
        have hu5 : u < 5 := by omega
        have hm10 : mq < 10 := by omega
        have hneg : (0 : Int) - (mq : Int) = -(mq : Int) := by omega
        (repeat' ((fail_if_success (with_reducible show wpAny _ _ (exec (Stmt.Assign _ (Expr.ListComp _ _ _ _) _) _) _ _ _)); (fail_if_success (with_reducible show wpAny _ _ (eval (Expr.ListComp _ _ _ _) _) _ _ _)); (fail_if_success (with_reducible show wpAny _ _ (call (Value.builtin "list.append") _) _ _ _)); (fail_if_success (with_reducible show wpAny _ _ (setItem _ _ _) _ _ _)); (fail_if_success (with_reducible show wpAny _ _ (subscriptTail _ _ (Value.ref _) (Value.int _ _)) _ _ _)); (fail_if_success (with_reducible show wpAny _ _ (compareOp CmpOp.In _ (Value.ref _)) _ _ _)); (fail_if_success (with_reducible show wpAny _ _ (getMethod (Value.ref _) (Str.ofString "append") _) _ _ _)); (fail_if_success (with_reducible show wpAny _ _ (call (Value.builtin "sorted") _) _ _ _)); (fail_if_success (with_reducible show wpAny _ _ (call (Value.builtin "len") [Value.ref _]) _ _ _)); (fail_if_success (with_reducible show wpAny _ _ (assign (Expr.Tuple _ _ _) _ (Value.ref _)) _ _ _)); walk_at "STEP"))
        rename Fr s1.heap _ _ _ => F5
        rename News s1.heap _ _ _ => N5
        dsimp +zetaDelta only at F5
        rw [hu, hmq, hneg] at F5
        rw [hu, hmq, hneg]
        obtain ⟨d, hd⟩ : ∃ d : Bool, (((q : Int).fdiv 50).fmod 2 == 1) = d := ⟨_, rfl⟩
        rw [hd]
        refine' Spec.useA (cache_spec w (inL ((ta, listOf (tabRefs c.fl).toArray c.c1) :: c.led)) ta (tabsX c.fl) u mq d _ _ (law_tabs hok) hu5 (by rw [List.length_map]; have := hok.flen; omega)) ?kV ?_
        case kV => exact fun a o h => (List.mem_cons.mp h).elim (fun e => by cases e; exact (N5 _ hta).1) fun h => (N5 _ (hled _ h)).1
        ((try (case kV => exact view_keep hV (by assumption))); intro r9 new9 h9 tk9 F' N' kp9 fr9 P9; (try k_sweep))
        (refine pk ?_; intro G9 hG9)
        obtain ⟨cad, kvs, rfl, hcd, hce⟩ := P9
        (refine hG9 ?_; clear hG9)
        obtain ⟨newC, hnC⟩ : ∃ X : Led, X = new9 := ⟨_, rfl⟩
        subst hnC
        dsimp only
        rename News s1.heap _ _ _ => N8
        obtain ⟨tl2, htl2⟩ : ∃ tl2 : Led, tl2 = newC ++ tl1 := ⟨_, rfl⟩
        rw [← htl2] at N8
        have hc2 : ∀ p ∈ newC, p ∈ tl2 := fun p hp => htl2 ▸ List.mem_append_left _ hp
        have ht2 : ∀ p ∈ tl1, p ∈ tl2 := fun p hp => htl2 ▸ List.mem_append_right _ hp
        have hl2 : ∀ p ∈ c.led, p ∈ tl2 := fun p hp => ht2 p (hled p hp)
        clear htl2 kp9 fr9
        (refine pk ?_; intro G9 hG9)
        obtain ⟨vdx, vn, t1, t2, t3, t4, t5', t6, tn, fa, nf, tr, sc, ns', tta, ttb, sa, v1, v2, v3, v4, v5, v6, v7⟩ := hok.ver
        (refine hG9 ?_; clear hG9)
        have N6 := news_front (news_front N8 (hl2 _ v2)) (.tail _ (hl2 _ v1))
        clear N8
        (repeat' ((fail_if_success (with_reducible show wpAny _ _ (exec (Stmt.Assign _ (Expr.ListComp _ _ _ _) _) _) _ _ _)); (fail_if_success (with_reducible show wpAny _ _ (eval (Expr.ListComp _ _ _ _) _) _ _ _)); (fail_if_success (with_reducible show wpAny _ _ (call (Value.builtin "list.append") _) _ _ _)); (fail_if_success (with_reducible show wpAny _ _ (setItem _ _ _) _ _ _)); (fail_if_success (with_reducible show wpAny _ _ (subscriptTail _ _ (Value.ref _) (Value.int _ _)) _ _ _)); (fail_if_success (with_reducible show wpAny _ _ (compareOp CmpOp.In _ (Value.ref _)) _ _ _)); (fail_if_success (with_reducible show wpAny _ _ (getMethod (Value.ref _) (Str.ofString "append") _) _ _ _)); (fail_if_success (with_reducible show wpAny _ _ (call (Value.builtin "sorted") _) _ _ _)); (fail_if_success (with_reducible show wpAny _ _ (call (Value.builtin "len") [Value.ref _]) _ _ _)); (fail_if_success (with_reducible show wpAny _ _ (assign (Expr.Tuple _ _ _) _ (Value.ref _)) _ _ _)); walk_at "STEP"))
        rename News s1.heap _ _ _ => N7
        refine' Spec.useA (users_spec w (inL [])) ?kV ?_
        case kV => exact fun _ _ h => nomatch h
        ((try (case kV => exact view_keep hV (by assumption))); intro r9 new9 h9 tk9 F' N' kp9 fr9 P9; (try k_sweep))
        (refine pk ?_; intro G9 hG9)
        obtain ⟨ud, un, utk, rfl, hud⟩ := P9
        (refine hG9 ?_; clear hG9)
        dsimp only
        (repeat' ((fail_if_success (with_reducible show wpAny _ _ (exec (Stmt.Assign _ (Expr.ListComp _ _ _ _) _) _) _ _ _)); (fail_if_success (with_reducible show wpAny _ _ (eval (Expr.ListComp _ _ _ _) _) _ _ _)); (fail_if_success (with_reducible show wpAny _ _ (call (Value.builtin "list.append") _) _ _ _)); (fail_if_success (with_reducible show wpAny _ _ (setItem _ _ _) _ _ _)); (fail_if_success (with_reducible show wpAny _ _ (subscriptTail _ _ (Value.ref _) (Value.int _ _)) _ _ _)); (fail_if_success (with_reducible show wpAny _ _ (compareOp CmpOp.In _ (Value.ref _)) _ _ _)); (fail_if_success (with_reducible show wpAny _ _ (getMethod (Value.ref _) (Str.ofString "append") _) _ _ _)); (fail_if_success (with_reducible show wpAny _ _ (call (Value.builtin "sorted") _) _ _ _)); (fail_if_success (with_reducible show wpAny _ _ (call (Value.builtin "len") [Value.ref _]) _ _ _)); (fail_if_success (with_reducible show wpAny _ _ (assign (Expr.Tuple _ _ _) _ (Value.ref _)) _ _ _)); walk_at "STEP"))
        rename News s1.heap _ _ _ => N5
        refine item_any (N5 _ (List.mem_append_left _ hud)).1 (k := u) (users_at utk hu5) (by omega) ?_
        have N6 := news_sub N5 fun p hp => List.mem_append_right _ hp
        clear N5
        (repeat' ((fail_if_success (with_reducible show wpAny _ _ (exec (Stmt.Assign _ (Expr.ListComp _ _ _ _) _) _) _ _ _)); (fail_if_success (with_reducible show wpAny _ _ (eval (Expr.ListComp _ _ _ _) _) _ _ _)); (fail_if_success (with_reducible show wpAny _ _ (call (Value.builtin "list.append") _) _ _ _)); (fail_if_success (with_reducible show wpAny _ _ (setItem _ _ _) _ _ _)); (fail_if_success (with_reducible show wpAny _ _ (subscriptTail _ _ (Value.ref _) (Value.int _ _)) _ _ _)); (fail_if_success (with_reducible show wpAny _ _ (compareOp CmpOp.In _ (Value.ref _)) _ _ _)); (fail_if_success (with_reducible show wpAny _ _ (getMethod (Value.ref _) (Str.ofString "append") _) _ _ _)); (fail_if_success (with_reducible show wpAny _ _ (call (Value.builtin "sorted") _) _ _ _)); (fail_if_success (with_reducible show wpAny _ _ (call (Value.builtin "len") [Value.ref _]) _ _ _)); (fail_if_success (with_reducible show wpAny _ _ (assign (Expr.Tuple _ _ _) _ (Value.ref _)) _ _ _)); walk_at "STEP"))
        rename News s1.heap _ _ _ => N5
        rw [show (0 : Int) - -(mq : Int) = (mq : Int) by omega]
        (refine pk ?_; intro G9 hG9)
        obtain ⟨hls1, hls2⟩ := lvls_len hok
        obtain ⟨hb1, hb2, hb3, hb4⟩ := hok.bnd
        (refine hG9 ?_; clear hG9)
        have hgs := fun tq : Tok => get_spec w (inL (newC ++ c.led)) c.vx ord cad c.ls kvs (caOf c.fl u mq d) u mq (utk u) tq (hok.ver.mono fun a o h => List.mem_append_right _ h) (by omega) (fun p hp => by have := numsOfL_len_mem hp; omega) (by omega)
          (fun k la xs h0 hk => hok.inv.lk k xs h0 (by rw [List.getElem?_map, hk]; rfl)) hu5 (seq_in hm10) (hcd.mono fun a o h => List.mem_append_left _ h) (law_ents hok fun f p hp => by
            (refine pk ?_; intro G9 hG9)
            obtain ⟨v, h1, h2⟩ := hce f p hp
            (refine hG9 ?_; clear hG9)
            exact ⟨v, h1, h2.mono fun a o h => List.mem_append_left _ h⟩)
        simp only [law_answer hok hu5] at hgs
        refine' Spec.useA (hgs _) ?kV ?_
        case kV => exact fun a o h => (List.mem_append.mp h).elim (fun h => (N5 _ (.tail _ (.tail _ (hc2 _ h)))).1) fun h => (N5 _ (.tail _ (.tail _ (hl2 _ h)))).1
        clear hgs
        ((try (case kV => exact view_keep hV (by assumption))); intro r9 new9 h9 tk9 F' N' kp9 fr9 P9; (try k_sweep))
        (refine pk ?_; intro G9 hG9)
        obtain ⟨ga, gn1, gn2, rfl, hga⟩ := P9
        (refine hG9 ?_; clear hG9)
        dsimp only
        (repeat' ((fail_if_success (with_reducible show wpAny _ _ (exec (Stmt.Assign _ (Expr.ListComp _ _ _ _) _) _) _ _ _)); (fail_if_success (with_reducible show wpAny _ _ (eval (Expr.ListComp _ _ _ _) _) _ _ _)); (fail_if_success (with_reducible show wpAny _ _ (call (Value.builtin "list.append") _) _ _ _)); (fail_if_success (with_reducible show wpAny _ _ (setItem _ _ _) _ _ _)); (fail_if_success (with_reducible show wpAny _ _ (subscriptTail _ _ (Value.ref _) (Value.int _ _)) _ _ _)); (fail_if_success (with_reducible show wpAny _ _ (compareOp CmpOp.In _ (Value.ref _)) _ _ _)); (fail_if_success (with_reducible show wpAny _ _ (getMethod (Value.ref _) (Str.ofString "append") _) _ _ _)); (fail_if_success (with_reducible show wpAny _ _ (call (Value.builtin "sorted") _) _ _ _)); (fail_if_success (with_reducible show wpAny _ _ (call (Value.builtin "len") [Value.ref _]) _ _ _)); (fail_if_success (with_reducible show wpAny _ _ (assign (Expr.Tuple _ _ _) _ (Value.ref _)) _ _ _)); walk_at "STEP"))
        rename News s1.heap _ _ _ => N5
        obtain ⟨newG, hnG⟩ : ∃ X : Led, X = new9 := ⟨_, rfl⟩
        subst hnG
        refine' Spec.useA (told_spec w (inL c.led) c.hl c.hx u mq _ _ hok.hist hu5) ?kV ?_
        case kV => exact fun a o h => (N5 _ (List.mem_append_right _ (.tail _ (.tail _ (hl2 _ h))))).1
        ((try (case kV => exact view_keep hV (by assumption))); intro r9 new9 h9 tk9 F' N' kp9 fr9 P9; (try k_sweep))
        (refine pk ?_; intro G9 hG9)
        obtain ⟨tc, rfl, htc⟩ := P9
        (refine hG9 ?_; clear hG9)
        dsimp only
        repeat' ((fail_if_success (with_reducible show wpAny _ _ (compareOp CmpOp.NotEq (Value.ref _) (Value.ref _)) _ _ _)); walk_at "STEP")
        rename News s1.heap _ _ _ => N8
        refine ne_same3 (N8 _ (List.mem_append_right _ (List.mem_append_left _ hga))).1 (N8 _ (List.mem_append_left _ htc)).1 (by walk_at "ROOM") ?_
        (repeat' ((fail_if_success (with_reducible show wpAny _ _ (exec (Stmt.Assign _ (Expr.ListComp _ _ _ _) _) _) _ _ _)); (fail_if_success (with_reducible show wpAny _ _ (eval (Expr.ListComp _ _ _ _) _) _ _ _)); (fail_if_success (with_reducible show wpAny _ _ (call (Value.builtin "list.append") _) _ _ _)); (fail_if_success (with_reducible show wpAny _ _ (setItem _ _ _) _ _ _)); (fail_if_success (with_reducible show wpAny _ _ (subscriptTail _ _ (Value.ref _) (Value.int _ _)) _ _ _)); (fail_if_success (with_reducible show wpAny _ _ (compareOp CmpOp.In _ (Value.ref _)) _ _ _)); (fail_if_success (with_reducible show wpAny _ _ (getMethod (Value.ref _) (Str.ofString "append") _) _ _ _)); (fail_if_success (with_reducible show wpAny _ _ (call (Value.builtin "sorted") _) _ _ _)); (fail_if_success (with_reducible show wpAny _ _ (call (Value.builtin "len") [Value.ref _]) _ _ _)); (fail_if_success (with_reducible show wpAny _ _ (assign (Expr.Tuple _ _ _) _ (Value.ref _)) _ _ _)); walk_at "STEP"))
        rename Fr s1.heap _ _ _ => F9
        rename News s1.heap _ _ _ => N9
        have hk9 : ∀ p ∈ lawPs nl op ta la c, mOf F9 p.1 = some p.2 := all6 rfl rfl rfl rfl rfl rfl
        refine TurnG.intro () F9 (fun p hp => N9 p (List.mem_append_right _ (List.mem_append_right _ (.tail _ (.tail _ (ht2 _ hp)))))) (fun p hp => hown p hp) (fun p hp => hlawL p hp) (fun p hp h => hw p hp (List.mem_singleton.mp h)) hk9 trivial
      · rintro ⟨⟩ um hh tk5 - F' N'
        clear hk5 F6 N6
        (repeat' ((fail_if_success (with_reducible show wpAny _ _ (exec (Stmt.Assign _ (Expr.ListComp _ _ _ _) _) _) _ _ _)); (fail_if_success (with_reducible show wpAny _ _ (eval (Expr.ListComp _ _ _ _) _) _ _ _)); (fail_if_success (with_reducible show wpAny _ _ (call (Value.builtin "list.append") _) _ _ _)); (fail_if_success (with_reducible show wpAny _ _ (setItem _ _ _) _ _ _)); (fail_if_success (with_reducible show wpAny _ _ (subscriptTail _ _ (Value.ref _) (Value.int _ _)) _ _ _)); (fail_if_success (with_reducible show wpAny _ _ (compareOp CmpOp.In _ (Value.ref _)) _ _ _)); (fail_if_success (with_reducible show wpAny _ _ (getMethod (Value.ref _) (Str.ofString "append") _) _ _ _)); (fail_if_success (with_reducible show wpAny _ _ (call (Value.builtin "sorted") _) _ _ _)); (fail_if_success (with_reducible show wpAny _ _ (call (Value.builtin "len") [Value.ref _]) _ _ _)); (fail_if_success (with_reducible show wpAny _ _ (assign (Expr.Tuple _ _ _) _ (Value.ref _)) _ _ _)); walk_at "STEP"))
        exact ⟨rfl, hh, tk5, _, cnt, mm, mf, nl, op, ord, ta, la, c, rfl, F', N', hok⟩
  clear F' N' hok
  rintro fl s' ⟨rfl, h', tk', um, cnt, mm, mf, nl, op, ord, ta, la, c, rfl, F', N', hok⟩
  dsimp only [List.drop]
  (repeat' walk_at "STEP")
  try dsimp only
  (repeat' walk_at "STEP")
  try refine hQ9 _ _ ?_
  exact goodW_bool (by assumption) (by assumption) (fun _ => rfl) (by with_unfolding_all rfl)
end
end Mine
theorem PySem.Challenge.cw_nz0375_01_holds : PySem.Challenge.rw_nz0375_01.Holds :=
  Mine.law_holds
