import PyProof.Rows.All
import Wide.All
import OpenK.AllK
import Wide.FinOn
import Lean
import PySem.Challenge.RW_pb0277_01
open PySem PySem.W PyProof.Rows
set_option Elab.async false
set_option maxRecDepth 100000
set_option maxHeartbeats 0
set_option rowWalk.seconds 0
set_option compiler.extract_closed false
set_option genInjectivity false
set_option genSizeOf false
set_option genSizeOfSpec false
set_option linter.all false
namespace Mine
section
local macro_rules | `(tactic| o_head $_) => `(tactic| assumption)
theorem hd : PySem.Challenge.rw_pb0277_01.row.Holds → PySem.Challenge.rw_pb0277_01.row.Holds := by
  intro h
  k_head
end
end Mine
open PySem.Calls
namespace Mine
namespace t
theorem tw10032110749130606139:True:=⟨⟩
theorem tw10035081960757731234:True:=⟨⟩
theorem tw10041753954890356638:True:=⟨⟩
theorem tw10048045190210065833:True:=⟨⟩
theorem tw10057523630589414627:True:=⟨⟩
theorem tw10088626172295154333:True:=⟨⟩
theorem tw10148360038461659880:True:=⟨⟩
theorem tw10151270453553886041:True:=⟨⟩
theorem tw10199499253055831713:True:=⟨⟩
theorem tw1024333593647811342:True:=⟨⟩
theorem tw10251519937345544129:True:=⟨⟩
theorem tw10255548137780322953:True:=⟨⟩
theorem tw10303118593217332821:True:=⟨⟩
theorem tw10306733208023754254:True:=⟨⟩
theorem tw10331946036207210885:True:=⟨⟩
theorem tw1035546594060132766:True:=⟨⟩
theorem tw10393451681946666362:True:=⟨⟩
theorem tw10395919801620274713:True:=⟨⟩
theorem tw10407492007723431039:True:=⟨⟩
theorem tw10407950262028102945:True:=⟨⟩
theorem tw10411305550413447970:True:=⟨⟩
theorem tw10417194463113361853:True:=⟨⟩
theorem tw10424864984025695361:True:=⟨⟩
theorem tw10432378822608522094:True:=⟨⟩
theorem tw10444745881692918663:True:=⟨⟩
theorem tw10475372196587225067:True:=⟨⟩
theorem tw10484500519408165254:True:=⟨⟩
theorem tw10540586419349000766:True:=⟨⟩
theorem tw10563615123700313624:True:=⟨⟩
theorem tw1059478941996871391:True:=⟨⟩
theorem tw10616771175189657334:True:=⟨⟩
theorem tw10632141893796105518:True:=⟨⟩
theorem tw10689576385892136859:True:=⟨⟩
theorem tw10690352205103100141:True:=⟨⟩
theorem tw10698328449051009877:True:=⟨⟩
theorem tw10707151266043249734:True:=⟨⟩
theorem tw1073537422342354089:True:=⟨⟩
theorem tw10795126936314836811:True:=⟨⟩
theorem tw10825166635892357056:True:=⟨⟩
theorem tw10850573284365932470:True:=⟨⟩
theorem tw10860154099967347284:True:=⟨⟩
theorem tw10887505865754599017:True:=⟨⟩
theorem tw10919514440626259198:True:=⟨⟩
theorem tw10929123074762296239:True:=⟨⟩
theorem tw10936666609889377316:True:=⟨⟩
theorem tw1095572062735071288:True:=⟨⟩
theorem tw10977321126657971894:True:=⟨⟩
theorem tw11032464649671841085:True:=⟨⟩
theorem tw11090215843837524735:True:=⟨⟩
theorem tw11091498178338158701:True:=⟨⟩
theorem tw11096504295191847356:True:=⟨⟩
theorem tw11100816704155064989:True:=⟨⟩
theorem tw11134927608398628971:True:=⟨⟩
theorem tw11144666246068070455:True:=⟨⟩
theorem tw11207803714033056694:True:=⟨⟩
theorem tw11214530551074378736:True:=⟨⟩
theorem tw11214830643865320097:True:=⟨⟩
theorem tw1121687693947301159:True:=⟨⟩
theorem tw11221638331509336719:True:=⟨⟩
theorem tw11248908251462972041:True:=⟨⟩
theorem tw11251763212206469468:True:=⟨⟩
theorem tw11287822397943174223:True:=⟨⟩
theorem tw11326192992270069098:True:=⟨⟩
theorem tw113499539512151625:True:=⟨⟩
theorem tw11391103240747988177:True:=⟨⟩
theorem tw11503472614763083054:True:=⟨⟩
theorem tw11533015933678707760:True:=⟨⟩
theorem tw11539270835194307026:True:=⟨⟩
theorem tw1154766385530239715:True:=⟨⟩
theorem tw11569894722483422133:True:=⟨⟩
theorem tw1160734041549040720:True:=⟨⟩
theorem tw11634478962638451470:True:=⟨⟩
theorem tw11651706205411145038:True:=⟨⟩
theorem tw11669689928384185219:True:=⟨⟩
theorem tw11749522107249993654:True:=⟨⟩
theorem tw11751908540962973557:True:=⟨⟩
theorem tw11752110006643400490:True:=⟨⟩
theorem tw11768667683746883216:True:=⟨⟩
theorem tw11801462856500555422:True:=⟨⟩
theorem tw11814428077274664379:True:=⟨⟩
theorem tw11873888305935695541:True:=⟨⟩
theorem tw11917032101217711428:True:=⟨⟩
theorem tw1194846575482796152:True:=⟨⟩
theorem tw11954563974354092320:True:=⟨⟩
theorem tw11973071949968568264:True:=⟨⟩
theorem tw11976090190550024099:True:=⟨⟩
theorem tw11984616265815269620:True:=⟨⟩
theorem tw12017351982171620213:True:=⟨⟩
theorem tw12033797387551961126:True:=⟨⟩
theorem tw12059890129431931922:True:=⟨⟩
theorem tw12072163389214221923:True:=⟨⟩
theorem tw12180725020135878784:True:=⟨⟩
theorem tw12222196387955896195:True:=⟨⟩
theorem tw12248465176713855973:True:=⟨⟩
theorem tw12260974667849252143:True:=⟨⟩
theorem tw12287841589473425081:True:=⟨⟩
theorem tw12295805389010268595:True:=⟨⟩
theorem tw12315898900300011428:True:=⟨⟩
theorem tw12327133856094396631:True:=⟨⟩
theorem tw12341034504690975228:True:=⟨⟩
theorem tw12399737732321756005:True:=⟨⟩
theorem tw12438107940824330746:True:=⟨⟩
theorem tw12439512732231948027:True:=⟨⟩
theorem tw12445031586567827895:True:=⟨⟩
theorem tw1249583090279196965:True:=⟨⟩
theorem tw12536241781338717954:True:=⟨⟩
theorem tw12537568726671453586:True:=⟨⟩
theorem tw12539456211103441151:True:=⟨⟩
theorem tw12546818603524537029:True:=⟨⟩
theorem tw12548274375298704219:True:=⟨⟩
theorem tw12570831819464518780:True:=⟨⟩
theorem tw12635534454322108716:True:=⟨⟩
theorem tw12643616471600577623:True:=⟨⟩
theorem tw12654488530713614955:True:=⟨⟩
theorem tw1269526868138142313:True:=⟨⟩
theorem tw12698158005455963963:True:=⟨⟩
theorem tw1270927861667604707:True:=⟨⟩
theorem tw12718157187484187486:True:=⟨⟩
theorem tw12725460751592847851:True:=⟨⟩
theorem tw1273227067810302755:True:=⟨⟩
theorem tw12753472356720890912:True:=⟨⟩
theorem tw1285984616298011476:True:=⟨⟩
theorem tw12881447281262955170:True:=⟨⟩
theorem tw12896636891628211620:True:=⟨⟩
theorem tw12917309133896799228:True:=⟨⟩
theorem tw12920343969258928909:True:=⟨⟩
theorem tw12933810477694402998:True:=⟨⟩
theorem tw12951373186386577162:True:=⟨⟩
theorem tw12981251140150442288:True:=⟨⟩
theorem tw12994776630148039171:True:=⟨⟩
theorem tw13003496594420017523:True:=⟨⟩
theorem tw13026307106290632698:True:=⟨⟩
theorem tw1306697635686173151:True:=⟨⟩
theorem tw13096959981146268498:True:=⟨⟩
theorem tw13194390857886826348:True:=⟨⟩
theorem tw1320833447230113300:True:=⟨⟩
theorem tw13248482912371437623:True:=⟨⟩
theorem tw13253804752354173070:True:=⟨⟩
theorem tw13255701560392152062:True:=⟨⟩
theorem tw13265202117867704961:True:=⟨⟩
theorem tw13289782857074281351:True:=⟨⟩
theorem tw13294108383511745824:True:=⟨⟩
theorem tw13309689385600858127:True:=⟨⟩
theorem tw13312010554322680396:True:=⟨⟩
theorem tw13313876636145536556:True:=⟨⟩
theorem tw13343200312959596252:True:=⟨⟩
theorem tw13365555703920005734:True:=⟨⟩
theorem tw13417697705878523536:True:=⟨⟩
theorem tw13456662758692555906:True:=⟨⟩
theorem tw1348008649472942227:True:=⟨⟩
theorem tw13502678062588942747:True:=⟨⟩
theorem tw13528200102818916712:True:=⟨⟩
theorem tw13543534752690129803:True:=⟨⟩
theorem tw13580844260300635540:True:=⟨⟩
theorem tw13591116220866063894:True:=⟨⟩
theorem tw13657071425704192426:True:=⟨⟩
theorem tw13691437984475603554:True:=⟨⟩
theorem tw13735523581171795202:True:=⟨⟩
theorem tw13738231527790111021:True:=⟨⟩
theorem tw13745784543103562952:True:=⟨⟩
theorem tw137637523542946550:True:=⟨⟩
theorem tw13785714486778178510:True:=⟨⟩
theorem tw13796233866835574089:True:=⟨⟩
theorem tw13813480591013695169:True:=⟨⟩
theorem tw13816391290314029581:True:=⟨⟩
theorem tw13834376703629515387:True:=⟨⟩
theorem tw13906246942315958152:True:=⟨⟩
theorem tw13915546998295107782:True:=⟨⟩
theorem tw1392062705186595538:True:=⟨⟩
theorem tw13941094564243875708:True:=⟨⟩
theorem tw1394960588706200559:True:=⟨⟩
theorem tw13987540602641253879:True:=⟨⟩
theorem tw13996007131139766157:True:=⟨⟩
theorem tw14026474505085891787:True:=⟨⟩
theorem tw14029043819483028058:True:=⟨⟩
theorem tw14058643134511302948:True:=⟨⟩
theorem tw1412652793913786208:True:=⟨⟩
theorem tw14202673451165575891:True:=⟨⟩
theorem tw1425564922630358431:True:=⟨⟩
theorem tw14268621268340073097:True:=⟨⟩
theorem tw14272091130685906535:True:=⟨⟩
theorem tw14297440660068681000:True:=⟨⟩
theorem tw1431640871894197620:True:=⟨⟩
theorem tw14317822250061435049:True:=⟨⟩
theorem tw14321417247457888668:True:=⟨⟩
theorem tw14324219730292680086:True:=⟨⟩
theorem tw14358104503110323187:True:=⟨⟩
theorem tw14360452582705570968:True:=⟨⟩
theorem tw14370440272866921319:True:=⟨⟩
theorem tw14404392578945299525:True:=⟨⟩
theorem tw14416589336994836138:True:=⟨⟩
theorem tw14424497484747120675:True:=⟨⟩
theorem tw14520604183109505891:True:=⟨⟩
theorem tw1454213223219910220:True:=⟨⟩
theorem tw14547611199867892253:True:=⟨⟩
theorem tw14562163697410199409:True:=⟨⟩
theorem tw14573984381417846078:True:=⟨⟩
theorem tw14585500971112378551:True:=⟨⟩
theorem tw14594863371044533954:True:=⟨⟩
theorem tw14636283202353201177:True:=⟨⟩
theorem tw14662017540290540177:True:=⟨⟩
theorem tw14669977153419653076:True:=⟨⟩
theorem tw14700540507343753829:True:=⟨⟩
theorem tw14731787122588773562:True:=⟨⟩
theorem tw14747537996636573947:True:=⟨⟩
theorem tw14802843858609238222:True:=⟨⟩
theorem tw14845417977995127743:True:=⟨⟩
theorem tw14862280634691477581:True:=⟨⟩
theorem tw14871251328816965527:True:=⟨⟩
theorem tw14888434258396601769:True:=⟨⟩
theorem tw14901700050931317925:True:=⟨⟩
theorem tw14903861890355198756:True:=⟨⟩
theorem tw14910748621561245974:True:=⟨⟩
theorem tw1491229496488398562:True:=⟨⟩
theorem tw14930403804458874013:True:=⟨⟩
theorem tw1493080058430545528:True:=⟨⟩
theorem tw14937267425431677485:True:=⟨⟩
theorem tw14999658015838719557:True:=⟨⟩
theorem tw1501653894437662218:True:=⟨⟩
theorem tw15048242151928479441:True:=⟨⟩
theorem tw15116892315292367000:True:=⟨⟩
theorem tw15135813511666697341:True:=⟨⟩
theorem tw15198800293104744543:True:=⟨⟩
theorem tw15198974076374539722:True:=⟨⟩
theorem tw15317304689134058550:True:=⟨⟩
theorem tw15322862540050973937:True:=⟨⟩
theorem tw15399285930252966044:True:=⟨⟩
theorem tw15416396835045857388:True:=⟨⟩
theorem tw15428675767691339976:True:=⟨⟩
theorem tw15443618370460905992:True:=⟨⟩
theorem tw15509620800707267869:True:=⟨⟩
theorem tw15523858948417019471:True:=⟨⟩
theorem tw15567623841975074628:True:=⟨⟩
theorem tw15574606245611727671:True:=⟨⟩
theorem tw15613381147273704578:True:=⟨⟩
theorem tw15675871069192222689:True:=⟨⟩
theorem tw15711840384649436349:True:=⟨⟩
theorem tw15737977656012955968:True:=⟨⟩
theorem tw15781977559058247722:True:=⟨⟩
theorem tw1578629435574841185:True:=⟨⟩
theorem tw15797279311667481103:True:=⟨⟩
theorem tw15799254309259826080:True:=⟨⟩
theorem tw15823355144244564892:True:=⟨⟩
theorem tw15844157597705847566:True:=⟨⟩
theorem tw15902025900290729940:True:=⟨⟩
theorem tw15905953535994848541:True:=⟨⟩
theorem tw15922994122626954296:True:=⟨⟩
theorem tw15938348709528978692:True:=⟨⟩
theorem tw15946661969018253987:True:=⟨⟩
theorem tw15951862921473387149:True:=⟨⟩
theorem tw15973955008449220229:True:=⟨⟩
theorem tw16013977173417995212:True:=⟨⟩
theorem tw16016530541445881882:True:=⟨⟩
theorem tw1604679568309815345:True:=⟨⟩
theorem tw16047278608914276003:True:=⟨⟩
theorem tw16130649623855806403:True:=⟨⟩
theorem tw16147026579833606206:True:=⟨⟩
theorem tw16187222284356627979:True:=⟨⟩
theorem tw16188777196982488016:True:=⟨⟩
theorem tw16228211243606073313:True:=⟨⟩
theorem tw16228875905145819412:True:=⟨⟩
theorem tw16234004840018089810:True:=⟨⟩
theorem tw16260446464958161593:True:=⟨⟩
theorem tw16321072744196686365:True:=⟨⟩
theorem tw16348227953199717401:True:=⟨⟩
theorem tw1638691776069158710:True:=⟨⟩
theorem tw16388015995650517708:True:=⟨⟩
theorem tw1643507866249868214:True:=⟨⟩
theorem tw16439864851561094947:True:=⟨⟩
theorem tw16455127737812258269:True:=⟨⟩
theorem tw16495804245011725330:True:=⟨⟩
theorem tw16534400057113985147:True:=⟨⟩
theorem tw16655777344997256494:True:=⟨⟩
theorem tw16658655651822082523:True:=⟨⟩
theorem tw16681791124208089332:True:=⟨⟩
theorem tw16810446176768624907:True:=⟨⟩
theorem tw16823655598308593670:True:=⟨⟩
theorem tw16837042272037624153:True:=⟨⟩
theorem tw16866224180969092560:True:=⟨⟩
theorem tw16866858315059737045:True:=⟨⟩
theorem tw16882096856834268246:True:=⟨⟩
theorem tw16896412874748268072:True:=⟨⟩
theorem tw16897817646149405115:True:=⟨⟩
theorem tw16952424049590657922:True:=⟨⟩
theorem tw16982222559009426401:True:=⟨⟩
theorem tw17011751763303219310:True:=⟨⟩
theorem tw17016392088309994528:True:=⟨⟩
theorem tw17072428195799444662:True:=⟨⟩
theorem tw17115459666408149661:True:=⟨⟩
theorem tw171432191445611375:True:=⟨⟩
theorem tw17150468241619998056:True:=⟨⟩
theorem tw17169617538409806562:True:=⟨⟩
theorem tw17207710645720487634:True:=⟨⟩
theorem tw17289041859335629885:True:=⟨⟩
theorem tw17290861831503776288:True:=⟨⟩
theorem tw17305977045455213902:True:=⟨⟩
theorem tw17309188966745494830:True:=⟨⟩
theorem tw17310478563900339685:True:=⟨⟩
theorem tw17314337777030823012:True:=⟨⟩
theorem tw17322449545577057602:True:=⟨⟩
theorem tw17327578860327859400:True:=⟨⟩
theorem tw17355945010702607675:True:=⟨⟩
theorem tw17391085133651054034:True:=⟨⟩
theorem tw1739906809545901589:True:=⟨⟩
theorem tw17418587700841819052:True:=⟨⟩
theorem tw17419012883943137770:True:=⟨⟩
theorem tw17453554488578631093:True:=⟨⟩
theorem tw17506895802582741703:True:=⟨⟩
theorem tw17509003371951085970:True:=⟨⟩
theorem tw17549851983277961724:True:=⟨⟩
theorem tw17577162405876462791:True:=⟨⟩
theorem tw1758044828857098436:True:=⟨⟩
theorem tw17585397641814230836:True:=⟨⟩
theorem tw1759794398200007720:True:=⟨⟩
theorem tw1761811273776227079:True:=⟨⟩
theorem tw17623901450683595076:True:=⟨⟩
theorem tw17666338324414951263:True:=⟨⟩
theorem tw17677697710824268887:True:=⟨⟩
theorem tw17723893184479682961:True:=⟨⟩
theorem tw17731659161800321345:True:=⟨⟩
theorem tw17736380109705625125:True:=⟨⟩
theorem tw17766157728003117686:True:=⟨⟩
theorem tw17775105540660212109:True:=⟨⟩
theorem tw17779523576241033247:True:=⟨⟩
theorem tw17862868487539514014:True:=⟨⟩
theorem tw17882111089418486974:True:=⟨⟩
theorem tw17903093242726155818:True:=⟨⟩
theorem tw17906744199620102038:True:=⟨⟩
theorem tw17958506575544670775:True:=⟨⟩
theorem tw17971384859429196865:True:=⟨⟩
theorem tw17977923734708640642:True:=⟨⟩
theorem tw18036574946328202371:True:=⟨⟩
theorem tw18053215466497350500:True:=⟨⟩
theorem tw18152470001565954096:True:=⟨⟩
theorem tw18170213402300665014:True:=⟨⟩
theorem tw18189226492353921115:True:=⟨⟩
theorem tw18201780587446541230:True:=⟨⟩
theorem tw18239148815295677835:True:=⟨⟩
theorem tw18328265664796163912:True:=⟨⟩
theorem tw18349857831384673875:True:=⟨⟩
theorem tw18354930847772701202:True:=⟨⟩
theorem tw18398296021735062206:True:=⟨⟩
theorem tw18398312093377120261:True:=⟨⟩
theorem tw18414514197003991142:True:=⟨⟩
theorem tw1864401995506102867:True:=⟨⟩
theorem tw1865298818388621610:True:=⟨⟩
theorem tw1872831657391868510:True:=⟨⟩
theorem tw1882137009112421378:True:=⟨⟩
theorem tw1922447556569563476:True:=⟨⟩
theorem tw1985383968922854394:True:=⟨⟩
theorem tw1986629798724791986:True:=⟨⟩
theorem tw2048710580284135308:True:=⟨⟩
theorem tw2053616136419103728:True:=⟨⟩
theorem tw2077412986280654028:True:=⟨⟩
theorem tw2191067436519797298:True:=⟨⟩
theorem tw2212541233842326009:True:=⟨⟩
theorem tw2216786411791716554:True:=⟨⟩
theorem tw2224724296459346082:True:=⟨⟩
theorem tw230299515076053085:True:=⟨⟩
theorem tw2337928935384228330:True:=⟨⟩
theorem tw2340387501500714111:True:=⟨⟩
theorem tw2340611389442037165:True:=⟨⟩
theorem tw2350650936287566961:True:=⟨⟩
theorem tw2359209472368384097:True:=⟨⟩
theorem tw2371910753669538863:True:=⟨⟩
theorem tw2418672933700335044:True:=⟨⟩
theorem tw2425982603263912035:True:=⟨⟩
theorem tw2436721777842582386:True:=⟨⟩
theorem tw2545979821887454551:True:=⟨⟩
theorem tw2546104935264728915:True:=⟨⟩
theorem tw2591688352537411458:True:=⟨⟩
theorem tw2604831074916750984:True:=⟨⟩
theorem tw2663412439361033715:True:=⟨⟩
theorem tw2684392932995232340:True:=⟨⟩
theorem tw2734895894253446030:True:=⟨⟩
theorem tw2737176315975413418:True:=⟨⟩
theorem tw2740992726653951318:True:=⟨⟩
theorem tw2760464530918849549:True:=⟨⟩
theorem tw2778591491835690121:True:=⟨⟩
theorem tw2786062029208260390:True:=⟨⟩
theorem tw2793649353639317665:True:=⟨⟩
theorem tw2843588191493144680:True:=⟨⟩
theorem tw2852365695816537746:True:=⟨⟩
theorem tw2863041327874763544:True:=⟨⟩
theorem tw2883554421499353392:True:=⟨⟩
theorem tw2897265538339225312:True:=⟨⟩
theorem tw2899241752876876174:True:=⟨⟩
theorem tw2927354649861347117:True:=⟨⟩
theorem tw2944824342322568913:True:=⟨⟩
theorem tw2966096639614486715:True:=⟨⟩
theorem tw2968504996976588420:True:=⟨⟩
theorem tw2971674347790557331:True:=⟨⟩
theorem tw2975731946485125215:True:=⟨⟩
theorem tw3004173280266639088:True:=⟨⟩
theorem tw3029536933784715188:True:=⟨⟩
theorem tw3064220986883830438:True:=⟨⟩
theorem tw3086940295567497814:True:=⟨⟩
theorem tw3123743733550852789:True:=⟨⟩
theorem tw3153923090206840540:True:=⟨⟩
theorem tw3161720777801551796:True:=⟨⟩
theorem tw3167013735163748435:True:=⟨⟩
theorem tw317401857096222650:True:=⟨⟩
theorem tw3187315120525503949:True:=⟨⟩
theorem tw3189953176535847410:True:=⟨⟩
theorem tw3194993071471358584:True:=⟨⟩
theorem tw3232936825735925144:True:=⟨⟩
theorem tw3236691213401332936:True:=⟨⟩
theorem tw3239728353872976266:True:=⟨⟩
theorem tw3244176902153408404:True:=⟨⟩
theorem tw3253141385565403271:True:=⟨⟩
theorem tw3256069631153695454:True:=⟨⟩
theorem tw3264001815810215935:True:=⟨⟩
theorem tw3268922910341353620:True:=⟨⟩
theorem tw3279317601279889206:True:=⟨⟩
theorem tw3283713878394776295:True:=⟨⟩
theorem tw3308917681434681805:True:=⟨⟩
theorem tw3312724710714486047:True:=⟨⟩
theorem tw3322966242449323318:True:=⟨⟩
theorem tw3375279882101034282:True:=⟨⟩
theorem tw3395362497303751092:True:=⟨⟩
theorem tw340379612014038192:True:=⟨⟩
theorem tw3417180400426402647:True:=⟨⟩
theorem tw344068784559192921:True:=⟨⟩
theorem tw348087809420509200:True:=⟨⟩
theorem tw3530879526950113366:True:=⟨⟩
theorem tw3571913728133230825:True:=⟨⟩
theorem tw3573342055281033277:True:=⟨⟩
theorem tw3592543522987669008:True:=⟨⟩
theorem tw3604888478777844327:True:=⟨⟩
theorem tw3622858184622793728:True:=⟨⟩
theorem tw3642638453975874467:True:=⟨⟩
theorem tw3645685019870839049:True:=⟨⟩
theorem tw3672069992825607057:True:=⟨⟩
theorem tw3672755086934292513:True:=⟨⟩
theorem tw367337945359115599:True:=⟨⟩
theorem tw368605422451170651:True:=⟨⟩
theorem tw3694364031710741355:True:=⟨⟩
theorem tw3698502849004752912:True:=⟨⟩
theorem tw3715846019876210496:True:=⟨⟩
theorem tw3743702751589502623:True:=⟨⟩
theorem tw3761662239297583471:True:=⟨⟩
theorem tw3763924700443560367:True:=⟨⟩
theorem tw3770103740052693893:True:=⟨⟩
theorem tw3803264291973972245:True:=⟨⟩
theorem tw3831595781883294970:True:=⟨⟩
theorem tw3846789886799805975:True:=⟨⟩
theorem tw3862298073331921748:True:=⟨⟩
theorem tw3873597319043596651:True:=⟨⟩
theorem tw3886729778386688929:True:=⟨⟩
theorem tw3894629504803014894:True:=⟨⟩
theorem tw3906769233747623497:True:=⟨⟩
theorem tw3913937974154440391:True:=⟨⟩
theorem tw3941302338098832967:True:=⟨⟩
theorem tw3955952632264342271:True:=⟨⟩
theorem tw3966851412898218354:True:=⟨⟩
theorem tw3967840245084288694:True:=⟨⟩
theorem tw399359851160720903:True:=⟨⟩
theorem tw3994312163295713127:True:=⟨⟩
theorem tw4050279203767431635:True:=⟨⟩
theorem tw4077795377066082194:True:=⟨⟩
theorem tw4097339459683262122:True:=⟨⟩
theorem tw4125962023988990147:True:=⟨⟩
theorem tw4132979392054997421:True:=⟨⟩
theorem tw4158376338388834311:True:=⟨⟩
theorem tw4203011902480165160:True:=⟨⟩
theorem tw421291804978477416:True:=⟨⟩
theorem tw4270260775421162211:True:=⟨⟩
theorem tw430497482150485914:True:=⟨⟩
theorem tw4308058916878366553:True:=⟨⟩
theorem tw4312214170325830029:True:=⟨⟩
theorem tw4330765068574828582:True:=⟨⟩
theorem tw4334577720623413774:True:=⟨⟩
theorem tw440540905644855773:True:=⟨⟩
theorem tw4416449686347171480:True:=⟨⟩
theorem tw4434152816337492230:True:=⟨⟩
theorem tw4434873117221732083:True:=⟨⟩
theorem tw4504482055389314475:True:=⟨⟩
theorem tw457703080164874111:True:=⟨⟩
theorem tw4626942029970306932:True:=⟨⟩
theorem tw4634153001258585820:True:=⟨⟩
theorem tw4635852739855399777:True:=⟨⟩
theorem tw4721654898288597354:True:=⟨⟩
theorem tw4732407712322095307:True:=⟨⟩
theorem tw4752194607475718203:True:=⟨⟩
theorem tw4816997076567427847:True:=⟨⟩
theorem tw4824961505363468867:True:=⟨⟩
theorem tw4871556276614502690:True:=⟨⟩
theorem tw4892197820420799832:True:=⟨⟩
theorem tw4917153408244547345:True:=⟨⟩
theorem tw5028779266565189097:True:=⟨⟩
theorem tw5065764481327246696:True:=⟨⟩
theorem tw5078140545874411479:True:=⟨⟩
theorem tw5115691105366252614:True:=⟨⟩
theorem tw5137993957359808628:True:=⟨⟩
theorem tw5166861451633927222:True:=⟨⟩
theorem tw5209516052165999103:True:=⟨⟩
theorem tw525366067405650490:True:=⟨⟩
theorem tw5290798863477243697:True:=⟨⟩
theorem tw5317508456004773301:True:=⟨⟩
theorem tw5319832878436674271:True:=⟨⟩
theorem tw5363589842833734709:True:=⟨⟩
theorem tw5378713097543378970:True:=⟨⟩
theorem tw5378968050229844658:True:=⟨⟩
theorem tw5388948508146017800:True:=⟨⟩
theorem tw5394619553815188234:True:=⟨⟩
theorem tw5421159864850309683:True:=⟨⟩
theorem tw5470918413619898092:True:=⟨⟩
theorem tw547503211946484581:True:=⟨⟩
theorem tw5503902793984211691:True:=⟨⟩
theorem tw5510886775613128667:True:=⟨⟩
theorem tw5537813140130492673:True:=⟨⟩
theorem tw5557798437105480139:True:=⟨⟩
theorem tw5588737241444955589:True:=⟨⟩
theorem tw5632205953300391021:True:=⟨⟩
theorem tw5648565689680808941:True:=⟨⟩
theorem tw5652780761230661122:True:=⟨⟩
theorem tw567187406890510793:True:=⟨⟩
theorem tw56732574939149492:True:=⟨⟩
theorem tw5716242199975065905:True:=⟨⟩
theorem tw5743045447675191473:True:=⟨⟩
theorem tw5761125721374217690:True:=⟨⟩
theorem tw5795727363399828858:True:=⟨⟩
theorem tw5853258199472070578:True:=⟨⟩
theorem tw5858093823764074013:True:=⟨⟩
theorem tw5879187425906242330:True:=⟨⟩
theorem tw5888541542502605311:True:=⟨⟩
theorem tw5912933562938708721:True:=⟨⟩
theorem tw5916540075097399237:True:=⟨⟩
theorem tw592150893358827281:True:=⟨⟩
theorem tw595364370549767247:True:=⟨⟩
theorem tw5963725973854031540:True:=⟨⟩
theorem tw6008338422983507066:True:=⟨⟩
theorem tw6035970891857493417:True:=⟨⟩
theorem tw6066185563424808631:True:=⟨⟩
theorem tw6077413547138112701:True:=⟨⟩
theorem tw6127323052133492087:True:=⟨⟩
theorem tw6127543978397321891:True:=⟨⟩
theorem tw6168710925153161027:True:=⟨⟩
theorem tw6189516061151867586:True:=⟨⟩
theorem tw6193619939880243084:True:=⟨⟩
theorem tw6201429117047836889:True:=⟨⟩
theorem tw6296199503859784299:True:=⟨⟩
theorem tw6296284081725722684:True:=⟨⟩
theorem tw6312337780509686137:True:=⟨⟩
theorem tw6315536302804481089:True:=⟨⟩
theorem tw633909781114202458:True:=⟨⟩
theorem tw6339198341577673439:True:=⟨⟩
theorem tw6341063168425251983:True:=⟨⟩
theorem tw6345205833704035819:True:=⟨⟩
theorem tw6347352852808101672:True:=⟨⟩
theorem tw6357078939218379607:True:=⟨⟩
theorem tw63802966000111848:True:=⟨⟩
theorem tw6381729991846412775:True:=⟨⟩
theorem tw6407558861232127640:True:=⟨⟩
theorem tw6412166833428047700:True:=⟨⟩
theorem tw6436916600849147923:True:=⟨⟩
theorem tw6455781333623821260:True:=⟨⟩
theorem tw6467926221638804982:True:=⟨⟩
theorem tw6483362327285057668:True:=⟨⟩
theorem tw6485673338230836225:True:=⟨⟩
theorem tw6532747213438303806:True:=⟨⟩
theorem tw6555389172923364501:True:=⟨⟩
theorem tw6585169717607189740:True:=⟨⟩
theorem tw6592750865432666435:True:=⟨⟩
theorem tw6626842921849653603:True:=⟨⟩
theorem tw6647821756170339169:True:=⟨⟩
theorem tw6653666352923025226:True:=⟨⟩
theorem tw6669488891868778924:True:=⟨⟩
theorem tw6697500362675829153:True:=⟨⟩
theorem tw6738466599552816475:True:=⟨⟩
theorem tw6807723790183360566:True:=⟨⟩
theorem tw6833926731772282948:True:=⟨⟩
theorem tw6842838110983270509:True:=⟨⟩
theorem tw6882680197960292762:True:=⟨⟩
theorem tw6895770496267949748:True:=⟨⟩
theorem tw6910479504580293396:True:=⟨⟩
theorem tw6919191884430887526:True:=⟨⟩
theorem tw698054498643810957:True:=⟨⟩
theorem tw6980744517799188787:True:=⟨⟩
theorem tw6988799918456911698:True:=⟨⟩
theorem tw6998424756325864561:True:=⟨⟩
theorem tw7030463917464906398:True:=⟨⟩
theorem tw7039060911033258264:True:=⟨⟩
theorem tw7064446276773701155:True:=⟨⟩
theorem tw708043141783168698:True:=⟨⟩
theorem tw709352008535731966:True:=⟨⟩
theorem tw7156271503478238185:True:=⟨⟩
theorem tw7163357937738401037:True:=⟨⟩
theorem tw7170146204411458274:True:=⟨⟩
theorem tw7199595277056083525:True:=⟨⟩
theorem tw7223866641021652137:True:=⟨⟩
theorem tw7286916820806121475:True:=⟨⟩
theorem tw7292420324971342777:True:=⟨⟩
theorem tw7317728952070666190:True:=⟨⟩
theorem tw7345203747615911520:True:=⟨⟩
theorem tw7382997047810800648:True:=⟨⟩
theorem tw7393771109369454039:True:=⟨⟩
theorem tw7404208503825960077:True:=⟨⟩
theorem tw7423170727919461618:True:=⟨⟩
theorem tw7431717090119660343:True:=⟨⟩
theorem tw7439133085229649339:True:=⟨⟩
theorem tw7505500496765597222:True:=⟨⟩
theorem tw7511956267654426563:True:=⟨⟩
theorem tw7559734382634627070:True:=⟨⟩
theorem tw7616482087294888976:True:=⟨⟩
theorem tw7625077953186749653:True:=⟨⟩
theorem tw7636397939664381531:True:=⟨⟩
theorem tw7702063737848989530:True:=⟨⟩
theorem tw7746724031025784752:True:=⟨⟩
theorem tw7774395744804215649:True:=⟨⟩
theorem tw777528023031565547:True:=⟨⟩
theorem tw7782447346731350597:True:=⟨⟩
theorem tw780880335274120673:True:=⟨⟩
theorem tw7867234868273100785:True:=⟨⟩
theorem tw804432764779568513:True:=⟨⟩
theorem tw805073862692253259:True:=⟨⟩
theorem tw8147027352631410249:True:=⟨⟩
theorem tw8149750126551500396:True:=⟨⟩
theorem tw8161005431382483088:True:=⟨⟩
theorem tw8169105891037032969:True:=⟨⟩
theorem tw8207903273157304334:True:=⟨⟩
theorem tw825288630641523616:True:=⟨⟩
theorem tw8256649713858672658:True:=⟨⟩
theorem tw8266507387357748175:True:=⟨⟩
theorem tw826928958794931468:True:=⟨⟩
theorem tw8308778266341959830:True:=⟨⟩
theorem tw8314072812393499655:True:=⟨⟩
theorem tw8338651392246572694:True:=⟨⟩
theorem tw8342177176307113014:True:=⟨⟩
theorem tw8359141778808790459:True:=⟨⟩
theorem tw8390444367893518176:True:=⟨⟩
theorem tw840579726631181855:True:=⟨⟩
theorem tw8411097028301078600:True:=⟨⟩
theorem tw8444414664150438184:True:=⟨⟩
theorem tw844912838411111004:True:=⟨⟩
theorem tw8496518975422055554:True:=⟨⟩
theorem tw8497670469855219903:True:=⟨⟩
theorem tw8557224120903194542:True:=⟨⟩
theorem tw8642502179405865811:True:=⟨⟩
theorem tw8657247750322844444:True:=⟨⟩
theorem tw8671720260954272159:True:=⟨⟩
theorem tw8729987952180307955:True:=⟨⟩
theorem tw8744816459906500673:True:=⟨⟩
theorem tw8749921358204243591:True:=⟨⟩
theorem tw8751032299008168679:True:=⟨⟩
theorem tw8799977116755220776:True:=⟨⟩
theorem tw8802886146899706451:True:=⟨⟩
theorem tw8813745442030218241:True:=⟨⟩
theorem tw8823384097646444772:True:=⟨⟩
theorem tw8848612309748434416:True:=⟨⟩
theorem tw8919205253621632407:True:=⟨⟩
theorem tw8924891086669028053:True:=⟨⟩
theorem tw892737845071235995:True:=⟨⟩
theorem tw8942791382677534912:True:=⟨⟩
theorem tw8966400999226796180:True:=⟨⟩
theorem tw8969958137698728741:True:=⟨⟩
theorem tw9003774754672065845:True:=⟨⟩
theorem tw9022921166953697567:True:=⟨⟩
theorem tw9025447184155399065:True:=⟨⟩
theorem tw9043771073200158444:True:=⟨⟩
theorem tw9093801727026474936:True:=⟨⟩
theorem tw909991247191009851:True:=⟨⟩
theorem tw9113017957604208496:True:=⟨⟩
theorem tw9119038661276168286:True:=⟨⟩
theorem tw9121446804506797324:True:=⟨⟩
theorem tw9146982838059933524:True:=⟨⟩
theorem tw9159248713171233212:True:=⟨⟩
theorem tw9226127557677055081:True:=⟨⟩
theorem tw9273235035971188210:True:=⟨⟩
theorem tw9286166589122105684:True:=⟨⟩
theorem tw9355889925583856762:True:=⟨⟩
theorem tw9360008040068104344:True:=⟨⟩
theorem tw9384692925257468737:True:=⟨⟩
theorem tw9417473809765670105:True:=⟨⟩
theorem tw9426977655193576152:True:=⟨⟩
theorem tw9429474522324904728:True:=⟨⟩
theorem tw9434912879635181670:True:=⟨⟩
theorem tw9458198194579164213:True:=⟨⟩
theorem tw9458791243381015757:True:=⟨⟩
theorem tw9464146752960400200:True:=⟨⟩
theorem tw9468956075136506077:True:=⟨⟩
theorem tw9477118469629169137:True:=⟨⟩
theorem tw9482025222605875330:True:=⟨⟩
theorem tw9547089969607501081:True:=⟨⟩
theorem tw9556375159620804437:True:=⟨⟩
theorem tw9632193212678212682:True:=⟨⟩
theorem tw9667159508723474380:True:=⟨⟩
theorem tw9716067944313336648:True:=⟨⟩
theorem tw973777263717845793:True:=⟨⟩
theorem tw9749346905081659561:True:=⟨⟩
theorem tw9758336132086086900:True:=⟨⟩
theorem tw9759804012065166999:True:=⟨⟩
theorem tw9764412778630466683:True:=⟨⟩
theorem tw9814709635179122401:True:=⟨⟩
theorem tw9846665612098300038:True:=⟨⟩
theorem tw9876743320656935789:True:=⟨⟩
theorem tw9879308759620744776:True:=⟨⟩
theorem tw9882549796475363782:True:=⟨⟩
theorem tw9906114675573211196:True:=⟨⟩
theorem tw993864727060363356:True:=⟨⟩
theorem tw9952991067870515417:True:=⟨⟩
theorem tw9956404974601019548:True:=⟨⟩
theorem tw9975589585012612045:True:=⟨⟩
theorem tw9994042511416986438:True:=⟨⟩
theorem tw357486453476387696:True:=⟨⟩
end t
theorem filled : PySem.Challenge.rw_pb0277_01 = PySem.Challenge.rw_pb0277_01 ∧ Mine.hd.heap_1 = Mine.hd.heap_1 := by
  k_fill
  w_top off
  exact ⟨rfl, rfl⟩
section A0p
theorem iB {p : Prop} (h : p) : p := h
noncomputable def Bx (p : Prop) : Prop := p
theorem bB {bxP : Prop} (bxH : bxP) : Bx bxP = True := eq_true bxH
theorem uB {p : Prop} (h : Bx p) : p := h
noncomputable abbrev PR : Program := PySem.Challenge.rw_pb0277_01.row.prog

noncomputable def Keep (H H' : Heap) (adr : List Addr) : Prop := ∀ b o, H.get? b = some o → b ∉ adr → H'.get? b = some o

theorem leave_keep {h₀ : Heap} {L : Addr} {m : Str → Option Value} {g H : Heap} {adr : List Addr} {R : Result → Shared → Prop} {v : Value} {s' : Shared} (G : GSub H g adr)
  (h : LeaveK h₀ L m g (fun r s'' => Keep H s''.heap adr → R r s'') v s') : LeaveK h₀ L m g R v s' := by
 obtain ⟨L', m', news', F', N', k⟩ := h
 exact ⟨L', m', news', F', N', fun a b => k a b fun b o e n => F'.keep b o (G b o e n)⟩

section
variable {prog : Program} {w : World} {A₀ A : Around} {E : Value → Shared → Prop} {s : Shared} {base h₀ : Heap} {outer : List Env} {L : Addr} {m : Str → Option Value} {env : Env} {news : List (Addr × Obj)}
theorem code_defS {K : Frag} {p : Program} {loose : List Str} {mean : ExcName → Option Value} {mg mb : Str → Option Value} {R : Result → Shared → Prop} {name qual : Str} {params : Arguments} {body : List Stmt} {scope : Scope} {dV kV doc pm cdv ct oc : Value} {an od : Option Addr} {osl : Array (Option Value)} {f : Addr} {args : Args} {binds : List (Str × Value)}
  (B : Below A₀ base outer h₀) (F : Fr h₀ L s.heap m) (X₀ : K.In h₀) (N : News h₀ L s.heap news) (T : Top p loose mean mg mb h₀) (hA : A.frames = some (env :: outer)) (hf : env.frame = some L) (hke : env.scope.kind = .function)
  (ho : K.lookup f = some ⟨oc, od, .func (fnOf name qual params body scope dV kV doc pm an cdv ct), osl⟩) (hcd : codeIn K cdv qual = true) (hroom : A.depth < recursionLimit)
  (hbind : BindsTo s (fnOf name qual params body scope dV kV doc pm an cdv ct) args binds) (hloc : ∀ y ∈ binds, scope.names.lookup y.1 = some .local)
  (h : ∀ g L' h₁, Fr h₀ L g m → Fr g L' h₁ (fun y => binds.reverse.lookup y) → News g L' h₁ news → Below A base (env :: outer) g → K.In g → Top p loose mean mg mb g → GSub s.heap g (news.map (·.1)) →
   wpAny (model prog w) (A.deeper (envOf qual scope L' f cdv)) (execs body (envOf qual scope L' f cdv))
    (fun fl s' => LeaveK h₀ L m g (fun r s'' => Keep s.heap s''.heap (news.map (·.1)) → R r s'') (match fl with | .ret v => v | _ => .none) s')
    (fun e s' => wpAny (model prog w) (A.deeper (envOf qual scope L' f cdv)) (leaving (envOf qual scope L' f cdv) e) (fun _ s'' => R (.error e) s'') (fun e' s'' => R (.error e') s'') s')
    { s with heap := h₁, toks := s.toks + binds.length })
  (hco : scope.isCoroutine = false) (hgen : scope.isGenerator = false) (hk : scope.kind = .function)
  (hcell : ∀ x ∈ scope.names, x.2 ≠ .cell) : codeAny (model prog w) A (.call (.ref f) args) R s :=
 code_defG B F X₀ N T hA hf hke ho hcd hroom hbind hloc (fun g L' h₁ a b c d e f G => wpAny_mono (h g L' h₁ a b c d e f G) (fun _ _ hl => leave_keep G hl) fun _ _ x => x) hco hgen hk hcell
end

noncomputable def Ctr (w : World) (f : Addr) (dd uu : Nat) (vs : List Value) (need : List (Addr × Obj)) (Post : Heap → Value → Heap → List (Addr × Obj) → Prop) : Prop :=
 ∀ (p : Program) (loose : List Str) (mean : ExcName → Option Value) (mg mb : Str → Option Value) (dp un : Nat) (gd : Option (List Code)) (cn : Str) (cs : Scope) (a : Addr) (ccd : Value) (cl : List (Str × Addr)) (outer : List Env) (A₀ : Around) (base h₀ : Heap) (L : Addr) (m : Str → Option Value) (s : Shared)
  (Q E : Value → Shared → Prop),
  Below A₀ base outer h₀ → Fr h₀ L s.heap m → Frag.In (Mine.hd.heap_1 w.params) h₀ → News h₀ L s.heap need → Top p loose mean mg mb h₀ → cs.kind = .function → dp + dd < recursionLimit → un + uu < cLine →
  (∀ r out h' tk', Fr h₀ L h' m → News h₀ L h' out → Keep s.heap h' (need.map (·.1)) → Post s.heap r h' out → Q r { s with heap := h', toks := tk' }) →
  wpAny (model PR w) (ktrTop dp un gd cn cs L a ccd cl outer) (call (.ref f) vs) Q E s

theorem news_ne {h₀ h : Heap} {L : Addr} {news : List (Addr × Obj)} {p q : Addr × Obj} (N : News h₀ L h news) (h1 : p ∈ news) (h2 : q ∈ news) (h3 : p.2.cls ≠ q.2.cls) : @Ne Nat p.1 q.1 := fun e => by
 have e1 := (N p h1).1
 have e2 := (N q h2).1
 have e' : p.1 = q.1 := e
 rw [e', e2] at e1
 exact h3 (by rw [Option.some.inj e1])

theorem Keep.trans {H H' H'' : Heap} {as bs : List Addr} (h1 : Keep H H' as) (h2 : Keep H' H'' bs) : Keep H H'' (as ++ bs) := fun b o e n =>
 h2 b o (h1 b o e fun q => n (List.mem_append.mpr (.inl q))) fun q => n (List.mem_append.mpr (.inr q))

theorem news_back {h₀ h h' : Heap} {L : Addr} {news need out rest : List (Addr × Obj)} (N : News h₀ L h news) (hn : ∀ p ∈ need, p ∈ news) (N' : News h₀ L h' out) (K : Keep h h' (need.map (·.1)))
  (hr : ∀ p ∈ rest, p ∈ out ∨ (p ∈ news ∧ (p ∈ need → p ∈ out))) : News h₀ L h' rest := fun p hp => by
 rcases hr p hp with h1 | ⟨h1, h2⟩
 ·exact N' p h1
 ·by_cases hq : p.1 ∈ need.map (·.1)
  ·obtain ⟨q, hq, e⟩ := List.mem_map.mp hq
   have e1 := (N q (hn q hq)).1
   have e2 := (N p h1).1
   rw [e, e2] at e1
   have : q = p := Prod.ext e (Option.some.inj e1).symm
   exact N' p (h2 (this ▸ hq))
  ·exact ⟨K _ _ (N p h1).1 hq, (N p h1).2.1, (N p h1).2.2⟩

theorem an2 {a0 a1 G : Prop} (h : a0 ∧ a1) (k : a0 → a1 → G) : G := k h.1 h.2
theorem an3 {a0 a1 a2 G : Prop} (h : a0 ∧ a1 ∧ a2) (k : a0 → a1 → a2 → G) : G := k h.1 h.2.1 h.2.2
theorem an4 {a0 a1 a2 a3 G : Prop} (h : a0 ∧ a1 ∧ a2 ∧ a3) (k : a0 → a1 → a2 → a3 → G) : G := k h.1 h.2.1 h.2.2.1 h.2.2.2
theorem an5 {a0 a1 a2 a3 a4 G : Prop} (h : a0 ∧ a1 ∧ a2 ∧ a3 ∧ a4) (k : a0 → a1 → a2 → a3 → a4 → G) : G := k h.1 h.2.1 h.2.2.1 h.2.2.2.1 h.2.2.2.2
theorem an6 {a0 a1 a2 a3 a4 a5 G : Prop} (h : a0 ∧ a1 ∧ a2 ∧ a3 ∧ a4 ∧ a5) (k : a0 → a1 → a2 → a3 → a4 → a5 → G) : G := k h.1 h.2.1 h.2.2.1 h.2.2.2.1 h.2.2.2.2.1 h.2.2.2.2.2
theorem an7 {a0 a1 a2 a3 a4 a5 a6 G : Prop} (h : a0 ∧ a1 ∧ a2 ∧ a3 ∧ a4 ∧ a5 ∧ a6) (k : a0 → a1 → a2 → a3 → a4 → a5 → a6 → G) : G := k h.1 h.2.1 h.2.2.1 h.2.2.2.1 h.2.2.2.2.1 h.2.2.2.2.2.1 h.2.2.2.2.2.2
theorem an8 {a0 a1 a2 a3 a4 a5 a6 a7 G : Prop} (h : a0 ∧ a1 ∧ a2 ∧ a3 ∧ a4 ∧ a5 ∧ a6 ∧ a7) (k : a0 → a1 → a2 → a3 → a4 → a5 → a6 → a7 → G) : G := k h.1 h.2.1 h.2.2.1 h.2.2.2.1 h.2.2.2.2.1 h.2.2.2.2.2.1 h.2.2.2.2.2.2.1 h.2.2.2.2.2.2.2
theorem an9 {a0 a1 a2 a3 a4 a5 a6 a7 a8 G : Prop} (h : a0 ∧ a1 ∧ a2 ∧ a3 ∧ a4 ∧ a5 ∧ a6 ∧ a7 ∧ a8) (k : a0 → a1 → a2 → a3 → a4 → a5 → a6 → a7 → a8 → G) : G := k h.1 h.2.1 h.2.2.1 h.2.2.2.1 h.2.2.2.2.1 h.2.2.2.2.2.1 h.2.2.2.2.2.2.1 h.2.2.2.2.2.2.2.1 h.2.2.2.2.2.2.2.2
theorem an10 {a0 a1 a2 a3 a4 a5 a6 a7 a8 a9 G : Prop} (h : a0 ∧ a1 ∧ a2 ∧ a3 ∧ a4 ∧ a5 ∧ a6 ∧ a7 ∧ a8 ∧ a9) (k : a0 → a1 → a2 → a3 → a4 → a5 → a6 → a7 → a8 → a9 → G) : G := k h.1 h.2.1 h.2.2.1 h.2.2.2.1 h.2.2.2.2.1 h.2.2.2.2.2.1 h.2.2.2.2.2.2.1 h.2.2.2.2.2.2.2.1 h.2.2.2.2.2.2.2.2.1 h.2.2.2.2.2.2.2.2.2
theorem an11 {a0 a1 a2 a3 a4 a5 a6 a7 a8 a9 a10 G : Prop} (h : a0 ∧ a1 ∧ a2 ∧ a3 ∧ a4 ∧ a5 ∧ a6 ∧ a7 ∧ a8 ∧ a9 ∧ a10) (k : a0 → a1 → a2 → a3 → a4 → a5 → a6 → a7 → a8 → a9 → a10 → G) : G := k h.1 h.2.1 h.2.2.1 h.2.2.2.1 h.2.2.2.2.1 h.2.2.2.2.2.1 h.2.2.2.2.2.2.1 h.2.2.2.2.2.2.2.1 h.2.2.2.2.2.2.2.2.1 h.2.2.2.2.2.2.2.2.2.1 h.2.2.2.2.2.2.2.2.2.2
theorem an12 {a0 a1 a2 a3 a4 a5 a6 a7 a8 a9 a10 a11 G : Prop} (h : a0 ∧ a1 ∧ a2 ∧ a3 ∧ a4 ∧ a5 ∧ a6 ∧ a7 ∧ a8 ∧ a9 ∧ a10 ∧ a11) (k : a0 → a1 → a2 → a3 → a4 → a5 → a6 → a7 → a8 → a9 → a10 → a11 → G) : G := k h.1 h.2.1 h.2.2.1 h.2.2.2.1 h.2.2.2.2.1 h.2.2.2.2.2.1 h.2.2.2.2.2.2.1 h.2.2.2.2.2.2.2.1 h.2.2.2.2.2.2.2.2.1 h.2.2.2.2.2.2.2.2.2.1 h.2.2.2.2.2.2.2.2.2.2.1 h.2.2.2.2.2.2.2.2.2.2.2
theorem an15 {a0 a1 a2 a3 a4 a5 a6 a7 a8 a9 a10 a11 a12 a13 a14 G : Prop} (h : a0 ∧ a1 ∧ a2 ∧ a3 ∧ a4 ∧ a5 ∧ a6 ∧ a7 ∧ a8 ∧ a9 ∧ a10 ∧ a11 ∧ a12 ∧ a13 ∧ a14) (k : a0 → a1 → a2 → a3 → a4 → a5 → a6 → a7 → a8 → a9 → a10 → a11 → a12 → a13 → a14 → G) : G := k h.1 h.2.1 h.2.2.1 h.2.2.2.1 h.2.2.2.2.1 h.2.2.2.2.2.1 h.2.2.2.2.2.2.1 h.2.2.2.2.2.2.2.1 h.2.2.2.2.2.2.2.2.1 h.2.2.2.2.2.2.2.2.2.1 h.2.2.2.2.2.2.2.2.2.2.1 h.2.2.2.2.2.2.2.2.2.2.2.1 h.2.2.2.2.2.2.2.2.2.2.2.2.1 h.2.2.2.2.2.2.2.2.2.2.2.2.2.1 h.2.2.2.2.2.2.2.2.2.2.2.2.2.2
theorem an17 {a0 a1 a2 a3 a4 a5 a6 a7 a8 a9 a10 a11 a12 a13 a14 a15 a16 G : Prop} (h : a0 ∧ a1 ∧ a2 ∧ a3 ∧ a4 ∧ a5 ∧ a6 ∧ a7 ∧ a8 ∧ a9 ∧ a10 ∧ a11 ∧ a12 ∧ a13 ∧ a14 ∧ a15 ∧ a16) (k : a0 → a1 → a2 → a3 → a4 → a5 → a6 → a7 → a8 → a9 → a10 → a11 → a12 → a13 → a14 → a15 → a16 → G) : G := k h.1 h.2.1 h.2.2.1 h.2.2.2.1 h.2.2.2.2.1 h.2.2.2.2.2.1 h.2.2.2.2.2.2.1 h.2.2.2.2.2.2.2.1 h.2.2.2.2.2.2.2.2.1 h.2.2.2.2.2.2.2.2.2.1 h.2.2.2.2.2.2.2.2.2.2.1 h.2.2.2.2.2.2.2.2.2.2.2.1 h.2.2.2.2.2.2.2.2.2.2.2.2.1 h.2.2.2.2.2.2.2.2.2.2.2.2.2.1 h.2.2.2.2.2.2.2.2.2.2.2.2.2.2.1 h.2.2.2.2.2.2.2.2.2.2.2.2.2.2.2.1 h.2.2.2.2.2.2.2.2.2.2.2.2.2.2.2.2
theorem an18 {a0 a1 a2 a3 a4 a5 a6 a7 a8 a9 a10 a11 a12 a13 a14 a15 a16 a17 G : Prop} (h : a0 ∧ a1 ∧ a2 ∧ a3 ∧ a4 ∧ a5 ∧ a6 ∧ a7 ∧ a8 ∧ a9 ∧ a10 ∧ a11 ∧ a12 ∧ a13 ∧ a14 ∧ a15 ∧ a16 ∧ a17) (k : a0 → a1 → a2 → a3 → a4 → a5 → a6 → a7 → a8 → a9 → a10 → a11 → a12 → a13 → a14 → a15 → a16 → a17 → G) : G := k h.1 h.2.1 h.2.2.1 h.2.2.2.1 h.2.2.2.2.1 h.2.2.2.2.2.1 h.2.2.2.2.2.2.1 h.2.2.2.2.2.2.2.1 h.2.2.2.2.2.2.2.2.1 h.2.2.2.2.2.2.2.2.2.1 h.2.2.2.2.2.2.2.2.2.2.1 h.2.2.2.2.2.2.2.2.2.2.2.1 h.2.2.2.2.2.2.2.2.2.2.2.2.1 h.2.2.2.2.2.2.2.2.2.2.2.2.2.1 h.2.2.2.2.2.2.2.2.2.2.2.2.2.2.1 h.2.2.2.2.2.2.2.2.2.2.2.2.2.2.2.1 h.2.2.2.2.2.2.2.2.2.2.2.2.2.2.2.2.1 h.2.2.2.2.2.2.2.2.2.2.2.2.2.2.2.2.2
theorem ex1 {α0 : Type} {P : α0 → Prop} {G : Prop} (h : ∃ x0, P x0) (k : ∀ x0, P x0 → G) : G := by
 obtain ⟨x0, h⟩ := h
 exact k _ h
theorem ex2 {α0 α1 : Type} {P : α0 → α1 → Prop} {G : Prop} (h : ∃ x0 x1, P x0 x1) (k : ∀ x0 x1, P x0 x1 → G) : G := by
 obtain ⟨x0, x1, h⟩ := h
 exact k _ _ h
theorem exi2 {α0 α1 : Type} {P : α0 → α1 → Prop} (x0 : α0) (x1 : α1) (h : P x0 x1) : ∃ x0 x1, P x0 x1 := ⟨x0, x1, h⟩
theorem ex3 {α0 α1 α2 : Type} {P : α0 → α1 → α2 → Prop} {G : Prop} (h : ∃ x0 x1 x2, P x0 x1 x2) (k : ∀ x0 x1 x2, P x0 x1 x2 → G) : G := by
 obtain ⟨x0, x1, x2, h⟩ := h
 exact k _ _ _ h
theorem exi3 {α0 α1 α2 : Type} {P : α0 → α1 → α2 → Prop} (x0 : α0) (x1 : α1) (x2 : α2) (h : P x0 x1 x2) : ∃ x0 x1 x2, P x0 x1 x2 := ⟨x0, x1, x2, h⟩
theorem ex4 {α0 α1 α2 α3 : Type} {P : α0 → α1 → α2 → α3 → Prop} {G : Prop} (h : ∃ x0 x1 x2 x3, P x0 x1 x2 x3) (k : ∀ x0 x1 x2 x3, P x0 x1 x2 x3 → G) : G := by
 obtain ⟨x0, x1, x2, x3, h⟩ := h
 exact k _ _ _ _ h
theorem exi4 {α0 α1 α2 α3 : Type} {P : α0 → α1 → α2 → α3 → Prop} (x0 : α0) (x1 : α1) (x2 : α2) (x3 : α3) (h : P x0 x1 x2 x3) : ∃ x0 x1 x2 x3, P x0 x1 x2 x3 := ⟨x0, x1, x2, x3, h⟩
theorem ex5 {α0 α1 α2 α3 α4 : Type} {P : α0 → α1 → α2 → α3 → α4 → Prop} {G : Prop} (h : ∃ x0 x1 x2 x3 x4, P x0 x1 x2 x3 x4) (k : ∀ x0 x1 x2 x3 x4, P x0 x1 x2 x3 x4 → G) : G := by
 obtain ⟨x0, x1, x2, x3, x4, h⟩ := h
 exact k _ _ _ _ _ h
theorem exi5 {α0 α1 α2 α3 α4 : Type} {P : α0 → α1 → α2 → α3 → α4 → Prop} (x0 : α0) (x1 : α1) (x2 : α2) (x3 : α3) (x4 : α4) (h : P x0 x1 x2 x3 x4) : ∃ x0 x1 x2 x3 x4, P x0 x1 x2 x3 x4 := ⟨x0, x1, x2, x3, x4, h⟩
theorem ex6 {α0 α1 α2 α3 α4 α5 : Type} {P : α0 → α1 → α2 → α3 → α4 → α5 → Prop} {G : Prop} (h : ∃ x0 x1 x2 x3 x4 x5, P x0 x1 x2 x3 x4 x5) (k : ∀ x0 x1 x2 x3 x4 x5, P x0 x1 x2 x3 x4 x5 → G) : G := by
 obtain ⟨x0, x1, x2, x3, x4, x5, h⟩ := h
 exact k _ _ _ _ _ _ h
theorem exi6 {α0 α1 α2 α3 α4 α5 : Type} {P : α0 → α1 → α2 → α3 → α4 → α5 → Prop} (x0 : α0) (x1 : α1) (x2 : α2) (x3 : α3) (x4 : α4) (x5 : α5) (h : P x0 x1 x2 x3 x4 x5) : ∃ x0 x1 x2 x3 x4 x5, P x0 x1 x2 x3 x4 x5 := ⟨x0, x1, x2, x3, x4, x5, h⟩
theorem ex7 {α0 α1 α2 α3 α4 α5 α6 : Type} {P : α0 → α1 → α2 → α3 → α4 → α5 → α6 → Prop} {G : Prop} (h : ∃ x0 x1 x2 x3 x4 x5 x6, P x0 x1 x2 x3 x4 x5 x6) (k : ∀ x0 x1 x2 x3 x4 x5 x6, P x0 x1 x2 x3 x4 x5 x6 → G) : G := by
 obtain ⟨x0, x1, x2, x3, x4, x5, x6, h⟩ := h
 exact k _ _ _ _ _ _ _ h
theorem exi7 {α0 α1 α2 α3 α4 α5 α6 : Type} {P : α0 → α1 → α2 → α3 → α4 → α5 → α6 → Prop} (x0 : α0) (x1 : α1) (x2 : α2) (x3 : α3) (x4 : α4) (x5 : α5) (x6 : α6) (h : P x0 x1 x2 x3 x4 x5 x6) : ∃ x0 x1 x2 x3 x4 x5 x6, P x0 x1 x2 x3 x4 x5 x6 := ⟨x0, x1, x2, x3, x4, x5, x6, h⟩
theorem ex8 {α0 α1 α2 α3 α4 α5 α6 α7 : Type} {P : α0 → α1 → α2 → α3 → α4 → α5 → α6 → α7 → Prop} {G : Prop} (h : ∃ x0 x1 x2 x3 x4 x5 x6 x7, P x0 x1 x2 x3 x4 x5 x6 x7) (k : ∀ x0 x1 x2 x3 x4 x5 x6 x7, P x0 x1 x2 x3 x4 x5 x6 x7 → G) : G := by
 obtain ⟨x0, x1, x2, x3, x4, x5, x6, x7, h⟩ := h
 exact k _ _ _ _ _ _ _ _ h
theorem exi8 {α0 α1 α2 α3 α4 α5 α6 α7 : Type} {P : α0 → α1 → α2 → α3 → α4 → α5 → α6 → α7 → Prop} (x0 : α0) (x1 : α1) (x2 : α2) (x3 : α3) (x4 : α4) (x5 : α5) (x6 : α6) (x7 : α7) (h : P x0 x1 x2 x3 x4 x5 x6 x7) : ∃ x0 x1 x2 x3 x4 x5 x6 x7, P x0 x1 x2 x3 x4 x5 x6 x7 := ⟨x0, x1, x2, x3, x4, x5, x6, x7, h⟩
theorem ex9 {α0 α1 α2 α3 α4 α5 α6 α7 α8 : Type} {P : α0 → α1 → α2 → α3 → α4 → α5 → α6 → α7 → α8 → Prop} {G : Prop} (h : ∃ x0 x1 x2 x3 x4 x5 x6 x7 x8, P x0 x1 x2 x3 x4 x5 x6 x7 x8) (k : ∀ x0 x1 x2 x3 x4 x5 x6 x7 x8, P x0 x1 x2 x3 x4 x5 x6 x7 x8 → G) : G := by
 obtain ⟨x0, x1, x2, x3, x4, x5, x6, x7, x8, h⟩ := h
 exact k _ _ _ _ _ _ _ _ _ h
theorem exi9 {α0 α1 α2 α3 α4 α5 α6 α7 α8 : Type} {P : α0 → α1 → α2 → α3 → α4 → α5 → α6 → α7 → α8 → Prop} (x0 : α0) (x1 : α1) (x2 : α2) (x3 : α3) (x4 : α4) (x5 : α5) (x6 : α6) (x7 : α7) (x8 : α8) (h : P x0 x1 x2 x3 x4 x5 x6 x7 x8) : ∃ x0 x1 x2 x3 x4 x5 x6 x7 x8, P x0 x1 x2 x3 x4 x5 x6 x7 x8 := ⟨x0, x1, x2, x3, x4, x5, x6, x7, x8, h⟩
theorem ex11 {α0 α1 α2 α3 α4 α5 α6 α7 α8 α9 α10 : Type} {P : α0 → α1 → α2 → α3 → α4 → α5 → α6 → α7 → α8 → α9 → α10 → Prop} {G : Prop} (h : ∃ x0 x1 x2 x3 x4 x5 x6 x7 x8 x9 x10, P x0 x1 x2 x3 x4 x5 x6 x7 x8 x9 x10) (k : ∀ x0 x1 x2 x3 x4 x5 x6 x7 x8 x9 x10, P x0 x1 x2 x3 x4 x5 x6 x7 x8 x9 x10 → G) : G := by
 obtain ⟨x0, x1, x2, x3, x4, x5, x6, x7, x8, x9, x10, h⟩ := h
 exact k _ _ _ _ _ _ _ _ _ _ _ h
theorem exi11 {α0 α1 α2 α3 α4 α5 α6 α7 α8 α9 α10 : Type} {P : α0 → α1 → α2 → α3 → α4 → α5 → α6 → α7 → α8 → α9 → α10 → Prop} (x0 : α0) (x1 : α1) (x2 : α2) (x3 : α3) (x4 : α4) (x5 : α5) (x6 : α6) (x7 : α7) (x8 : α8) (x9 : α9) (x10 : α10) (h : P x0 x1 x2 x3 x4 x5 x6 x7 x8 x9 x10) : ∃ x0 x1 x2 x3 x4 x5 x6 x7 x8 x9 x10, P x0 x1 x2 x3 x4 x5 x6 x7 x8 x9 x10 := ⟨x0, x1, x2, x3, x4, x5, x6, x7, x8, x9, x10, h⟩
theorem ex12 {α0 α1 α2 α3 α4 α5 α6 α7 α8 α9 α10 α11 : Type} {P : α0 → α1 → α2 → α3 → α4 → α5 → α6 → α7 → α8 → α9 → α10 → α11 → Prop} {G : Prop} (h : ∃ x0 x1 x2 x3 x4 x5 x6 x7 x8 x9 x10 x11, P x0 x1 x2 x3 x4 x5 x6 x7 x8 x9 x10 x11) (k : ∀ x0 x1 x2 x3 x4 x5 x6 x7 x8 x9 x10 x11, P x0 x1 x2 x3 x4 x5 x6 x7 x8 x9 x10 x11 → G) : G := by
 obtain ⟨x0, x1, x2, x3, x4, x5, x6, x7, x8, x9, x10, x11, h⟩ := h
 exact k _ _ _ _ _ _ _ _ _ _ _ _ h
theorem exi12 {α0 α1 α2 α3 α4 α5 α6 α7 α8 α9 α10 α11 : Type} {P : α0 → α1 → α2 → α3 → α4 → α5 → α6 → α7 → α8 → α9 → α10 → α11 → Prop} (x0 : α0) (x1 : α1) (x2 : α2) (x3 : α3) (x4 : α4) (x5 : α5) (x6 : α6) (x7 : α7) (x8 : α8) (x9 : α9) (x10 : α10) (x11 : α11) (h : P x0 x1 x2 x3 x4 x5 x6 x7 x8 x9 x10 x11) : ∃ x0 x1 x2 x3 x4 x5 x6 x7 x8 x9 x10 x11, P x0 x1 x2 x3 x4 x5 x6 x7 x8 x9 x10 x11 := ⟨x0, x1, x2, x3, x4, x5, x6, x7, x8, x9, x10, x11, h⟩
theorem ex13 {α0 α1 α2 α3 α4 α5 α6 α7 α8 α9 α10 α11 α12 : Type} {P : α0 → α1 → α2 → α3 → α4 → α5 → α6 → α7 → α8 → α9 → α10 → α11 → α12 → Prop} {G : Prop} (h : ∃ x0 x1 x2 x3 x4 x5 x6 x7 x8 x9 x10 x11 x12, P x0 x1 x2 x3 x4 x5 x6 x7 x8 x9 x10 x11 x12) (k : ∀ x0 x1 x2 x3 x4 x5 x6 x7 x8 x9 x10 x11 x12, P x0 x1 x2 x3 x4 x5 x6 x7 x8 x9 x10 x11 x12 → G) : G := by
 obtain ⟨x0, x1, x2, x3, x4, x5, x6, x7, x8, x9, x10, x11, x12, h⟩ := h
 exact k _ _ _ _ _ _ _ _ _ _ _ _ _ h
theorem exi13 {α0 α1 α2 α3 α4 α5 α6 α7 α8 α9 α10 α11 α12 : Type} {P : α0 → α1 → α2 → α3 → α4 → α5 → α6 → α7 → α8 → α9 → α10 → α11 → α12 → Prop} (x0 : α0) (x1 : α1) (x2 : α2) (x3 : α3) (x4 : α4) (x5 : α5) (x6 : α6) (x7 : α7) (x8 : α8) (x9 : α9) (x10 : α10) (x11 : α11) (x12 : α12) (h : P x0 x1 x2 x3 x4 x5 x6 x7 x8 x9 x10 x11 x12) : ∃ x0 x1 x2 x3 x4 x5 x6 x7 x8 x9 x10 x11 x12, P x0 x1 x2 x3 x4 x5 x6 x7 x8 x9 x10 x11 x12 := ⟨x0, x1, x2, x3, x4, x5, x6, x7, x8, x9, x10, x11, x12, h⟩

end A0p
section EAp
theorem ea1_2 {α0 : Type} {P0 P1 : α0 → Prop} {G : Prop} (h : ∃ x0, P0 x0 ∧ P1 x0) (k : ∀ x0, P0 x0 → P1 x0 → G) : G := by
 obtain ⟨x0, h0, h1⟩ := h
 exact k x0 h0 h1
theorem fc {α : Type} {P : α → Prop} {a : α} {l : List α} (h : P a) (k : ∀ p ∈ l, P p) : ∀ p ∈ a :: l, P p := List.forall_mem_cons.mpr ⟨h, k⟩
theorem absG {P : Prop} (h : ∀ G : Prop, (P → G) → G) : P := h P id
theorem fa {α : Type} {P : α → Prop} {l l' : List α} (h : ∀ p ∈ l, P p) (k : ∀ p ∈ l', P p) : ∀ p ∈ l ++ l', P p := fun p hp => (List.mem_append.mp hp).elim (h p) (k p)
noncomputable def mT4 {α : Type} (l : List α) : List α := l.tail.tail.tail.tail
noncomputable def has4 {α : Type} (l : List α) : Bool := l.tail.tail.tail.head?.isSome
noncomputable def has1 {α : Type} (l : List α) : Bool := l.head?.isSome
theorem mKt {α : Type} {l : List α} {a : α} (h : a ∈ l.tail) : a ∈ l := List.mem_of_mem_tail h
theorem mK4 {α : Type} {a : α} {l : List α} (_ : has4 l = true) (h : a ∈ mT4 l) : a ∈ l := mKt (mKt (mKt (mKt h)))
theorem mK1 {α : Type} {a : α} {l : List α} (_ : has1 l = true) (h : a ∈ l.tail) : a ∈ l := mKt h
theorem mH0 {α : Type} {a : α} {l : List α} (h : l.head? = some a) : a ∈ l := List.mem_of_mem_head? h
theorem mH1 {α : Type} {a : α} {l : List α} (h : l.tail.head? = some a) : a ∈ l := mKt (mH0 h)
theorem mH2 {α : Type} {a : α} {l : List α} (h : l.tail.tail.head? = some a) : a ∈ l := mKt (mH1 h)
theorem mH3 {α : Type} {a : α} {l : List α} (h : l.tail.tail.tail.head? = some a) : a ∈ l := mKt (mH2 h)
theorem sK4 {α : Type} {k l : List α} (_ : has4 l = true) (h : ∀ p ∈ k, p ∈ mT4 l) : ∀ p ∈ k, p ∈ l := fun p hp => mK4 ‹_› (h p hp)
theorem sK1 {α : Type} {k l : List α} (_ : has1 l = true) (h : ∀ p ∈ k, p ∈ l.tail) : ∀ p ∈ k, p ∈ l := fun p hp => mKt (h p hp)
theorem sid {α : Type} {l : List α} : ∀ p ∈ l, p ∈ l := fun _ h => h

end EAp
section A0bp
section
variable {prog : Program} {w : World} {A₀ A : Around} {E : Value → Shared → Prop} {s : Shared} {base h₀ : Heap} {outer : List Env} {L : Addr} {m : Str → Option Value} {env : Env} {news : List (Addr × Obj)}
theorem code_defCG {K : Frag} {p : Program} {loose : List Str} {mean : ExcName → Option Value} {mg mb : Str → Option Value} {R : Result → Shared → Prop} {name qual : Str} {params : Arguments} {body : List Stmt} {scope : Scope} {dV kV doc pm cdv ct oc : Value} {an od : Option Addr} {osl : Array (Option Value)} {f : Addr} {args : Args} {binds : List (Str × Value)}
  (B : Below A₀ base outer h₀) (F : Fr h₀ L s.heap m) (X₀ : K.In h₀) (N : News h₀ L s.heap news) (T : Top p loose mean mg mb h₀) (hA : A.frames = some (env :: outer)) (hf : env.frame = some L) (hke : env.scope.kind = .function)
  (ho : K.lookup f = some ⟨oc, od, .func (fnOf name qual params body scope dV kV doc pm an cdv ct), osl⟩) (hcd : codeIn K cdv qual = true) (hroom : A.depth < recursionLimit)
  (hbind : BindsTo s (fnOf name qual params body scope dV kV doc pm an cdv ct) args binds) (hkind : (binds.all fun y => scope.names.lookup y.1 == some .local || scope.names.lookup y.1 == some .cell) = true)
  (hnd : ((cellsFrom 0 scope.names []).map (·.1)).Nodup)
  (h : ∀ g L' h₁ tk cells, Fr h₀ L g m → Fr g L' h₁ (bindL (envOfC qual scope L' f cdv).kindOf binds fun _ => none) → News g L' h₁ (cells ++ news) →
   CellsAre (bindC (envOfC qual scope L' f cdv).kindOf binds fun _ => none) (cellsFrom (L' + 1) scope.names []) cells → Below A base (env :: outer) g → K.In g → Top p loose mean mg mb g → (∀ p ∈ news, p.1 < L') → GSub s.heap g (news.map (·.1)) →
   wpAny (model prog w) (A.deeper (envOfC qual scope L' f cdv)) (execs body (envOfC qual scope L' f cdv))
    (fun fl s' => LeaveK h₀ L m g (fun r s'' => Keep s.heap s''.heap (news.map (·.1)) → R r s'') (match fl with | .ret v => v | _ => .none) s')
    (fun e s' => wpAny (model prog w) (A.deeper (envOfC qual scope L' f cdv)) (leaving (envOfC qual scope L' f cdv) e) (fun _ s'' => R (.error e) s'') (fun e' s'' => R (.error e') s'') s')
    { s with heap := h₁, toks := tk })
  (hco : scope.isCoroutine = false) (hgen : scope.isGenerator = false) (hk : scope.kind = .function) : codeAny (model prog w) A (.call (.ref f) args) R s := by
 refine an4 (groundX (R := R) B F N hA hf hke) ?_
 intro FG BG st lv
 have G : GSub s.heap (hideAll s.heap (news.map (·.1))) (news.map (·.1)) := fun b o e n => hideAll_get _ e n
 refine codeAny_call_function hroom ((X₀.keeps F.keep) _ _ ho) rfl hco hgen rfl (codeRec_of (X₀.keeps F.keep) hcd) (hbind _ _ _ _ ?_)
 refine wpAny_newFunctionEnv_cells hk (kindsX hkind _) fun env' he s' x => ?_
 subst he
 refine ⟨(T.nolimit.keeps F.keep).keeps x.toInCall.keep, codeAny_func ?_⟩
 with_reducible refine ex2 x.done ?_
 intro h₁ tk hX9
 with_reducible refine an2 hX9 ?_
 clear hX9
 intro hR9
 subst hR9
 intro _
 have hk₁ := x.toInCall.keep
 refine ea1_2 (Cl.news (h₀ := s.heap) (Nat.le_refl _) fun n c hm => ⟨x.cell n c (lookup_of_mem_nodup (cellsFrom_names scope.names 0 (s.heap.objs.size + 1) [] [] rfl ▸ hnd) hm), x.above n c hm⟩) ?_
 intro cells NC Y
 have F₁ : Fr (hideAll s.heap (news.map (·.1))) s.heap.objs.size h₁ (bindL (envOfC qual scope s.heap.objs.size f cdv).kindOf binds fun _ => none) := ⟨x.toInCall.ns, fun b o e => hk₁ b o (of_hideAll _ e), Nat.le_of_eq (hideAll_size _ _)⟩
 have N₁ : News (hideAll s.heap (news.map (·.1))) s.heap.objs.size h₁ (cells ++ news) := by
  intro p hp
  rcases List.mem_append.mp hp with hp | hp
  ·refine ⟨(NC p hp).1, (NC p hp).2.1, ?_⟩
   cases q : (hideAll s.heap (news.map (·.1))).get? p.1 with
   | none => rfl
   | some o => have := of_hideAll _ q; rw [(NC p hp).2.2] at this; cases this
  ·exact ⟨hk₁ _ _ (N p hp).1, Nat.ne_of_lt (Heap.lt_size (N p hp).1), hideAll_none _ (List.mem_map_of_mem hp)⟩
 exact wpAny_mono (h _ s.heap.objs.size h₁ tk cells FG F₁ N₁ Y BG (X₀.keeps st) (T.keeps st) (fun p hp => Heap.lt_size (N p hp).1) G) (fun fl s' hl => lv _ _ (leave_keep G hl)) fun _ _ y => y
theorem code_defCS {K : Frag} {p : Program} {loose : List Str} {mean : ExcName → Option Value} {mg mb : Str → Option Value} {R : Result → Shared → Prop} {name qual : Str} {params : Arguments} {body : List Stmt} {scope : Scope} {dV kV doc pm cdv ct oc : Value} {an od : Option Addr} {osl : Array (Option Value)} {f : Addr} {args : Args} {binds : List (Str × Value)}
  (B : Below A₀ base outer h₀) (F : Fr h₀ L s.heap m) (X₀ : K.In h₀) (N : News h₀ L s.heap news) (T : Top p loose mean mg mb h₀) (hA : A.frames = some (env :: outer)) (hf : env.frame = some L) (hke : env.scope.kind = .function)
  (ho : K.lookup f = some ⟨oc, od, .func (fnOf name qual params body scope dV kV doc pm an cdv ct), osl⟩) (hcd : codeIn K cdv qual = true) (hroom : A.depth < recursionLimit)
  (hbind : BindsTo s (fnOf name qual params body scope dV kV doc pm an cdv ct) args binds) (hkind : (binds.all fun y => scope.names.lookup y.1 == some .local || scope.names.lookup y.1 == some .cell) = true)
  (hnd : ((cellsFrom 0 scope.names []).map (·.1)).Nodup)
  (h : ∀ g L' h₁ tk cells, Fr h₀ L g m → Fr g L' h₁ (bindL (envOfC qual scope L' f cdv).kindOf binds fun _ => none) → News g L' h₁ (cells ++ news) →
   CellsAre (bindC (envOfC qual scope L' f cdv).kindOf binds fun _ => none) (cellsFrom (L' + 1) scope.names []) cells → Below A base (env :: outer) g → K.In g → Top p loose mean mg mb g → (∀ p ∈ news, p.1 < L') →
   wpAny (model prog w) (A.deeper (envOfC qual scope L' f cdv)) (execs body (envOfC qual scope L' f cdv))
    (fun fl s' => LeaveK h₀ L m g (fun r s'' => Keep s.heap s''.heap (news.map (·.1)) → R r s'') (match fl with | .ret v => v | _ => .none) s')
    (fun e s' => wpAny (model prog w) (A.deeper (envOfC qual scope L' f cdv)) (leaving (envOfC qual scope L' f cdv) e) (fun _ s'' => R (.error e) s'') (fun e' s'' => R (.error e') s'') s')
    { s with heap := h₁, toks := tk })
  (hco : scope.isCoroutine = false) (hgen : scope.isGenerator = false) (hk : scope.kind = .function) : codeAny (model prog w) A (.call (.ref f) args) R s :=
 code_defCG B F X₀ N T hA hf hke ho hcd hroom hbind hkind hnd (fun g L' h₁ tk cells a b c d e f i j _ => h g L' h₁ tk cells a b c d e f i j) hco hgen hk
end

end A0bp
section A1p
noncomputable abbrev Led := List (Addr × Obj)
noncomputable abbrev tup (vs : List Value) : Obj := { cls := .type "tuple", data := .seq vs.toArray }
structure DK5 where
 h1 : Int
 h2 : Int
 h3 : Int
 h4 : Int
 h5 : Int
 t1 : Tok
 t2 : Tok
 t3 : Tok
 t4 : Tok
 t5 : Tok
noncomputable abbrev draftD (k : DK5) (pr ops pla slots heads : Value) : List DictEntry :=
 [⟨k.h1, .str "procedures" k.t1, pr⟩, ⟨k.h2, .str "ops" k.t2, ops⟩, ⟨k.h3, .str "places" k.t3, pla⟩, ⟨k.h4, .str "slots" k.t4, slots⟩, ⟨k.h5, .str "heads" k.t5, heads⟩]

inductive AOp where
 | push (e : Value) (l : Int)
 | put (r : Value) (way : Str) (l : Int)
 | test (c : Value) (l : Int)
 | jump (l : Int)
 | deed (st : Value)
 | stop (x : Str)
inductive OpIn (tl : Led) : Value → AOp → Prop
 | push {a : Addr} {t u : Tok} {e : Value} {l : Int} : (a, tup [.str "push" t, e, .int l u]) ∈ tl → OpIn tl (.ref a) (.push e l)
 | put {a b c : Addr} {t u x : Tok} {r : Value} {way : Str} {l : Int} : (a, tup [.str "put" t, .ref b, .int l u]) ∈ tl → (b, tup [.ref c]) ∈ tl → (c, tup [r, .bool false, .str way x]) ∈ tl → OpIn tl (.ref a) (.put r way l)
 | test {a : Addr} {t u : Tok} {c : Value} {l : Int} : (a, tup [.str "test" t, c, .int l u]) ∈ tl → OpIn tl (.ref a) (.test c l)
 | jump {a : Addr} {t u : Tok} {l : Int} : (a, tup [.str "jump" t, .int l u]) ∈ tl → OpIn tl (.ref a) (.jump l)
 | deed {a : Addr} {t : Tok} {st : Value} : (a, tup [.str "do" t, st]) ∈ tl → OpIn tl (.ref a) (.deed st)
 | stop {a : Addr} {t u : Tok} {x : Str} : (a, tup [.str "stop" t, .str x u]) ∈ tl → OpIn tl (.ref a) (.stop x)
theorem OpIn.mono {tl tl' : Led} (hs : ∀ p ∈ tl, p ∈ tl') {v : Value} {o : AOp} (h : OpIn tl v o) : OpIn tl' v o := by
 cases h with
 | push a => exact .push (hs _ a)
 | put a b c => exact .put (hs _ a) (hs _ b) (hs _ c)
 | test a => exact .test (hs _ a)
 | jump a => exact .jump (hs _ a)
 | deed a => exact .deed (hs _ a)
 | stop a => exact .stop (hs _ a)
inductive OpsIn (tl : Led) : List Value → List AOp → Prop
 | nil : OpsIn tl [] []
 | cons {v : Value} {vs : List Value} {o : AOp} {os : List AOp} : OpIn tl v o → OpsIn tl vs os → OpsIn tl (v :: vs) (o :: os)
theorem OpsIn.mono {tl tl' : Led} (hs : ∀ p ∈ tl, p ∈ tl') {vs : List Value} {os : List AOp} (h : OpsIn tl vs os) : OpsIn tl' vs os := by
 induction h with
 | nil => exact .nil
 | cons a _ ih => exact .cons (a.mono hs) ih
theorem OpsIn.length {tl : Led} {vs : List Value} {os : List AOp} (h : OpsIn tl vs os) : vs.length = os.length := by
 induction h with
 | nil => rfl
 | cons a _ ih => rw [List.length_cons, List.length_cons, ih]
theorem OpsIn.append {tl : Led} {vs ws : List Value} {os ps : List AOp} (h : OpsIn tl vs os) (k : OpsIn tl ws ps) : OpsIn tl (vs ++ ws) (os ++ ps) := by
 induction h with
 | nil => exact k
 | cons a _ ih => exact .cons a ih

structure DSt (tl : Led) (os ps : Array Value) (aops : List AOp) (pls : List Int) : Prop where
 kinds : ∀ p ∈ tl, p.2.cls = .type "tuple"
 ops : OpsIn tl os.toList aops
 pint : IntsAre ps.toList pls
 small : aops.length + pls.length ≤ 1000

theorem DSt.osize {tl : Led} {os ps : Array Value} {aops : List AOp} {pls : List Int} (h : DSt tl os ps aops pls) : os.size = aops.length := by
 rw [← Array.length_toList]; exact h.ops.length
theorem DSt.psize {tl : Led} {os ps : Array Value} {aops : List AOp} {pls : List Int} (h : DSt tl os ps aops pls) : ps.size = pls.length := by
 rw [← Array.length_toList]; exact (IntsAre.length h.pint)

structure NeA (a b : Nat) : Prop where
 ne : @Ne Nat a b
theorem NeA.ne' {a b : Nat} (h : NeA b a) : @Ne Nat a b := fun e => h.ne e.symm
structure NeAll (d : Nat) (l : Led) : Prop where
 all : ∀ p ∈ l, p.1 ≠ d
theorem NeAll.at {d a : Nat} {o : Obj} {l : Led} (h : NeAll d l) (hm : (a, o) ∈ l) : @Ne Nat a d := h.all _ hm
theorem NeAll.at' {d a : Nat} {o : Obj} {l : Led} (h : NeAll d l) (hm : (a, o) ∈ l) : @Ne Nat d a := fun e => h.all _ hm e.symm

inductive SF (d1 d2 : Addr) (o1 o2 : Obj) (tl : Led) : Led → (Obj → Obj → Led → Led) → Prop
 | tail : SF d1 d2 o1 o2 tl tl (fun _ _ t => t)
 | nil : SF d1 d2 o1 o2 tl [] (fun _ _ _ => [])
 | one {r : Led} {f} : SF d1 d2 o1 o2 tl r f → SF d1 d2 o1 o2 tl ((d1, o1) :: r) (fun a b t => (d1, a) :: f a b t)
 | two {r : Led} {f} : SF d1 d2 o1 o2 tl r f → SF d1 d2 o1 o2 tl ((d2, o2) :: r) (fun a b t => (d2, b) :: f a b t)
 | tup {x : Addr} {vs : Array Value} {n : Nat} {r : Led} {f} : SF d1 d2 o1 o2 tl r f → SF d1 d2 o1 o2 tl ((x, ({ cls := .type "tuple", data := .seq vs n } : Obj)) :: r) (fun a b t => (x, ({ cls := .type "tuple", data := .seq vs n } : Obj)) :: f a b t)
 | dict {x : Addr} {es : List DictEntry} {n : Nat} {r : Led} {f} : SF d1 d2 o1 o2 tl r f → SF d1 d2 o1 o2 tl ((x, dictOf es n) :: r) (fun a b t => (x, dictOf es n) :: f a b t)
 | inst {x C dx : Addr} {r : Led} {f} : SF d1 d2 o1 o2 tl r f → SF d1 d2 o1 o2 tl ((x, instObj C dx) :: r) (fun a b t => (x, instObj C dx) :: f a b t)
 | drop {p : Addr × Obj} {r : Led} {f} : SF d1 d2 o1 o2 tl r f → SF d1 d2 o1 o2 tl (p :: r) f
 | keep {p : Addr × Obj} {r : Led} {f} : @Ne Nat p.1 d1 → @Ne Nat p.1 d2 → SF d1 d2 o1 o2 tl r f → SF d1 d2 o1 o2 tl (p :: r) (fun a b t => p :: f a b t)
theorem SF.mem {d1 d2 : Addr} {o1 o2 o1' o2' : Obj} {tl tl' l : Led} {f : Obj → Obj → Led → Led} (S : SF d1 d2 o1 o2 tl l f) :
  ∀ p ∈ f o1' o2' tl', p = (d1, o1') ∨ p = (d2, o2') ∨ p ∈ tl' ∨ (p ∈ l ∧ ((p.2.cls ≠ .type "list") ∨ (p.1 ≠ d1 ∧ p.1 ≠ d2))) := by
 induction S with
 | tail => exact fun p h => .inr (.inr (.inl h))
 | nil => exact fun p h => nomatch h
 | one _ ih =>
  intro p h
  rcases List.mem_cons.mp h with h | h
  ·exact .inl h
  ·rcases ih p h with h | h | h | ⟨h, k⟩
   ·exact .inl h
   ·exact .inr (.inl h)
   ·exact .inr (.inr (.inl h))
   ·exact .inr (.inr (.inr ⟨.tail _ h, k⟩))
 | two _ ih =>
  intro p h
  rcases List.mem_cons.mp h with h | h
  ·exact .inr (.inl h)
  ·rcases ih p h with h | h | h | ⟨h, k⟩
   ·exact .inl h
   ·exact .inr (.inl h)
   ·exact .inr (.inr (.inl h))
   ·exact .inr (.inr (.inr ⟨.tail _ h, k⟩))
 | tup _ ih | dict _ ih | inst _ ih =>
  intro p h
  rcases List.mem_cons.mp h with h | h
  ·exact .inr (.inr (.inr ⟨by rw [h]; exact .head _, .inl (by rw [h]; simp)⟩))
  ·rcases ih p h with h | h | h | ⟨h, k⟩
   ·exact .inl h
   ·exact .inr (.inl h)
   ·exact .inr (.inr (.inl h))
   ·exact .inr (.inr (.inr ⟨.tail _ h, k⟩))
 | drop _ ih =>
  intro p h
  rcases ih p h with h | h | h | ⟨h, k⟩
  ·exact .inl h
  ·exact .inr (.inl h)
  ·exact .inr (.inr (.inl h))
  ·exact .inr (.inr (.inr ⟨.tail _ h, k⟩))
 | keep n1 n2 _ ih =>
  intro p h
  rcases List.mem_cons.mp h with h | h
  ·exact .inr (.inr (.inr ⟨by rw [h]; exact .head _, .inr (by rw [h]; exact ⟨n1, n2⟩)⟩))
  ·rcases ih p h with h | h | h | ⟨h, k⟩
   ·exact .inl h
   ·exact .inr (.inl h)
   ·exact .inr (.inr (.inl h))
   ·exact .inr (.inr (.inr ⟨.tail _ h, k⟩))

noncomputable abbrev dLed (D dx oA pA : Addr) (k : DK5) (pr sl hd : Value) (os ps : Array Value) (no np : Nat) (tl : Led) : Led :=
 (D, instObj 209 dx) :: (dx, dictOf (draftD k pr (.ref oA) (.ref pA) sl hd) 5) :: (oA, listOf os no) :: (pA, listOf ps np) :: tl

structure DAt where
 D : Addr
 dx : Addr
 oA : Addr
 pA : Addr
 k : DK5
 pr : Value
 sl : Value
 hd : Value
noncomputable abbrev DAt.led (d : DAt) (os ps : Array Value) (no np : Nat) (tl : Led) : Led := dLed d.D d.dx d.oA d.pA d.k d.pr d.sl d.hd os ps no np tl

noncomputable def DSpec (w : World) (f : Addr) (dd uu : Nat) (vs : List Value) (d : DAt) (ext : Led) (aops : List AOp) (pls : List Int) (aops' : List AOp) (pls' : List Int) (rv : Value → Prop) : Prop :=
 ∀ os ps no np tl, DSt tl os ps aops pls → NeA d.oA d.pA → Ctr w f dd uu vs (d.led os ps no np (ext ++ tl))
  (fun _ r _ out => rv r ∧ ∃ os' ps' no' np' tl', DSt tl' os' ps' aops' pls' ∧ (∀ p ∈ ext ++ tl, p ∈ tl') ∧ (∀ p ∈ d.led os' ps' no' np' tl', p ∈ out))

theorem dspec_core {w : World} {f : Addr} {dd uu : Nat} {vs : List Value} {d : DAt} {Post : Heap → Value → Heap → Led → Prop}
  {p : Program} {loose : List Str} {mean : ExcName → Option Value} {mg mb : Str → Option Value} {dp un : Nat} {gd : Option (List Code)} {cn : Str} {cs : Scope} {a : Addr} {ccd : Value} {cl : List (Str × Addr)} {outer : List Env} {A₀ : Around} {base h₀ : Heap} {L : Addr} {m : Str → Option Value} {s : Shared}
  {Q E : Value → Shared → Prop} {os ps : Array Value} {no np : Nat} {tl0 tl news : Led} {G : Obj → Obj → Led → Led}
  (C : Ctr w f dd uu vs (d.led os ps no np tl0) Post)
  (B : Below A₀ base outer h₀) (F : Fr h₀ L s.heap m) (X : Frag.In (Mine.hd.heap_1 w.params) h₀) (N : News h₀ L s.heap news) (T : Top p loose mean mg mb h₀) (hk : cs.kind = .function) (hd : dp + dd < recursionLimit) (hu : un + uu < cLine)
  (m1 : (d.D, instObj 209 d.dx) ∈ news) (m2 : (d.dx, dictOf (draftD d.k d.pr (.ref d.oA) (.ref d.pA) d.sl d.hd) 5) ∈ news) (m3 : (d.oA, listOf os no) ∈ news) (m4 : (d.pA, listOf ps np) ∈ news) (mt : ∀ p ∈ tl0, p ∈ news)
  (S : SF d.oA d.pA (listOf os no) (listOf ps np) tl news G)
  (h : ∀ r out h' tk', Fr h₀ L h' m → News h₀ L h' out → Keep s.heap h' ((d.led os ps no np tl0).map (·.1)) → Post s.heap r h' out →
   (∀ os' ps' no' np' tl', (∀ p ∈ d.led os' ps' no' np' tl', p ∈ out) → (∀ p ∈ tl0, p ∈ tl') → News h₀ L h' (G (listOf os' no') (listOf ps' np') tl')) → Q r { s with heap := h', toks := tk' }) :
  wpAny (model PR w) (ktrTop dp un gd cn cs L a ccd cl outer) (call (.ref f) vs) Q E s := by
 have hneed : ∀ p ∈ d.led os ps no np tl0, p ∈ news := by
  intro p hp
  rcases List.mem_cons.mp hp with hp | hp
  ·rw [hp]; exact m1
  rcases List.mem_cons.mp hp with hp | hp
  ·rw [hp]; exact m2
  rcases List.mem_cons.mp hp with hp | hp
  ·rw [hp]; exact m3
  rcases List.mem_cons.mp hp with hp | hp
  ·rw [hp]; exact m4
  ·exact mt p hp
 refine C p loose mean mg mb dp un gd cn cs a ccd cl outer A₀ base h₀ L m s Q E B F X (fun p hp => N p (hneed p hp)) T hk hd hu ?_
 intro r out h' tk' F' N' K hp
 refine h r out h' tk' F' N' K hp ?_
 intro os' ps' no' np' tl' ho hs
 have nl : ∀ p ∈ news, (p.2.cls ≠ .type "list" ∨ (p.1 ≠ d.oA ∧ p.1 ≠ d.pA)) → h'.get? p.1 = some p.2 := by
  intro p hp hc
  by_cases hq : p.1 ∈ (d.led os ps no np tl0).map (·.1)
  ·refine ea1_2 (List.mem_map.mp hq) ?_
   intro q hm e
   have e1 := (N q (hneed q hm)).1
   have e2 := (N p hp).1
   rw [e, e2] at e1
   have eq : q = p := Prod.ext e (Option.some.inj e1).symm
   rw [← eq] at hc ⊢
   refine (N' q (ho q ?_)).1
   rcases List.mem_cons.mp hm with hm | hm
   ·rw [hm]; exact .head _
   rcases List.mem_cons.mp hm with hm | hm
   ·rw [hm]; exact .tail _ (.head _)
   rcases List.mem_cons.mp hm with hm | hm
   ·rw [hm] at hc; exact hc.elim (fun c => absurd rfl c) (fun c => absurd rfl c.1)
   rcases List.mem_cons.mp hm with hm | hm
   ·rw [hm] at hc; exact hc.elim (fun c => absurd rfl c) (fun c => absurd rfl c.2)
   exact .tail _ (.tail _ (.tail _ (.tail _ (hs q hm))))
  ·exact K _ _ (N p hp).1 hq
 intro p hp
 rcases S.mem p hp with e | e | e | ⟨e, k⟩
 ·exact N' p (ho p (by rw [e]; exact .tail _ (.tail _ (.head _))))
 ·exact N' p (ho p (by rw [e]; exact .tail _ (.tail _ (.tail _ (.head _)))))
 ·exact N' p (ho p (.tail _ (.tail _ (.tail _ (.tail _ e)))))
 ·exact ⟨nl p e k, (N p e).2.1, (N p e).2.2⟩

theorem dspec_use {w : World} {f : Addr} {dd uu : Nat} {vs : List Value} {d : DAt} {ext : Led} {aops aops' : List AOp} {pls pls' : List Int} {rv : Value → Prop}
  {p : Program} {loose : List Str} {mean : ExcName → Option Value} {mg mb : Str → Option Value} {dp un : Nat} {gd : Option (List Code)} {cn : Str} {cs : Scope} {a : Addr} {ccd : Value} {cl : List (Str × Addr)} {outer : List Env} {A₀ : Around} {base h₀ : Heap} {L : Addr} {m : Str → Option Value} {s : Shared}
  {Q E : Value → Shared → Prop} {os ps : Array Value} {no np : Nat} {tl news : Led} {G : Obj → Obj → Led → Led}
  (C : DSpec w f dd uu vs d ext aops pls aops' pls' rv)
  (B : Below A₀ base outer h₀) (F : Fr h₀ L s.heap m) (X : Frag.In (Mine.hd.heap_1 w.params) h₀) (N : News h₀ L s.heap news) (T : Top p loose mean mg mb h₀) (hk : cs.kind = .function) (hd : dp + dd < recursionLimit) (hu : un + uu < cLine)
  (m1 : (d.D, instObj 209 d.dx) ∈ news) (m2 : (d.dx, dictOf (draftD d.k d.pr (.ref d.oA) (.ref d.pA) d.sl d.hd) 5) ∈ news) (m3 : (d.oA, listOf os no) ∈ news) (m4 : (d.pA, listOf ps np) ∈ news) (me : ∀ p ∈ ext, p ∈ news) (mt : ∀ p ∈ tl, p ∈ news)
  (S : SF d.oA d.pA (listOf os no) (listOf ps np) tl news G) (hne : NeA d.oA d.pA) (St : DSt tl os ps aops pls)
  (h : ∀ r os' ps' no' np' tl' h' tk', rv r → Fr h₀ L h' m → News h₀ L h' (G (listOf os' no') (listOf ps' np') tl') → DSt tl' os' ps' aops' pls' → (∀ p ∈ ext ++ tl, p ∈ tl') → Q r { s with heap := h', toks := tk' }) :
  wpAny (model PR w) (ktrTop dp un gd cn cs L a ccd cl outer) (call (.ref f) vs) Q E s := by
 refine dspec_core (C os ps no np tl St hne) B F X N T hk hd hu m1 m2 m3 m4 (fun p hp => (List.mem_append.mp hp).elim (me p) (mt p)) S ?_
 rintro r out h' tk' F' N' K ⟨hr, os', ps', no', np', tl', St', hs, ho⟩ back
 exact h r os' ps' no' np' tl' h' tk' hr F' (back os' ps' no' np' tl' ho hs) St' hs

theorem dled_ne {h₀ h : Heap} {L D dx oA pA : Addr} {k : DK5} {pr sl hd : Value} {os ps : Array Value} {no np : Nat} {tl : Led} (N : News h₀ L h (dLed D dx oA pA k pr sl hd os ps no np tl)) (hk : ∀ p ∈ tl, p.2.cls = .type "tuple") :
  NeA D oA ∧ NeA D pA ∧ NeA dx oA ∧ NeA dx pA ∧ (∀ p ∈ tl, p.1 ≠ oA) ∧ (∀ p ∈ tl, p.1 ≠ pA) := by
 have m1 : (D, instObj 209 dx) ∈ dLed D dx oA pA k pr sl hd os ps no np tl := .head _
 have m2 : (dx, dictOf (draftD k pr (.ref oA) (.ref pA) sl hd) 5) ∈ dLed D dx oA pA k pr sl hd os ps no np tl := .tail _ (.head _)
 have m3 : (oA, listOf os no) ∈ dLed D dx oA pA k pr sl hd os ps no np tl := .tail _ (.tail _ (.head _))
 have m4 : (pA, listOf ps np) ∈ dLed D dx oA pA k pr sl hd os ps no np tl := .tail _ (.tail _ (.tail _ (.head _)))
 have mt : ∀ p ∈ tl, p ∈ dLed D dx oA pA k pr sl hd os ps no np tl := fun p hp => .tail _ (.tail _ (.tail _ (.tail _ hp)))
 refine ⟨⟨news_ne N m1 m3 (by simp)⟩, ⟨news_ne N m1 m4 (by simp)⟩, ⟨news_ne N m2 m3 (by simp)⟩, ⟨news_ne N m2 m4 (by simp)⟩, fun p hp => news_ne N (mt p hp) m3 (by rw [hk p hp]; show Value.type "tuple" ≠ Value.type "list"; simp), fun p hp => news_ne N (mt p hp) m4 (by rw [hk p hp]; show Value.type "tuple" ≠ Value.type "list"; simp)⟩

theorem ints_push {ps : Array Value} {pls : List Int} {i : Int} {t : Tok} (h : IntsAre ps.toList pls) : IntsAre (ps.push (.int i t)).toList (pls ++ [i]) := by
 rw [Array.toList_push]; exact IntsAre.append h (.cons _ _ .nil)

theorem setA {prog : Program} {w : World} {A : Around} {E : Value → Shared → Prop} {s : Shared} {h₀ : Heap} {L D : Addr} {m : Str → Option Value} {news news' : Led} {its : Array Value} {n i : Nat} {t : Tok} {v : Value} {Q : Unit → Shared → Prop} (F : Fr h₀ L s.heap m) (N : News h₀ L s.heap news)
  (hn : i < its.size) (hfit : i < 2 ^ 62) (U : Upd D (listOf its n) (listOf (its.setIfInBounds i v) n) news news') (h : ∀ h', Fr h₀ L h' m → News h₀ L h' news' → Q () { s with heap := h' }) : wpAny (model prog w) A (setItem (.ref D) (.int (i : Int) t) v) Q E s := by
 with_reducible refine ex2 U.split ?_
 intro pre post hX9
 with_reducible refine an4 hX9 ?_
 clear hX9
 intro hR9
 subst hR9
 intro hR9
 subst hR9
 intro a b
 have z := N (D, listOf its n) (List.mem_append.mpr (.inr (.head _)))
 refine ki_setAt z.1 (by lia) (by lia) (by lia) (h _ (F.change (Heap.SameBut.update ..) z.2.1 z.2.2) (ki_turn _ N a b ?_ ?_))
 ·rfl
 ·simp
theorem ints_setA {ps : Array Value} {pls : List Int} {i : Nat} {x : Int} {t : Tok} (h : IntsAre ps.toList pls) : IntsAre (ps.setIfInBounds i (.int x t)).toList (pls.set i x) := by
 have e : (ps.setIfInBounds i (.int x t)).toList = ps.toList.set i (.int x t) := by simp
 rw [e]; exact ints_set h i
section
variable {prog : Program} {w : World} {A : Around} {E : Value → Shared → Prop} {s : Shared}
theorem in_strsB {t : Addr} {items : Array Value} {ys : List Str} {x : Str} {u : Tok} {b : Bool} {Q : Value → Shared → Prop} (ht : IsTup s.heap t items) (hi : StrsAre items.toList ys) (hb : ys.any (· == x) = b) (h : Q (.bool b) s) :
  wpAny (model prog w) A (compareOp .In (.str x u) (.ref t)) Q E s := in_tuple_strs ht hi (by rw [hb]; exact h)
theorem notin_strsB {t : Addr} {items : Array Value} {ys : List Str} {x : Str} {u : Tok} {b : Bool} {Q : Value → Shared → Prop} (ht : IsTup s.heap t items) (hi : StrsAre items.toList ys) (hb : ys.any (· == x) = b) (h : Q (.bool (!b)) s) :
  wpAny (model prog w) A (compareOp .NotIn (.str x u) (.ref t)) Q E s := notin_tuple_strs ht hi (by rw [hb]; exact h)
end
theorem dspec_end {D dx oA pA : Addr} {k : DK5} {pr sl hd : Value} {os1 ps1 : Array Value} {no1 np1 : Nat} {tl tl1 ext out : Led} {aops1 aops' : List AOp} {pls1 pls' : List Int} (St : DSt tl1 os1 ps1 aops1 pls1) (hext : ∀ p ∈ ext, p.2.cls = .type "tuple")
  (m1 : (D, instObj 209 dx) ∈ out) (m2 : (dx, dictOf (draftD k pr (.ref oA) (.ref pA) sl hd) 5) ∈ out) (m3 : (oA, listOf os1 no1) ∈ out) (m4 : (pA, listOf ps1 np1) ∈ out) (me : ∀ p ∈ ext, p ∈ out) (mt : ∀ p ∈ tl1, p ∈ out)
  (hs : ∀ p ∈ tl, p ∈ tl1) (ea : aops1 = aops') (ep : pls1 = pls') :
  ∃ os' ps' no' np' tl', DSt tl' os' ps' aops' pls' ∧ (∀ p ∈ ext ++ tl, p ∈ tl') ∧ ∀ p ∈ dLed D dx oA pA k pr sl hd os' ps' no' np' tl', p ∈ out := by
 subst ea ep
 refine exi5 os1 ps1 no1 np1 (ext ++ tl1) ⟨⟨fun p hp => (List.mem_append.mp hp).elim (hext p) (St.kinds p), St.ops.mono fun p hp => List.mem_append.mpr (.inr hp), St.pint, St.small⟩, fun p hp => ?_, fun p hp => ?_⟩
 ·exact (List.mem_append.mp hp).elim (fun h => List.mem_append.mpr (.inl h)) fun h => List.mem_append.mpr (.inr (hs p h))
 ·rcases List.mem_cons.mp hp with hp | hp
  ·rw [hp]; exact m1
  rcases List.mem_cons.mp hp with hp | hp
  ·rw [hp]; exact m2
  rcases List.mem_cons.mp hp with hp | hp
  ·rw [hp]; exact m3
  rcases List.mem_cons.mp hp with hp | hp
  ·rw [hp]; exact m4
  exact (List.mem_append.mp hp).elim (me p) (mt p)

inductive DL (I : Addr) (o : Obj) (tl : Led) : Led → Led → Prop
 | tail : DL I o tl tl tl
 | nil : DL I o tl [] []
 | it {r r' : Led} : DL I o tl r r' → DL I o tl ((I, o) :: r) r'
 | tup {x : Addr} {vs : Array Value} {n : Nat} {r r' : Led} : DL I o tl r r' → DL I o tl ((x, ({ cls := .type "tuple", data := .seq vs n } : Obj)) :: r) ((x, ({ cls := .type "tuple", data := .seq vs n } : Obj)) :: r')
 | list {x : Addr} {vs : Array Value} {n : Nat} {r r' : Led} : DL I o tl r r' → DL I o tl ((x, listOf vs n) :: r) ((x, listOf vs n) :: r')
 | dict {x : Addr} {es : List DictEntry} {n : Nat} {r r' : Led} : DL I o tl r r' → DL I o tl ((x, dictOf es n) :: r) ((x, dictOf es n) :: r')
 | inst {x C dx : Addr} {r r' : Led} : DL I o tl r r' → DL I o tl ((x, instObj C dx) :: r) ((x, instObj C dx) :: r')
 | keep {p : Addr × Obj} {r r' : Led} : @Ne Nat p.1 I → DL I o tl r r' → DL I o tl (p :: r) (p :: r')
theorem DL.mem {I : Addr} {o : Obj} {tl l l' : Led} (S : DL I o tl l l') : ∀ p ∈ l', p ∈ tl ∨ (p ∈ l ∧ ((p.2.cls = .type "tuple" ∨ p.2.cls = .type "list" ∨ p.2.cls = .type "dict" ∨ ∃ C, p.2.cls = .ref C) ∨ p.1 ≠ I)) := by
 induction S with
 | tail => exact fun p h => .inl h
 | nil => exact fun p h => nomatch h
 | it _ ih =>
  intro p h
  rcases ih p h with h | ⟨h, k⟩
  ·exact .inl h
  ·exact .inr ⟨.tail _ h, k⟩
 | tup _ ih =>
  intro p h
  rcases List.mem_cons.mp h with h | h
  ·exact .inr ⟨by rw [h]; exact .head _, .inl (.inl (by rw [h]))⟩
  ·rcases ih p h with h | ⟨h, k⟩
   ·exact .inl h
   ·exact .inr ⟨.tail _ h, k⟩
 | list _ ih =>
  intro p h
  rcases List.mem_cons.mp h with h | h
  ·exact .inr ⟨by rw [h]; exact .head _, .inl (.inr (.inl (by rw [h])))⟩
  ·rcases ih p h with h | ⟨h, k⟩
   ·exact .inl h
   ·exact .inr ⟨.tail _ h, k⟩
 | dict _ ih =>
  intro p h
  rcases List.mem_cons.mp h with h | h
  ·exact .inr ⟨by rw [h]; exact .head _, .inl (.inr (.inr (.inl (by rw [h]))))⟩
  ·rcases ih p h with h | ⟨h, k⟩
   ·exact .inl h
   ·exact .inr ⟨.tail _ h, k⟩
 | inst _ ih =>
  intro p h
  rcases List.mem_cons.mp h with h | h
  ·exact .inr ⟨by rw [h]; exact .head _, .inl (.inr (.inr (.inr ⟨_, by rw [h]⟩)))⟩
  ·rcases ih p h with h | ⟨h, k⟩
   ·exact .inl h
   ·exact .inr ⟨.tail _ h, k⟩
 | keep n _ ih =>
  intro p h
  rcases List.mem_cons.mp h with h | h
  ·exact .inr ⟨by rw [h]; exact .head _, .inr (by rw [h]; exact n)⟩
  ·rcases ih p h with h | ⟨h, k⟩
   ·exact .inl h
   ·exact .inr ⟨.tail _ h, k⟩
noncomputable def OwnIt (c : String) : Prop := c ≠ "tuple" ∧ c ≠ "list" ∧ c ≠ "dict"
theorem DL.off {h₀ h : Heap} {L I : Addr} {o : Obj} {tl l l' : Led} {c : String} (N : News h₀ L h l) (hm : (I, o) ∈ l) (hc : o.cls = .type c) (hw : OwnIt c) (S : DL I o tl l l') (ht : ∀ p ∈ tl, p ∈ l) (kt : ∀ p ∈ tl, p.2.cls = .type "tuple") :
  (∀ p ∈ l', p ∈ l) ∧ ∀ p ∈ l', p.1 ≠ I := by
 have bad : ∀ p ∈ l, (p.2.cls = .type "tuple" ∨ p.2.cls = .type "list" ∨ p.2.cls = .type "dict" ∨ ∃ C, p.2.cls = .ref C) → p.1 ≠ I := by
  intro p hp hq e
  have e1 := (N p hp).1
  have e2 := (N _ hm).1
  rw [e] at e1
  have e3 : p.2 = o := Option.some.inj (e1.symm.trans e2)
  rw [e3, hc] at hq
  rcases hq with q | q | q | ⟨C, q⟩
  ·exact hw.1 (by injection q)
  ·exact hw.2.1 (by injection q)
  ·exact hw.2.2 (by injection q)
  ·cases q
 refine ⟨fun p hp => ?_, fun p hp => ?_⟩
 ·rcases S.mem p hp with h | ⟨h, _⟩
  ·exact ht p h
  ·exact h
 ·rcases S.mem p hp with h | ⟨h, k | k⟩
  ·exact bad p (ht p h) (.inl (kt p h))
  ·exact bad p h k
  ·exact k
theorem unr_end {h₀ : Heap} {L I : Addr} {o : Obj} {s₁ : Shared} {rest : (Str → Option Value) → Led → Prop} {h' : Heap} {tk : Nat} {m' : Str → Option Value} {all news' tl : Led} {c : String} (F : Fr h₀ L h' m') (N : News h₀ L h' all) (hm : (I, o) ∈ all) (hc : o.cls = .type c) (hw : OwnIt c)
  (S : DL I o tl all news') (ht : ∀ p ∈ tl, p ∈ all) (kt : ∀ p ∈ tl, p.2.cls = .type "tuple") (r : rest m' news') : UnrEndW h₀ L s₁ [(I, o)] rest { s₁ with heap := h', toks := tk } := by
 obtain ⟨a, b⟩ := DL.off N hm hc hw S ht kt
 exact ⟨h', tk, m', news', rfl, F, fun p hp => by
  rcases List.mem_cons.mp hp with hp | hp
  ·rw [hp]; exact N _ hm
  ·exact N p (a p hp), fun p hp q hq => by rw [List.mem_singleton.mp hq]; exact b p hp, r⟩
theorem ltNe {D a : Nat} {o : Obj} {news : Led} (l : ∀ p ∈ news, p.1 < D) (h : ((a : Addr), o) ∈ news) : @Ne Nat a D := Nat.ne_of_lt (l _ h)
theorem ltNe' {D a : Nat} {o : Obj} {news : Led} (l : ∀ p ∈ news, p.1 < D) (h : ((a : Addr), o) ∈ news) : @Ne Nat D a := Nat.ne_of_gt (l _ h)
theorem ltAll {D : Nat} {l news : Led} (h : ∀ p ∈ news, p.1 < D) (hs : ∀ p ∈ l, p ∈ news) : ∀ p ∈ l, p.1 ≠ D := fun p hp => Nat.ne_of_lt (h p (hs p hp))
theorem ltNeT {D x a : Nat} {o : Obj} {news : Led} (t : @LT.lt Nat _ x D) (l : ∀ p ∈ news, p.1 < x) (h : ((a : Addr), o) ∈ news) : @Ne Nat a D := Nat.ne_of_lt (Nat.lt_trans (l _ h) t)
theorem ltNeT' {D x a : Nat} {o : Obj} {news : Led} (t : @LT.lt Nat _ x D) (l : ∀ p ∈ news, p.1 < x) (h : ((a : Addr), o) ∈ news) : @Ne Nat D a := Nat.ne_of_gt (Nat.lt_trans (l _ h) t)
theorem ltNe0 {D x : Nat} (t : @LT.lt Nat _ x D) : @Ne Nat x D := Nat.ne_of_lt t
theorem ltNe0' {D x : Nat} (t : @LT.lt Nat _ x D) : @Ne Nat D x := Nat.ne_of_gt t
theorem ltAllT {D x : Nat} {l news : Led} (t : @LT.lt Nat _ x D) (h : ∀ p ∈ news, p.1 < x) (hs : ∀ p ∈ l, p ∈ news) : ∀ p ∈ l, p.1 ≠ D := fun p hp => Nat.ne_of_lt (Nat.lt_trans (h p (hs p hp)) t)
theorem constIX {M : Model} {A : Around} {env : Env} {E : Value → Shared → Prop} {h : Heap} {g d o} {t : Nat} {i : Int} {k : Nat} {pos : Pos} {Q : Value → Shared → Prop} (q : Q (.int i t) { heap := h, gens := g, drawn := d, toks := t + 1, os := o }) : wpAny M A (eval (.Constant (.int i) k pos) env) Q E { heap := h, gens := g, drawn := d, toks := t, os := o } := wpAny_Constant_int q
theorem constSX {M : Model} {A : Around} {env : Env} {E : Value → Shared → Prop} {h : Heap} {g d o} {t : Nat} {i : Str} {k : Nat} {pos : Pos} {Q : Value → Shared → Prop} (q : Q (.str i t) { heap := h, gens := g, drawn := d, toks := t + 1, os := o }) : wpAny M A (eval (.Constant (.str i) k pos) env) Q E { heap := h, gens := g, drawn := d, toks := t, os := o } := Calls.Constant_str q
theorem addIX {w : World} {A : Around} {E : Value → Shared → Prop} {h : Heap} {g d o} {t : Nat} {a b : Int} {u v : Tok} {Q : Value → Shared → Prop} (q : Q (.int (a + b) t) { heap := h, gens := g, drawn := d, toks := t + 1, os := o }) : wpAny (model PR w) A (binaryOp .Add (.int a u) (.int b v)) Q E { heap := h, gens := g, drawn := d, toks := t, os := o } := PyProof.Rows.add_int q
theorem subIX {w : World} {A : Around} {E : Value → Shared → Prop} {h : Heap} {g d o} {t : Nat} {a b : Int} {u v : Tok} {Q : Value → Shared → Prop} (q : Q (.int (a - b) t) { heap := h, gens := g, drawn := d, toks := t + 1, os := o }) : wpAny (model PR w) A (binaryOp .Sub (.int a u) (.int b v)) Q E { heap := h, gens := g, drawn := d, toks := t, os := o } := PyProof.Rows.sub_int q
theorem tokS {α : Type} {M : Model} {A : Around} {p : Sem α} {Q : α → Shared → Prop} {E : Value → Shared → Prop} {h : Heap} {g d o} {t : Nat} (k : ∀ tk, wpAny M A p Q E { heap := h, gens := g, drawn := d, toks := tk, os := o }) : wpAny M A p Q E { heap := h, gens := g, drawn := d, toks := t + 1 + 1, os := o } := k _
theorem ltNeK {L a k : Nat} {o : Obj} {news : Led} (l : ∀ p ∈ news, p.1 < L) (h : ((a : Addr), o) ∈ news) : @Ne Nat a (L + k) := Nat.ne_of_lt (Nat.lt_of_lt_of_le (l _ h) (Nat.le_add_right _ _))
theorem ltNeK' {L a k : Nat} {o : Obj} {news : Led} (l : ∀ p ∈ news, p.1 < L) (h : ((a : Addr), o) ∈ news) : @Ne Nat (L + k) a := Nat.ne_of_gt (Nat.lt_of_lt_of_le (l _ h) (Nat.le_add_right _ _))
structure Up {α : Type} (K Q' : α → Shared → Prop) : Prop where
 up : ∀ r s, K r s → Q' r s
theorem upUse {α : Type} {K Q' : α → Shared → Prop} {r : α} {s : Shared} (h : Up K Q') (g : K r s) : Q' r s := h.up r s g
theorem absQE {α : Type} {M : Model} {A : Around} {p : Sem α} {Q : α → Shared → Prop} {E : Value → Shared → Prop} {s : Shared} (h : ∀ Q' E', Up Q Q' → Up E E' → wpAny M A p Q' E' s) : wpAny M A p Q E s := h Q E ⟨fun _ _ x => x⟩ ⟨fun _ _ x => x⟩
theorem absQ {α : Type} {M : Model} {A : Around} {p : Sem α} {Q : α → Shared → Prop} {E : Value → Shared → Prop} {s : Shared} (h : ∀ Q', Up Q Q' → wpAny M A p Q' E s) : wpAny M A p Q E s := h Q ⟨fun _ _ x => x⟩
structure SeqQ (M : Model) (A : Around) (rest : List Stmt) (env : Env) (Q : Flow → Shared → Prop) (E : Value → Shared → Prop) (Q' : Flow → Shared → Prop) : Prop where
 next : ∀ s, wpAny M A (execs rest env) Q E s → Q' .next s
 ret : ∀ v s, Q (.ret v) s → Q' (.ret v) s
 brk : ∀ s, Q .brk s → Q' .brk s
 cont : ∀ s, Q .cont s → Q' .cont s
theorem seqN {M : Model} {A : Around} {rest : List Stmt} {env : Env} {Q Q' : Flow → Shared → Prop} {E : Value → Shared → Prop} {s : Shared} (h : SeqQ M A rest env Q E Q') (g : wpAny M A (execs rest env) Q E s) : Q' .next s := h.next _ g
theorem seqR {M : Model} {A : Around} {rest : List Stmt} {env : Env} {Q Q' : Flow → Shared → Prop} {E : Value → Shared → Prop} {s : Shared} {v : Value} (h : SeqQ M A rest env Q E Q') (g : Q (.ret v) s) : Q' (.ret v) s := h.ret _ _ g
theorem consA3 {M : Model} {A : Around} {st : Stmt} {rest : List Stmt} {env : Env} {Q : Flow → Shared → Prop} {E : Value → Shared → Prop} {s : Shared} {h₀ h : Heap} {L : Addr} {news : Led} (N : News h₀ L h news)
  (h : let n' : Led := news; News h₀ L h n' → ∀ Q₀, Up Q Q₀ → ∀ Q', SeqQ M A rest env Q₀ E Q' → wpAny M A (exec st env) Q' E s) : wpAny M A (execs (st :: rest) env) Q E s :=
 wpAny_execs_cons (h N Q ⟨fun _ _ x => x⟩ _ ⟨fun _ x => x, fun _ _ x => x, fun _ x => x, fun _ x => x⟩)
theorem letA {α : Type} {M : Model} {A : Around} {p : Sem α} {Q : α → Shared → Prop} {E : Value → Shared → Prop} {s : Shared} (k : let A' : Around := A; wpAny M A' p Q E s) : wpAny M A p Q E s := k
theorem consA2 {M : Model} {A : Around} {st : Stmt} {rest : List Stmt} {env : Env} {Q : Flow → Shared → Prop} {E : Value → Shared → Prop} {s : Shared} (h : ∀ Q₀, Up Q Q₀ → ∀ Q', SeqQ M A rest env Q₀ E Q' → wpAny M A (exec st env) Q' E s) : wpAny M A (execs (st :: rest) env) Q E s :=
 wpAny_execs_cons (h Q ⟨fun _ _ x => x⟩ _ ⟨fun _ x => x, fun _ _ x => x, fun _ x => x, fun _ x => x⟩)

end A1p
section FUp
section
variable {w : World} {A : Around} {cn : Str} {cs : Scope} {L a : Addr} {ccd : Value} {cl : List (Str × Addr)} {E : Value → Shared → Prop} {h₀ h : Heap} {g d o} {t : Nat} {m : Str → Option Value} {news : Led} {x : Str} {xp pos kp : Pos} {kk : Nat} {k : Int} {j : Nat} {T : Addr} {vs : List Value} {v : Value} {Q : Value → Shared → Prop}
theorem subNT (F : Fr h₀ L h m) (hv : m x = some (.ref T)) (N : News h₀ L h news) (hm : (T, tup vs) ∈ news) (hj : seqIndex? k vs.length = some j) (hx : vs[j]? = some v) (q : Q v { heap := h, gens := g, drawn := d, toks := t + 1, os := o })
  (hk : cs.kind = .function) (hxk : (envX cn cs L a ccd cl).kindOf x = some .local) (hd : (x == ("__debug__" : Str)) = false) (hlo : -(2 ^ 63) ≤ k) (hhi : k < 2 ^ 63) :
  wpAny (model PR w) A (eval (.Subscript (.Name x xp) (.Constant (.int k) kk kp) pos) (envX cn cs L a ccd cl)) Q E { heap := h, gens := g, drawn := d, toks := t, os := o } :=
 PyProof.Rows.Subscript_ (nameX_L F hv (constIX (item_tupleT (News.isTup N hm) hlo hhi hj hx q)) hk hxk hd)
theorem attrN {K : Frag} {name : Str} {xx C dx : Addr} {es : List DictEntry} {n : Nat} {sl : Array (Option Value)} {attr : Option Value} (F : Fr h₀ L h m) (hv : m x = some (.ref xx)) (X : K.In h₀) (N : News h₀ L h news) (h1 : (xx, (⟨.ref C, some dx, .plain, sl⟩ : Obj)) ∈ news) (h2 : (dx, dictOf es n) ∈ news)
  (hg : plainGet K C name = true) (hh : hasDictIn K C = true) (ha : findIn K (.ref C) name = some attr) (hn : noGet K attr = true) (hl : getL name es = some (some v)) (hv' : handedIn v = true)
  (q : Q v { heap := h, gens := g, drawn := d, toks := t + 1, os := o }) (hk : cs.kind = .function) (hxk : (envX cn cs L a ccd cl).kindOf x = some .local) (hd : (x == ("__debug__" : Str)) = false) :
  wpAny (model PR w) A (eval (.Attribute (.Name x xp) name pos) (envX cn cs L a ccd cl)) Q E { heap := h, gens := g, drawn := d, toks := t, os := o } :=
 PyProof.Rows.Attribute_Name_ (nameX_L F hv (get_own (s := { heap := h, gens := g, drawn := d, toks := t, os := o }) F X (InstAt.of_news N h1 h2) hg hh ha hn hl hv' q) hk hxk hd)
end
noncomputable def SeqK (M : Model) (A : Around) (rest : List Stmt) (env : Env) (Q : Flow → Shared → Prop) (E : Value → Shared → Prop) : Flow → Shared → Prop := fun f s => match f with
 | .next => wpAny M A (execs rest env) Q E s
 | f => Q f s
theorem storeLX {w : World} {A : Around} {cn : Str} {cs : Scope} {L a : Addr} {ccd : Value} {cl : List (Str × Addr)} {E : Value → Shared → Prop} {h₀ h : Heap} {g d o} {t : Nat} {m : Str → Option Value} {news : Led} {x : Str} {v : Value} {Q : Unit → Shared → Prop} (F : Fr h₀ L h m) (N : News h₀ L h news)
  (k : ∀ (h' : Heap) (t' : Nat), let m' : Str → Option Value := fun y => if y = x then some v else m y; Fr h₀ L h' m' → News h₀ L h' news → Q () { heap := h', gens := g, drawn := d, toks := t', os := o })
  (hk : cs.kind = .function) (hx : (envX cn cs L a ccd cl).kindOf x = some .local) :
  wpAny (model PR w) A (storeName (envX cn cs L a ccd cl) x v) Q E { heap := h, gens := g, drawn := d, toks := t, os := o } :=
 storeX_L F N (fun h' F' N' => k h' _ F' N') hk hx
theorem letNews {h₀ h : Heap} {L : Addr} {news : Led} {G : Prop} (N : News h₀ L h news) (k : let n' : Led := news; News h₀ L h n' → G) : G := k N
theorem letFr {h₀ h : Heap} {L : Addr} {m : Str → Option Value} {G : Prop} (F : Fr h₀ L h m) (k : let m' : Str → Option Value := m; Fr h₀ L h m' → G) : G := k F

end FUp
section FVp
theorem rmA {u a n c : Nat} (h : u + n < c) (e : Nat.ble a n = true) : u + a < c := Nat.lt_of_le_of_lt (Nat.add_le_add_left (Nat.le_of_ble_eq_true e) u) h
theorem rmB {u a b n c : Nat} (h : u + n < c) (e : Nat.ble (a + b) n = true) : u + a + b < c := by rw [Nat.add_assoc]; exact rmA h e
theorem rmT {dp un n c : Nat} {gd : Option (List Code)} {cn : Str} {cs : Scope} {L a : Addr} {ccd : Value} {cl : List (Str × Addr)} {outer : List Env} (h : dp + n < c) : (ktrTop dp un gd cn cs L a ccd cl outer).depth < c := rmA (a := 0) h rfl
theorem lenM {α β : Type} {f : α → β} {l : List α} {n : Nat} (h : l.length ≤ 3) (e : Nat.ble 3 n = true) : (l.map f).length ≤ n := by rw [List.length_map]; exact Nat.le_trans h (Nat.le_of_ble_eq_true e)
theorem sc {α : Type} {a : α} {l l' : List α} (h : ∀ p ∈ l, p ∈ l') : ∀ p ∈ a :: l, p ∈ a :: l' := fun p hp => (List.mem_cons.mp hp).elim (fun e => e ▸ .head _) fun hp => .tail _ (h p hp)
theorem sk {α : Type} {a : α} {l l' : List α} (h : ∀ p ∈ l, p ∈ l') : ∀ p ∈ l, p ∈ a :: l' := fun p hp => .tail _ (h p hp)

end FVp
section SXp
theorem setX {w : World} {A : Around} {E : Value → Shared → Prop} {h₀ h : Heap} {L : Addr} {g d o} {t : Nat} {m : Str → Option Value} {news news' : Led} {K : Frag} {x C dx : Addr} {ox : Obj} {es es' : List DictEntry} {n n' : Nat} {name : Str} {v : Value} {Q : Unit → Shared → Prop} (F : Fr h₀ L h m) (X₀ : K.In h₀) (N : News h₀ L h news) (I : InstAt h x ox C (some (dictOf es n))) (hd : ox.dict = some dx)
  (hs : findIn K (.ref C) "__setattr__" = some (some (.builtin "object.__setattr__"))) (hp : plainOver K C = true) (ht : takerIn K C name = some none) (hh : hasDictIn K C = true) (hl : (getL name es).isSome = true)
  (e : (putL name (PyData.keyHash w.params name) (.str name (t + 1)) v es, putN name es n) = (es', n')) (U : Upd dx (dictOf es n) (dictOf es' n') news news') (hz : es'.length ≤ 1000)
  (k : let nn : Led := news'; ∀ (h' : Heap) (t' : Nat), Fr h₀ L h' m → News h₀ L h' nn → Q () { heap := h', gens := g, drawn := d, toks := t', os := o }) :
  wpAny (model PR w) A (setAttr (.ref x) name v) Q E { heap := h, gens := g, drawn := d, toks := t, os := o } :=
 set_dict (s := { heap := h, gens := g, drawn := d, toks := t, os := o }) F X₀ N I hd hs hp ht hh hl e U hz fun h' F' N' => k h' _ F' N'
theorem tupX {M : Model} {A : Around} {E : Value → Shared → Prop} {h₀ h : Heap} {L : Addr} {g d o} {t : Nat} {m : Str → Option Value} {news : Led} {vs : List Value} {Q : Value → Shared → Prop} (F : Fr h₀ L h m) (N : News h₀ L h news)
  (k : ∀ D : Addr, let nn : Led := (D, tup vs) :: news; ∀ h' : Heap, Fr h₀ L h' m → News h₀ L h' nn → (∀ p ∈ news, p.1 < D) → Q (.ref D) { heap := h', gens := g, drawn := d, toks := t, os := o }) (hz : vs.length ≤ sizeLine) : wpAny M A (newTuple vs) Q E { heap := h, gens := g, drawn := d, toks := t, os := o } :=
 kup_newTuple (s := { heap := h, gens := g, drawn := d, toks := t, os := o }) F N (fun D h' F' N' l => k D h' F' N' l) hz

end SXp
section A1bp
section
variable {prog : Program} {w : World} {A : Around} {E : Value → Shared → Prop} {s : Shared} {env : Env} {h₀ : Heap} {L d : Addr} {m : Str → Option Value} {news : Led} {od : Obj}
theorem walks0 {I : Addr} (hh : A.handled = none) (hne : d ≠ I) (ep : Nat) :
  Walks prog w A I [I, d] [I] 0 (fun _ _ => False) (fun i h => h.IsKeyIter I d i 0 ep ∧ h.DictAt (strKind prog w) d [] ep) :=
 let W := Walks.dictKeys (knd := strKind prog w) (prog := prog) (w := w) (A := A) hh I d hne [] ep
 { sub := W.sub, frame := W.frame, done := W.done, self := W.self, item := fun i _ _ _ hi => absurd hi (Nat.not_lt_zero i) }
theorem compA_empty {scope : Scope} {x y : Str} {ifs : List Expr} {elt : Expr} {Q : Flow → Shared → Prop} (hh : A.handled = none) (hlo : (d == sysModules) = false) (hs : Obj.IsDictOf (strKind prog w) od [])
  (hLe : env.locals = L) (F : Fr h₀ L s.heap m) (N : News h₀ L s.heap news) (hm : (d, od) ∈ news)
  (h : ∀ D n h' tk, Fr h₀ L h' (fun z => if z = y then some (.ref D) else m z) → News h₀ L h' ((D, listOf #[] n) :: news) → NeAll D news → Q .next { s with heap := h', toks := tk }) :
  wpAny (model prog w) A (pyIter (.ref d)) (CompPostA prog w A env scope x y ifs elt Q) E s := by
 subst hLe
 obtain ⟨es, ep, hr⟩ := hs
 have hd := (N _ hm).1
 have hD : s.heap.DictAt (strKind prog w) d [] ep := ⟨od, es, hd, hr⟩
 have hlt : d < s.heap.objs.size := Heap.lt_size hd
 refine wpAny_pyIter_dict hlo hD ?_
 have up : ∀ b o, s.heap.get? b = some o → (s.heap.push { cls := .type "dict_keyiterator", data := .fields #[.ref d, .int 0 0, .int ([] : List (Str × Value)).length 0, .int ep 0] }).get? b = some o := fun b o e => Heap.get?_push_of_some _ e
 have hLlt : env.locals < s.heap.objs.size := F.ns.lt
 refine ⟨fun _ => true, fun _ _ => True, _, _, _, _, _, _, m, rfl, walks0 hh (Nat.ne_of_lt hlt) ep, Nat.zero_le _, ⟨⟨_, Heap.get?_push_size _ rfl, rfl, rfl⟩, hD.at' fun o e => up _ _ e⟩, ?_, ?_, F.ns.at' fun o e => up _ _ e, ⟨fun _ _ _ _ _ _ hp => hp.elim, fun _ _ _ _ _ _ hp => hp.elim⟩, ?_⟩
 ·intro b hb
  rw [Heap.size_push]
  rcases List.mem_cons.mp hb with rfl | hb
  ·exact Nat.lt_succ_self _
  ·rw [List.mem_singleton.mp hb]; exact Nat.lt_succ_of_lt hlt
 ·intro hb; exact Nat.ne_of_lt hLlt (List.mem_singleton.mp hb)
 ·intro D h' tk ys vs hDn hl hpl hlen hP hF hn hk
  have hvs : vs = [] := List.length_eq_zero_iff.mp hlen
  subst hvs
  have hys : ys = #[] := by
   have : ys.toList = [] := by
    generalize ys.toList = zs at hF
    cases hF; rfl
   exact Array.toList_eq_nil_iff.mp this
  subst hys
  obtain ⟨n, e⟩ := hpl
  have live : ∀ b o, s.heap.get? b = some o → b ≠ D := fun b o e q => by
   have e' := up _ _ e
   rw [q] at e'
   rw [e'] at hDn; cases hDn
  have keep : ∀ b o, b ≠ env.locals → s.heap.get? b = some o → h'.get? b = some o := fun b o hb e => hk b o hb (fun q => by rw [List.mem_singleton.mp q] at e; exact absurd (Heap.lt_size e) (Nat.lt_irrefl _)) (up _ _ e)
  refine h D n h' tk ⟨hn, fun b o e => keep b o (fun q => ?_) (F.keep b o e), F.above⟩ (fun p hp => ?_) (NeAll.mk fun p hp => live _ _ (N p hp).1)
  ·have := Heap.lt_size e; rw [q] at this; exact absurd F.above (Nat.not_le.mpr this)
  ·rcases List.mem_cons.mp hp with rfl | hp
   ·refine ⟨e, fun q => ?_, ?_⟩
    ·obtain ⟨oL, _, _, hL, _⟩ := F.ns
     exact live _ _ hL q.symm
    ·cases q : h₀.get? D with
     | none => rfl
     | some o => exact absurd rfl (live _ _ (F.keep _ _ q))
   ·exact ⟨keep _ _ (N p hp).2.1 (N p hp).1, (N p hp).2⟩
theorem comp_empty {scope : Scope} {x : Str} {ifs : List Expr} {elt : Expr} {Q : Value → Shared → Prop} (hh : A.handled = none) (hlo : (d == sysModules) = false) (hs : Obj.IsDictOf (strKind prog w) od [])
  (hLe : env.locals = L) (F : Fr h₀ L s.heap m) (N : News h₀ L s.heap news) (hm : (d, od) ∈ news)
  (h : ∀ D n h' tk, Fr h₀ L h' m → News h₀ L h' ((D, listOf #[] n) :: news) → NeAll D news → Q (.ref D) { s with heap := h', toks := tk }) :
  wpAny (model prog w) A (pyIter (.ref d)) (CompPost prog w A env scope x ifs elt Q) E s := by
 subst hLe
 obtain ⟨es, ep, hr⟩ := hs
 have hd := (N _ hm).1
 have hD : s.heap.DictAt (strKind prog w) d [] ep := ⟨od, es, hd, hr⟩
 have hlt : d < s.heap.objs.size := Heap.lt_size hd
 refine wpAny_pyIter_dict hlo hD ?_
 have up : ∀ b o, s.heap.get? b = some o → (s.heap.push { cls := .type "dict_keyiterator", data := .fields #[.ref d, .int 0 0, .int ([] : List (Str × Value)).length 0, .int ep 0] }).get? b = some o := fun b o e => Heap.get?_push_of_some _ e
 refine ⟨fun _ => true, fun _ _ => True, _, _, _, _, _, _, rfl, walks0 hh (Nat.ne_of_lt hlt) ep, Nat.zero_le _, ⟨⟨_, Heap.get?_push_size _ rfl, rfl, rfl⟩, hD.at' fun o e => up _ _ e⟩, ?_, ⟨fun _ _ _ _ _ _ hp => hp.elim, fun _ _ _ _ _ _ hp => hp.elim⟩, ?_⟩
 ·intro b hb
  rw [Heap.size_push]
  rcases List.mem_cons.mp hb with rfl | hb
  ·exact Nat.lt_succ_self _
  ·rw [List.mem_singleton.mp hb]; exact Nat.lt_succ_of_lt hlt
 ·intro D h' tk ys vs hDn hl hpl hlen hP hF hk
  have hvs : vs = [] := List.length_eq_zero_iff.mp hlen
  subst hvs
  have hys : ys = #[] := by
   have : ys.toList = [] := by
    generalize ys.toList = zs at hF
    cases hF; rfl
   exact Array.toList_eq_nil_iff.mp this
  subst hys
  obtain ⟨n, e⟩ := hpl
  have live : ∀ b o, s.heap.get? b = some o → b ≠ D := fun b o e q => by
   have e' := up _ _ e
   rw [q] at e'
   rw [e'] at hDn; cases hDn
  have keep : ∀ b o, s.heap.get? b = some o → h'.get? b = some o := fun b o e => hk b o (fun q => by rw [List.mem_singleton.mp q] at e; exact absurd (Heap.lt_size e) (Nat.lt_irrefl _)) (up _ _ e)
  refine h D n h' tk (F.keeps keep) (fun p hp => ?_) (NeAll.mk fun p hp => live _ _ (N p hp).1)
  rcases List.mem_cons.mp hp with rfl | hp
  ·refine ⟨e, fun q => ?_, ?_⟩
   ·obtain ⟨oL, _, _, hL, _⟩ := F.ns
    exact live _ _ hL q.symm
   ·cases q : h₀.get? D with
    | none => rfl
    | some o => exact absurd rfl (live _ _ (F.keep _ _ q))
  ·exact ⟨keep _ _ (N p hp).1, (N p hp).2⟩
end

end A1bp
section A1cp
open PyProof.Rows.LCg
noncomputable def TupAt (ax : Addr) (its : Array Value) (news : Led) : Prop := ∃ o, (ax, o) ∈ news ∧ o.cls = .type "tuple" ∧ ∃ n, o.data = .seq its n
theorem TupAt.tuple {h₀ h : Heap} {L ax : Addr} {its : Array Value} {news : Led} (x : TupAt ax its news) (N : News h₀ L h news) : h.IsTuple ax its := by
 obtain ⟨o, hm, r⟩ := x
 exact ⟨o, (N _ hm).1, r⟩
theorem tuple_st {h₀ : Heap} {L ax I : Addr} {its : Array Value} : ∀ i (h h' : Heap) (o : Obj) (nw : Led), (h.IsTupleIter I ax i ∧ h.IsTuple ax its) → h.get? I = some o → h'.get? I = some o → (∀ b o, h₀.get? b = some o → h'.get? b = some o) → News h₀ L h' nw → TupAt ax its nw → (h'.IsTupleIter I ax i ∧ h'.IsTuple ax its) :=
 fun i h h' o nw st e e' _ N S => ⟨by obtain ⟨o', q, r⟩ := st.1; rw [e] at q; cases q; exact ⟨o, e', r⟩, S.tuple N⟩
noncomputable def SrcT (prog : Program) (w : World) (A : Around) (h₀ : Heap) (L : Addr) (m : Str → Option Value) (env : Env) (elt : Expr) (x : Str) (scope : Scope) (cl : List (Str × Addr)) (Fin : Shared → List Value → Led → Prop) (xv : Value) (s₁ : Shared) : Prop :=
 ∃ ax its news, xv = .ref ax ∧ A.handled = none ∧ Fr h₀ L s₁.heap m ∧ News h₀ L s₁.heap news ∧ TupAt ax its news ∧ its.size ≤ sizeLine ∧
  ∀ s₂ : Shared, (∃ h, s₂ = { s₁ with heap := h }) → CompRest prog w A h₀ L m env elt x scope cl s₂ (TupAt ax its) (fun i v => its[i]? = some v) (Fin s₂) its.size 0 [] news
section
variable {prog : Program} {w : World} {A : Around} {E : Value → Shared → Prop} {s : Shared} {h₀ : Heap} {L : Addr} {m : Str → Option Value} {env : Env}
theorem Assign_ListComp_T {elt iter : Expr} {x y : Str} {px py : Pos} {scope : Scope} {cl : List (Str × Addr)} {pos spos : Pos} {Q : Flow → Shared → Prop} (_F₀ : Fr h₀ L s.heap m) (hLe : env.locals = L)
  (hsw : swapsWith (.ListComp elt [⟨.Name x px, iter, [], 0⟩] scope pos) (some (.Name y py)) spos.line env = pure true)
  (hclos : closureFor scope env = pure cl) (hcell : ∀ z ∈ scope.names, z.2 ≠ .cell) (hkind : scope.kind = .function)
  (hnames : ∀ z ∈ scope.names, z.2 = .local → scope.names.lookup z.1 = some .local) (hx : scope.names.lookup x = some .local)
  (hy : env.kindOf y = some .local) (hp : (env.scope.kind == .class || (env.scope.kind == .module && env.locals != env.globals)) = false)
  (h : wpAny (model prog w) A (eval iter env) (SrcT prog w A h₀ L m env elt x scope cl (fun s₂ => FinA h₀ L m s₂ y Q)) E s)
  (hs : ∀ x, foldedSetIterable iter env x = pure x := by intro _; rfl) :
  wpAny (model prog w) A (exec (.Assign [.Name y py] (.ListComp elt [⟨.Name x px, iter, [], 0⟩] scope pos) spos) env) Q E s := by
 subst hLe
 rw [exec_Assign_Name_used _ _ _ _ hsw]
 refine wpAny_bind (wpAny_standAt (wpAny_bind ?_))
 show wpAny _ A (do let _ ← comprehension (.ListComp elt [⟨.Name x px, iter, [], 0⟩] scope pos) scope env _ (newList []) false (eval iter env) (some (assign (.Name y py) env))) _ _ s
 refine wpAny_bind (wpAny_mono (wpAny_comprehension_free (use := some (assign (.Name y py) env)) (Q := fun _ s' => Q .next s') rfl hs hclos hkind hnames
  (wpAny_mono h (fun xv s₁ h₁ => ?_) fun _ _ e => e)) (fun _ s' hq => wpAny_pure (wpAny_pure hq)) fun _ _ e => e)
 obtain ⟨ax, its, news, rfl, hh, F, N, S, hsz, R⟩ := h₁
 have hl := S.tuple N
 have hlt : ax < s₁.heap.objs.size := by obtain ⟨_, e, _⟩ := hl; exact Heap.lt_size e
 refine wpAny_pyIter_tuple hl ?_
 have up : ∀ b o, s₁.heap.get? b = some o → (s₁.heap.push { cls := .type "tuple_iterator", data := .fields #[.ref ax, .int 0 0] }).get? b = some o := fun b o e => Heap.get?_push_of_some _ e
 refine block_U (Walks.tuple hh s₁.heap.objs.size ax (Nat.ne_of_lt hlt) its) hsz (fun i h st => by obtain ⟨o, e, _⟩ := st.1; exact ⟨o, e⟩) tuple_st hcell hkind hx ⟨⟨_, Heap.get?_push_size _ rfl, rfl, rfl⟩, hl.at fun o e => up _ _ e⟩ (fun b hb => ?_)
  (F.keeps up) (N.grown up) (Nat.ne_of_lt F.ns.lt) (next_is_new F) (fun p hp => Nat.ne_of_lt (Heap.lt_size (N p hp).1)) S (R _ ⟨_, rfl⟩) ?_
 ·show b < (s₁.heap.push _).objs.size
  rw [Heap.size_push]
  rcases List.mem_cons.mp hb with rfl | hb
  ·exact Nat.lt_succ_self _
  ·rw [List.mem_singleton.mp hb]; exact Nat.lt_succ_of_lt hlt
 ·intro D C h' tk m' ys news' F' N' o1 hn hC₀ hD₀ hCL hDL hCD offC fin
  show wpAny _ A (assign (.Name y py) env (.ref D)) _ _ _
  refine wpAny_assign_Name (wpAny_storeName_local hy F'.ns (fun h₂ hn₂ hs₂ => ?_) hp)
  have hL₀ : h₀.get? env.locals = none := Heap.get?_none_of_le F'.above
  have F₂ : Fr h₀ env.locals h₂ (fun z => if z = y then some (.ref D) else m z) := ⟨hn₂, fun b o e => hs₂.extBut b o (fun q => by rw [q, hL₀] at e; cases e) (F'.keep b o e), F'.above⟩
  refine ⟨m', hn.sameBut hs₂ hCL, fun h'' hs'' => fin D h'' _ (F₂.change hs'' hCL hC₀) (fun p hp => ?_) o1⟩
  have z : h₂.get? p.1 = some p.2 := hs₂.extBut _ _ (N' p hp).2.1 (N' p hp).1
  refine ⟨hs''.extBut _ _ ?_ z, (N' p hp).2⟩
  rcases List.mem_cons.mp hp with rfl | hp
  ·exact Ne.symm hCD
  ·exact offC p hp
theorem off3_all {I C D : Addr} {news : Led} (h : Off3 I C D news) : NeAll I news ∧ NeAll C news ∧ NeAll D news :=
 ⟨⟨fun p hp => (h.mem p hp).1⟩, ⟨fun p hp => (h.mem p hp).2.1⟩, ⟨fun p hp => (h.mem p hp).2.2⟩⟩
theorem off1_all {D : Addr} : ∀ {news : Led}, Off1 D news → NeAll D news
 | [], _ => ⟨fun _ h => nomatch h⟩
 | _ :: _, h => ⟨fun p hp => by
  rcases List.mem_cons.mp hp with rfl | hp
  ·exact h.1
  ·exact (off1_all h.2).all p hp⟩
theorem ne3_all {I C D : Nat} (h : (@Ne Nat I C) ∧ (@Ne Nat I D) ∧ (@Ne Nat C D)) : NeA I C ∧ NeA I D ∧ NeA C D := ⟨⟨h.1⟩, ⟨h.2.1⟩, ⟨h.2.2⟩⟩
theorem off3_congr {I C D : Addr} {l l' : Led} (h : Off3 I C D l) (e : l'.map (·.1) = l.map (·.1)) : Off3 I C D l' := by
 refine Off3.of fun p hp => ?_
 have hm : p.1 ∈ l.map (·.1) := e ▸ List.mem_map.mpr ⟨p, hp, rfl⟩
 refine ea1_2 (List.mem_map.mp hm) ?_
 intro q hq e'
 have := h.mem q hq
 rw [e'] at this
 exact this
theorem compEnd_of {h₀ : Heap} {L I C D : Addr} {m : Str → Option Value} {s₁ : Shared} {oI oC oD : Obj} {S : Led → Prop} {rest : Value → Led → Prop} {y : Value} {h' : Heap} {tk : Nat} {news news' : Led}
  (F : Fr h₀ L h' m) (N : News h₀ L h' ((I, oI) :: (C, oC) :: (D, oD) :: news')) (off : Off3 I C D news) (e : news'.map (·.1) = news.map (·.1)) (hS : S news') (r : rest y news') :
  CompEnd h₀ L m s₁ I oI C oC D oD S rest y { s₁ with heap := h', toks := tk } := CompEnd.intro F N news' (fun _ h => h) (off3_congr off e) hS r
theorem nameCC {M : Model} {C c : Addr} {news : Led} {scope : Scope} {cl : List (Str × Addr)} {x : Str} {pos : Pos} {v : Value} {o : Obj} {Q : Value → Shared → Prop} (N : News h₀ L s.heap news) (hc : cl.lookup x = some c) (hm : (c, o) ∈ news) (hd : o.data = .cell (some v)) (h : Q v s)
  (hk : (compEnvC scope cl C env).scope.kind = .function := by rfl) (hx : (compEnvC scope cl C env).kindOf x = some .cell := by rfl) (hb : (x == ("__debug__" : Str)) = false := by decide) :
  wpAny M A (eval (.Name x pos) (compEnvC scope cl C env)) Q E s := wpAny_Name (wpAny_loadName_cell hk hx hc ⟨o, N.get hm, hd⟩ h) hb
end

end A1cp
section A1dp
section
variable {prog : Program} {w : World} {A : Around} {E : Value → Shared → Prop} {s : Shared} {env : Env} {h₀ : Heap} {target : Expr} {body : List Stmt} {Q : Flow → Shared → Prop}
theorem letGo_range {E : Value → Shared → Prop} {target : Expr} {I : Addr} {x l c : Int} {v : Value} {Q' : Unit → Shared → Prop} {s' : Shared} (hit : IsRangeIter s'.heap I x l c) (h : Q' () s') :
  wpAny (model prog w) A (letOwnedTupleGo target (.ref I) v) Q' E s' := by
 unfold letOwnedTupleGo
 cases target <;> first
  | exact wpAny_pure h
  | (cases v <;> first
    | exact wpAny_pure h
    | (refine wpAny_bind (wpAny_load hit ?_); exact wpAny_pure h))
theorem iter_rangeTurns {r : Addr} {a b c : Int} {t u v : Tok} {n : Nat} {xs : List Itm} {m₀ : Str → Option Value} {news : Led}
  (hh : A.handled = none) (F : Fr h₀ env.locals s.heap m₀) (N : News h₀ env.locals s.heap news) (hr : IsRange s.heap r a b c t u v) (hsm : Builtin.Range.small a b c = true) (hn : Builtin.Range.rangeSize a b c = ((n : Nat) : Int))
  (hx : xs = (List.range n).map fun (i : Nat) => Itm.tok (fun t => .int (a + (i : Int) * c) t))
  (rest₀ : ∀ I : Addr, (∀ p ∈ news, p.1 < I) → ItemsRest prog w A E h₀ env target body Q s [(I, "range_iterator")] [] xs m₀ news) :
  wpAny (model prog w) A (pyIter (.ref r)) (fun it s₂ => TurnsAt prog w A h₀ env target body Q E it s₂) E s := by
 refine wpAny_pyIter_range hr hsm ?_
 have hit : IsRangeIter (s.heap.push { cls := .type "range_iterator", data := .fields #[rawInt a, rawInt (Builtin.Range.rangeSize a b c), rawInt c] }) s.heap.objs.size (a + ((0 : Nat) : Int) * c) ((n : Int) - ((0 : Nat) : Int)) c := by
  have e := Heap.get?_push_size s.heap (o := { cls := .type "range_iterator", data := .fields #[rawInt a, rawInt (Builtin.Range.rangeSize a b c), rawInt c] }) rfl
  rw [hn] at e ⊢
  simpa using e
 refine ktu_core (tk0 := s.toks) (keep := []) (ws := [(s.heap.objs.size, "range_iterator")]) (KTurns.ofWalks (Walks.range hh s.heap.objs.size a c n).bound fun i v s Q E st q => letGo_range st q) (by rw [hx]; simp) (fun i v h hp => ?_) (fun i h st => ?_) (fun b hb => ?_) (fun b hb => by simpa using hb) (fun b hb => ?_) ?_ (fun p hp hI => ?_) hit (F.push _) (fun p hp => ⟨Heap.get?_push_of_some _ (N p hp).1, (N p hp).2⟩) trivial (rest₀ _ fun p hp => Heap.lt_size (N p hp).1)
 ·obtain ⟨hi, t, rfl⟩ := hp
  refine ⟨Itm.tok (fun t => .int (a + (i : Int) * c) t), ?_, ⟨t, rfl⟩⟩
  rw [hx, List.getElem?_map, List.getElem?_range hi]; rfl
 ·exact ⟨[(s.heap.objs.size, _)], ⟨⟨rfl, rfl⟩, trivial⟩, fun p hp => by rw [List.mem_singleton.mp hp]; exact st⟩
 ·have hb' : b = s.heap.objs.size := by simpa using hb
  rw [hb']
  exact ⟨List.mem_cons_self .., next_is_new F⟩
 ·have hb' : b = s.heap.objs.size := by simpa using hb
  exact .inl (by simp [hb'])
 ·intro hI
  exact absurd F.ns.lt ((List.mem_singleton.mp hI) ▸ Nat.lt_irrefl _)
 ·exact absurd (Heap.lt_size (N p hp).1) ((List.mem_singleton.mp hI) ▸ Nat.lt_irrefl _)
end

end A1dp
section A1ep
open PyProof.Rows.LCg
section
variable {prog : Program} {w : World} {A : Around} {s : Shared} {h₀ : Heap} {L : Addr} {m : Str → Option Value} {env : Env} {elt : Expr} {x : Str} {scope : Scope} {cl : List (Str × Addr)} {S : Led → Prop} {P : Nat → Value → Prop} {Fin : List Value → Led → Prop}
theorem comp_induct {J : Nat → List Value → Led → Prop} {n : Nat}
  (step : ∀ i ys news, i < n → J i ys news → ∀ v I oI C oC D m₂ h tk (E' : Value → Shared → Prop), P i v → NsObj oC m₂ → m₂ x = some v → Fr h₀ L h m → News h₀ L h ((I, oI) :: (C, oC) :: (D, lst ys) :: news) → Off3 I C D news → ((@Ne Nat I C) ∧ (@Ne Nat I D) ∧ (@Ne Nat C D)) →
   wpAny (model prog w) A (eval elt (compEnvC scope cl C env)) (CompEnd h₀ L m { s with heap := h, toks := tk } I oI C oC D (lst ys) S (fun y news' => J (i + 1) (ys ++ [y]) news')) E' { s with heap := h, toks := tk })
  (fin : ∀ ys news, J n ys news → Fin ys news) :
  ∀ k i ys news, i + k = n → J i ys news → CompRest prog w A h₀ L m env elt x scope cl s S P Fin k i ys news := by
 intro k
 induction k with
 | zero =>
  intro i ys news e j
  have : i = n := by omega
  subst this
  exact fin ys news j
 | succ k ih =>
  intro i ys news e j
  refine CompRest.succ fun v I oI C oC D m₂ h tk E' hv hC hx F N off ne => ?_
  refine wpAny_mono (step i ys news (by lia) j v I oI C oC D m₂ h tk E' hv hC hx F N off ne) (fun y s₂ q => ?_) fun _ _ e => e
  obtain ⟨h', tk', news', e', F', N', off', hS, r⟩ := q
  exact ⟨h', tk', news', e', F', N', off', hS, ih (i + 1) _ _ (by lia) r⟩
end
structure LamTab (pos : Pos) (qual : Str) (tab : Array Value) (tl : Led) : Prop where
 ok : TriplesOk tab.toList
 hit : codeAmong pos tab.toList = none ∨ ∃ c' oc vs t, codeAmong pos tab.toList = some (.ref c') ∧ (c', oc) ∈ tl ∧ oc.data = .fields vs ∧ vs[1]? = some (.str qual t)
section
variable {M : Model} {A : Around} {E : Value → Shared → Prop} {s : Shared} {h₀ : Heap} {L c P : Addr} {m mg mb : Str → Option Value} {env : Env} {news tl : Led} {g : Obj → Led}
 {p : Program} {loose : List Str} {mean : ExcName → Option Value} {name qual : Str} {params : Arguments} {body : Expr} {scope : Scope} {tab : Array Value} {pos : Pos} {firstLine : Nat} {clos : List (Str × Addr)}
theorem lam_make {Q : Value → Shared → Prop} (F : Fr h₀ L s.heap m) (N : News h₀ L s.heap news) (T : Top p loose mean mg mb h₀) (C : CodeHd h₀ c P) (hge : env.globals = mainGlobals) (hcd : env.code = .ref c) (U : UpdF P (tabObj tab) news g) (LT : LamTab pos qual tab tl) (hs : ∀ q ∈ tl, q ∈ news)
  (hcl : closureFor scope env = pure clos)
  (h : ∀ f c' oc vs t ctv tab' h' tk, Fr h₀ L h' m → News h₀ L h' ((f, kla_obj name qual params body scope clos ((mg "__name__").getD .none) c' ctv) :: (c', oc) :: g (tabObj tab')) →
   oc.data = .fields vs → vs[1]? = some (.str qual t) → codeAmong pos tab'.toList = some (.ref c') → TriplesOk tab'.toList → NeAll f news → (∀ X o, (X, o) ∈ news → (∀ q ∈ tl, q.1 ≠ X) → @Ne Nat c' X) → Q (.ref f) { s with heap := h', toks := tk }) :
  wpAny M A (makeFunction name qual params (.expr body) scope env [] [] [] pos firstLine) Q E s := by
 with_reducible refine ex2 U.split ?_
 intro own rest hX9
 with_reducible refine an4 hX9 ?_
 clear hX9
 intro hR9
 subst hR9
 intro hgr h1 h2
 have hmem : (P, tabObj tab) ∈ own ++ (P, tabObj tab) :: rest := List.mem_append_right _ (.head _)
 have hm := N (P, tabObj tab) hmem
 have hgs := T.g.keeps F.keep
 with_reducible refine ex2 T.bmain ?_
 intro bm ob hX9
 with_reducible refine an6 hX9 ?_
 clear hX9
 intro b1 b2 b3 b4 b5 b6
 have hgP : mainGlobals ≠ P := fun q => by
  obtain ⟨o, es, ep, e, hd, _⟩ := hgs
  rw [q, hm.1] at e; cases e; cases hd
 have hbP : bm ≠ P := fun q => by
  have e := F.keep _ _ b3
  rw [q, hm.1] at e; cases e; cases b4
 have hbG : bm ≠ mainGlobals := fun q => by
  obtain ⟨o, es, ep, e, hd, _⟩ := T.g
  rw [q, e] at b3; cases b3; rw [hd] at b6; cases b6
 have BA : s.heap.BuiltinsAt mg P := ⟨bm, ob, b1, b2, hbG, hbP, F.keep _ _ b3, b4, b5, b6⟩
 have hLs : L < s.heap.objs.size := F.ns.lt
 rcases LT.hit with hn | ⟨c', oc, vs, t, hf, hc', hd, hv⟩
 ·refine kla_makeFunction (mg := mg) hcl hge hgs hcd (C.keeps F.keep) hm.1 LT.ok hn hgP BA fun c' ctv h' tk hx hle hlt hrec htb => ?_
  obtain ⟨c₂, oc, vs, t, e2, hoc, hd, hv⟩ := hrec
  cases e2
  have hLc : L < c' := Nat.lt_of_lt_of_le hLs hle
  have old : ∀ b o, h₀.get? b = some o → h'.get? b = some o := fun b o e => hx b o (fun q => by rw [q, hm.2.2] at e; cases e) (F.keep b o e)
  have fresh : ∀ b, L < b → h₀.get? b = none := fun b hb => Heap.get?_none_of_le (Nat.le_trans F.above (Nat.le_of_lt hb))
  refine h h'.objs.size c' oc vs t ctv (tab ++ #[rawInt pos.line, rawInt pos.col, .ref c']) _ tk ⟨(F.ns.extBut hx hm.2.1.symm).push _, fun b o e => Heap.get?_push_of_some _ (old b o e), F.above⟩ (fun q hq => ?_) hd hv ?_ ?_ ⟨fun q hq => ?_⟩ (fun X o hX _ => ?_)
  ·rcases List.mem_cons.mp hq with rfl | hq
   ·exact ⟨Heap.get?_push_size _ rfl, Nat.ne_of_gt (Nat.lt_trans hLc hlt), fresh _ (Nat.lt_trans hLc hlt)⟩
   ·rcases List.mem_cons.mp hq with rfl | hq
    ·exact ⟨Heap.get?_push_of_some _ hoc, Nat.ne_of_gt hLc, fresh _ hLc⟩
    ·rw [hgr] at hq
     rcases List.mem_append.mp hq with hq | hq
     ·have n := N q (List.mem_append_left _ hq)
      exact ⟨Heap.get?_push_of_some _ (hx _ _ (h1 q hq) n.1), n.2⟩
     ·rcases List.mem_cons.mp hq with rfl | hq
      ·exact ⟨Heap.get?_push_of_some _ htb, hm.2⟩
      ·have n := N q (List.mem_append_right _ (.tail _ hq))
       exact ⟨Heap.get?_push_of_some _ (hx _ _ (h2 q hq) n.1), n.2⟩
  ·rw [Array.toList_append]; exact codeAmong_snoc _ LT.ok hn
  ·rw [Array.toList_append]; exact TriplesOk_snoc _ _ _ _ LT.ok
  ·exact Nat.ne_of_lt (Nat.lt_of_lt_of_le (Heap.lt_size (N q hq).1) (Nat.le_trans hle (Nat.le_of_lt hlt)))
  ·exact Nat.ne_of_gt (Nat.lt_of_lt_of_le (Heap.lt_size (N _ hX).1) hle)
 ·refine kla_makeFunctionHit (mg := mg) hcl hge hgs hcd (C.keeps F.keep) hm.1 LT.ok hf BA fun ctv h' tk hk hsz => ?_
  have hLs' : L < h'.objs.size := Nat.lt_of_lt_of_le hLs hsz
  have fresh : ∀ b, L < b → h₀.get? b = none := fun b hb => Heap.get?_none_of_le (Nat.le_trans F.above (Nat.le_of_lt hb))
  have all : ∀ q ∈ own ++ (P, tabObj tab) :: rest, (h'.push (kla_obj name qual params body scope clos ((mg "__name__").getD .none) c' ctv)).get? q.1 = some q.2 ∧ q.1 ≠ L ∧ h₀.get? q.1 = none := fun q hq => ⟨Heap.get?_push_of_some _ (hk _ _ (N q hq).1), (N q hq).2⟩
  refine h h'.objs.size c' oc vs t ctv tab _ tk ⟨(F.ns.keeps hk).push _, fun b o e => Heap.get?_push_of_some _ (hk b o (F.keep b o e)), F.above⟩ (fun q hq => ?_) hd hv hf LT.ok ⟨fun q hq => Nat.ne_of_lt (Nat.lt_of_lt_of_le (Heap.lt_size (N q hq).1) hsz)⟩ (fun X o _ hX => hX _ hc')
  rcases List.mem_cons.mp hq with rfl | hq
  ·exact ⟨Heap.get?_push_size _ rfl, Nat.ne_of_gt hLs', fresh _ hLs'⟩
  ·rcases List.mem_cons.mp hq with rfl | hq
   ·exact all _ (hs _ hc')
   ·rw [hgr] at hq
    exact all q hq
end

end A1ep
section VDp
noncomputable def varyOps1 (b0 a0 c0 s2 : Addr) (f0 : Value) : List AOp :=
 [.push (.ref b0) 0, .put f0 "=" 0, .test (.ref c0) 3, .jump 2, .deed (.ref s2), .push (.ref a0) 5, .put f0 "+" 5, .jump 1]
noncomputable def varyPls1 : List Int := [2, 2, 8, 4, 5, 7]
noncomputable def varyAOps1 (b0 a0 c0 s2 : Addr) (f0 : Value) : List AOp :=
 [.push (.ref b0) 0, .put f0 "=" 0, .deed (.ref s2), .test (.ref c0) 4, .jump 3, .push (.ref a0) 5, .put f0 "+" 5, .jump 1]
noncomputable def varyAPls1 : List Int := [2, 2, 3, 8, 5, 7]
noncomputable def varyOps2 (b0 a0 c0 b1 a1 c1 s2 : Addr) (f0 f1 : Value) : List AOp :=
 [.push (.ref b0) 0, .put f0 "=" 0, .push (.ref b1) 1, .put f1 "=" 1, .test (.ref c0) 6, .jump 4, .test (.ref c1) 7, .jump 5, .deed (.ref s2), .push (.ref a1) 9, .put f1 "+" 9, .jump 3, .push (.ref a0) 10, .put f0 "+" 10, .push (.ref b1) 11, .put f1 "=" 11, .jump 2]
noncomputable def varyPls2 : List Int := [2, 4, 4, 6, 17, 12, 6, 8, 9, 11, 14, 16]
noncomputable def varyAOps2 (b0 a0 c0 b1 a1 c1 s2 : Addr) (f0 f1 : Value) : List AOp :=
 [.push (.ref b0) 0, .put f0 "=" 0, .push (.ref b1) 1, .put f1 "=" 1, .deed (.ref s2), .test (.ref c1) 5, .jump 4, .push (.ref a1) 6, .put f1 "+" 6, .jump 2, .test (.ref c0) 8, .jump 7, .push (.ref a0) 9, .put f0 "+" 9, .push (.ref b1) 10, .put f1 "=" 10, .jump 2]
noncomputable def varyAPls2 : List Int := [2, 4, 4, 5, 10, 7, 9, 17, 12, 14, 16]
noncomputable def varyOps3 (b0 a0 c0 b1 a1 c1 b2 a2 c2 s2 : Addr) (f0 f1 f2 : Value) : List AOp :=
 [.push (.ref b0) 0, .put f0 "=" 0, .push (.ref b1) 1, .put f1 "=" 1, .push (.ref b2) 2, .put f2 "=" 2, .test (.ref c0) 9, .jump 6, .test (.ref c1) 10, .jump 7, .test (.ref c2) 11, .jump 8, .deed (.ref s2), .push (.ref a2) 13, .put f2 "+" 13, .jump 5, .push (.ref a1) 14, .put f1 "+" 14, .push (.ref b2) 15, .put f2 "=" 15, .jump 4, .push (.ref a0) 16, .put f0 "+" 16, .push (.ref b1) 17, .put f1 "=" 17, .jump 3]
noncomputable def varyPls3 : List Int := [2, 4, 6, 6, 8, 10, 26, 21, 16, 8, 10, 12, 13, 15, 18, 20, 23, 25]
noncomputable def varyAOps3 (b0 a0 c0 b1 a1 c1 b2 a2 c2 s2 : Addr) (f0 f1 f2 : Value) : List AOp :=
 [.push (.ref b0) 0, .put f0 "=" 0, .push (.ref b1) 1, .put f1 "=" 1, .push (.ref b2) 2, .put f2 "=" 2, .deed (.ref s2), .test (.ref c2) 6, .jump 5, .push (.ref a2) 7, .put f2 "+" 7, .jump 3, .test (.ref c1) 9, .jump 8, .push (.ref a1) 10, .put f1 "+" 10, .push (.ref b2) 11, .put f2 "=" 11, .jump 3, .test (.ref c0) 13, .jump 12, .push (.ref a0) 14, .put f0 "+" 14, .push (.ref b1) 15, .put f1 "=" 15, .push (.ref b2) 16, .put f2 "=" 16, .jump 3]
noncomputable def varyAPls3 : List Int := [2, 4, 6, 6, 7, 12, 9, 11, 19, 14, 16, 18, 28, 21, 23, 25, 27]

end VDp
section M0p
inductive COp where
 | push (u : Int)
 | put (name way : Str) (l : Nat)
 | test (name : Str) (b : Int) (l : Nat)
 | jump (l : Nat)
 | deed
 | stop (x : Str)
noncomputable def ExpIn (tl : Led) (e : Value) (u : Int) : Prop := ∃ ea xa t tu tz, e = .ref ea ∧ (ea, tup [.str "number" t, .ref xa]) ∈ tl ∧ (xa, tup [.int u tu, .int 0 tz]) ∈ tl
noncomputable def RefIn (tl : Led) (r : Value) (name : Str) : Prop := ∃ ra t tn e1 e2 e3, r = .ref ra ∧ (ra, tup [.str "ref" t, .str name tn, e1, e2, e3]) ∈ tl
noncomputable def CondIn (tl : Led) (c : Value) (name : Str) (b : Int) : Prop := ∃ ca t tg r e, c = .ref ca ∧ (ca, tup [.str "rel" t, .str ">" tg, r, e]) ∈ tl ∧ RefIn tl r name ∧ ExpIn tl e b
noncomputable def PutIn (tl : Led) (v : Value) (name way : Str) : Prop := ∃ b c r x, v = .ref b ∧ (b, tup [.ref c]) ∈ tl ∧ (c, tup [r, .bool false, .str way x]) ∈ tl ∧ RefIn tl r name
inductive COpIn (tl : Led) : Value → COp → Prop
 | push {a : Addr} {t v : Tok} {e : Value} {l u : Int} : (a, tup [.str "push" t, e, .int l v]) ∈ tl → ExpIn tl e u → COpIn tl (.ref a) (.push u)
 | put {a : Addr} {t v : Tok} {r : Value} {name way : Str} {l : Nat} : (a, tup [.str "put" t, r, .int l v]) ∈ tl → PutIn tl r name way → COpIn tl (.ref a) (.put name way l)
 | test {a : Addr} {t v : Tok} {c : Value} {name : Str} {b : Int} {l : Nat} : (a, tup [.str "test" t, c, .int l v]) ∈ tl → CondIn tl c name b → COpIn tl (.ref a) (.test name b l)
 | jump {a : Addr} {t v : Tok} {l : Nat} : (a, tup [.str "jump" t, .int l v]) ∈ tl → COpIn tl (.ref a) (.jump l)
 | deed {a : Addr} {t : Tok} {st : Value} : (a, tup [.str "do" t, st]) ∈ tl → COpIn tl (.ref a) .deed
 | stop {a : Addr} {t u : Tok} {x : Str} : (a, tup [.str "stop" t, .str x u]) ∈ tl → COpIn tl (.ref a) (.stop x)
noncomputable abbrev Wheels := List (Str × Int)
noncomputable def setW (W : Wheels) (x : Str) (i : Int) : Wheels := W.map fun p => if p.1 = x then (p.1, i) else p
structure AM where
 place : Nat
 stk : Option Int
 W : Wheels
 log : List (List Int)
 word : Str
noncomputable def stepA (names : List Str) (prog : List COp) (a : AM) : Option AM := match prog[a.place]? with
 | some (.push u) => match a.stk with
  | none => some { a with place := a.place + 1, stk := some u }
  | some _ => none
 | some (.put name way _) => match a.stk, a.W.lookup name with
  | some u, some x => some { a with place := a.place + 1, stk := none, W := setW a.W name (u + (if way = "+" then x else 0)) }
  | _, _ => none
 | some (.test name b l) => match a.W.lookup name with
  | some x => some { a with place := if b < x then a.place + 1 else l }
  | none => none
 | some (.jump l) => some { a with place := l }
 | some .deed => some { a with place := a.place + 1, log := a.log ++ [names.map fun n => (a.W.lookup n).getD 0] }
 | some (.stop x) => some { a with place := a.place + 1, word := x }
 | none => none
inductive Runs (names : List Str) (prog : List COp) : Nat → AM → AM → Prop
 | done {a : AM} : a.word ≠ "" → Runs names prog 0 a a
 | step {a b f : AM} {n : Nat} : a.word = "" → stepA names prog a = some b → Runs names prog n b f → Runs names prog (n + 1) a f

end M0p
section M1p
open PyProof.V PySem.Spec
noncomputable abbrev wD (W : Wheels) : List (PyData × PyData) := W.map fun p => (PyData.str p.1, PyData.int p.2)
noncomputable def WhAt (w : World) (o : Obj) (W : Wheels) : Prop := ∃ kvs, o.IsDictOf (strKind PR w) kvs ∧ FlatPairs PyData.str kvs (wD W)
theorem wD_lookup {x : Str} {i : Int} : ∀ {W : Wheels}, W.lookup x = some i → lookup (.str x) (wD W) = some (.int i) := by
 intro W
 induction W with
 | nil => intro h; cases h
 | cons p r ih =>
  intro h
  have e : PySem.Spec.same (PyData.str p.1) (PyData.str x) = (p.1 == x) := rfl
  show (if PySem.Spec.same (PyData.str p.1) (PyData.str x) = true then some (PyData.int p.2) else lookup (.str x) (wD r)) = _
  rw [e]
  obtain ⟨a, b⟩ := p
  rw [List.lookup_cons] at h
  by_cases q : (x == a) = true
  ·rw [q] at h
   have q' : (a == x) = true := by rw [beq_iff_eq] at q ⊢; exact q.symm
   simp only [q', if_true]
   injection h with h
   rw [h]
  ·have q0 : (x == a) = false := by simpa using q
   rw [q0] at h
   have q' : (a == x) = false := by
    rw [beq_eq_false_iff_ne] at q0 ⊢
    exact fun e => q0 e.symm
   simp only [q', Bool.false_eq_true, if_false]
   exact ih h
theorem wD_put {x : Str} {i : Int} {W : Wheels} (h : (W.lookup x).isSome = true) : putD (.str x) (.int i) (wD W) = wD (setW W x i) := by
 unfold putD
 have key : ∀ W : Wheels, (W.lookup x).isSome = true → ((wD W).any fun p => PySem.Spec.same p.1 (PyData.str x)) = true := by
  intro W
  induction W with
  | nil => intro h; cases h
  | cons p r ih =>
   intro h
   obtain ⟨a, b⟩ := p
   show (PySem.Spec.same (PyData.str a) (PyData.str x) || (wD r).any fun p => PySem.Spec.same p.1 (PyData.str x)) = true
   have e : PySem.Spec.same (PyData.str a) (PyData.str x) = (a == x) := rfl
   rw [e]
   rw [List.lookup_cons] at h
   by_cases q : (x == a) = true
   ·have q' : (a == x) = true := by rw [beq_iff_eq] at q ⊢; exact q.symm
    rw [q']; rfl
   ·have q0 : (x == a) = false := by simpa using q
    rw [q0] at h
    rw [ih h, Bool.or_true]
 rw [if_pos (key W h)]
 unfold wD setW
 rw [List.map_map, List.map_map]
 apply List.map_congr_left
 intro p _
 have e : PySem.Spec.same (PyData.str p.1) (PyData.str x) = (p.1 == x) := rfl
 show (if PySem.Spec.same (PyData.str p.1) (PyData.str x) = true then (PyData.str p.1, PyData.int i) else (PyData.str p.1, PyData.int p.2)) = _
 rw [e]
 by_cases q : p.1 = x
 ·have q' : (p.1 == x) = true := beq_iff_eq.mpr q
  simp [q]
 ·have q' : (p.1 == x) = false := beq_eq_false_iff_ne.mpr q
  simp [q]
section
variable {w : World} {A : Around} {E : Value → Shared → Prop} {s : Shared} {h₀ : Heap} {L Wa : Addr} {m : Str → Option Value} {news : Led} {o : Obj} {W : Wheels} {x : Str} {i : Int} {t : Tok}
theorem wh_get {value slice : Expr} {Q : Value → Shared → Prop} (N : News h₀ L s.heap news) (hm : (Wa, o) ∈ news) (hW : WhAt w o W) (lo : (Wa == sysModules) = false) (hx : W.lookup x = some i)
  (h : ∀ u, Q (.int i u) { s with toks := s.toks + 1 })
  (hs : subscripted slice false (.ref Wa) (.str x t) = operate [.ref Wa, .str x t] (getItem (.ref Wa) (.str x t)) := by with_unfolding_all rfl) (hg : ∀ r, letTemporaryGo value (.ref Wa) r = pure () := by intro _; with_unfolding_all rfl) :
  wpAny (model PR w) A (subscriptTail value slice (.ref Wa) (.str x t)) Q E s := by
 obtain ⟨kvs, hd, hf⟩ := hW
 have T : TabAt (strKind PR w) PyData.str s.heap Wa (wD W) := ⟨lo, kvs, Heap.dictOf_iff.mpr ⟨o, (N _ hm).1, hd⟩, hf⟩
 refine item_strTab_isSome T (by rw [wD_lookup hx]; rfl) (fun v hv => ?_) hs hg
 rw [wD_lookup hx] at hv
 have hv' := hv s.heap
 obtain ⟨u, rfl⟩ : ∃ u, v = .int i u := by cases hv'; exact ⟨_, rfl⟩
 exact h _
theorem wh_set {g : Obj → Led} {v : Tok} {Q : Unit → Shared → Prop} (F : Fr h₀ L s.heap m) (N : News h₀ L s.heap news) (U : UpdF Wa o news g) (hW : WhAt w o W) (hx : (W.lookup x).isSome = true) (hl : W.length ≤ 1000)
  (h : ∀ h' o', Fr h₀ L h' m → News h₀ L h' (g o') → WhAt w o' (setW W x i) → Q () { s with heap := h', toks := s.toks + 1 }) :
  wpAny (model PR w) A (setItem (.ref Wa) (.str x t) (.int i v)) Q E s := by
 obtain ⟨kvs, hd, hf⟩ := hW
 refine setItem_K PyProof.V.same_str (strKind_is _ _ _ _) (dv := .int i) (Flat.int _ _) F N U hd hf (fun h' o' F' N' hd' hf' => h h' o' F' N' ⟨_, hd', ?_⟩) (by rw [sizeLine_eq, List.length_map]; lia)
 rw [← wD_put hx]
 exact hf'
end
theorem tab_get {w : World} {A : Around} {E : Value → Shared → Prop} {s : Shared} {h₀ : Heap} {L Ta : Addr} {news : Led} {oT : Obj} {kvs : List (Str × Value)} {x : Str} {t : Tok} {v : Value} {value slice : Expr} {Q : Value → Shared → Prop} (N : News h₀ L s.heap news) (hm : (Ta, oT) ∈ news) (hd : oT.IsDictOf (strKind PR w) kvs) (hv : valueAt kvs x = some v)
  (h : Q v { s with toks := s.toks + 1 })
  (hs : subscripted slice false (.ref Ta) (.str x t) = operate [.ref Ta, .str x t] (getItem (.ref Ta) (.str x t)) := by with_unfolding_all rfl) (hg : ∀ r, letTemporaryGo value (.ref Ta) r = pure () := by intro _; with_unfolding_all rfl) :
  wpAny (model PR w) A (subscriptTail value slice (.ref Ta) (.str x t)) Q E s := by
 have hD : s.heap.DictOf (strKind PR w) Ta kvs := Heap.dictOf_iff.mpr ⟨oT, (N _ hm).1, hd⟩
 exact subscriptTail_builtin hD.typeIs slot_dict_getitem.lookup (wpAny_getItem_of (strKind_is _ _ x t) hD.mapOf hv h) hs hg
theorem tup_at {prog : Program} {w : World} {A : Around} {E : Value → Shared → Prop} {s : Shared} {h₀ : Heap} {L T : Addr} {news : Led} {vs : List Value} {i : Nat} {u : Tok} {v : Value} {value slice : Expr} {Q : Value → Shared → Prop} (N : News h₀ L s.heap news) (hm : (T, tup vs) ∈ news) (hv : vs[i]? = some v) (hi : i < 2 ^ 62) (h : Q v s)
  (hs : subscripted slice false (.ref T) (.int (i : Int) u) = operate [.ref T, .int (i : Int) u] (getItem (.ref T) (.int (i : Int) u)) := by with_unfolding_all rfl) :
  wpAny (model prog w) A (subscriptTail value slice (.ref T) (.int (i : Int) u)) Q E s := by
 have ht : IsTup s.heap T vs.toArray := News.isTup N hm
 have hlt : i < vs.length := by
  rcases Nat.lt_or_ge i vs.length with h1 | h1
  ·exact h1
  ·rw [List.getElem?_eq_none h1] at hv; cases hv
 refine tail_any ht.typeIs slot_tuple_getitem.lookup (getItem_tuple (j := i) ht (by lia) (by lia) ?_ ?_ h) hs
 ·unfold seqIndex?
  have h1 : ¬ ((i : Int) < 0) := by lia
  simp only [List.size_toArray, h1, if_false, Bool.and_eq_true, decide_eq_true_eq]
  simp [hlt]
 ·simpa using hv
theorem len_tup {prog : Program} {w : World} {A : Around} {E : Value → Shared → Prop} {s : Shared} {h₀ : Heap} {L T : Addr} {news : Led} {vs : List Value} {Q : Value → Shared → Prop} (N : News h₀ L s.heap news) (hm : (T, tup vs) ∈ news) (hz : vs.length ≤ 16384)
  (h : Q (.int (vs.length : Nat) (s.toks + 1)) { s with toks := s.toks + 1 + 1 }) : wpAny (model prog w) A (call (.builtin "len") [.ref T]) Q E s :=
 kun_lenT (News.isTup N hm) (by simp) (by lia) h

end M1p
section M15p
open PyProof.V PySem.Spec
inductive LogIn (tl : Led) : List Value → List (List Int) → Prop
 | nil : LogIn tl [] []
 | cons {a : Addr} {its : List Value} {n : Nat} {l : List Int} {vs : List Value} {ls : List (List Int)} : (a, listOf its.toArray n) ∈ tl → IntsAre its l → LogIn tl vs ls → LogIn tl (.ref a :: vs) (l :: ls)
theorem LogIn.mono {tl tl' : Led} (hs : ∀ p ∈ tl, p ∈ tl') {vs : List Value} {ls : List (List Int)} (h : LogIn tl vs ls) : LogIn tl' vs ls := by
 induction h with
 | nil => exact .nil
 | cons a b _ ih => exact .cons (hs _ a) b ih
theorem LogIn.snoc {tl : Led} {a : Addr} {its : List Value} {n : Nat} {l : List Int} (h1 : (a, listOf its.toArray n) ∈ tl) (h2 : IntsAre its l) {vs : List Value} {ls : List (List Int)} (h : LogIn tl vs ls) : LogIn tl (vs ++ [.ref a]) (ls ++ [l]) := by
 induction h with
 | nil => exact .cons h1 h2 .nil
 | cons a b _ ih => exact .cons a b ih
inductive COpsIn (tl : Led) : List Value → List COp → Prop
 | nil : COpsIn tl [] []
 | cons {v : Value} {vs : List Value} {o : COp} {os : List COp} : COpIn tl v o → COpsIn tl vs os → COpsIn tl (v :: vs) (o :: os)
theorem COpsIn.at {tl : Led} {vs : List Value} {os : List COp} (h : COpsIn tl vs os) : ∀ {i : Nat} {o : COp}, os[i]? = some o → ∃ v, vs[i]? = some v ∧ COpIn tl v o := by
 induction h with
 | nil => intro i o e; simp at e
 | cons a _ ih =>
  intro i o e
  cases i with
  | zero => exact ⟨_, rfl, by simp at e; rw [← e]; exact a⟩
  | succ i => exact ih (by simpa using e)
theorem COpsIn.length {tl : Led} {vs : List Value} {os : List COp} (h : COpsIn tl vs os) : vs.length = os.length := by
 induction h with
 | nil => rfl
 | cons a _ ih => rw [List.length_cons, List.length_cons, ih]
noncomputable abbrev fnO (fd : FuncData) : Obj := { cls := .type "function", data := .func fd }
structure DeedsOk (w : World) (names : List Str) (fDo fTest fNum fPut Wa lgA : Addr) (tl : Led) : Prop where
 num : ∀ (e : Value) (u : Int), ExpIn tl e u → Ctr w fNum 4 60 [e] tl (fun _ r _ out => (∃ xa tu tz, r = .ref xa ∧ (xa, tup [.int u tu, .int 0 tz]) ∈ tl) ∧ ∀ p ∈ tl, p ∈ out)
 test : ∀ (c : Value) (name : Str) (b x : Int) (oW : Obj) (W : Wheels), CondIn tl c name b → WhAt w oW W → W.lookup name = some x → Ctr w fTest 4 60 [c] ((Wa, oW) :: tl) (fun _ r _ out => r = .bool (decide (b < x)) ∧ (Wa, oW) ∈ out ∧ ∀ p ∈ tl, p ∈ out)
 put : ∀ (v : Value) (xa : Addr) (name way : Str) (u x : Int) (tu tz : Tok) (oW : Obj) (W : Wheels), PutIn tl v name way → (way = "+" ∨ way = "=") → (xa, tup [.int u tu, .int 0 tz]) ∈ tl → WhAt w oW W → W.length ≤ 1000 → W.lookup name = some x →
  Ctr w fPut 6 100 [v, .ref xa] ((Wa, oW) :: tl) (fun _ r _ out => r = .bool false ∧ (∃ oW', WhAt w oW' (setW W name (u + (if way = "+" then x else 0))) ∧ (Wa, oW') ∈ out) ∧ ∀ p ∈ tl, p ∈ out)
 deed : ∀ (st : Value) (oW : Obj) (W : Wheels) (lg : Array Value) (nl : Nat), WhAt w oW W → (∀ n ∈ names, (W.lookup n).isSome = true) → lg.size ≤ 10000 →
  Ctr w fDo 6 100 [st] ((Wa, oW) :: (lgA, listOf lg nl) :: tl) (fun H r _ out => (∃ t, r = .str "" t) ∧ (∃ a its n nl', H.get? a = none ∧ IntsAre its (names.map fun n => (W.lookup n).getD 0) ∧ (a, listOf (its : List Value).toArray n) ∈ out ∧ (lgA, listOf (lg.push (.ref a)) nl') ∈ out) ∧ (Wa, oW) ∈ out ∧ ∀ p ∈ tl, p ∈ out)
section
variable {w : World} {names : List Str} {fDo fTest fNum fPut Wa lgA : Addr} {tl : Led}
 {p : Program} {loose : List Str} {mean : ExcName → Option Value} {mg mb : Str → Option Value} {dp un : Nat} {gd : Option (List Code)} {cn : Str} {cs : Scope} {a : Addr} {ccd : Value} {cl : List (Str × Addr)} {outer : List Env} {A₀ : Around} {base h₀ : Heap} {L : Addr} {m : Str → Option Value} {s : Shared}
 {Q E : Value → Shared → Prop} {news : Led} {g : Obj → Led} {oW : Obj} {W : Wheels}
theorem num_use {e : Value} {u : Int} (D : DeedsOk w names fDo fTest fNum fPut Wa lgA tl) (he : ExpIn tl e u)
  (B : Below A₀ base outer h₀) (F : Fr h₀ L s.heap m) (X : Frag.In (Mine.hd.heap_1 w.params) h₀) (N : News h₀ L s.heap news) (T : Top p loose mean mg mb h₀) (hk : cs.kind = .function) (hd : dp + 4 < recursionLimit) (hu : un + 60 < cLine)
  (hn : ∀ p ∈ tl, p ∈ news) (h : ∀ xa tu tz h' tk', (xa, tup [.int u tu, .int 0 tz]) ∈ tl → Fr h₀ L h' m → News h₀ L h' news → Q (.ref xa) { s with heap := h', toks := tk' }) :
  wpAny (model PR w) (ktrTop dp un gd cn cs L a ccd cl outer) (call (.ref fNum) [e]) Q E s := by
 refine D.num e u he p loose mean mg mb dp un gd cn cs a ccd cl outer A₀ base h₀ L m s Q E B F X (fun q hq => N q (hn q hq)) T hk hd hu ?_
 rintro r out h' tk' F' N' K ⟨⟨xa, tu, tz, rfl, hx⟩, ho⟩
 exact h xa tu tz h' tk' hx F' (news_back N hn N' K fun q hq => .inr ⟨hq, ho q⟩)
theorem test_use {c : Value} {name : Str} {b x : Int} {β : Bool} (hβ : decide (b < x) = β) (D : DeedsOk w names fDo fTest fNum fPut Wa lgA tl) (hc : CondIn tl c name b) (hW : WhAt w oW W) (hx : W.lookup name = some x)
  (B : Below A₀ base outer h₀) (F : Fr h₀ L s.heap m) (X : Frag.In (Mine.hd.heap_1 w.params) h₀) (N : News h₀ L s.heap news) (T : Top p loose mean mg mb h₀) (hk : cs.kind = .function) (hd : dp + 4 < recursionLimit) (hu : un + 60 < cLine)
  (hn : ∀ p ∈ tl, p ∈ news) (hm : (Wa, oW) ∈ news) (h : ∀ h' tk', Fr h₀ L h' m → News h₀ L h' news → Q (.bool β) { s with heap := h', toks := tk' }) :
  wpAny (model PR w) (ktrTop dp un gd cn cs L a ccd cl outer) (call (.ref fTest) [c]) Q E s := by
 subst hβ
 have hn' : ∀ q ∈ (Wa, oW) :: tl, q ∈ news := fc hm hn
 refine D.test c name b x oW W hc hW hx p loose mean mg mb dp un gd cn cs a ccd cl outer A₀ base h₀ L m s Q E B F X (fun q hq => N q (hn' q hq)) T hk hd hu ?_
 intro r out h' tk' F' N' K hK9
 with_reducible refine an3 hK9 ?_
 clear hK9
 intro hR9
 subst hR9
 intro hw ho
 exact h h' tk' F' (news_back N hn' N' K fun q hq => .inr ⟨hq, fun h => (List.mem_cons.mp h).elim (fun e => e ▸ hw) (ho q)⟩)
theorem put_use {v : Value} {xa : Addr} {name way : Str} {u x : Int} {tu tz : Tok} (D : DeedsOk w names fDo fTest fNum fPut Wa lgA tl) (hp : PutIn tl v name way) (hw : way = "+" ∨ way = "=") (hxa : (xa, tup [.int u tu, .int 0 tz]) ∈ tl) (hW : WhAt w oW W) (hl : W.length ≤ 1000) (hx : W.lookup name = some x)
  (B : Below A₀ base outer h₀) (F : Fr h₀ L s.heap m) (X : Frag.In (Mine.hd.heap_1 w.params) h₀) (N : News h₀ L s.heap news) (T : Top p loose mean mg mb h₀) (hk : cs.kind = .function) (hd : dp + 6 < recursionLimit) (hu : un + 100 < cLine)
  (hn : ∀ p ∈ tl, p ∈ news) (U : UpdF Wa oW news g) (h : ∀ oW' h' tk', WhAt w oW' (setW W name (u + (if way = "+" then x else 0))) → Fr h₀ L h' m → News h₀ L h' (g oW') → Q (.bool false) { s with heap := h', toks := tk' }) :
  wpAny (model PR w) (ktrTop dp un gd cn cs L a ccd cl outer) (call (.ref fPut) [v, .ref xa]) Q E s := by
 with_reducible refine ex2 U.split ?_
 intro pre post hX9
 with_reducible refine an4 hX9 ?_
 clear hX9
 intro hR9
 subst hR9
 intro hg h1 h2
 have hn' : ∀ q ∈ (Wa, oW) :: tl, q ∈ pre ++ (Wa, oW) :: post := fc (List.mem_append.mpr (.inr (.head _))) hn
 refine D.put v xa name way u x tu tz oW W hp hw hxa hW hl hx p loose mean mg mb dp un gd cn cs a ccd cl outer A₀ base h₀ L m s Q E B F X (fun q hq => N q (hn' q hq)) T hk hd hu ?_
 rintro r out h' tk' F' N' K ⟨rfl, ⟨oW', hW', ho'⟩, ho⟩
 refine h oW' h' tk' hW' F' (hg oW' ▸ news_back N hn' N' K fun q hq => ?_)
 have other : q.1 ≠ Wa → q ∈ pre ++ (Wa, oW) :: post → q ∈ out ∨ (q ∈ pre ++ (Wa, oW) :: post ∧ (q ∈ (Wa, oW) :: tl → q ∈ out)) := fun hne hq => .inr ⟨hq, fun h => (List.mem_cons.mp h).elim (fun e => absurd (by rw [e]) hne) (ho q)⟩
 rcases List.mem_append.mp hq with hq | hq
 ·exact other (h1 q hq) (List.mem_append.mpr (.inl hq))
 ·rcases List.mem_cons.mp hq with hq | hq
  ·exact .inl (hq ▸ ho')
  ·exact other (h2 q hq) (List.mem_append.mpr (.inr (.tail _ hq)))
theorem deed_use {st : Value} {lg : Array Value} {nl : Nat} (D : DeedsOk w names fDo fTest fNum fPut Wa lgA tl) (hW : WhAt w oW W) (hnm : ∀ n ∈ names, (W.lookup n).isSome = true) (hl : lg.size ≤ 10000)
  (B : Below A₀ base outer h₀) (F : Fr h₀ L s.heap m) (X : Frag.In (Mine.hd.heap_1 w.params) h₀) (N : News h₀ L s.heap news) (T : Top p loose mean mg mb h₀) (hk : cs.kind = .function) (hd : dp + 6 < recursionLimit) (hu : un + 100 < cLine)
  (hn : ∀ p ∈ tl, p ∈ news) (hm : (Wa, oW) ∈ news) (hne : NeA Wa lgA) (hnl : NeAll lgA tl) (U : UpdF lgA (listOf lg nl) news g)
  (h : ∀ t a its n nl' h' tk', IntsAre its (names.map fun n => (W.lookup n).getD 0) → NeAll a news → Fr h₀ L h' m → News h₀ L h' ((a, listOf (its : List Value).toArray n) :: g (listOf (lg.push (.ref a)) nl')) → Q (.str "" t) { s with heap := h', toks := tk' }) :
  wpAny (model PR w) (ktrTop dp un gd cn cs L a ccd cl outer) (call (.ref fDo) [st]) Q E s := by
 with_reducible refine ex2 U.split ?_
 intro pre post hX9
 with_reducible refine an4 hX9 ?_
 clear hX9
 intro hR9
 subst hR9
 intro hg h1 h2
 have hml : (lgA, listOf lg nl) ∈ pre ++ (lgA, listOf lg nl) :: post := List.mem_append.mpr (.inr (.head _))
 have hn' : ∀ q ∈ (Wa, oW) :: (lgA, listOf lg nl) :: tl, q ∈ pre ++ (lgA, listOf lg nl) :: post := fc hm (fc hml hn)
 refine D.deed st oW W lg nl hW hnm hl p loose mean mg mb dp un gd cn cs a ccd cl outer A₀ base h₀ L m s Q E B F X (fun q hq => N q (hn' q hq)) T hk hd hu ?_
 rintro r out h' tk' F' N' K ⟨⟨t, rfl⟩, ⟨b, its, n, nl', hb, hi, hbo, hlo⟩, hw, ho⟩
 refine h t b its n nl' h' tk' hi ⟨fun q hq e => ?_⟩ F' (hg _ ▸ news_back N hn' N' K fun q hq => ?_)
 ·have := (N q hq).1
  rw [e, hb] at this; cases this
 have other : q.1 ≠ lgA → q ∈ pre ++ (lgA, listOf lg nl) :: post → q ∈ out ∨ (q ∈ pre ++ (lgA, listOf lg nl) :: post ∧ (q ∈ (Wa, oW) :: (lgA, listOf lg nl) :: tl → q ∈ out)) := fun hne hq => .inr ⟨hq, fun h => by
  rcases List.mem_cons.mp h with e | h
  ·exact e ▸ hw
  ·rcases List.mem_cons.mp h with e | h
   ·exact absurd (by rw [e]) hne
   ·exact ho q h⟩
 rcases List.mem_cons.mp hq with hq | hq
 ·exact .inl (hq ▸ hbo)
 rcases List.mem_append.mp hq with hq | hq
 ·exact other (h1 q hq) (List.mem_append.mpr (.inl hq))
 ·rcases List.mem_cons.mp hq with hq | hq
  ·exact .inl (hq ▸ hlo)
  ·exact other (h2 q hq) (List.mem_append.mpr (.inr (.tail _ hq)))
end

end M15p
section L0p
inductive Path (names : List Str) (prog : List COp) : Nat → AM → AM → Prop
 | nil {a : AM} : Path names prog 0 a a
 | cons {a b c : AM} {n : Nat} : a.word = "" → stepA names prog a = some b → Path names prog n b c → Path names prog (n + 1) a c
theorem Path.trans {names : List Str} {prog : List COp} {i j : Nat} {a b c : AM} (h : Path names prog i a b) (k : Path names prog j b c) : Path names prog (i + j) a c := by
 induction h with
 | nil => rw [Nat.zero_add]; exact k
 | cons w s _ ih => rw [Nat.succ_add]; exact .cons w s (ih k)
theorem Path.runs {names : List Str} {prog : List COp} {i j : Nat} {a b c : AM} (h : Path names prog i a b) (k : Runs names prog j b c) : Runs names prog (i + j) a c := by
 induction h with
 | nil => rw [Nat.zero_add]; exact k
 | cons w s _ ih => rw [Nat.succ_add]; exact .step w s (ih k)

end L0p
section PLp
noncomputable def cVary1 (b0 m0 d0 : Int) : List COp :=
 [.push b0, .put "A" "=" 2, .test "A" d0 4, .jump 8, .deed, .push m0, .put "A" "+" 7, .jump 2, .stop "end"]
noncomputable def cVary2 (b0 m0 d0 b1 m1 d1 : Int) : List COp :=
 [.push b0, .put "A" "=" 2, .push b1, .put "B" "=" 4, .test "A" d0 6, .jump 17, .test "B" d1 8, .jump 12, .deed, .push m1, .put "B" "+" 11, .jump 6, .push m0, .put "A" "+" 14, .push b1, .put "B" "=" 16, .jump 4, .stop "end"]
noncomputable def cVary3 (b0 m0 d0 b1 m1 d1 b2 m2 d2 : Int) : List COp :=
 [.push b0, .put "A" "=" 2, .push b1, .put "B" "=" 4, .push b2, .put "C" "=" 6, .test "A" d0 8, .jump 26, .test "B" d1 10, .jump 21, .test "C" d2 12, .jump 16, .deed, .push m2, .put "C" "+" 15, .jump 10, .push m1, .put "B" "+" 18, .push b2, .put "C" "=" 20, .jump 8, .push m0, .put "A" "+" 23, .push b1, .put "B" "=" 25, .jump 6, .stop "end"]
noncomputable def cVaryA1 (b0 m0 d0 : Int) : List COp :=
 [.push b0, .put "A" "=" 2, .deed, .test "A" d0 5, .jump 8, .push m0, .put "A" "+" 7, .jump 2, .stop "end"]
noncomputable def cVaryA2 (b0 m0 d0 b1 m1 d1 : Int) : List COp :=
 [.push b0, .put "A" "=" 2, .push b1, .put "B" "=" 4, .deed, .test "B" d1 7, .jump 10, .push m1, .put "B" "+" 9, .jump 4, .test "A" d0 12, .jump 17, .push m0, .put "A" "+" 14, .push b1, .put "B" "=" 16, .jump 4, .stop "end"]
noncomputable def cVaryA3 (b0 m0 d0 b1 m1 d1 b2 m2 d2 : Int) : List COp :=
 [.push b0, .put "A" "=" 2, .push b1, .put "B" "=" 4, .push b2, .put "C" "=" 6, .deed, .test "C" d2 9, .jump 12, .push m2, .put "C" "+" 11, .jump 6, .test "B" d1 14, .jump 19, .push m1, .put "B" "+" 16, .push b2, .put "C" "=" 18, .jump 6, .test "A" d0 21, .jump 28, .push m0, .put "A" "+" 23, .push b1, .put "B" "=" 25, .push b2, .put "C" "=" 27, .jump 6, .stop "end"]

noncomputable abbrev wls (x y z : Int) : Wheels := [("A", x), ("B", y), ("C", z)]
section
variable {names : List Str} {prog : List COp} {p : Nat} {W W' : Wheels} {log : List (List Int)} {c : AM} {n : Nat} {u x b : Int} {name : Str} {l : Nat}
theorem P_set (W' : Wheels) (h1 : prog[p]? = some (.push u)) (h2 : prog[p + 1]? = some (.put name "=" l)) (hx : W.lookup name = some x) (hW : setW W name u = W') (k : Path names prog n ⟨p + 2, none, W', log, ""⟩ c) : Path names prog (n + 2) ⟨p, none, W, log, ""⟩ c := by
 refine .cons (b := ⟨p + 1, some u, W, log, ""⟩) rfl (by simp only [stepA, h1]) (.cons (b := ⟨p + 2, none, W', log, ""⟩) rfl ?_ k)
 have e : u + (if Str.ofString "=" = Str.ofString "+" then x else 0) = u := by rw [if_neg (by decide), Int.add_zero]
 simp only [stepA, h2, hx]
 rw [e, hW]
theorem P_add (W' : Wheels) (h1 : prog[p]? = some (.push u)) (h2 : prog[p + 1]? = some (.put name "+" l)) (hx : W.lookup name = some x) (hW : setW W name (u + x) = W') (k : Path names prog n ⟨p + 2, none, W', log, ""⟩ c) : Path names prog (n + 2) ⟨p, none, W, log, ""⟩ c := by
 refine .cons (b := ⟨p + 1, some u, W, log, ""⟩) rfl (by simp only [stepA, h1]) (.cons (b := ⟨p + 2, none, W', log, ""⟩) rfl ?_ k)
 simp only [stepA, h2, hx, if_true]
 rw [hW]
theorem P_gt (h : prog[p]? = some (.test name b l)) (hx : W.lookup name = some x) (hb : b < x) (k : Path names prog n ⟨p + 1, none, W, log, ""⟩ c) : Path names prog (n + 1) ⟨p, none, W, log, ""⟩ c :=
 .cons rfl (by simp only [stepA, h, hx, hb, if_true]) k
theorem P_le (h : prog[p]? = some (.test name b l)) (hx : W.lookup name = some x) (hb : ¬ b < x) (k : Path names prog n ⟨l, none, W, log, ""⟩ c) : Path names prog (n + 1) ⟨p, none, W, log, ""⟩ c :=
 .cons rfl (by simp only [stepA, h, hx, hb, if_false]) k
theorem P_jump (h : prog[p]? = some (.jump l)) (k : Path names prog n ⟨l, none, W, log, ""⟩ c) : Path names prog (n + 1) ⟨p, none, W, log, ""⟩ c :=
 .cons rfl (by simp only [stepA, h]) k
theorem P_deed (row : List Int) (h : prog[p]? = some .deed) (hr : (names.map fun n => (W.lookup n).getD 0) = row) (k : Path names prog n ⟨p + 1, none, W, log ++ [row], ""⟩ c) : Path names prog (n + 1) ⟨p, none, W, log, ""⟩ c :=
 .cons rfl (by simp only [stepA, h, hr]) k
theorem P_stop (h : prog[p]? = some (.stop "end")) : Runs names prog 1 ⟨p, none, W, log, ""⟩ ⟨p + 1, none, W, log, "end"⟩ :=
 .step rfl (by simp only [stepA, h]) (.done (show Str.ofString "end" ≠ Str.ofString "" by decide))
end
noncomputable def nums (m d : Int) : Nat → Int → List Int
 | 0, _ => []
 | k + 1, x => if x ≤ d then x :: nums m d k (m + x) else []
noncomputable def beyond (m d : Int) : Nat → Int → Int
 | 0, x => x
 | k + 1, x => if x ≤ d then beyond m d k (m + x) else x
noncomputable def afts (m d : Int) : Nat → Int → List Int
 | 0, x => [x]
 | k + 1, x => if x ≤ d then x :: afts m d k (m + x) else [x]
theorem nums_le {m d x : Int} {k : Nat} (q : x ≤ d) : nums m d (k + 1) x = x :: nums m d k (m + x) := by simp [nums, q]
theorem nums_gt {m d x : Int} {k : Nat} (q : ¬ x ≤ d) : nums m d k x = [] := by cases k <;> simp [nums, q]
theorem beyond_le {m d x : Int} {k : Nat} (q : x ≤ d) : beyond m d (k + 1) x = beyond m d k (m + x) := by simp [beyond, q]
theorem beyond_gt {m d x : Int} {k : Nat} (q : ¬ x ≤ d) : beyond m d k x = x := by cases k <;> simp [beyond, q]
theorem afts_le {m d x : Int} {k : Nat} (q : x ≤ d) : afts m d (k + 1) x = x :: afts m d k (m + x) := by simp [afts, q]
theorem afts_gt {m d x : Int} {k : Nat} (q : ¬ x ≤ d) : afts m d k x = [x] := by cases k <;> simp [afts, q]
theorem v1A {b0 m0 d0 : Int} {y : Int} {z : Int} (hm : 1 ≤ m0) : ∀ (k : Nat) (x : Int) (log : List (List Int)), d0 - x < k →
  ∃ n, n ≤ 5 * k + 2 ∧ Path ["A"] (cVary1 b0 m0 d0) n ⟨2, none, wls (x) (y) (z), log, ""⟩ ⟨8, none, wls (beyond m0 d0 k x) (y) (z), log ++ (nums m0 d0 k x).flatMap fun v => [[v]], ""⟩ := by
 have out : ∀ (k : Nat) (x : Int) (log : List (List Int)), ¬ x ≤ d0 → ∃ n, n ≤ 5 * k + 2 ∧ Path ["A"] (cVary1 b0 m0 d0) n ⟨2, none, wls (x) (y) (z), log, ""⟩ ⟨8, none, wls (beyond m0 d0 k x) (y) (z), log ++ (nums m0 d0 k x).flatMap fun v => [[v]], ""⟩ := by
  intro k x log q
  rw [nums_gt q, beyond_gt q, List.flatMap_nil, List.append_nil]
  exact ⟨2, by lia, P_gt (by rfl) (by rfl) (by lia) (P_jump (by rfl) .nil)⟩
 intro k
 induction k with
 | zero => exact fun x log h => out 0 x log (by lia)
 | succ k ih =>
  intro x log h
  by_cases q : x ≤ d0
  ·rw [nums_le q, beyond_le q, List.flatMap_cons, ← List.append_assoc]
   obtain ⟨n, hn, hp⟩ := ih (m0 + x) (log ++ [[x]]) (by lia)
   exact ⟨n + 1 + 2 + 1 + 1, by lia, P_le (by rfl) (by rfl) (by lia) (P_deed _ (by rfl) (by rfl) (P_add (wls (m0 + x) (y) (z)) (by rfl) (by rfl) (by rfl) (by rfl) (P_jump (by rfl) hp)))⟩
  ·exact out (k + 1) x log q
theorem run_vary1 {b0 m0 d0 : Int} {x y z : Int} (hm0 : 1 ≤ m0) (hd0 : d0 - b0 < 4) :
  ∃ n, n ≤ 6000 ∧ Runs ["A"] (cVary1 b0 m0 d0) n ⟨0, none, wls x y z, [], ""⟩ ⟨9, none, wls (beyond m0 d0 4 b0) (y) (z), (nums m0 d0 4 b0).flatMap fun w0 => [[w0]], "end"⟩ := by
 obtain ⟨n, hn, hp⟩ := v1A (b0 := b0) (m0 := m0) (d0 := d0) (y := y) (z := z) hm0 4 b0 [] hd0
 rw [List.nil_append] at hp
 exact ⟨(n + 2) + 1, by lia, Path.runs (P_set (wls (b0) (y) (z)) (by rfl) (by rfl) (by rfl) (by rfl) hp) (P_stop (by rfl))⟩
theorem a1A {b0 m0 d0 : Int} {y : Int} {z : Int} (hm : 1 ≤ m0) : ∀ (k : Nat) (x : Int) (log : List (List Int)), d0 - x < k →
  ∃ n, n ≤ 6 * k + 6 ∧ Path ["A"] (cVaryA1 b0 m0 d0) n ⟨2, none, wls (x) (y) (z), log, ""⟩ ⟨8, none, wls (beyond m0 d0 k x) (y) (z), log ++ (afts m0 d0 k x).flatMap fun v => [[v]], ""⟩ := by
 have out : ∀ (k : Nat) (x : Int) (log : List (List Int)), ¬ x ≤ d0 → ∃ n, n ≤ 6 * k + 6 ∧ Path ["A"] (cVaryA1 b0 m0 d0) n ⟨2, none, wls (x) (y) (z), log, ""⟩ ⟨8, none, wls (beyond m0 d0 k x) (y) (z), log ++ (afts m0 d0 k x).flatMap fun v => [[v]], ""⟩ := by
  intro k x log q
  rw [afts_gt q, beyond_gt q, List.flatMap_cons, List.flatMap_nil, List.append_nil]
  exact ⟨3, by lia, P_deed _ (by rfl) (by rfl) (P_gt (by rfl) (by rfl) (by lia) (P_jump (by rfl) .nil))⟩
 intro k
 induction k with
 | zero => exact fun x log h => out 0 x log (by lia)
 | succ k ih =>
  intro x log h
  by_cases q : x ≤ d0
  ·rw [afts_le q, beyond_le q, List.flatMap_cons, ← List.append_assoc]
   obtain ⟨n, hn, hp⟩ := ih (m0 + x) (log ++ [[x]]) (by lia)
   exact ⟨n + 1 + 2 + 1 + 1, by lia, P_deed _ (by rfl) (by rfl) (P_le (by rfl) (by rfl) (by lia) (P_add (wls (m0 + x) (y) (z)) (by rfl) (by rfl) (by rfl) (by rfl) (P_jump (by rfl) hp)))⟩
  ·exact out (k + 1) x log q
theorem run_varyA1 {b0 m0 d0 : Int} {x y z : Int} (hm0 : 1 ≤ m0) (hd0 : d0 - b0 < 4) :
  ∃ n, n ≤ 6000 ∧ Runs ["A"] (cVaryA1 b0 m0 d0) n ⟨0, none, wls x y z, [], ""⟩ ⟨9, none, wls (beyond m0 d0 4 b0) (y) (z), (afts m0 d0 4 b0).flatMap fun w0 => [[w0]], "end"⟩ := by
 obtain ⟨n, hn, hp⟩ := a1A (b0 := b0) (m0 := m0) (d0 := d0) (y := y) (z := z) hm0 4 b0 [] hd0
 rw [List.nil_append] at hp
 exact ⟨(n + 2) + 1, by lia, Path.runs (P_set (wls (b0) (y) (z)) (by rfl) (by rfl) (by rfl) (by rfl) hp) (P_stop (by rfl))⟩
theorem v2B {b0 m0 d0 b1 m1 d1 : Int} {x : Int} {z : Int} (hm : 1 ≤ m1) : ∀ (k : Nat) (y : Int) (log : List (List Int)), d1 - y < k →
  ∃ n, n ≤ 5 * k + 2 ∧ Path ["A", "B"] (cVary2 b0 m0 d0 b1 m1 d1) n ⟨6, none, wls (x) (y) (z), log, ""⟩ ⟨12, none, wls (x) (beyond m1 d1 k y) (z), log ++ (nums m1 d1 k y).flatMap fun v => [[x, v]], ""⟩ := by
 have out : ∀ (k : Nat) (y : Int) (log : List (List Int)), ¬ y ≤ d1 → ∃ n, n ≤ 5 * k + 2 ∧ Path ["A", "B"] (cVary2 b0 m0 d0 b1 m1 d1) n ⟨6, none, wls (x) (y) (z), log, ""⟩ ⟨12, none, wls (x) (beyond m1 d1 k y) (z), log ++ (nums m1 d1 k y).flatMap fun v => [[x, v]], ""⟩ := by
  intro k y log q
  rw [nums_gt q, beyond_gt q, List.flatMap_nil, List.append_nil]
  exact ⟨2, by lia, P_gt (by rfl) (by rfl) (by lia) (P_jump (by rfl) .nil)⟩
 intro k
 induction k with
 | zero => exact fun y log h => out 0 y log (by lia)
 | succ k ih =>
  intro y log h
  by_cases q : y ≤ d1
  ·rw [nums_le q, beyond_le q, List.flatMap_cons, ← List.append_assoc]
   obtain ⟨n, hn, hp⟩ := ih (m1 + y) (log ++ [[x, y]]) (by lia)
   exact ⟨n + 1 + 2 + 1 + 1, by lia, P_le (by rfl) (by rfl) (by lia) (P_deed _ (by rfl) (by rfl) (P_add (wls (x) (m1 + y) (z)) (by rfl) (by rfl) (by rfl) (by rfl) (P_jump (by rfl) hp)))⟩
  ·exact out (k + 1) y log q
theorem v2A {b0 m0 d0 b1 m1 d1 : Int} {z : Int} (hm : 1 ≤ m0) (hm1 : 1 ≤ m1) (hd1 : d1 - b1 < 4) : ∀ (k : Nat) (x : Int) (log : List (List Int)), d0 - x < k →
  ∃ n, n ≤ 28 * k + 2 ∧ Path ["A", "B"] (cVary2 b0 m0 d0 b1 m1 d1) n ⟨4, none, wls (x) (b1) (z), log, ""⟩ ⟨17, none, wls (beyond m0 d0 k x) (b1) (z), log ++ (nums m0 d0 k x).flatMap fun v => (nums m1 d1 4 b1).flatMap fun w1 => [[v, w1]], ""⟩ := by
 have out : ∀ (k : Nat) (x : Int) (log : List (List Int)), ¬ x ≤ d0 → ∃ n, n ≤ 28 * k + 2 ∧ Path ["A", "B"] (cVary2 b0 m0 d0 b1 m1 d1) n ⟨4, none, wls (x) (b1) (z), log, ""⟩ ⟨17, none, wls (beyond m0 d0 k x) (b1) (z), log ++ (nums m0 d0 k x).flatMap fun v => (nums m1 d1 4 b1).flatMap fun w1 => [[v, w1]], ""⟩ := by
  intro k x log q
  rw [nums_gt q, beyond_gt q, List.flatMap_nil, List.append_nil]
  exact ⟨2, by lia, P_gt (by rfl) (by rfl) (by lia) (P_jump (by rfl) .nil)⟩
 intro k
 induction k with
 | zero => exact fun x log h => out 0 x log (by lia)
 | succ k ih =>
  intro x log h
  by_cases q : x ≤ d0
  ·rw [nums_le q, beyond_le q, List.flatMap_cons, ← List.append_assoc]
   obtain ⟨n1, hn1, hp1⟩ := v2B (b0 := b0) (m0 := m0) (d0 := d0) (x := x) (z := z) hm1 4 b1 log hd1
   obtain ⟨n, hn, hp⟩ := ih (m0 + x) (log ++ (nums m1 d1 4 b1).flatMap fun w1 => [[x, w1]]) (by lia)
   refine ⟨n1 + (n + 1 + 2 + 2) + 1, by lia, P_le (by rfl) (by rfl) (by lia) (hp1.trans (P_add (wls (m0 + x) (beyond m1 d1 4 b1) (z)) (by rfl) (by rfl) (by rfl) (by rfl) (P_set (wls (m0 + x) (b1) (z)) (by rfl) (by rfl) (by rfl) (by rfl) (P_jump (by rfl) hp))))⟩
  ·exact out (k + 1) x log q
theorem run_vary2 {b0 m0 d0 b1 m1 d1 : Int} {x y z : Int} (hm0 : 1 ≤ m0) (hd0 : d0 - b0 < 4) (hm1 : 1 ≤ m1) (hd1 : d1 - b1 < 4) :
  ∃ n, n ≤ 6000 ∧ Runs ["A", "B"] (cVary2 b0 m0 d0 b1 m1 d1) n ⟨0, none, wls x y z, [], ""⟩ ⟨18, none, wls (beyond m0 d0 4 b0) (b1) (z), (nums m0 d0 4 b0).flatMap fun w0 => (nums m1 d1 4 b1).flatMap fun w1 => [[w0, w1]], "end"⟩ := by
 obtain ⟨n, hn, hp⟩ := v2A (b0 := b0) (m0 := m0) (d0 := d0) (b1 := b1) (m1 := m1) (d1 := d1) (z := z) hm0 hm1 hd1 4 b0 [] hd0
 rw [List.nil_append] at hp
 exact ⟨(n + 2 + 2) + 1, by lia, Path.runs (P_set (wls (b0) (y) (z)) (by rfl) (by rfl) (by rfl) (by rfl) (P_set (wls (b0) (b1) (z)) (by rfl) (by rfl) (by rfl) (by rfl) hp)) (P_stop (by rfl))⟩
theorem a2B {b0 m0 d0 b1 m1 d1 : Int} {x : Int} {z : Int} (hm : 1 ≤ m1) : ∀ (k : Nat) (y : Int) (log : List (List Int)), d1 - y < k →
  ∃ n, n ≤ 6 * k + 6 ∧ Path ["A", "B"] (cVaryA2 b0 m0 d0 b1 m1 d1) n ⟨4, none, wls (x) (y) (z), log, ""⟩ ⟨10, none, wls (x) (beyond m1 d1 k y) (z), log ++ (afts m1 d1 k y).flatMap fun v => [[x, v]], ""⟩ := by
 have out : ∀ (k : Nat) (y : Int) (log : List (List Int)), ¬ y ≤ d1 → ∃ n, n ≤ 6 * k + 6 ∧ Path ["A", "B"] (cVaryA2 b0 m0 d0 b1 m1 d1) n ⟨4, none, wls (x) (y) (z), log, ""⟩ ⟨10, none, wls (x) (beyond m1 d1 k y) (z), log ++ (afts m1 d1 k y).flatMap fun v => [[x, v]], ""⟩ := by
  intro k y log q
  rw [afts_gt q, beyond_gt q, List.flatMap_cons, List.flatMap_nil, List.append_nil]
  exact ⟨3, by lia, P_deed _ (by rfl) (by rfl) (P_gt (by rfl) (by rfl) (by lia) (P_jump (by rfl) .nil))⟩
 intro k
 induction k with
 | zero => exact fun y log h => out 0 y log (by lia)
 | succ k ih =>
  intro y log h
  by_cases q : y ≤ d1
  ·rw [afts_le q, beyond_le q, List.flatMap_cons, ← List.append_assoc]
   obtain ⟨n, hn, hp⟩ := ih (m1 + y) (log ++ [[x, y]]) (by lia)
   exact ⟨n + 1 + 2 + 1 + 1, by lia, P_deed _ (by rfl) (by rfl) (P_le (by rfl) (by rfl) (by lia) (P_add (wls (x) (m1 + y) (z)) (by rfl) (by rfl) (by rfl) (by rfl) (P_jump (by rfl) hp)))⟩
  ·exact out (k + 1) y log q
theorem a2A {b0 m0 d0 b1 m1 d1 : Int} {z : Int} (hm : 1 ≤ m0) (hm1 : 1 ≤ m1) (hd1 : d1 - b1 < 4) : ∀ (k : Nat) (x : Int) (log : List (List Int)), d0 - x < k →
  ∃ n, n ≤ 40 * k + 40 ∧ Path ["A", "B"] (cVaryA2 b0 m0 d0 b1 m1 d1) n ⟨4, none, wls (x) (b1) (z), log, ""⟩ ⟨17, none, wls (beyond m0 d0 k x) (beyond m1 d1 4 b1) (z), log ++ (afts m0 d0 k x).flatMap fun v => (afts m1 d1 4 b1).flatMap fun w1 => [[v, w1]], ""⟩ := by
 have out : ∀ (k : Nat) (x : Int) (log : List (List Int)), ¬ x ≤ d0 → ∃ n, n ≤ 40 * k + 40 ∧ Path ["A", "B"] (cVaryA2 b0 m0 d0 b1 m1 d1) n ⟨4, none, wls (x) (b1) (z), log, ""⟩ ⟨17, none, wls (beyond m0 d0 k x) (beyond m1 d1 4 b1) (z), log ++ (afts m0 d0 k x).flatMap fun v => (afts m1 d1 4 b1).flatMap fun w1 => [[v, w1]], ""⟩ := by
  intro k x log q
  rw [afts_gt q, beyond_gt q, List.flatMap_cons, List.flatMap_nil, List.append_nil]
  obtain ⟨n1, hn1, hp1⟩ := a2B (b0 := b0) (m0 := m0) (d0 := d0) (x := x) (z := z) hm1 4 b1 log hd1
  exact ⟨n1 + 2, by lia, hp1.trans (P_gt (by rfl) (by rfl) (by lia) (P_jump (by rfl) .nil))⟩
 intro k
 induction k with
 | zero => exact fun x log h => out 0 x log (by lia)
 | succ k ih =>
  intro x log h
  by_cases q : x ≤ d0
  ·rw [afts_le q, beyond_le q, List.flatMap_cons, ← List.append_assoc]
   obtain ⟨n1, hn1, hp1⟩ := a2B (b0 := b0) (m0 := m0) (d0 := d0) (x := x) (z := z) hm1 4 b1 log hd1
   obtain ⟨n, hn, hp⟩ := ih (m0 + x) (log ++ (afts m1 d1 4 b1).flatMap fun w1 => [[x, w1]]) (by lia)
   exact ⟨n1 + (n + 1 + 2 + 2 + 1), by lia, hp1.trans (P_le (by rfl) (by rfl) (by lia) (P_add (wls (m0 + x) (beyond m1 d1 4 b1) (z)) (by rfl) (by rfl) (by rfl) (by rfl) (P_set (wls (m0 + x) (b1) (z)) (by rfl) (by rfl) (by rfl) (by rfl) (P_jump (by rfl) hp))))⟩
  ·exact out (k + 1) x log q
theorem run_varyA2 {b0 m0 d0 b1 m1 d1 : Int} {x y z : Int} (hm0 : 1 ≤ m0) (hd0 : d0 - b0 < 4) (hm1 : 1 ≤ m1) (hd1 : d1 - b1 < 4) :
  ∃ n, n ≤ 6000 ∧ Runs ["A", "B"] (cVaryA2 b0 m0 d0 b1 m1 d1) n ⟨0, none, wls x y z, [], ""⟩ ⟨18, none, wls (beyond m0 d0 4 b0) (beyond m1 d1 4 b1) (z), (afts m0 d0 4 b0).flatMap fun w0 => (afts m1 d1 4 b1).flatMap fun w1 => [[w0, w1]], "end"⟩ := by
 obtain ⟨n, hn, hp⟩ := a2A (b0 := b0) (m0 := m0) (d0 := d0) (b1 := b1) (m1 := m1) (d1 := d1) (z := z) hm0 hm1 hd1 4 b0 [] hd0
 rw [List.nil_append] at hp
 exact ⟨(n + 2 + 2) + 1, by lia, Path.runs (P_set (wls (b0) (y) (z)) (by rfl) (by rfl) (by rfl) (by rfl) (P_set (wls (b0) (b1) (z)) (by rfl) (by rfl) (by rfl) (by rfl) hp)) (P_stop (by rfl))⟩
theorem v3C {b0 m0 d0 b1 m1 d1 b2 m2 d2 : Int} {x : Int} {y : Int} (hm : 1 ≤ m2) : ∀ (k : Nat) (z : Int) (log : List (List Int)), d2 - z < k →
  ∃ n, n ≤ 5 * k + 2 ∧ Path ["A", "B", "C"] (cVary3 b0 m0 d0 b1 m1 d1 b2 m2 d2) n ⟨10, none, wls (x) (y) (z), log, ""⟩ ⟨16, none, wls (x) (y) (beyond m2 d2 k z), log ++ (nums m2 d2 k z).flatMap fun v => [[x, y, v]], ""⟩ := by
 have out : ∀ (k : Nat) (z : Int) (log : List (List Int)), ¬ z ≤ d2 → ∃ n, n ≤ 5 * k + 2 ∧ Path ["A", "B", "C"] (cVary3 b0 m0 d0 b1 m1 d1 b2 m2 d2) n ⟨10, none, wls (x) (y) (z), log, ""⟩ ⟨16, none, wls (x) (y) (beyond m2 d2 k z), log ++ (nums m2 d2 k z).flatMap fun v => [[x, y, v]], ""⟩ := by
  intro k z log q
  rw [nums_gt q, beyond_gt q, List.flatMap_nil, List.append_nil]
  exact ⟨2, by lia, P_gt (by rfl) (by rfl) (by lia) (P_jump (by rfl) .nil)⟩
 intro k
 induction k with
 | zero => exact fun z log h => out 0 z log (by lia)
 | succ k ih =>
  intro z log h
  by_cases q : z ≤ d2
  ·rw [nums_le q, beyond_le q, List.flatMap_cons, ← List.append_assoc]
   obtain ⟨n, hn, hp⟩ := ih (m2 + z) (log ++ [[x, y, z]]) (by lia)
   exact ⟨n + 1 + 2 + 1 + 1, by lia, P_le (by rfl) (by rfl) (by lia) (P_deed _ (by rfl) (by rfl) (P_add (wls (x) (y) (m2 + z)) (by rfl) (by rfl) (by rfl) (by rfl) (P_jump (by rfl) hp)))⟩
  ·exact out (k + 1) z log q
theorem v3B {b0 m0 d0 b1 m1 d1 b2 m2 d2 : Int} {x : Int} (hm : 1 ≤ m1) (hm2 : 1 ≤ m2) (hd2 : d2 - b2 < 4) : ∀ (k : Nat) (y : Int) (log : List (List Int)), d1 - y < k →
  ∃ n, n ≤ 28 * k + 2 ∧ Path ["A", "B", "C"] (cVary3 b0 m0 d0 b1 m1 d1 b2 m2 d2) n ⟨8, none, wls (x) (y) (b2), log, ""⟩ ⟨21, none, wls (x) (beyond m1 d1 k y) (b2), log ++ (nums m1 d1 k y).flatMap fun v => (nums m2 d2 4 b2).flatMap fun w2 => [[x, v, w2]], ""⟩ := by
 have out : ∀ (k : Nat) (y : Int) (log : List (List Int)), ¬ y ≤ d1 → ∃ n, n ≤ 28 * k + 2 ∧ Path ["A", "B", "C"] (cVary3 b0 m0 d0 b1 m1 d1 b2 m2 d2) n ⟨8, none, wls (x) (y) (b2), log, ""⟩ ⟨21, none, wls (x) (beyond m1 d1 k y) (b2), log ++ (nums m1 d1 k y).flatMap fun v => (nums m2 d2 4 b2).flatMap fun w2 => [[x, v, w2]], ""⟩ := by
  intro k y log q
  rw [nums_gt q, beyond_gt q, List.flatMap_nil, List.append_nil]
  exact ⟨2, by lia, P_gt (by rfl) (by rfl) (by lia) (P_jump (by rfl) .nil)⟩
 intro k
 induction k with
 | zero => exact fun y log h => out 0 y log (by lia)
 | succ k ih =>
  intro y log h
  by_cases q : y ≤ d1
  ·rw [nums_le q, beyond_le q, List.flatMap_cons, ← List.append_assoc]
   obtain ⟨n1, hn1, hp1⟩ := v3C (b1 := b1) (m1 := m1) (d1 := d1) (b0 := b0) (m0 := m0) (d0 := d0) (x := x) (y := y) hm2 4 b2 log hd2
   obtain ⟨n, hn, hp⟩ := ih (m1 + y) (log ++ (nums m2 d2 4 b2).flatMap fun w2 => [[x, y, w2]]) (by lia)
   refine ⟨n1 + (n + 1 + 2 + 2) + 1, by lia, P_le (by rfl) (by rfl) (by lia) (hp1.trans (P_add (wls (x) (m1 + y) (beyond m2 d2 4 b2)) (by rfl) (by rfl) (by rfl) (by rfl) (P_set (wls (x) (m1 + y) (b2)) (by rfl) (by rfl) (by rfl) (by rfl) (P_jump (by rfl) hp))))⟩
  ·exact out (k + 1) y log q
theorem v3A {b0 m0 d0 b1 m1 d1 b2 m2 d2 : Int}  (hm : 1 ≤ m0) (hm1 : 1 ≤ m1) (hd1 : d1 - b1 < 4) (hm2 : 1 ≤ m2) (hd2 : d2 - b2 < 4) : ∀ (k : Nat) (x : Int) (log : List (List Int)), d0 - x < k →
  ∃ n, n ≤ 120 * k + 2 ∧ Path ["A", "B", "C"] (cVary3 b0 m0 d0 b1 m1 d1 b2 m2 d2) n ⟨6, none, wls (x) (b1) (b2), log, ""⟩ ⟨26, none, wls (beyond m0 d0 k x) (b1) (b2), log ++ (nums m0 d0 k x).flatMap fun v => (nums m1 d1 4 b1).flatMap fun w1 => (nums m2 d2 4 b2).flatMap fun w2 => [[v, w1, w2]], ""⟩ := by
 have out : ∀ (k : Nat) (x : Int) (log : List (List Int)), ¬ x ≤ d0 → ∃ n, n ≤ 120 * k + 2 ∧ Path ["A", "B", "C"] (cVary3 b0 m0 d0 b1 m1 d1 b2 m2 d2) n ⟨6, none, wls (x) (b1) (b2), log, ""⟩ ⟨26, none, wls (beyond m0 d0 k x) (b1) (b2), log ++ (nums m0 d0 k x).flatMap fun v => (nums m1 d1 4 b1).flatMap fun w1 => (nums m2 d2 4 b2).flatMap fun w2 => [[v, w1, w2]], ""⟩ := by
  intro k x log q
  rw [nums_gt q, beyond_gt q, List.flatMap_nil, List.append_nil]
  exact ⟨2, by lia, P_gt (by rfl) (by rfl) (by lia) (P_jump (by rfl) .nil)⟩
 intro k
 induction k with
 | zero => exact fun x log h => out 0 x log (by lia)
 | succ k ih =>
  intro x log h
  by_cases q : x ≤ d0
  ·rw [nums_le q, beyond_le q, List.flatMap_cons, ← List.append_assoc]
   obtain ⟨n1, hn1, hp1⟩ := v3B (b0 := b0) (m0 := m0) (d0 := d0) (x := x) hm1 hm2 hd2 4 b1 log hd1
   obtain ⟨n, hn, hp⟩ := ih (m0 + x) (log ++ (nums m1 d1 4 b1).flatMap fun w1 => (nums m2 d2 4 b2).flatMap fun w2 => [[x, w1, w2]]) (by lia)
   refine ⟨n1 + (n + 1 + 2 + 2) + 1, by lia, P_le (by rfl) (by rfl) (by lia) (hp1.trans (P_add (wls (m0 + x) (beyond m1 d1 4 b1) (b2)) (by rfl) (by rfl) (by rfl) (by rfl) (P_set (wls (m0 + x) (b1) (b2)) (by rfl) (by rfl) (by rfl) (by rfl) (P_jump (by rfl) hp))))⟩
  ·exact out (k + 1) x log q
theorem run_vary3 {b0 m0 d0 b1 m1 d1 b2 m2 d2 : Int} {x y z : Int} (hm0 : 1 ≤ m0) (hd0 : d0 - b0 < 4) (hm1 : 1 ≤ m1) (hd1 : d1 - b1 < 4) (hm2 : 1 ≤ m2) (hd2 : d2 - b2 < 4) :
  ∃ n, n ≤ 6000 ∧ Runs ["A", "B", "C"] (cVary3 b0 m0 d0 b1 m1 d1 b2 m2 d2) n ⟨0, none, wls x y z, [], ""⟩ ⟨27, none, wls (beyond m0 d0 4 b0) (b1) (b2), (nums m0 d0 4 b0).flatMap fun w0 => (nums m1 d1 4 b1).flatMap fun w1 => (nums m2 d2 4 b2).flatMap fun w2 => [[w0, w1, w2]], "end"⟩ := by
 obtain ⟨n, hn, hp⟩ := v3A (b0 := b0) (m0 := m0) (d0 := d0) (b1 := b1) (m1 := m1) (d1 := d1) (b2 := b2) (m2 := m2) (d2 := d2) hm0 hm1 hd1 hm2 hd2 4 b0 [] hd0
 rw [List.nil_append] at hp
 exact ⟨(n + 2 + 2 + 2) + 1, by lia, Path.runs (P_set (wls (b0) (y) (z)) (by rfl) (by rfl) (by rfl) (by rfl) (P_set (wls (b0) (b1) (z)) (by rfl) (by rfl) (by rfl) (by rfl) (P_set (wls (b0) (b1) (b2)) (by rfl) (by rfl) (by rfl) (by rfl) hp))) (P_stop (by rfl))⟩
theorem a3C {b0 m0 d0 b1 m1 d1 b2 m2 d2 : Int} {x : Int} {y : Int} (hm : 1 ≤ m2) : ∀ (k : Nat) (z : Int) (log : List (List Int)), d2 - z < k →
  ∃ n, n ≤ 6 * k + 6 ∧ Path ["A", "B", "C"] (cVaryA3 b0 m0 d0 b1 m1 d1 b2 m2 d2) n ⟨6, none, wls (x) (y) (z), log, ""⟩ ⟨12, none, wls (x) (y) (beyond m2 d2 k z), log ++ (afts m2 d2 k z).flatMap fun v => [[x, y, v]], ""⟩ := by
 have out : ∀ (k : Nat) (z : Int) (log : List (List Int)), ¬ z ≤ d2 → ∃ n, n ≤ 6 * k + 6 ∧ Path ["A", "B", "C"] (cVaryA3 b0 m0 d0 b1 m1 d1 b2 m2 d2) n ⟨6, none, wls (x) (y) (z), log, ""⟩ ⟨12, none, wls (x) (y) (beyond m2 d2 k z), log ++ (afts m2 d2 k z).flatMap fun v => [[x, y, v]], ""⟩ := by
  intro k z log q
  rw [afts_gt q, beyond_gt q, List.flatMap_cons, List.flatMap_nil, List.append_nil]
  exact ⟨3, by lia, P_deed _ (by rfl) (by rfl) (P_gt (by rfl) (by rfl) (by lia) (P_jump (by rfl) .nil))⟩
 intro k
 induction k with
 | zero => exact fun z log h => out 0 z log (by lia)
 | succ k ih =>
  intro z log h
  by_cases q : z ≤ d2
  ·rw [afts_le q, beyond_le q, List.flatMap_cons, ← List.append_assoc]
   obtain ⟨n, hn, hp⟩ := ih (m2 + z) (log ++ [[x, y, z]]) (by lia)
   exact ⟨n + 1 + 2 + 1 + 1, by lia, P_deed _ (by rfl) (by rfl) (P_le (by rfl) (by rfl) (by lia) (P_add (wls (x) (y) (m2 + z)) (by rfl) (by rfl) (by rfl) (by rfl) (P_jump (by rfl) hp)))⟩
  ·exact out (k + 1) z log q
theorem a3B {b0 m0 d0 b1 m1 d1 b2 m2 d2 : Int} {x : Int} (hm : 1 ≤ m1) (hm2 : 1 ≤ m2) (hd2 : d2 - b2 < 4) : ∀ (k : Nat) (y : Int) (log : List (List Int)), d1 - y < k →
  ∃ n, n ≤ 40 * k + 40 ∧ Path ["A", "B", "C"] (cVaryA3 b0 m0 d0 b1 m1 d1 b2 m2 d2) n ⟨6, none, wls (x) (y) (b2), log, ""⟩ ⟨19, none, wls (x) (beyond m1 d1 k y) (beyond m2 d2 4 b2), log ++ (afts m1 d1 k y).flatMap fun v => (afts m2 d2 4 b2).flatMap fun w2 => [[x, v, w2]], ""⟩ := by
 have out : ∀ (k : Nat) (y : Int) (log : List (List Int)), ¬ y ≤ d1 → ∃ n, n ≤ 40 * k + 40 ∧ Path ["A", "B", "C"] (cVaryA3 b0 m0 d0 b1 m1 d1 b2 m2 d2) n ⟨6, none, wls (x) (y) (b2), log, ""⟩ ⟨19, none, wls (x) (beyond m1 d1 k y) (beyond m2 d2 4 b2), log ++ (afts m1 d1 k y).flatMap fun v => (afts m2 d2 4 b2).flatMap fun w2 => [[x, v, w2]], ""⟩ := by
  intro k y log q
  rw [afts_gt q, beyond_gt q, List.flatMap_cons, List.flatMap_nil, List.append_nil]
  obtain ⟨n1, hn1, hp1⟩ := a3C (b0 := b0) (m0 := m0) (d0 := d0) (b1 := b1) (m1 := m1) (d1 := d1) (x := x) (y := y) hm2 4 b2 log hd2
  exact ⟨n1 + 2, by lia, hp1.trans (P_gt (by rfl) (by rfl) (by lia) (P_jump (by rfl) .nil))⟩
 intro k
 induction k with
 | zero => exact fun y log h => out 0 y log (by lia)
 | succ k ih =>
  intro y log h
  by_cases q : y ≤ d1
  ·rw [afts_le q, beyond_le q, List.flatMap_cons, ← List.append_assoc]
   obtain ⟨n1, hn1, hp1⟩ := a3C (b0 := b0) (m0 := m0) (d0 := d0) (b1 := b1) (m1 := m1) (d1 := d1) (x := x) (y := y) hm2 4 b2 log hd2
   obtain ⟨n, hn, hp⟩ := ih (m1 + y) (log ++ (afts m2 d2 4 b2).flatMap fun w2 => [[x, y, w2]]) (by lia)
   exact ⟨n1 + (n + 1 + 2 + 2 + 1), by lia, hp1.trans (P_le (by rfl) (by rfl) (by lia) (P_add (wls (x) (m1 + y) (beyond m2 d2 4 b2)) (by rfl) (by rfl) (by rfl) (by rfl) (P_set (wls (x) (m1 + y) (b2)) (by rfl) (by rfl) (by rfl) (by rfl) (P_jump (by rfl) hp))))⟩
  ·exact out (k + 1) y log q
theorem a3A {b0 m0 d0 b1 m1 d1 b2 m2 d2 : Int}  (hm : 1 ≤ m0) (hm1 : 1 ≤ m1) (hd1 : d1 - b1 < 4) (hm2 : 1 ≤ m2) (hd2 : d2 - b2 < 4) : ∀ (k : Nat) (x : Int) (log : List (List Int)), d0 - x < k →
  ∃ n, n ≤ 212 * k + 212 ∧ Path ["A", "B", "C"] (cVaryA3 b0 m0 d0 b1 m1 d1 b2 m2 d2) n ⟨6, none, wls (x) (b1) (b2), log, ""⟩ ⟨28, none, wls (beyond m0 d0 k x) (beyond m1 d1 4 b1) (beyond m2 d2 4 b2), log ++ (afts m0 d0 k x).flatMap fun v => (afts m1 d1 4 b1).flatMap fun w1 => (afts m2 d2 4 b2).flatMap fun w2 => [[v, w1, w2]], ""⟩ := by
 have out : ∀ (k : Nat) (x : Int) (log : List (List Int)), ¬ x ≤ d0 → ∃ n, n ≤ 212 * k + 212 ∧ Path ["A", "B", "C"] (cVaryA3 b0 m0 d0 b1 m1 d1 b2 m2 d2) n ⟨6, none, wls (x) (b1) (b2), log, ""⟩ ⟨28, none, wls (beyond m0 d0 k x) (beyond m1 d1 4 b1) (beyond m2 d2 4 b2), log ++ (afts m0 d0 k x).flatMap fun v => (afts m1 d1 4 b1).flatMap fun w1 => (afts m2 d2 4 b2).flatMap fun w2 => [[v, w1, w2]], ""⟩ := by
  intro k x log q
  rw [afts_gt q, beyond_gt q, List.flatMap_cons, List.flatMap_nil, List.append_nil]
  obtain ⟨n1, hn1, hp1⟩ := a3B (b0 := b0) (m0 := m0) (d0 := d0) (x := x) hm1 hm2 hd2 4 b1 log hd1
  exact ⟨n1 + 2, by lia, hp1.trans (P_gt (by rfl) (by rfl) (by lia) (P_jump (by rfl) .nil))⟩
 intro k
 induction k with
 | zero => exact fun x log h => out 0 x log (by lia)
 | succ k ih =>
  intro x log h
  by_cases q : x ≤ d0
  ·rw [afts_le q, beyond_le q, List.flatMap_cons, ← List.append_assoc]
   obtain ⟨n1, hn1, hp1⟩ := a3B (b0 := b0) (m0 := m0) (d0 := d0) (x := x) hm1 hm2 hd2 4 b1 log hd1
   obtain ⟨n, hn, hp⟩ := ih (m0 + x) (log ++ (afts m1 d1 4 b1).flatMap fun w1 => (afts m2 d2 4 b2).flatMap fun w2 => [[x, w1, w2]]) (by lia)
   exact ⟨n1 + (n + 1 + 2 + 2 + 2 + 1), by lia, hp1.trans (P_le (by rfl) (by rfl) (by lia) (P_add (wls (m0 + x) (beyond m1 d1 4 b1) (beyond m2 d2 4 b2)) (by rfl) (by rfl) (by rfl) (by rfl) (P_set (wls (m0 + x) (b1) (beyond m2 d2 4 b2)) (by rfl) (by rfl) (by rfl) (by rfl) (P_set (wls (m0 + x) (b1) (b2)) (by rfl) (by rfl) (by rfl) (by rfl) (P_jump (by rfl) hp)))))⟩
  ·exact out (k + 1) x log q
theorem run_varyA3 {b0 m0 d0 b1 m1 d1 b2 m2 d2 : Int} {x y z : Int} (hm0 : 1 ≤ m0) (hd0 : d0 - b0 < 4) (hm1 : 1 ≤ m1) (hd1 : d1 - b1 < 4) (hm2 : 1 ≤ m2) (hd2 : d2 - b2 < 4) :
  ∃ n, n ≤ 6000 ∧ Runs ["A", "B", "C"] (cVaryA3 b0 m0 d0 b1 m1 d1 b2 m2 d2) n ⟨0, none, wls x y z, [], ""⟩ ⟨29, none, wls (beyond m0 d0 4 b0) (beyond m1 d1 4 b1) (beyond m2 d2 4 b2), (afts m0 d0 4 b0).flatMap fun w0 => (afts m1 d1 4 b1).flatMap fun w1 => (afts m2 d2 4 b2).flatMap fun w2 => [[w0, w1, w2]], "end"⟩ := by
 obtain ⟨n, hn, hp⟩ := a3A (b0 := b0) (m0 := m0) (d0 := d0) (b1 := b1) (m1 := m1) (d1 := d1) (b2 := b2) (m2 := m2) (d2 := d2) hm0 hm1 hd1 hm2 hd2 4 b0 [] hd0
 rw [List.nil_append] at hp
 exact ⟨(n + 2 + 2 + 2) + 1, by lia, Path.runs (P_set (wls (b0) (y) (z)) (by rfl) (by rfl) (by rfl) (by rfl) (P_set (wls (b0) (b1) (z)) (by rfl) (by rfl) (by rfl) (by rfl) (P_set (wls (b0) (b1) (b2)) (by rfl) (by rfl) (by rfl) (by rfl) hp))) (P_stop (by rfl))⟩

end PLp
theorem reset1 : True ∧ True := by
  (try walk1)
  all_goals first | exact ⟨trivial, trivial⟩ | trivial
section
local macro_rules | `(tactic| k_mem) => `(tactic| ((repeat (first | exact mH0 rfl | exact mH1 rfl | exact mH2 rfl | exact mH3 rfl | refine' mK4 rfl ?_)); (repeat (first | exact mH0 rfl | refine' mK1 rfl ?_)); first | done | assumption))
local macro_rules | `(tactic| k_lt $_h:ident) => `(tactic| skip)
local macro_rules | `(tactic| k_room) => `(tactic| ktr_room)
local macro_rules | `(tactic| k_units) => `(tactic| ktr_units)
local macro_rules | `(tactic| ktr_room) => `(tactic| first | exact rmA (by assumption) rfl | exact rmB (by assumption) rfl | exact rmT (by assumption))
local macro_rules | `(tactic| ktr_units) => `(tactic| first | exact rmA (by assumption) rfl | exact rmB (by assumption) rfl)
local macro_rules | `(tactic| k_ne) => `(tactic| first | exact NeA.ne (by assumption) | exact NeA.ne' (by assumption) | exact NeAll.at (by assumption) (by k_mem) | exact NeAll.at' (by assumption) (by k_mem) | exact ltNe (by assumption) (by k_mem) | exact ltNe' (by assumption) (by k_mem) | exact ltNeK (by assumption) (by k_mem) | exact ltNeK' (by assumption) (by k_mem) | exact ltNe0 (by assumption) | exact ltNe0' (by assumption) | exact ltNeT (by assumption) (by assumption) (by k_mem) | exact ltNeT' (by assumption) (by assumption) (by k_mem) | (refine neN ?_; (try dsimp only); first | lia | omega))
local macro_rules | `(tactic| k_all) => `(tactic| first | assumption | exact ltAll (by assumption) (by (repeat (first | exact sid | refine' sK4 rfl ?_ | refine' sK1 rfl ?_))))
local macro_rules | `(tactic| keq_rows) => `(tactic| first | (with_reducible refine constIX ?_) | (with_reducible refine constSX ?_) | (with_reducible refine addIX ?_) | (with_reducible refine subIX ?_) | ((with_reducible show wpAny _ _ (eval (Expr.Subscript (Expr.Name _ _) (Expr.Constant (Const.int _) _ _) _) _) _ _ _); k_dflt (refine subNT (by k_asm) (by exact @rfl _ (some _)) (by k_asm) (by k_mem) (by exact @rfl _ (some _)) (by exact @rfl _ (some _)) ?_ (by exact rfl) (by exact rfl) (by decide) (by decide) (by decide))) | ((with_reducible show wpAny _ _ (eval (Expr.Attribute (Expr.Name _ _) _ _) _) _ _ _); k_dflt (refine attrN (by k_asm) (by exact @rfl _ (some _)) (by k_asm) (by k_asm) (by k_mem) (by k_mem) (by k_is) (by k_is) (by k_is) (by k_is) (by k_get) (by k_handed) ?_ (by exact rfl) (by exact rfl) (by decide))) | ((with_reducible show wpAny _ _ (eval (Expr.Name _ _) _) _ _ _); k_dflt (refine nameX_L (by k_asm) (by exact @rfl _ (some _)) ?_ (by exact rfl) (by exact rfl) (by decide))) | ((with_reducible show wpAny _ _ (subscriptTail _ _ (Value.ref _) (Value.int _ _)) _ _ _); k_dflt (refine item_tupleT (News.isTup (by k_asm) (by k_mem)) (by decide) (by decide) (by exact @rfl _ (some _)) (by exact @rfl _ (some _)) ?_)) | (with_reducible refine tokS ?_; intro tkz; (try dsimp only)))
local macro_rules | `(tactic| keq_hits) => `(tactic| first | (with_reducible refine consA2 ?_; intro q0 uq0 qA uqA) | (with_reducible refine seqN (by assumption) ?_) | (with_reducible refine seqR (by assumption) ?_; (try dsimp only)) | (with_reducible refine upUse (by assumption) ?_; (try dsimp only)))
local macro_rules | `(tactic| walk_at "storeName") => `(tactic| (k_here; (with_reducible show wpAny _ _ (storeName _ _ _) _ _ _); k_dflt (refine' storeLX (by k_asm) (by k_asm) ?_ (by exact rfl) (by exact rfl); k_whole); intros; (try k_sweep)))
local macro_rules | `(tactic| walk_at "callWith ref") => `(tactic| (k_here; (with_reducible show wpAny _ _ (callWith _ (Value.ref _) _ (backTo _ (starEach (_ :: _) _)) []) _ _ _); k_dflt ((with_reducible refine' callWith_K ?k1 ?k2 ?_); (case k1 => k_asm); (case k2 => k_is); k_whole)))
section X0p
noncomputable def stmtAt (K : Frag) (f : Addr) (i : Nat) : Stmt := match K.lookup f with
 | some ⟨_, _, .func fd, _⟩ => (match fd.body with
  | .stmts b => b.getD i default
  | _ => default)
 | _ => default
noncomputable def scopeAt (K : Frag) (f : Addr) : Scope := match K.lookup f with
 | some ⟨_, _, .func fd, _⟩ => fd.scope
 | _ => default
theorem stmt_lit {M : Model} {A : Around} {E : Value → Shared → Prop} {s : Shared} {Q : Flow → Shared → Prop} {K : Frag} {f : Addr} {oc : Value} {od : Option Addr} {osl : Array (Option Value)} {name qual nm : Str} {params : Arguments} {body : List Stmt} {scope : Scope} {dV kV doc pm cdv ct : Value} {an : Option Addr} {i : Nat} {L a : Addr} {cd : Value}
  (ho : K.lookup f = some ⟨oc, od, .func (fnOf name qual params body scope dV kV doc pm an cdv ct), osl⟩) (hE : PassesOwn M (A.deeper (envOfC nm (scopeAt K f) L a cd)) (envOfC nm (scopeAt K f) L a cd) E) (h : PassesOwn M (A.deeper (envOfC nm scope L a cd)) (envOfC nm scope L a cd) E → wpAny M (A.deeper (envOfC nm scope L a cd)) (exec (body.getD i default) (envOfC nm scope L a cd)) Q E s) :
  wpAny M (A.deeper (envOfC nm (scopeAt K f) L a cd)) (exec (stmtAt K f i) (envOfC nm (scopeAt K f) L a cd)) Q E s := by
 have e1 : scopeAt K f = scope := by unfold scopeAt; rw [ho]
 have e2 : stmtAt K f i = body.getD i default := by unfold stmtAt; rw [ho]
 rw [e1] at hE ⊢; rw [e2]; exact h hE
noncomputable def bodyFrom (K : Frag) (f : Addr) (i : Nat) : List Stmt := match K.lookup f with
 | some ⟨_, _, .func fd, _⟩ => (match fd.body with
  | .stmts b => b.drop i
  | _ => [])
 | _ => []
theorem body_lit {M : Model} {A : Around} {E : Value → Shared → Prop} {s : Shared} {Q : Flow → Shared → Prop} {K : Frag} {f : Addr} {oc : Value} {od : Option Addr} {osl : Array (Option Value)} {name qual nm : Str} {params : Arguments} {body : List Stmt} {scope : Scope} {dV kV doc pm cdv ct : Value} {an : Option Addr} {i : Nat} {L a : Addr} {cd : Value}
  (ho : K.lookup f = some ⟨oc, od, .func (fnOf name qual params body scope dV kV doc pm an cdv ct), osl⟩) (hE : PassesOwn M (A.deeper (envOfC nm (scopeAt K f) L a cd)) (envOfC nm (scopeAt K f) L a cd) E) (h : PassesOwn M (A.deeper (envOfC nm scope L a cd)) (envOfC nm scope L a cd) E → wpAny M (A.deeper (envOfC nm scope L a cd)) (execs (body.drop i) (envOfC nm scope L a cd)) Q E s) :
  wpAny M (A.deeper (envOfC nm (scopeAt K f) L a cd)) (execs (bodyFrom K f i) (envOfC nm (scopeAt K f) L a cd)) Q E s := by
 have e1 : scopeAt K f = scope := by unfold scopeAt; rw [ho]
 have e2 : bodyFrom K f i = body.drop i := by unfold bodyFrom; rw [ho]
 rw [e1] at hE ⊢; rw [e2]; exact h hE
theorem execs_at {M : Model} {A : Around} {E : Value → Shared → Prop} {s : Shared} {Q : Flow → Shared → Prop} {K : Frag} {f : Addr} {oc : Value} {od : Option Addr} {osl : Array (Option Value)} {name qual nm : Str} {params : Arguments} {body sts : List Stmt} {scope sc : Scope} {dV kV doc pm cdv ct : Value} {an : Option Addr} {i : Nat} {L a : Addr} {cd : Value}
  (ho : K.lookup f = some ⟨oc, od, .func (fnOf name qual params body scope dV kV doc pm an cdv ct), osl⟩) (hs : body.drop i = sts) (hsc : scope = sc) (h : wpAny M (A.deeper (envOfC nm (scopeAt K f) L a cd)) (execs (bodyFrom K f i) (envOfC nm (scopeAt K f) L a cd)) Q E s) :
  wpAny M (A.deeper (envOfC nm sc L a cd)) (execs sts (envOfC nm sc L a cd)) Q E s := by
 have e1 : scopeAt K f = scope := by unfold scopeAt; rw [ho]
 have e2 : bodyFrom K f i = body.drop i := by unfold bodyFrom; rw [ho]
 rw [e1, e2, hs, hsc] at h
 exact h
noncomputable abbrev eL (K : Frag) (L fa : Addr) (cd : Value) : Env := envOfC (Str.ofString "law") (scopeAt K 750) L fa cd
noncomputable abbrev aL (K : Frag) (L fa : Addr) (cd : Value) : Around := callerA.deeper (eL K L fa cd)
structure LG (w : World) (p : Program) (loose : List Str) (mean : ExcName → Option Value) (mg mb : Str → Option Value) (g : Heap) : Prop where
 B : Below callerA g [] g
 X : Frag.In (Mine.hd.heap_1 w.params) g
 T : Top p loose mean mg mb g
 C1 : CodeHd g 205 203
 C2 : CodeHd g 737 735

end X0p
section A2p
theorem fresh_c0 (w : World) (d : DAt) (aops : List AOp) (pls : List Int) (hsm : aops.length + pls.length < 1000) :
  ∀ os ps no np tl, DSt tl os ps aops pls → NeA d.oA d.pA → Ctr w 173 1 8 [.ref d.D] (d.led os ps no np tl)
   (fun _ r _ out => ∃ t ps' np', r = .int pls.length t ∧ DSt tl os ps' aops (pls ++ [-1]) ∧ ∀ p ∈ d.led os ps' no np' tl, p ∈ out) := by
 obtain ⟨D, dx, oA, pA, k, pr, sl, hd⟩ := d
 intro os ps no np tl St hne p loose mean mg mb dp un gd cn cs a ccd cl outer A₀ base h₀ L m s Q E B F X N T hk hdp hun hret
 dsimp only [DAt.led, dLed, List.nil_append, List.cons_append] at *
 with_reducible refine an6 (dled_ne N St.kinds) ?_
 intro ne1 ne2 ne3 ne4 ne5 ne6
 have hsz := St.small; have hoz := St.osize; have hpz := St.psize
 (try dsimp only [List.nil_append, List.cons_append] at ne5 ne6)
 refine wpAny_call ?_
 k_dflt (refine' code_defS ?k1 ?k2 ?k3 ?k4 ?k5 ?kA ?kF ?kK ?k6 ?k7 ?k8 ?k9 ?kB ?_ ?c2 ?c3 ?c4 ?c5; (case kA => exact rfl); (case kF => exact rfl); (case kK => assumption); (case k1 => k_asm); (case k2 => k_asm); (case k3 => k_asm); (case k4 => k_asm); (case k5 => k_asm); (case k6 => k_is); (case k7 => k_is); (case k8 => ktr_room); (case k9 => first | exact BindsTo.of_eq rfl | exact binds_K (by k_in) rfl (by k_is) rfl rfl rfl); (case c5 => decide); (case kB => exact locs rfl); (case c2 => exact rfl); (case c3 => exact rfl); (case c4 => exact rfl); k_whole; intro g' L' h' FG' F' N' B' X' T' GS'; (try dsimp only); (try k_fold))
 (refine letA ?_; intro aL)
 (refine letFr F' ?_; clear F'; intro mL F')
 (refine letNews N' ?_; clear N'; intro nL N')
 repeat' (first | keq_rows | ((k_here; (with_reducible show wpAny _ _ (setItem (Value.ref _) (Value.int (Nat.cast _) _) _) _ _ _); k_dflt (refine' setA ?k1 ?k2 ?k3 ?k4 ?k5 ?_; (case k1 => k_asm); (case k2 => k_asm); (case k5 => k_upd); (case k3 => lia); (case k4 => lia); k_whole); intros; (try k_sweep))) | ((k_here; (with_reducible show wpAny _ _ (call (Value.builtin "len") [Value.ref _]) _ _ _); k_dflt (refine' KM.len_K ?k1 ?k2 rfl ?k4 ?_; (case k1 => k_asm); (case k2 => k_mem); (case k4 => (simp only [Array.size_push, List.size_toArray, List.length_cons, List.length_nil]; lia)); k_whole))) | (k_unfold; (try dsimp only)) | (k_end; wrow_close) | walk1 | (dsimp only; walk1) | (leave1; try dsimp only) | fail "no")
 refine' hret _ _ _ _ ?ra ?rb ?rc ?rd
 case ra => k_asm
 case rb => k_asm
 case rc => k_asm
 exact exi3 _ _ _ ⟨by congr 1; simp [← St.psize], ⟨St.kinds, St.ops, ints_push St.pint, by simp; lia⟩, fun _ h => h⟩
theorem fresh_use {w : World} {d : DAt} {aops : List AOp} {pls : List Int}
  {p : Program} {loose : List Str} {mean : ExcName → Option Value} {mg mb : Str → Option Value} {dp un : Nat} {gd : Option (List Code)} {cn : Str} {cs : Scope} {a : Addr} {ccd : Value} {cl : List (Str × Addr)} {outer : List Env} {A₀ : Around} {base h₀ : Heap} {L : Addr} {m : Str → Option Value} {s : Shared}
  {Q E : Value → Shared → Prop} {os ps : Array Value} {no np : Nat} {tl news : Led} {G : Obj → Obj → Led → Led} (hsm : aops.length + pls.length < 1000)
  (B : Below A₀ base outer h₀) (F : Fr h₀ L s.heap m) (X : Frag.In (Mine.hd.heap_1 w.params) h₀) (N : News h₀ L s.heap news) (T : Top p loose mean mg mb h₀) (hk : cs.kind = .function) (hd : dp + 1 < recursionLimit) (hu : un + 8 < cLine)
  (m1 : (d.D, instObj 209 d.dx) ∈ news) (m2 : (d.dx, dictOf (draftD d.k d.pr (.ref d.oA) (.ref d.pA) d.sl d.hd) 5) ∈ news) (m3 : (d.oA, listOf os no) ∈ news) (m4 : (d.pA, listOf ps np) ∈ news) (mt : ∀ p ∈ tl, p ∈ news)
  (S : SF d.oA d.pA (listOf os no) (listOf ps np) tl news G) (hne : NeA d.oA d.pA) (St : DSt tl os ps aops pls)
  (h : ∀ t ps' np' h' tk', Fr h₀ L h' m → News h₀ L h' (G (listOf os no) (listOf ps' np') tl) → DSt tl os ps' aops (pls ++ [-1]) → Q (.int pls.length t) { s with heap := h', toks := tk' }) :
  wpAny (model PR w) (ktrTop dp un gd cn cs L a ccd cl outer) (call (.ref 173) [.ref d.D]) Q E s := by
 refine dspec_core (fresh_c0 w d aops pls hsm os ps no np tl St hne) B F X N T hk hd hu m1 m2 m3 m4 mt S ?_
 intro r out h' tk' F' N' K hK9
 with_reducible refine ex3 hK9 ?_
 clear hK9
 intro t ps' np' hX9
 with_reducible refine an3 hX9 ?_
 clear hX9
 intro hR9
 subst hR9
 intro St' ho
 rintro back
 exact h t ps' np' h' tk' F' (back os ps' no np' tl ho fun _ h => h) St'
theorem put_c (w : World) (d : DAt) (aops : List AOp) (pls : List Int) (ext : Led) (v : Value) (o : AOp) (he : ∀ p ∈ ext, p.2.cls = .type "tuple") (ho : OpIn ext v o) (hsm : aops.length + pls.length < 1000) :
  DSpec w 187 1 8 [.ref d.D, v] d ext aops pls (aops ++ [o]) pls (fun r => r = .none) := by
 refine uB ?_
 simp(disch:=k_dflt(
 refine iB ?_
 obtain ⟨D, dx, oA, pA, k, pr, sl, hd⟩ := d
 intro os ps no np tl St hne p loose mean mg mb dp un gd cn cs a ccd cl outer A₀ base h₀ L m s Q E B F X N T hk hdp hun hret
 dsimp only [DAt.led, dLed, List.nil_append, List.cons_append] at *
 with_reducible refine an6 (dled_ne N (fun p hp => (List.mem_append.mp hp).elim (he p) (St.kinds p))) ?_
 intro ne1 ne2 ne3 ne4 ne5 ne6
 have hsz := St.small; have hoz := St.osize; have hpz := St.psize
 (try dsimp only [List.nil_append, List.cons_append] at ne5 ne6)
 refine wpAny_call ?_
 k_dflt (refine' code_defS ?k1 ?k2 ?k3 ?k4 ?k5 ?kA ?kF ?kK ?k6 ?k7 ?k8 ?k9 ?kB ?_ ?c2 ?c3 ?c4 ?c5; (case kA => exact rfl); (case kF => exact rfl); (case kK => assumption); (case k1 => k_asm); (case k2 => k_asm); (case k3 => k_asm); (case k4 => k_asm); (case k5 => k_asm); (case k6 => k_is); (case k7 => k_is); (case k8 => ktr_room); (case k9 => first | exact BindsTo.of_eq rfl | exact binds_K (by k_in) rfl (by k_is) rfl rfl rfl); (case c5 => decide); (case kB => exact locs rfl); (case c2 => exact rfl); (case c3 => exact rfl); (case c4 => exact rfl); k_whole; intro g' L' h' FG' F' N' B' X' T' GS'; (try dsimp only); (try k_fold))
 (refine letA ?_; intro aL)
 (refine letFr F' ?_; clear F'; intro mL F')
 (refine letNews N' ?_; clear N'; intro nL N')
 repeat' (first | keq_rows | ((k_here; (with_reducible show wpAny _ _ (setItem (Value.ref _) (Value.int (Nat.cast _) _) _) _ _ _); k_dflt (refine' setA ?k1 ?k2 ?k3 ?k4 ?k5 ?_; (case k1 => k_asm); (case k2 => k_asm); (case k5 => k_upd); (case k3 => lia); (case k4 => lia); k_whole); intros; (try k_sweep))) | ((k_here; (with_reducible show wpAny _ _ (call (Value.builtin "len") [Value.ref _]) _ _ _); k_dflt (refine' KM.len_K ?k1 ?k2 rfl ?k4 ?_; (case k1 => k_asm); (case k2 => k_mem); (case k4 => (simp only [Array.size_push, List.size_toArray, List.length_cons, List.length_nil]; lia)); k_whole))) | (k_unfold; (try dsimp only)) | (k_end; wrow_close) | walk1 | (dsimp only; walk1) | (leave1; try dsimp only) | fail "no")
 refine' hret _ _ _ _ ?ra ?rb ?rc ?rd
 case ra => k_asm
 case rb => k_asm
 case rc => k_asm
 refine ⟨rfl, _, ps, _, np, ext ++ tl, ⟨fun p hp => (List.mem_append.mp hp).elim (he p) (St.kinds p), ?_, St.pint, by simp; lia⟩, fun _ h => h, fun _ h => h⟩
 rw [Array.toList_push]
 exact (St.ops.mono fun p hp => List.mem_append.mpr (.inr hp)).append (.cons (ho.mono fun p hp => List.mem_append.mpr (.inl hp)) .nil)
 ))only[↓bB]
theorem here_c (w : World) (d : DAt) (aops : List AOp) (pls : List Int) (i : Nat) (t : Tok) (hi : i < pls.length) :
  DSpec w 180 1 8 [.ref d.D, .int i t] d [] aops pls aops (pls.set i aops.length) (fun r => r = .none) := by
 obtain ⟨D, dx, oA, pA, k, pr, sl, hd⟩ := d
 intro os ps no np tl St hne p loose mean mg mb dp un gd cn cs a ccd cl outer A₀ base h₀ L m s Q E B F X N T hk hdp hun hret
 dsimp only [DAt.led, dLed, List.nil_append, List.cons_append] at *
 with_reducible refine an6 (dled_ne N St.kinds) ?_
 intro ne1 ne2 ne3 ne4 ne5 ne6
 have hsz := St.small; have hoz := St.osize; have hpz := St.psize
 (try dsimp only [List.nil_append, List.cons_append] at ne5 ne6)
 refine wpAny_call ?_
 k_dflt (refine' code_defS ?k1 ?k2 ?k3 ?k4 ?k5 ?kA ?kF ?kK ?k6 ?k7 ?k8 ?k9 ?kB ?_ ?c2 ?c3 ?c4 ?c5; (case kA => exact rfl); (case kF => exact rfl); (case kK => assumption); (case k1 => k_asm); (case k2 => k_asm); (case k3 => k_asm); (case k4 => k_asm); (case k5 => k_asm); (case k6 => k_is); (case k7 => k_is); (case k8 => ktr_room); (case k9 => first | exact BindsTo.of_eq rfl | exact binds_K (by k_in) rfl (by k_is) rfl rfl rfl); (case c5 => decide); (case kB => exact locs rfl); (case c2 => exact rfl); (case c3 => exact rfl); (case c4 => exact rfl); k_whole; intro g' L' h' FG' F' N' B' X' T' GS'; (try dsimp only); (try k_fold))
 (refine letA ?_; intro aL)
 (refine letFr F' ?_; clear F'; intro mL F')
 (refine letNews N' ?_; clear N'; intro nL N')
 repeat' (first | keq_rows | ((k_here; (with_reducible show wpAny _ _ (setItem (Value.ref _) (Value.int (Nat.cast _) _) _) _ _ _); k_dflt (refine' setA ?k1 ?k2 ?k3 ?k4 ?k5 ?_; (case k1 => k_asm); (case k2 => k_asm); (case k5 => k_upd); (case k3 => lia); (case k4 => lia); k_whole); intros; (try k_sweep))) | ((k_here; (with_reducible show wpAny _ _ (call (Value.builtin "len") [Value.ref _]) _ _ _); k_dflt (refine' KM.len_K ?k1 ?k2 rfl ?k4 ?_; (case k1 => k_asm); (case k2 => k_mem); (case k4 => (simp only [Array.size_push, List.size_toArray, List.length_cons, List.length_nil]; lia)); k_whole))) | (k_unfold; (try dsimp only)) | (k_end; wrow_close) | walk1 | (dsimp only; walk1) | (leave1; try dsimp only) | fail "no")
 refine' hret _ _ _ _ ?ra ?rb ?rc ?rd
 case ra => k_asm
 case rb => k_asm
 case rc => k_asm
 refine ⟨rfl, os, _, no, _, tl, ⟨St.kinds, St.ops, ints_setA St.pint, by simp; omega⟩, fun _ h => h, fun _ h => h⟩

section
variable (w : World) (d : DAt) (aops : List AOp) (pls : List Int) {a b c : Addr} {t u x : Tok}
theorem put_push {e : Value} {l : Int} (hsm : aops.length + pls.length < 1000) : DSpec w 187 1 8 [.ref d.D, .ref a] d [(a, tup [.str "push" t, e, .int l u])] aops pls (aops ++ [.push e l]) pls (fun r => r = .none) :=
 put_c w d aops pls _ _ _ (by intro p hp; simp only [List.mem_cons, List.not_mem_nil, or_false] at hp; rw [hp]) (.push (.head _)) hsm
theorem put_test {e : Value} {l : Int} (hsm : aops.length + pls.length < 1000) : DSpec w 187 1 8 [.ref d.D, .ref a] d [(a, tup [.str "test" t, e, .int l u])] aops pls (aops ++ [.test e l]) pls (fun r => r = .none) :=
 put_c w d aops pls _ _ _ (by intro p hp; simp only [List.mem_cons, List.not_mem_nil, or_false] at hp; rw [hp]) (.test (.head _)) hsm
theorem put_jump {l : Int} (hsm : aops.length + pls.length < 1000) : DSpec w 187 1 8 [.ref d.D, .ref a] d [(a, tup [.str "jump" t, .int l u])] aops pls (aops ++ [.jump l]) pls (fun r => r = .none) :=
 put_c w d aops pls _ _ _ (by intro p hp; simp only [List.mem_cons, List.not_mem_nil, or_false] at hp; rw [hp]) (.jump (.head _)) hsm
theorem put_do {e : Value} (hsm : aops.length + pls.length < 1000) : DSpec w 187 1 8 [.ref d.D, .ref a] d [(a, tup [.str "do" t, e])] aops pls (aops ++ [.deed e]) pls (fun r => r = .none) :=
 put_c w d aops pls _ _ _ (by intro p hp; simp only [List.mem_cons, List.not_mem_nil, or_false] at hp; rw [hp]) (.deed (.head _)) hsm
theorem put_stop {y : Str} (hsm : aops.length + pls.length < 1000) : DSpec w 187 1 8 [.ref d.D, .ref a] d [(a, tup [.str "stop" t, .str y u])] aops pls (aops ++ [.stop y]) pls (fun r => r = .none) :=
 put_c w d aops pls _ _ _ (by intro p hp; simp only [List.mem_cons, List.not_mem_nil, or_false] at hp; rw [hp]) (.stop (.head _)) hsm
theorem put_put {r : Value} {way : Str} {l : Int} (hsm : aops.length + pls.length < 1000) :
  DSpec w 187 1 8 [.ref d.D, .ref a] d [(a, tup [.str "put" t, .ref b, .int l u]), (b, tup [.ref c]), (c, tup [r, .bool false, .str way x])] aops pls (aops ++ [.put r way l]) pls (fun r => r = .none) :=
 put_c w d aops pls _ _ _ (by intro p hp; simp only [List.mem_cons, List.not_mem_nil, or_false] at hp; rcases hp with hp | hp | hp <;> rw [hp]) (.put (.head _) (.tail _ (.head _)) (.tail _ (.tail _ (.head _)))) hsm
end

end A2p
section A3p
theorem put_expression_c (w : World) (d : DAt) (aops : List AOp) (pls : List Int) {e : Addr} {t u : Tok} {x : Value} {l : Int} (hsm : aops.length + pls.length < 1000) :
  DSpec w 220 2 16 [.ref d.D, .ref e, .int l u] d [(e, tup [.str "number" t, x])] aops pls (aops ++ [.push (.ref e) l]) pls (fun r => r = .none) := by
 refine uB ?_
 simp(disch:=k_dflt(
 refine iB ?_
 obtain ⟨D, dx, oA, pA, k, pr, sl, hd⟩ := d
 intro os ps no np tl St hne p loose mean mg mb dp un gd cn cs a ccd cl outer A₀ base h₀ L m s Q E B F X N T hk hdp hun hret
 dsimp only [DAt.led, dLed, List.nil_append, List.cons_append] at *
 with_reducible refine an6 (dled_ne N (fc rfl St.kinds)) ?_
 intro ne1 ne2 ne3 ne4 ne5 ne6
 have hsz := St.small; have hoz := St.osize; have hpz := St.psize
 (try dsimp only [List.nil_append, List.cons_append] at ne5 ne6)
 refine wpAny_call ?_
 k_dflt (refine' code_defS ?k1 ?k2 ?k3 ?k4 ?k5 ?kA ?kF ?kK ?k6 ?k7 ?k8 ?k9 ?kB ?_ ?c2 ?c3 ?c4 ?c5; (case kA => exact rfl); (case kF => exact rfl); (case kK => assumption); (case k1 => k_asm); (case k2 => k_asm); (case k3 => k_asm); (case k4 => k_asm); (case k5 => k_asm); (case k6 => k_is); (case k7 => k_is); (case k8 => ktr_room); (case k9 => first | exact BindsTo.of_eq rfl | exact binds_K (by k_in) rfl (by k_is) rfl rfl rfl); (case c5 => decide); (case kB => exact locs rfl); (case c2 => exact rfl); (case c3 => exact rfl); (case c4 => exact rfl); k_whole; intro g' L' h' FG' F' N' B' X' T' GS'; (try dsimp only); (try k_fold))
 (refine letA ?_; intro aL)
 (refine letFr F' ?_; clear F'; intro mL F')
 (refine letNews N' ?_; clear N'; intro nL N')
 repeat' (first | keq_rows | ((k_here; (with_reducible show wpAny _ _ (call (Value.ref 187) _) _ _ _); k_dflt (refine' dspec_use (put_push _ ⟨_, _, _, _, _, _, _, _⟩ _ _ ?kz) ?k1 ?k2 ?k3 ?k4 ?k5 ?kK ?kd ?ku ?m1 ?m2 ?m3 ?m4 ?me ?mt ?S ?hne ?St ?_; (case k1 => k_asm); (case k2 => k_asm); (case k4 => k_asm); (case me => exact fc (by k_mem) (List.forall_mem_nil _)); (case k3 => k_asm); (case k5 => k_asm); (case kK => first | exact rfl | assumption); (case m1 => k_mem); (case m2 => k_mem); (case m3 => k_mem); (case m4 => k_mem); (case S => (repeat' (first | exact SF.nil | (with_reducible refine' SF.tup ?_) | (with_reducible refine' SF.one ?_) | (with_reducible refine' SF.two ?_) | (with_reducible refine' SF.inst ?_) | (with_reducible refine' SF.dict ?_) | (refine' SF.keep ?sfa ?sfb ?_; (case sfa => k_ne); (case sfb => k_ne)) | exact SF.tail))); (case mt => (repeat (first | exact sid | refine' sK4 rfl ?_ | refine' sK1 rfl ?_))); (case hne => assumption); (case St => with_reducible assumption); (case kz => ((try simp only [List.length_append, List.length_cons, List.length_nil, List.length_set]); first | lia | omega)); (case kd => ktr_room); (case ku => ktr_units); k_whole); (intro r9 os9 ps9 no9 np9 tl9 h9 tk9 hr9 F9 N9 St9 hs9); (try dsimp only at N9); subst hr9; (try dsimp only); (try k_sweep))) | ((k_here; (with_reducible show wpAny _ _ (compareOp CmpOp.In (Value.str _ _) (Value.ref _)) _ _ _); k_dflt (refine' in_strsB ?k1 ?k2 ?k3 ?_; (case k1 => kun_tup); (case k2 => kde_strs); (case k3 => first | exact (rfl : _ = true) | exact (rfl : _ = false)); k_whole))) | (k_unfold; (try dsimp only)) | (k_end; wrow_close) | walk1 | (dsimp only; walk1) | (leave1; try dsimp only) | fail "no")
 refine' hret _ _ _ _ ?ra ?rb ?rc ?rd
 case ra => k_asm
 case rb => k_asm
 case rc => k_asm
 refine' And.intro rfl (dspec_end (ext := [_]) ?St ?kin ?m1 ?m2 ?m3 ?m4 ?me ?mt ?hs ?ea ?ep)
 case kin => exact (fc rfl (List.forall_mem_nil _))
 case m3 => k_mem
 case m4 => k_mem
 case St => with_reducible assumption
 case m1 => k_mem
 case m2 => k_mem
 case me => exact (fc (by k_mem) (List.forall_mem_nil _))
 case mt => (repeat (first | exact sid | refine' sK4 rfl ?_ | refine' sK1 rfl ?_))
 case hs => (intro p hp; (repeat (first | exact hp | apply List.Mem.tail | (refine' kd_use ?_ (by assumption)))))
 case ea => rfl
 case ep => rfl
 ))only[↓bB]

end A3p
section A4p
theorem put_step_c (w : World) (d : DAt) (aops : List AOp) (pls : List Int) {e : Addr} {t y : Tok} {x r : Value} {way : Str} (hsm : aops.length + pls.length < 990) :
  DSpec w 307 3 32 [.ref d.D, r, .ref e, .str way y] d [(e, tup [.str "number" t, x])] aops pls (aops ++ [.push (.ref e) pls.length, .put r way pls.length]) (pls ++ [((aops.length + 2 : Nat) : Int)]) (fun r => r = .none) := by
 refine uB ?_
 simp(disch:=k_dflt(
 refine iB ?_
 obtain ⟨D, dx, oA, pA, k, pr, sl, hd⟩ := d
 intro os ps no np tl St hne p loose mean mg mb dp un gd cn cs a ccd cl outer A₀ base h₀ L m s Q E B F X N T hk hdp hun hret
 dsimp only [DAt.led, dLed, List.nil_append, List.cons_append] at *
 with_reducible refine an6 (dled_ne N (fc rfl St.kinds)) ?_
 intro ne1 ne2 ne3 ne4 ne5 ne6
 have hsz := St.small; have hoz := St.osize; have hpz := St.psize
 (try dsimp only [List.nil_append, List.cons_append] at ne5 ne6)
 refine wpAny_call ?_
 k_dflt (refine' code_defS ?k1 ?k2 ?k3 ?k4 ?k5 ?kA ?kF ?kK ?k6 ?k7 ?k8 ?k9 ?kB ?_ ?c2 ?c3 ?c4 ?c5; (case kA => exact rfl); (case kF => exact rfl); (case kK => assumption); (case k1 => k_asm); (case k2 => k_asm); (case k3 => k_asm); (case k4 => k_asm); (case k5 => k_asm); (case k6 => k_is); (case k7 => k_is); (case k8 => ktr_room); (case k9 => first | exact BindsTo.of_eq rfl | exact binds_K (by k_in) rfl (by k_is) rfl rfl rfl); (case c5 => decide); (case kB => exact locs rfl); (case c2 => exact rfl); (case c3 => exact rfl); (case c4 => exact rfl); k_whole; intro g' L' h' FG' F' N' B' X' T' GS'; (try dsimp only); (try k_fold))
 (refine letA ?_; intro aL)
 (refine letFr F' ?_; clear F'; intro mL F')
 (refine letNews N' ?_; clear N'; intro nL N')
 (refine absQE ?_; intro qA eA uqA ueA)
 repeat' (first | keq_rows | keq_hits | ((k_here; (with_reducible show wpAny _ _ (call (Value.ref 220) _) _ _ _); k_dflt (refine' dspec_use (put_expression_c _ ⟨_, _, _, _, _, _, _, _⟩ _ _ ?kz) ?k1 ?k2 ?k3 ?k4 ?k5 ?kK ?kd ?ku ?m1 ?m2 ?m3 ?m4 ?me ?mt ?S ?hne ?St ?_; (case k1 => k_asm); (case k2 => k_asm); (case k4 => k_asm); (case me => exact fc (by k_mem) (List.forall_mem_nil _)); (case k3 => k_asm); (case k5 => k_asm); (case kK => first | exact rfl | assumption); (case m1 => k_mem); (case m2 => k_mem); (case m3 => k_mem); (case m4 => k_mem); (case S => (repeat' (first | exact SF.nil | (with_reducible refine' SF.tup ?_) | (with_reducible refine' SF.one ?_) | (with_reducible refine' SF.two ?_) | (with_reducible refine' SF.inst ?_) | (with_reducible refine' SF.dict ?_) | (refine' SF.keep ?sfa ?sfb ?_; (case sfa => k_ne); (case sfb => k_ne)) | exact SF.tail))); (case mt => (repeat (first | exact sid | refine' sK4 rfl ?_ | refine' sK1 rfl ?_))); (case hne => assumption); (case St => with_reducible assumption); (case kz => ((try simp only [List.length_append, List.length_cons, List.length_nil, List.length_set]); first | lia | omega)); (case kd => ktr_room); (case ku => ktr_units); k_whole); (intro r9 os9 ps9 no9 np9 tl9 h9 tk9 hr9 F9 N9 St9 hs9); (try dsimp only at N9); subst hr9; (try dsimp only); (try k_sweep))) | ((k_here; (with_reducible show wpAny _ _ (call (Value.ref 187) _) _ _ _); k_dflt (refine' dspec_use (put_jump _ ⟨_, _, _, _, _, _, _, _⟩ _ _ ?kz) ?k1 ?k2 ?k3 ?k4 ?k5 ?kK ?kd ?ku ?m1 ?m2 ?m3 ?m4 ?me ?mt ?S ?hne ?St ?_; (case k1 => k_asm); (case k2 => k_asm); (case k4 => k_asm); (case me => exact fc (by k_mem) (List.forall_mem_nil _)); (case k3 => k_asm); (case k5 => k_asm); (case kK => first | exact rfl | assumption); (case m1 => k_mem); (case m2 => k_mem); (case m3 => k_mem); (case m4 => k_mem); (case S => (repeat' (first | exact SF.nil | (with_reducible refine' SF.tup ?_) | (with_reducible refine' SF.one ?_) | (with_reducible refine' SF.two ?_) | (with_reducible refine' SF.inst ?_) | (with_reducible refine' SF.dict ?_) | (refine' SF.keep ?sfa ?sfb ?_; (case sfa => k_ne); (case sfb => k_ne)) | exact SF.tail))); (case mt => (repeat (first | exact sid | refine' sK4 rfl ?_ | refine' sK1 rfl ?_))); (case hne => assumption); (case St => with_reducible assumption); (case kz => ((try simp only [List.length_append, List.length_cons, List.length_nil, List.length_set]); first | lia | omega)); (case kd => ktr_room); (case ku => ktr_units); k_whole); (intro r9 os9 ps9 no9 np9 tl9 h9 tk9 hr9 F9 N9 St9 hs9); (try dsimp only at N9); subst hr9; (try dsimp only); (try k_sweep))) | ((k_here; (with_reducible show wpAny _ _ (call (Value.ref 187) _) _ _ _); k_dflt (refine' dspec_use (put_test _ ⟨_, _, _, _, _, _, _, _⟩ _ _ ?kz) ?k1 ?k2 ?k3 ?k4 ?k5 ?kK ?kd ?ku ?m1 ?m2 ?m3 ?m4 ?me ?mt ?S ?hne ?St ?_; (case k1 => k_asm); (case k2 => k_asm); (case k4 => k_asm); (case me => exact fc (by k_mem) (List.forall_mem_nil _)); (case k3 => k_asm); (case k5 => k_asm); (case kK => first | exact rfl | assumption); (case m1 => k_mem); (case m2 => k_mem); (case m3 => k_mem); (case m4 => k_mem); (case S => (repeat' (first | exact SF.nil | (with_reducible refine' SF.tup ?_) | (with_reducible refine' SF.one ?_) | (with_reducible refine' SF.two ?_) | (with_reducible refine' SF.inst ?_) | (with_reducible refine' SF.dict ?_) | (refine' SF.keep ?sfa ?sfb ?_; (case sfa => k_ne); (case sfb => k_ne)) | exact SF.tail))); (case mt => (repeat (first | exact sid | refine' sK4 rfl ?_ | refine' sK1 rfl ?_))); (case hne => assumption); (case St => with_reducible assumption); (case kz => ((try simp only [List.length_append, List.length_cons, List.length_nil, List.length_set]); first | lia | omega)); (case kd => ktr_room); (case ku => ktr_units); k_whole); (intro r9 os9 ps9 no9 np9 tl9 h9 tk9 hr9 F9 N9 St9 hs9); (try dsimp only at N9); subst hr9; (try dsimp only); (try k_sweep))) | ((k_here; (with_reducible show wpAny _ _ (call (Value.ref 187) _) _ _ _); k_dflt (refine' dspec_use (put_put _ ⟨_, _, _, _, _, _, _, _⟩ _ _ ?kz) ?k1 ?k2 ?k3 ?k4 ?k5 ?kK ?kd ?ku ?m1 ?m2 ?m3 ?m4 ?me ?mt ?S ?hne ?St ?_; (case k1 => k_asm); (case k2 => k_asm); (case k4 => k_asm); (case me => exact fc (by k_mem) (fc (by k_mem) (fc (by k_mem) (List.forall_mem_nil _)))); (case k3 => k_asm); (case k5 => k_asm); (case kK => first | exact rfl | assumption); (case m1 => k_mem); (case m2 => k_mem); (case m3 => k_mem); (case m4 => k_mem); (case S => (repeat' (first | exact SF.nil | (with_reducible refine' SF.tup ?_) | (with_reducible refine' SF.one ?_) | (with_reducible refine' SF.two ?_) | (with_reducible refine' SF.inst ?_) | (with_reducible refine' SF.dict ?_) | (refine' SF.keep ?sfa ?sfb ?_; (case sfa => k_ne); (case sfb => k_ne)) | exact SF.tail))); (case mt => (repeat (first | exact sid | refine' sK4 rfl ?_ | refine' sK1 rfl ?_))); (case hne => assumption); (case St => with_reducible assumption); (case kz => ((try simp only [List.length_append, List.length_cons, List.length_nil, List.length_set]); first | lia | omega)); (case kd => ktr_room); (case ku => ktr_units); k_whole); (intro r9 os9 ps9 no9 np9 tl9 h9 tk9 hr9 F9 N9 St9 hs9); (try dsimp only at N9); subst hr9; (try dsimp only); (try k_sweep))) | ((k_here; (with_reducible show wpAny _ _ (call (Value.ref 180) _) _ _ _); k_dflt (refine' dspec_use (here_c _ ⟨_, _, _, _, _, _, _, _⟩ _ _ _ _ ?kz) ?k1 ?k2 ?k3 ?k4 ?k5 ?kK ?kd ?ku ?m1 ?m2 ?m3 ?m4 ?me ?mt ?S ?hne ?St ?_; (case k1 => k_asm); (case k2 => k_asm); (case k4 => k_asm); (case me => exact List.forall_mem_nil _); (case k3 => k_asm); (case k5 => k_asm); (case kK => first | exact rfl | assumption); (case m1 => k_mem); (case m2 => k_mem); (case m3 => k_mem); (case m4 => k_mem); (case S => (repeat' (first | exact SF.nil | (with_reducible refine' SF.tup ?_) | (with_reducible refine' SF.one ?_) | (with_reducible refine' SF.two ?_) | (with_reducible refine' SF.inst ?_) | (with_reducible refine' SF.dict ?_) | (refine' SF.keep ?sfa ?sfb ?_; (case sfa => k_ne); (case sfb => k_ne)) | exact SF.tail))); (case mt => (repeat (first | exact sid | refine' sK4 rfl ?_ | refine' sK1 rfl ?_))); (case hne => assumption); (case St => with_reducible assumption); (case kz => ((try simp only [List.length_append, List.length_cons, List.length_nil, List.length_set]); first | lia | omega)); (case kd => ktr_room); (case ku => ktr_units); k_whole); (intro r9 os9 ps9 no9 np9 tl9 h9 tk9 hr9 F9 N9 St9 hs9); (try dsimp only at N9); subst hr9; (try dsimp only); (try k_sweep))) | ((k_here; (with_reducible show wpAny _ _ (call (Value.ref 173) _) _ _ _); k_dflt (refine' fresh_use (d := ⟨_, _, _, _, _, _, _, _⟩) ?kz ?k1 ?k2 ?k3 ?k4 ?k5 ?kK ?kd ?ku ?m1 ?m2 ?m3 ?m4 ?mt ?S ?hne ?St ?_; (case k1 => k_asm); (case k2 => k_asm); (case k4 => k_asm); (case k3 => k_asm); (case k5 => k_asm); (case kK => first | exact rfl | assumption); (case m1 => k_mem); (case m2 => k_mem); (case m3 => k_mem); (case m4 => k_mem); (case S => (repeat' (first | exact SF.nil | (with_reducible refine' SF.tup ?_) | (with_reducible refine' SF.one ?_) | (with_reducible refine' SF.two ?_) | (with_reducible refine' SF.inst ?_) | (with_reducible refine' SF.dict ?_) | (refine' SF.keep ?sfa ?sfb ?_; (case sfa => k_ne); (case sfb => k_ne)) | exact SF.tail))); (case mt => (repeat (first | exact sid | refine' sK4 rfl ?_ | refine' sK1 rfl ?_))); (case hne => assumption); (case St => with_reducible assumption); (case kz => ((try simp only [List.length_append, List.length_cons, List.length_nil, List.length_set]); first | lia | omega)); (case kd => ktr_room); (case ku => ktr_units); k_whole); (intro t9 ps9 np9 h9 tk9 F9 N9 St9); (try dsimp only at N9); (try dsimp only); (try k_sweep))) | ((k_here; (with_reducible show wpAny _ _ (compareOp CmpOp.In (Value.str _ _) (Value.ref _)) _ _ _); k_dflt (refine' in_strsB ?k1 ?k2 ?k3 ?_; (case k1 => kun_tup); (case k2 => kde_strs); (case k3 => first | exact (rfl : _ = true) | exact (rfl : _ = false)); k_whole))) | ((k_here; (with_reducible show wpAny _ _ (newTuple _) _ _ _); k_dflt (refine' tupX ?F ?N ?_ ?z; (case F => k_asm); (case N => k_asm); (case z => kmk_size)); intros; (try k_sweep))) | (k_unfold; (try dsimp only)) | (k_end; wrow_close) | walk1 | (dsimp only; walk1) | (leave1; try dsimp only) | fail "no")
 refine' hret _ _ _ _ ?ra ?rb ?rc ?rd
 case ra => k_asm
 case rb => k_asm
 case rc => k_asm
 refine' And.intro rfl (dspec_end (ext := [_]) ?St ?kin ?m1 ?m2 ?m3 ?m4 ?me ?mt ?hs ?ea ?ep)
 case kin => exact (fc rfl (List.forall_mem_nil _))
 case m3 => k_mem
 case m4 => k_mem
 case St => with_reducible assumption
 case m1 => k_mem
 case m2 => k_mem
 case me => exact (fc (by k_mem) (List.forall_mem_nil _))
 case mt => (repeat (first | exact sid | refine' sK4 rfl ?_ | refine' sK1 rfl ?_))
 case hs => (intro p hp; (repeat (first | exact hp | apply List.Mem.tail | (refine' kd_use ?_ (by assumption)))))
 case ea => simp
 case ep => simp
 ))only[↓bB]
theorem put_condition_c (w : World) (d : DAt) (aops : List AOp) (pls : List Int) {c : Addr} {t u : Tok} {x1 x2 x3 : Value} {l : Int} (hsm : aops.length + pls.length < 990) :
  DSpec w 227 3 32 [.ref d.D, .ref c, .bool true, .int l u] d [(c, tup [.str "rel" t, x1, x2, x3])] aops pls (aops ++ [.test (.ref c) pls.length, .jump l]) (pls ++ [((aops.length + 2 : Nat) : Int)]) (fun r => r = .none) := by
 refine uB ?_
 simp(disch:=k_dflt(
 refine iB ?_
 obtain ⟨D, dx, oA, pA, k, pr, sl, hd⟩ := d
 intro os ps no np tl St hne p loose mean mg mb dp un gd cn cs a ccd cl outer A₀ base h₀ L m s Q E B F X N T hk hdp hun hret
 dsimp only [DAt.led, dLed, List.nil_append, List.cons_append] at *
 with_reducible refine an6 (dled_ne N (fc rfl St.kinds)) ?_
 intro ne1 ne2 ne3 ne4 ne5 ne6
 have hsz := St.small; have hoz := St.osize; have hpz := St.psize
 (try dsimp only [List.nil_append, List.cons_append] at ne5 ne6)
 refine wpAny_call ?_
 k_dflt (refine' code_defS ?k1 ?k2 ?k3 ?k4 ?k5 ?kA ?kF ?kK ?k6 ?k7 ?k8 ?k9 ?kB ?_ ?c2 ?c3 ?c4 ?c5; (case kA => exact rfl); (case kF => exact rfl); (case kK => assumption); (case k1 => k_asm); (case k2 => k_asm); (case k3 => k_asm); (case k4 => k_asm); (case k5 => k_asm); (case k6 => k_is); (case k7 => k_is); (case k8 => ktr_room); (case k9 => first | exact BindsTo.of_eq rfl | exact binds_K (by k_in) rfl (by k_is) rfl rfl rfl); (case c5 => decide); (case kB => exact locs rfl); (case c2 => exact rfl); (case c3 => exact rfl); (case c4 => exact rfl); k_whole; intro g' L' h' FG' F' N' B' X' T' GS'; (try dsimp only); (try k_fold))
 (refine letA ?_; intro aL)
 (refine letFr F' ?_; clear F'; intro mL F')
 (refine letNews N' ?_; clear N'; intro nL N')
 (refine absQE ?_; intro qA eA uqA ueA)
 repeat' (first | keq_rows | keq_hits | ((k_here; (with_reducible show wpAny _ _ (call (Value.ref 220) _) _ _ _); k_dflt (refine' dspec_use (put_expression_c _ ⟨_, _, _, _, _, _, _, _⟩ _ _ ?kz) ?k1 ?k2 ?k3 ?k4 ?k5 ?kK ?kd ?ku ?m1 ?m2 ?m3 ?m4 ?me ?mt ?S ?hne ?St ?_; (case k1 => k_asm); (case k2 => k_asm); (case k4 => k_asm); (case me => exact fc (by k_mem) (List.forall_mem_nil _)); (case k3 => k_asm); (case k5 => k_asm); (case kK => first | exact rfl | assumption); (case m1 => k_mem); (case m2 => k_mem); (case m3 => k_mem); (case m4 => k_mem); (case S => (repeat' (first | exact SF.nil | (with_reducible refine' SF.tup ?_) | (with_reducible refine' SF.one ?_) | (with_reducible refine' SF.two ?_) | (with_reducible refine' SF.inst ?_) | (with_reducible refine' SF.dict ?_) | (refine' SF.keep ?sfa ?sfb ?_; (case sfa => k_ne); (case sfb => k_ne)) | exact SF.tail))); (case mt => (repeat (first | exact sid | refine' sK4 rfl ?_ | refine' sK1 rfl ?_))); (case hne => assumption); (case St => with_reducible assumption); (case kz => ((try simp only [List.length_append, List.length_cons, List.length_nil, List.length_set]); first | lia | omega)); (case kd => ktr_room); (case ku => ktr_units); k_whole); (intro r9 os9 ps9 no9 np9 tl9 h9 tk9 hr9 F9 N9 St9 hs9); (try dsimp only at N9); subst hr9; (try dsimp only); (try k_sweep))) | ((k_here; (with_reducible show wpAny _ _ (call (Value.ref 187) _) _ _ _); k_dflt (refine' dspec_use (put_jump _ ⟨_, _, _, _, _, _, _, _⟩ _ _ ?kz) ?k1 ?k2 ?k3 ?k4 ?k5 ?kK ?kd ?ku ?m1 ?m2 ?m3 ?m4 ?me ?mt ?S ?hne ?St ?_; (case k1 => k_asm); (case k2 => k_asm); (case k4 => k_asm); (case me => exact fc (by k_mem) (List.forall_mem_nil _)); (case k3 => k_asm); (case k5 => k_asm); (case kK => first | exact rfl | assumption); (case m1 => k_mem); (case m2 => k_mem); (case m3 => k_mem); (case m4 => k_mem); (case S => (repeat' (first | exact SF.nil | (with_reducible refine' SF.tup ?_) | (with_reducible refine' SF.one ?_) | (with_reducible refine' SF.two ?_) | (with_reducible refine' SF.inst ?_) | (with_reducible refine' SF.dict ?_) | (refine' SF.keep ?sfa ?sfb ?_; (case sfa => k_ne); (case sfb => k_ne)) | exact SF.tail))); (case mt => (repeat (first | exact sid | refine' sK4 rfl ?_ | refine' sK1 rfl ?_))); (case hne => assumption); (case St => with_reducible assumption); (case kz => ((try simp only [List.length_append, List.length_cons, List.length_nil, List.length_set]); first | lia | omega)); (case kd => ktr_room); (case ku => ktr_units); k_whole); (intro r9 os9 ps9 no9 np9 tl9 h9 tk9 hr9 F9 N9 St9 hs9); (try dsimp only at N9); subst hr9; (try dsimp only); (try k_sweep))) | ((k_here; (with_reducible show wpAny _ _ (call (Value.ref 187) _) _ _ _); k_dflt (refine' dspec_use (put_test _ ⟨_, _, _, _, _, _, _, _⟩ _ _ ?kz) ?k1 ?k2 ?k3 ?k4 ?k5 ?kK ?kd ?ku ?m1 ?m2 ?m3 ?m4 ?me ?mt ?S ?hne ?St ?_; (case k1 => k_asm); (case k2 => k_asm); (case k4 => k_asm); (case me => exact fc (by k_mem) (List.forall_mem_nil _)); (case k3 => k_asm); (case k5 => k_asm); (case kK => first | exact rfl | assumption); (case m1 => k_mem); (case m2 => k_mem); (case m3 => k_mem); (case m4 => k_mem); (case S => (repeat' (first | exact SF.nil | (with_reducible refine' SF.tup ?_) | (with_reducible refine' SF.one ?_) | (with_reducible refine' SF.two ?_) | (with_reducible refine' SF.inst ?_) | (with_reducible refine' SF.dict ?_) | (refine' SF.keep ?sfa ?sfb ?_; (case sfa => k_ne); (case sfb => k_ne)) | exact SF.tail))); (case mt => (repeat (first | exact sid | refine' sK4 rfl ?_ | refine' sK1 rfl ?_))); (case hne => assumption); (case St => with_reducible assumption); (case kz => ((try simp only [List.length_append, List.length_cons, List.length_nil, List.length_set]); first | lia | omega)); (case kd => ktr_room); (case ku => ktr_units); k_whole); (intro r9 os9 ps9 no9 np9 tl9 h9 tk9 hr9 F9 N9 St9 hs9); (try dsimp only at N9); subst hr9; (try dsimp only); (try k_sweep))) | ((k_here; (with_reducible show wpAny _ _ (call (Value.ref 187) _) _ _ _); k_dflt (refine' dspec_use (put_put _ ⟨_, _, _, _, _, _, _, _⟩ _ _ ?kz) ?k1 ?k2 ?k3 ?k4 ?k5 ?kK ?kd ?ku ?m1 ?m2 ?m3 ?m4 ?me ?mt ?S ?hne ?St ?_; (case k1 => k_asm); (case k2 => k_asm); (case k4 => k_asm); (case me => exact fc (by k_mem) (fc (by k_mem) (fc (by k_mem) (List.forall_mem_nil _)))); (case k3 => k_asm); (case k5 => k_asm); (case kK => first | exact rfl | assumption); (case m1 => k_mem); (case m2 => k_mem); (case m3 => k_mem); (case m4 => k_mem); (case S => (repeat' (first | exact SF.nil | (with_reducible refine' SF.tup ?_) | (with_reducible refine' SF.one ?_) | (with_reducible refine' SF.two ?_) | (with_reducible refine' SF.inst ?_) | (with_reducible refine' SF.dict ?_) | (refine' SF.keep ?sfa ?sfb ?_; (case sfa => k_ne); (case sfb => k_ne)) | exact SF.tail))); (case mt => (repeat (first | exact sid | refine' sK4 rfl ?_ | refine' sK1 rfl ?_))); (case hne => assumption); (case St => with_reducible assumption); (case kz => ((try simp only [List.length_append, List.length_cons, List.length_nil, List.length_set]); first | lia | omega)); (case kd => ktr_room); (case ku => ktr_units); k_whole); (intro r9 os9 ps9 no9 np9 tl9 h9 tk9 hr9 F9 N9 St9 hs9); (try dsimp only at N9); subst hr9; (try dsimp only); (try k_sweep))) | ((k_here; (with_reducible show wpAny _ _ (call (Value.ref 180) _) _ _ _); k_dflt (refine' dspec_use (here_c _ ⟨_, _, _, _, _, _, _, _⟩ _ _ _ _ ?kz) ?k1 ?k2 ?k3 ?k4 ?k5 ?kK ?kd ?ku ?m1 ?m2 ?m3 ?m4 ?me ?mt ?S ?hne ?St ?_; (case k1 => k_asm); (case k2 => k_asm); (case k4 => k_asm); (case me => exact List.forall_mem_nil _); (case k3 => k_asm); (case k5 => k_asm); (case kK => first | exact rfl | assumption); (case m1 => k_mem); (case m2 => k_mem); (case m3 => k_mem); (case m4 => k_mem); (case S => (repeat' (first | exact SF.nil | (with_reducible refine' SF.tup ?_) | (with_reducible refine' SF.one ?_) | (with_reducible refine' SF.two ?_) | (with_reducible refine' SF.inst ?_) | (with_reducible refine' SF.dict ?_) | (refine' SF.keep ?sfa ?sfb ?_; (case sfa => k_ne); (case sfb => k_ne)) | exact SF.tail))); (case mt => (repeat (first | exact sid | refine' sK4 rfl ?_ | refine' sK1 rfl ?_))); (case hne => assumption); (case St => with_reducible assumption); (case kz => ((try simp only [List.length_append, List.length_cons, List.length_nil, List.length_set]); first | lia | omega)); (case kd => ktr_room); (case ku => ktr_units); k_whole); (intro r9 os9 ps9 no9 np9 tl9 h9 tk9 hr9 F9 N9 St9 hs9); (try dsimp only at N9); subst hr9; (try dsimp only); (try k_sweep))) | ((k_here; (with_reducible show wpAny _ _ (call (Value.ref 173) _) _ _ _); k_dflt (refine' fresh_use (d := ⟨_, _, _, _, _, _, _, _⟩) ?kz ?k1 ?k2 ?k3 ?k4 ?k5 ?kK ?kd ?ku ?m1 ?m2 ?m3 ?m4 ?mt ?S ?hne ?St ?_; (case k1 => k_asm); (case k2 => k_asm); (case k4 => k_asm); (case k3 => k_asm); (case k5 => k_asm); (case kK => first | exact rfl | assumption); (case m1 => k_mem); (case m2 => k_mem); (case m3 => k_mem); (case m4 => k_mem); (case S => (repeat' (first | exact SF.nil | (with_reducible refine' SF.tup ?_) | (with_reducible refine' SF.one ?_) | (with_reducible refine' SF.two ?_) | (with_reducible refine' SF.inst ?_) | (with_reducible refine' SF.dict ?_) | (refine' SF.keep ?sfa ?sfb ?_; (case sfa => k_ne); (case sfb => k_ne)) | exact SF.tail))); (case mt => (repeat (first | exact sid | refine' sK4 rfl ?_ | refine' sK1 rfl ?_))); (case hne => assumption); (case St => with_reducible assumption); (case kz => ((try simp only [List.length_append, List.length_cons, List.length_nil, List.length_set]); first | lia | omega)); (case kd => ktr_room); (case ku => ktr_units); k_whole); (intro t9 ps9 np9 h9 tk9 F9 N9 St9); (try dsimp only at N9); (try dsimp only); (try k_sweep))) | ((k_here; (with_reducible show wpAny _ _ (compareOp CmpOp.In (Value.str _ _) (Value.ref _)) _ _ _); k_dflt (refine' in_strsB ?k1 ?k2 ?k3 ?_; (case k1 => kun_tup); (case k2 => kde_strs); (case k3 => first | exact (rfl : _ = true) | exact (rfl : _ = false)); k_whole))) | ((k_here; (with_reducible show wpAny _ _ (newTuple _) _ _ _); k_dflt (refine' tupX ?F ?N ?_ ?z; (case F => k_asm); (case N => k_asm); (case z => kmk_size)); intros; (try k_sweep))) | (k_unfold; (try dsimp only)) | (k_end; wrow_close) | walk1 | (dsimp only; walk1) | (leave1; try dsimp only) | fail "no")
 refine' hret _ _ _ _ ?ra ?rb ?rc ?rd
 case ra => k_asm
 case rb => k_asm
 case rc => k_asm
 refine' And.intro rfl (dspec_end (ext := [_]) ?St ?kin ?m1 ?m2 ?m3 ?m4 ?me ?mt ?hs ?ea ?ep)
 case kin => exact (fc rfl (List.forall_mem_nil _))
 case m3 => k_mem
 case m4 => k_mem
 case St => with_reducible assumption
 case m1 => k_mem
 case m2 => k_mem
 case me => exact (fc (by k_mem) (List.forall_mem_nil _))
 case mt => (repeat (first | exact sid | refine' sK4 rfl ?_ | refine' sK1 rfl ?_))
 case hs => (intro p hp; (repeat (first | exact hp | apply List.Mem.tail | (refine' kd_use ?_ (by assumption)))))
 case ea => simp
 case ep => simp
 ))only[↓bB]

end A4p
section A5p
theorem put_goal_c (w : World) (d : DAt) (aops : List AOp) (pls : List Int) {g b s1 s2 : Addr} {t t1 t2 : Tok} {x1 x2 : Value} (hsm : aops.length + pls.length < 990) :
  DSpec w 279 6 64 [.ref d.D, .ref g] d [(g, tup [.str "body" t, .ref b]), (b, tup [.ref s1, .ref s2]), (s1, tup [.str "continue" t1]), (s2, tup [.str "display" t2, x1, x2])] aops pls (aops ++ [.deed (.ref s2)]) (pls ++ [((aops.length + 1 : Nat) : Int)]) (fun r => r = .none) := by
 refine uB ?_
 simp(disch:=k_dflt(
 refine iB ?_
 obtain ⟨D, dx, oA, pA, k, pr, sl, hd⟩ := d
 intro os ps no np tl St hne p loose mean mg mb dp un gd cn cs a ccd cl outer A₀ base h₀ L m s Q E B F X N T hk hdp hun hret
 dsimp only [DAt.led, dLed, List.nil_append, List.cons_append] at *
 with_reducible refine an6 (dled_ne N (fc rfl (fc rfl (fc rfl (fc rfl St.kinds))))) ?_
 intro ne1 ne2 ne3 ne4 ne5 ne6
 have hsz := St.small; have hoz := St.osize; have hpz := St.psize
 (try dsimp only [List.nil_append, List.cons_append] at ne5 ne6)
 refine wpAny_call ?_
 k_dflt (refine' code_defS ?k1 ?k2 ?k3 ?k4 ?k5 ?kA ?kF ?kK ?k6 ?k7 ?k8 ?k9 ?kB ?_ ?c2 ?c3 ?c4 ?c5; (case kA => exact rfl); (case kF => exact rfl); (case kK => assumption); (case k1 => k_asm); (case k2 => k_asm); (case k3 => k_asm); (case k4 => k_asm); (case k5 => k_asm); (case k6 => k_is); (case k7 => k_is); (case k8 => ktr_room); (case k9 => first | exact BindsTo.of_eq rfl | exact binds_K (by k_in) rfl (by k_is) rfl rfl rfl); (case c5 => decide); (case kB => exact locs rfl); (case c2 => exact rfl); (case c3 => exact rfl); (case c4 => exact rfl); k_whole; intro g' L' h' FG' F' N' B' X' T' GS'; (try dsimp only); (try k_fold))
 (refine letFr F' ?_; clear F'; intro mL F')
 (refine letNews N' ?_; clear N'; intro nL N')
 (refine absQE ?_; intro qA eA uqA ueA)
 repeat' (first | keq_rows | keq_hits | ((with_reducible show wpAny _ _ (exec (Stmt.For _ _ _ _ _) _) _ _ _); (k_here; (rename Fr _ _ _ _ => lF'9); (with_unfolding_all refine' For_turns lF'9 ?_; k_whole))) | ((k_here; (with_reducible show wpAny _ _ (pyIter (Value.ref _)) (fun it s₂ => TurnsAt _ _ _ _ _ _ _ _ _ it s₂) _ _); k_dflt (refine' iter_listTurns (lo := listOf #[] _) (vs := []) rfl ?F ?N ?hm rfl rfl ?_; (case F => k_asm); (case N => k_asm); (case hm => k_mem)); intro I'9 l1; (try k_lt l1); (try dsimp only [List.map]))) | ((k_here; (with_reducible show wpAny _ _ (pyIter (Value.ref _)) (CompPost _ _ _ _ _ _ _ _ _) _ _); k_dflt (refine' comp_empty rfl ?hlo ?hs ?hLe ?F ?N ?hm ?_; (case F => k_asm); (case N => k_asm); (case hm => k_mem); (case hlo => assumption); (case hs => assumption); (case hLe => exact rfl)); (intros); (try k_sweep))) | ((k_here; (with_reducible show wpAny _ _ (pyIter (Value.ref _)) (CompPostA _ _ _ _ _ _ _ _ _ _) _ _); k_dflt (refine' compA_empty rfl ?hlo ?hs ?hLe ?F ?N ?hm ?_; (case F => k_asm); (case N => k_asm); (case hm => k_mem); (case hlo => assumption); (case hs => assumption); (case hLe => exact rfl)); (intros); (try k_sweep))) | ((k_here; (with_reducible show wpAny _ _ (call (Value.ref 187) _) _ _ _); k_dflt (refine' dspec_use (put_do _ ⟨_, _, _, _, _, _, _, _⟩ _ _ ?kz) ?k1 ?k2 ?k3 ?k4 ?k5 ?kK ?kd ?ku ?m1 ?m2 ?m3 ?m4 ?me ?mt ?S ?hne ?St ?_; (case k1 => k_asm); (case k2 => k_asm); (case k4 => k_asm); (case me => exact fc (by k_mem) (List.forall_mem_nil _)); (case k3 => k_asm); (case k5 => k_asm); (case kK => first | exact rfl | assumption); (case m1 => k_mem); (case m2 => k_mem); (case m3 => k_mem); (case m4 => k_mem); (case S => (repeat' (first | exact SF.nil | (with_reducible refine' SF.tup ?_) | (with_reducible refine' SF.one ?_) | (with_reducible refine' SF.two ?_) | (with_reducible refine' SF.inst ?_) | (with_reducible refine' SF.dict ?_) | (refine' SF.keep ?sfa ?sfb ?_; (case sfa => k_ne); (case sfb => k_ne)) | exact SF.tail))); (case mt => (repeat (first | exact sid | refine' sK4 rfl ?_ | refine' sK1 rfl ?_))); (case hne => assumption); (case St => with_reducible assumption); (case kz => ((try simp only [List.length_append, List.length_cons, List.length_nil, List.length_set]); first | lia | omega)); (case kd => ktr_room); (case ku => ktr_units); k_whole); (intro r9 os9 ps9 no9 np9 tl9 h9 tk9 hr9 F9 N9 St9 hs9); (try dsimp only at N9); subst hr9; (try dsimp only); (try k_sweep))) | ((k_here; (with_reducible show wpAny _ _ (call (Value.ref 180) _) _ _ _); k_dflt (refine' dspec_use (here_c _ ⟨_, _, _, _, _, _, _, _⟩ _ _ _ _ ?kz) ?k1 ?k2 ?k3 ?k4 ?k5 ?kK ?kd ?ku ?m1 ?m2 ?m3 ?m4 ?me ?mt ?S ?hne ?St ?_; (case k1 => k_asm); (case k2 => k_asm); (case k4 => k_asm); (case me => exact List.forall_mem_nil _); (case k3 => k_asm); (case k5 => k_asm); (case kK => first | exact rfl | assumption); (case m1 => k_mem); (case m2 => k_mem); (case m3 => k_mem); (case m4 => k_mem); (case S => (repeat' (first | exact SF.nil | (with_reducible refine' SF.tup ?_) | (with_reducible refine' SF.one ?_) | (with_reducible refine' SF.two ?_) | (with_reducible refine' SF.inst ?_) | (with_reducible refine' SF.dict ?_) | (refine' SF.keep ?sfa ?sfb ?_; (case sfa => k_ne); (case sfb => k_ne)) | exact SF.tail))); (case mt => (repeat (first | exact sid | refine' sK4 rfl ?_ | refine' sK1 rfl ?_))); (case hne => assumption); (case St => with_reducible assumption); (case kz => ((try simp only [List.length_append, List.length_cons, List.length_nil, List.length_set]); first | lia | omega)); (case kd => ktr_room); (case ku => ktr_units); k_whole); (intro r9 os9 ps9 no9 np9 tl9 h9 tk9 hr9 F9 N9 St9 hs9); (try dsimp only at N9); subst hr9; (try dsimp only); (try k_sweep))) | ((k_here; (with_reducible show wpAny _ _ (call (Value.ref 173) _) _ _ _); k_dflt (refine' fresh_use (d := ⟨_, _, _, _, _, _, _, _⟩) ?kz ?k1 ?k2 ?k3 ?k4 ?k5 ?kK ?kd ?ku ?m1 ?m2 ?m3 ?m4 ?mt ?S ?hne ?St ?_; (case k1 => k_asm); (case k2 => k_asm); (case k4 => k_asm); (case k3 => k_asm); (case k5 => k_asm); (case kK => first | exact rfl | assumption); (case m1 => k_mem); (case m2 => k_mem); (case m3 => k_mem); (case m4 => k_mem); (case S => (repeat' (first | exact SF.nil | (with_reducible refine' SF.tup ?_) | (with_reducible refine' SF.one ?_) | (with_reducible refine' SF.two ?_) | (with_reducible refine' SF.inst ?_) | (with_reducible refine' SF.dict ?_) | (refine' SF.keep ?sfa ?sfb ?_; (case sfa => k_ne); (case sfb => k_ne)) | exact SF.tail))); (case mt => (repeat (first | exact sid | refine' sK4 rfl ?_ | refine' sK1 rfl ?_))); (case hne => assumption); (case St => with_reducible assumption); (case kz => ((try simp only [List.length_append, List.length_cons, List.length_nil, List.length_set]); first | lia | omega)); (case kd => ktr_room); (case ku => ktr_units); k_whole); (intro t9 ps9 np9 h9 tk9 F9 N9 St9); (try dsimp only at N9); (try dsimp only); (try k_sweep))) | (k_dflt (refine' unr_end ?F ?N ?hm ?hc ?hw ?S ?ht ?kt ?_; (case F => k_asm); (case N => k_asm); (case hm => k_mem); (case hc => assumption); (case hw => exact ⟨by decide, by decide, by decide⟩); (case S => (repeat' (first | exact DL.nil | (with_reducible refine' DL.it ?_) | (with_reducible refine' DL.tup ?_) | (with_reducible refine' DL.list ?_) | (with_reducible refine' DL.inst ?_) | (with_reducible refine' DL.dict ?_) | (refine' DL.keep ?dla ?_; (case dla => k_ne)) | exact DL.tail))); (case ht => (repeat (first | exact sid | refine' sK4 rfl ?_ | refine' sK1 rfl ?_))); (case kt => first | exact DSt.kinds (by assumption) | assumption); refine And.intro (by first | exact trivial | exact And.intro (by k_mem) trivial) ?_)) | ((k_here; (with_reducible show wpAny _ _ (pyIter (Value.ref _)) (fun it s₂ => TurnsAt _ _ _ _ _ _ _ _ _ it s₂) _ _); k_dflt (refine' iter_tupTurns (lo := tup _) rfl ?F ?N ?hm rfl rfl ?_; (case F => k_asm); (case N => k_asm); (case hm => k_mem)); intro I'9 l1; (try k_lt l1); (try dsimp only [List.map]))) | ((with_reducible show wpAny _ _ (exec (Stmt.For _ _ _ _ _) _) _ _ _); (k_here; (rename Fr _ _ _ _ => lF'9); (with_unfolding_all refine' For_turns lF'9 ?_; k_whole))) | ((k_here; (with_reducible show wpAny _ _ (compareOp CmpOp.NotIn (Value.str _ _) (Value.ref _)) _ _ _); k_dflt (refine' notin_strsB ?k1 ?k2 ?k3 ?_; (case k1 => kun_tup); (case k2 => kde_strs); (case k3 => first | exact (rfl : _ = true) | exact (rfl : _ = false)); k_whole); (try dsimp only [Bool.not_true, Bool.not_false]))) | ((k_here; (with_reducible show wpAny _ _ (compareOp CmpOp.In (Value.str _ _) (Value.ref _)) _ _ _); k_dflt (refine' in_strsB ?k1 ?k2 ?k3 ?_; (case k1 => kun_tup); (case k2 => kde_strs); (case k3 => first | exact (rfl : _ = true) | exact (rfl : _ = false)); k_whole))) | (k_unfold; (try dsimp only)) | (k_end; wrow_close) | walk1 | (dsimp only; walk1) | (leave1; try dsimp only) | fail "no")
 refine' hret _ _ _ _ ?ra ?rb ?rc ?rd
 case ra => k_asm
 case rb => k_asm
 case rc => k_asm
 refine' And.intro rfl (dspec_end (ext := [_, _, _, _]) ?St ?kin ?m1 ?m2 ?m3 ?m4 ?me ?mt ?hs ?ea ?ep)
 case kin => exact (fc rfl (fc rfl (fc rfl (fc rfl (List.forall_mem_nil _)))))
 case m3 => k_mem
 case m4 => k_mem
 case St => with_reducible assumption
 case m1 => k_mem
 case m2 => k_mem
 case me => exact (fc (by k_mem) (fc (by k_mem) (fc (by k_mem) (fc (by k_mem) (List.forall_mem_nil _)))))
 case mt => (repeat (first | exact sid | refine' sK4 rfl ?_ | refine' sK1 rfl ?_))
 case hs => (intro p hp; (repeat (first | exact hp | apply List.Mem.tail | (refine' kd_use ?_ (by assumption)))))
 case ea => simp
 case ep => simp
 ))only[↓bB]

end A5p
section D1p
theorem wh_cls {w : World} {o : Obj} {W : Wheels} (h : WhAt w o W) : o.cls = .type "dict" := by
 obtain ⟨_, ⟨_, _, h, _⟩, _⟩ := h
 exact h.1
theorem law_put_c (w : World) {Wa b c ra xa : Addr} {oW : Obj} {W : Wheels} {name way : Str} {u x : Int} {tu tz tx t tn : Tok} {e1 e2 e3 : Value} (hW : WhAt w oW W) (hl : W.length ≤ 1000) (hx : W.lookup name = some x) (hw : way = "+" ∨ way = "=") (lo : (Wa == sysModules) = false) :
  Ctr w 716 2 32 [.ref Wa, .ref b, .ref xa] [(Wa, oW), (b, tup [.ref c]), (c, tup [.ref ra, .bool false, .str way tx]), (ra, tup [.str "ref" t, .str name tn, e1, e2, e3]), (xa, tup [.int u tu, .int 0 tz])]
   (fun _ r _ out => r = .bool false ∧ (∃ oW', WhAt w oW' (setW W name (u + (if way = "+" then x else 0))) ∧ (Wa, oW') ∈ out) ∧ ∀ p ∈ [(b, tup [.ref c]), (c, tup [.ref ra, .bool false, .str way tx]), (ra, tup [.str "ref" t, .str name tn, e1, e2, e3]), (xa, tup [.int u tu, .int 0 tz])], p ∈ out) := by
 refine uB ?_
 simp(disch:=k_dflt(
 refine iB ?_
 unfold Ctr
 intro p loose mean mg mb dp un gd cn cs a ccd cl outer A₀ base h₀ L m s Q E B F X N T hk hdp hun hret
 have hxs : (W.lookup name).isSome = true := by rw [hx]; rfl
 have hc9 := wh_cls hW
 have z1 : NeA Wa b := ⟨news_ne (p := (Wa, _)) (q := (b, _)) N (by k_mem) (by k_mem) (by rw [hc9]; simp)⟩
 have z2 : NeA Wa c := ⟨news_ne (p := (Wa, _)) (q := (c, _)) N (by k_mem) (by k_mem) (by rw [hc9]; simp)⟩
 have z3 : NeA Wa ra := ⟨news_ne (p := (Wa, _)) (q := (ra, _)) N (by k_mem) (by k_mem) (by rw [hc9]; simp)⟩
 have z4 : NeA Wa xa := ⟨news_ne (p := (Wa, _)) (q := (xa, _)) N (by k_mem) (by k_mem) (by rw [hc9]; simp)⟩
 refine wpAny_call ?_
 k_dflt (refine' code_defS ?k1 ?k2 ?k3 ?k4 ?k5 ?kA ?kF ?kK ?k6 ?k7 ?k8 ?k9 ?kB ?_ ?c2 ?c3 ?c4 ?c5; (case kA => exact rfl); (case kF => exact rfl); (case kK => assumption); (case k1 => k_asm); (case k2 => k_asm); (case k3 => k_asm); (case k4 => k_asm); (case k5 => k_asm); (case k6 => k_is); (case k7 => k_is); (case k8 => ktr_room); (case k9 => first | exact BindsTo.of_eq rfl | exact binds_K (by k_in) rfl (by k_is) rfl rfl rfl); (case c5 => decide); (case kB => exact locs rfl); (case c2 => exact rfl); (case c3 => exact rfl); (case c4 => exact rfl); k_whole; intro g' L' h' FG' F' N' B' X' T' GS'; (try dsimp only); (try k_fold))
 (refine letA ?_; intro aL)
 (refine letFr F' ?_; clear F'; intro mL F')
 (refine letNews N' ?_; clear N'; intro nL N')
 (refine absQ ?_; intro qA uqA)
 rcases hw with rfl | rfl
 ·repeat' (first | keq_rows | keq_hits | ((k_here; (with_reducible show wpAny _ _ (eval (Expr.Name _ _) (compEnvC _ _ _ _)) _ _ _); k_dflt (first   | (refine' LCgL.ld_own ?N ?hm ?hC ?hx ?_; (case N => k_asm); (case hm => k_mem); (case hC => assumption); (case hx => assumption))   | (refine' nameCC ?N ?hc ?hm ?hd ?_; (case N => k_asm); (case hc => exact rfl); (case hm => k_mem); (case hd => assumption); k_whole)   | (refine' LCgL.ld_global ?F ?X ?T ?e ?_; (case F => k_asm); (case X => k_asm); (case T => k_asm); (case e => k_is))))) | ((with_reducible show wpAny _ _ (eval (Expr.ListComp _ _ _ _) _) _ _ _); (k_here; k_dflt (refine LCg.ListComp_U (F₀ := by k_asm) (by rfl) (by decide) (by rfl) (by decide) (by rfl) ?_))) | ((k_here; (with_reducible show wpAny _ _ (setItem (Value.ref _) (Value.str _ _) (Value.int _ _)) _ _ _); k_dflt (refine' wh_set ?F ?N ?U ?hW ?hx ?hl ?_; (case F => k_asm); (case N => k_asm); (case hW => assumption); (case U => k_updF); (case hx => assumption); (case hl => assumption); k_whole); intros; (try k_sweep))) | ((k_here; (with_reducible show wpAny _ _ (subscriptTail _ _ (Value.ref _) (Value.str _ _)) _ _ _); k_dflt (refine' wh_get ?N ?hm ?hW ?lo ?hx ?_ ?hs ?hg; (case N => k_asm); (case hm => k_mem); (case hW => assumption); (case lo => assumption); (case hx => assumption); (case hs => with_unfolding_all rfl); (case hg => (intros; with_unfolding_all rfl)); k_whole); intros)) | (k_unfold; (try dsimp only)) | (k_end; wrow_close) | walk1 | (dsimp only; walk1) | (leave1; try dsimp only) | fail "no")
  rename WhAt _ _ _ => hW9
  refine' hret _ _ _ _ ?ra ?rb ?rc ?rd
  case ra => k_asm
  case rb => k_asm
  case rc => k_asm
  case rd => exact ⟨rfl, ⟨_, hW9, by k_mem⟩, fc (by k_mem) (fc (by k_mem) (fc (by k_mem) (fc (by k_mem) (List.forall_mem_nil _))))⟩
 ·repeat' (first | keq_rows | keq_hits | ((k_here; (with_reducible show wpAny _ _ (eval (Expr.Name _ _) (compEnvC _ _ _ _)) _ _ _); k_dflt (first   | (refine' LCgL.ld_own ?N ?hm ?hC ?hx ?_; (case N => k_asm); (case hm => k_mem); (case hC => assumption); (case hx => assumption))   | (refine' nameCC ?N ?hc ?hm ?hd ?_; (case N => k_asm); (case hc => exact rfl); (case hm => k_mem); (case hd => assumption); k_whole)   | (refine' LCgL.ld_global ?F ?X ?T ?e ?_; (case F => k_asm); (case X => k_asm); (case T => k_asm); (case e => k_is))))) | ((with_reducible show wpAny _ _ (eval (Expr.ListComp _ _ _ _) _) _ _ _); (k_here; k_dflt (refine LCg.ListComp_U (F₀ := by k_asm) (by rfl) (by decide) (by rfl) (by decide) (by rfl) ?_))) | ((k_here; (with_reducible show wpAny _ _ (setItem (Value.ref _) (Value.str _ _) (Value.int _ _)) _ _ _); k_dflt (refine' wh_set ?F ?N ?U ?hW ?hx ?hl ?_; (case F => k_asm); (case N => k_asm); (case hW => assumption); (case U => k_updF); (case hx => assumption); (case hl => assumption); k_whole); intros; (try k_sweep))) | ((k_here; (with_reducible show wpAny _ _ (subscriptTail _ _ (Value.ref _) (Value.str _ _)) _ _ _); k_dflt (refine' wh_get ?N ?hm ?hW ?lo ?hx ?_ ?hs ?hg; (case N => k_asm); (case hm => k_mem); (case hW => assumption); (case lo => assumption); (case hx => assumption); (case hs => with_unfolding_all rfl); (case hg => (intros; with_unfolding_all rfl)); k_whole); intros)) | (k_unfold; (try dsimp only)) | (k_end; wrow_close) | walk1 | (dsimp only; walk1) | (leave1; try dsimp only) | fail "no")
  rename WhAt _ _ _ => hW9
  refine' hret _ _ _ _ ?ra ?rb ?rc ?rd
  case ra => k_asm
  case rb => k_asm
  case rc => k_asm
  case rd => exact ⟨rfl, ⟨_, hW9, by k_mem⟩, fc (by k_mem) (fc (by k_mem) (fc (by k_mem) (fc (by k_mem) (List.forall_mem_nil _))))⟩
 ))only[↓bB]
theorem strs_at {vs : List Value} {ns : List Str} (h : StrsAre vs ns) : ∀ {i : Nat} {v : Value}, vs[i]? = some v → ∃ n t, ns[i]? = some n ∧ v = .str n t := by
 induction h with
 | nil => intro i v e; simp at e
 | cons s t _ ih =>
  intro i v e
  cases i with
  | zero => exact ⟨_, _, rfl, by simp at e; exact e.symm⟩
  | succ i => exact ih (by simpa using e)
theorem law_noted_c (w : World) {Wa lgA nA : Addr} {oW : Obj} {W : Wheels} {names : List Str} {nv lg : List Value} {nl nn : Nat} (hW : WhAt w oW W) (hn : ∀ n ∈ names, (W.lookup n).isSome = true) (hv : StrsAre nv names) (hl : lg.length ≤ 10000) (hnl : names.length ≤ 1000) (lo : (Wa == sysModules) = false) (hne : NeA lgA nA) :
  Ctr w 721 2 32 [.ref Wa, .ref lgA, .ref nA] [(Wa, oW), (lgA, listOf lg.toArray nl), (nA, listOf nv.toArray nn)]
   (fun H r _ out => (∃ t, r = .str "" t) ∧ (∃ a its n nl', H.get? a = none ∧ IntsAre its (names.map fun n => (W.lookup n).getD 0) ∧ (a, listOf (its : List Value).toArray n) ∈ out ∧ (lgA, listOf (lg ++ [Value.ref a]).toArray nl') ∈ out) ∧ (Wa, oW) ∈ out ∧ (nA, listOf nv.toArray nn) ∈ out) := by
 refine uB ?_
 simp(disch:=k_dflt(
 refine iB ?_
 unfold Ctr
 intro p loose mean mg mb dp un gd cn cs a ccd cl outer A₀ base h₀ L m s Q E B F X N T hk hdp hun hret
 have hc9 := wh_cls hW
 have z1 : NeA Wa lgA := ⟨news_ne (p := (Wa, _)) (q := (lgA, _)) N (by k_mem) (by k_mem) (by rw [hc9]; simp)⟩
 have z2 : NeA Wa nA := ⟨news_ne (p := (Wa, _)) (q := (nA, _)) N (by k_mem) (by k_mem) (by rw [hc9]; simp)⟩
 refine wpAny_call ?_
 k_dflt (refine' code_defCG ?k1 ?k2 ?k3 ?k4 ?k5 ?kA ?kF ?kK ?k6 ?k7 ?k8 ?k9 ?kB ?kD ?_ ?c2 ?c3 ?c4; (case kA => exact rfl); (case kF => exact rfl); (case kK => assumption); (case k1 => k_asm); (case k2 => k_asm); (case k3 => k_asm); (case k4 => k_asm); (case k5 => k_asm); (case k6 => k_is); (case k7 => k_is); (case k8 => ktr_room); (case k9 => first | exact BindsTo.of_eq rfl | exact binds_K (by k_in) rfl (by k_is) rfl rfl rfl); (case kB => exact rfl); (case kD => decide +kernel); (case c2 => exact rfl); (case c3 => exact rfl); (case c4 => exact rfl); k_whole; intro g' L' h' tk' cells' FG' F' N' Y' B' X' T' l1 GS'; (try k_lt l1); (obtain ⟨o9, hE9, d9⟩ := CellsAre.one Y'); subst hE9; clear Y'; (try simp only [List.cons_append, List.nil_append] at N'); (try dsimp only); (try k_fold))
 (refine letA ?_; intro aL)
 (refine letFr F' ?_; clear F'; intro mL F')
 (refine letNews N' ?_; clear N'; intro nL N')
 (refine absQ ?_; intro qA uqA)
 repeat' (first | keq_rows | keq_hits | ((k_here; (with_reducible show wpAny _ _ (eval (Expr.Name _ _) (compEnvC _ _ _ _)) _ _ _); k_dflt (first   | (refine' LCgL.ld_own ?N ?hm ?hC ?hx ?_; (case N => k_asm); (case hm => k_mem); (case hC => assumption); (case hx => assumption))   | (refine' nameCC ?N ?hc ?hm ?hd ?_; (case N => k_asm); (case hc => exact rfl); (case hm => k_mem); (case hd => assumption); k_whole)   | (refine' LCgL.ld_global ?F ?X ?T ?e ?_; (case F => k_asm); (case X => k_asm); (case T => k_asm); (case e => k_is))))) | ((with_reducible show wpAny _ _ (eval (Expr.ListComp _ _ _ _) _) _ _ _); (k_here; k_dflt (refine LCg.ListComp_U (F₀ := by k_asm) (by rfl) (by decide) (by rfl) (by decide) (by rfl) ?_))) | ((k_here; (with_reducible show wpAny _ _ (setItem (Value.ref _) (Value.str _ _) (Value.int _ _)) _ _ _); k_dflt (refine' wh_set ?F ?N ?U ?hW ?hx ?hl ?_; (case F => k_asm); (case N => k_asm); (case hW => assumption); (case U => k_updF); (case hx => assumption); (case hl => assumption); k_whole); intros; (try k_sweep))) | ((k_here; (with_reducible show wpAny _ _ (subscriptTail _ _ (Value.ref _) (Value.str _ _)) _ _ _); k_dflt (refine' wh_get ?N ?hm ?hW ?lo ?hx ?_ ?hs ?hg; (case N => k_asm); (case hm => k_mem); (case hW => assumption); (case lo => assumption); (case hx => assumption); (case hs => with_unfolding_all rfl); (case hg => (intros; with_unfolding_all rfl)); k_whole); intros)) | (k_unfold; (try dsimp only)) | (k_end; wrow_close) | walk1 | (dsimp only; walk1) | (leave1; try dsimp only) | fail "no")
 refine LCg.CompSrc.ledger (by rfl) (by k_asm) (by k_asm) (by k_mem) ?sz ?hc
 case sz => rw [List.size_toArray, sizeLine_eq, hv.length]; lia
 case hc =>
  intro g''
  refine comp_induct (J := fun i ys news => IntsAre ys ((names.take i).map fun n => (W.lookup n).getD 0) ∧ news = [(L' + 1, o9), (Wa, oW), (lgA, listOf lg.toArray nl), (nA, listOf nv.toArray nn)]) ?step ?fin _ 0 [] _ (Nat.zero_add _) ?init
  case init => exact ⟨.nil, rfl⟩
  case step =>
   rintro i ys news hi ⟨hys, rfl⟩ v I oI C oC D' m₂ h tk E' hv' hC hx F N off ne
   have hv' : nv[i]? = some v := by simpa using hv'
   refine ex2 (strs_at hv hv') ?_
   intro n t hX9
   with_reducible refine an2 hX9 ?_
   clear hX9
   intro hn1 hR9
   subst hR9
   refine an3 (off3_all off) ?_
   intro n1 n2 n3
   refine an3 (ne3_all ne) ?_
   intro n4 n5 n6
   obtain ⟨x, hx1⟩ := Option.isSome_iff_exists.mp (hn n (List.mem_of_getElem? hn1))
   repeat' (first | keq_rows | keq_hits | ((k_here; (with_reducible show wpAny _ _ (eval (Expr.Name _ _) (compEnvC _ _ _ _)) _ _ _); k_dflt (first   | (refine' LCgL.ld_own ?N ?hm ?hC ?hx ?_; (case N => k_asm); (case hm => k_mem); (case hC => assumption); (case hx => assumption))   | (refine' nameCC ?N ?hc ?hm ?hd ?_; (case N => k_asm); (case hc => exact rfl); (case hm => k_mem); (case hd => assumption); k_whole)   | (refine' LCgL.ld_global ?F ?X ?T ?e ?_; (case F => k_asm); (case X => k_asm); (case T => k_asm); (case e => k_is))))) | ((with_reducible show wpAny _ _ (eval (Expr.ListComp _ _ _ _) _) _ _ _); (k_here; k_dflt (refine LCg.ListComp_U (F₀ := by k_asm) (by rfl) (by decide) (by rfl) (by decide) (by rfl) ?_))) | ((k_here; (with_reducible show wpAny _ _ (setItem (Value.ref _) (Value.str _ _) (Value.int _ _)) _ _ _); k_dflt (refine' wh_set ?F ?N ?U ?hW ?hx ?hl ?_; (case F => k_asm); (case N => k_asm); (case hW => assumption); (case U => k_updF); (case hx => assumption); (case hl => assumption); k_whole); intros; (try k_sweep))) | ((k_here; (with_reducible show wpAny _ _ (subscriptTail _ _ (Value.ref _) (Value.str _ _)) _ _ _); k_dflt (refine' wh_get ?N ?hm ?hW ?lo ?hx ?_ ?hs ?hg; (case N => k_asm); (case hm => k_mem); (case hW => assumption); (case lo => assumption); (case hx => assumption); (case hs => with_unfolding_all rfl); (case hg => (intros; with_unfolding_all rfl)); k_whole); intros)) | (k_unfold; (try dsimp only)) | (k_end; wrow_close) | walk1 | (dsimp only; walk1) | (leave1; try dsimp only) | fail "no")
   rename Tok => t9
   have e : names.take (i + 1) = names.take i ++ [n] := by simp [List.take_add_one, hn1]
   rw [e, List.map_append]
   refine IntsAre.append hys ?_
   simp only [List.map_cons, List.map_nil, hx1, Option.getD_some]
   exact .cons _ _ .nil
  case fin =>
   rintro ys news ⟨hys, rfl⟩
   unfold LCg.FinE
   intro Dl h tk F N o1
   replace o1 := off1_all o1
   have hN := (N (Dl, LCg.lst ys) (.head _)).2.2
   have hlz : lg.toArray.size ≤ 10000 := by rw [List.size_toArray]; exact hl
   repeat' (first | keq_rows | keq_hits | ((k_here; (with_reducible show wpAny _ _ (eval (Expr.Name _ _) (compEnvC _ _ _ _)) _ _ _); k_dflt (first   | (refine' LCgL.ld_own ?N ?hm ?hC ?hx ?_; (case N => k_asm); (case hm => k_mem); (case hC => assumption); (case hx => assumption))   | (refine' nameCC ?N ?hc ?hm ?hd ?_; (case N => k_asm); (case hc => exact rfl); (case hm => k_mem); (case hd => assumption); k_whole)   | (refine' LCgL.ld_global ?F ?X ?T ?e ?_; (case F => k_asm); (case X => k_asm); (case T => k_asm); (case e => k_is))))) | ((with_reducible show wpAny _ _ (eval (Expr.ListComp _ _ _ _) _) _ _ _); (k_here; k_dflt (refine LCg.ListComp_U (F₀ := by k_asm) (by rfl) (by decide) (by rfl) (by decide) (by rfl) ?_))) | ((k_here; (with_reducible show wpAny _ _ (setItem (Value.ref _) (Value.str _ _) (Value.int _ _)) _ _ _); k_dflt (refine' wh_set ?F ?N ?U ?hW ?hx ?hl ?_; (case F => k_asm); (case N => k_asm); (case hW => assumption); (case U => k_updF); (case hx => assumption); (case hl => assumption); k_whole); intros; (try k_sweep))) | ((k_here; (with_reducible show wpAny _ _ (subscriptTail _ _ (Value.ref _) (Value.str _ _)) _ _ _); k_dflt (refine' wh_get ?N ?hm ?hW ?lo ?hx ?_ ?hs ?hg; (case N => k_asm); (case hm => k_mem); (case hW => assumption); (case lo => assumption); (case hx => assumption); (case hs => with_unfolding_all rfl); (case hg => (intros; with_unfolding_all rfl)); k_whole); intros)) | (k_unfold; (try dsimp only)) | (k_end; wrow_close) | walk1 | (dsimp only; walk1) | (leave1; try dsimp only) | fail "no")
   refine' hret _ _ _ _ ?ra ?rb ?rc ?rd
   case ra => k_asm
   case rb => k_asm
   case rc => k_asm
   case rd =>
    have e9 : names.take nv.toArray.size = names := by rw [List.size_toArray, hv.length, List.take_length]
    rw [e9] at hys
    refine ⟨⟨_, rfl⟩, ⟨Dl, ys, _, _, ?_, hys, by k_mem, by rw [List.push_toArray]; k_mem⟩, by k_mem, by k_mem⟩
    cases e8 : s.heap.get? Dl with
    | none => rfl
    | some o8 =>
     have := GS' Dl o8 e8 (fun q => by
      refine ea1_2 (List.mem_map.mp q) ?_
      intro r8 hr8 e7
      exact o1.all r8 (.tail _ hr8) e7)
     rw [hN] at this; cases this
 ))only[↓bB]

end D1p
section A1fp
section
variable {prog : Program} {w : World} {A : Around} {E : Value → Shared → Prop} {s : Shared} {env : Env} {h₀ : Heap} {target : Expr} {body : List Stmt} {Q : Flow → Shared → Prop} {σ : Type}
noncomputable def KfEnd (h₀ : Heap) (L : Addr) (s : Shared) (I : Addr) (o : Obj) (LF : σ → Led) (ps : σ → List (Str × Value)) (stored : List Str) (m₀ : Str → Option Value) (P : σ → Prop) (s₂ : Shared) : Prop :=
 ∃ c' h' tk m' news', s₂ = { s with heap := h', toks := tk } ∧ Fr h₀ L h' m' ∧ News h₀ L h' news' ∧ (I, o) ∈ news' ∧ (∀ p ∈ LF c', p ∈ news' ∧ p.1 ≠ I) ∧ (∀ p ∈ ps c', m' p.1 = some p.2) ∧ (∀ z, (∀ p ∈ ps c', z ≠ p.1) → stored.contains z = false → m' z = m₀ z) ∧ P c'
noncomputable def KfPost (h₀ : Heap) (L : Addr) (s : Shared) (I : Addr) (o : Obj) (LF : σ → Led) (ps : σ → List (Str × Value)) (stored : List Str) (m₀ : Str → Option Value) (P : σ → Prop) (Q : Flow → Shared → Prop) (f : Flow) (s₂ : Shared) : Prop :=
 match f with
 | .ret v => Q (.ret v) s₂
 | .brk => Q .next s₂
 | _ => KfEnd h₀ L s I o LF ps stored m₀ P s₂
theorem kf_end {L I : Addr} {o : Obj} {LF : σ → Led} {ps : σ → List (Str × Value)} {stored : List Str} {m₀ m' : Str → Option Value} {P : σ → Prop} {h' : Heap} {tk : Nat} {news' : Led} {k : String} (c' : σ) (F : Fr h₀ L h' m') (N : News h₀ L h' news') (hI : (I, o) ∈ news') (hc : o.cls = .type k)
  (sub : ∀ p ∈ LF c', p ∈ news') (off : ∀ p ∈ LF c', p.2.cls ≠ .type k ∨ @Ne Nat p.1 I) (hk : ∀ p ∈ ps c', m' p.1 = some p.2) (hr : ∀ z, (∀ p ∈ ps c', z ≠ p.1) → stored.contains z = false → m' z = m₀ z) (hp : P c') :
  KfEnd h₀ L s I o LF ps stored m₀ P { s with heap := h', toks := tk } :=
 ⟨c', h', tk, m', news', rfl, F, N, hI, fun p hp => ⟨sub p hp, (off p hp).elim (fun h => news_ne N (sub p hp) hI (by rw [hc]; exact h)) id⟩, hk, hr, hp⟩
theorem items_for {I : Addr} {k : String} {m₀ m : Str → Option Value} (LF : σ → Led) (ps : σ → List (Str × Value)) (stored : List Str) (P : Nat → σ → Prop) (xs : List Itm) (c₀ : σ) (hk : ∀ p ∈ ps c₀, m p.1 = some p.2) (hr : ∀ z, (∀ p ∈ ps c₀, z ≠ p.1) → stored.contains z = false → m z = m₀ z) (hp : P 0 c₀)
  (turn : ∀ i x c (u : Str → Option Value) v h tk o, xs[i]? = some x → x.Is v h → P i c → o.cls = .type k → Fr h₀ env.locals h (kstB (fun z => if stored.contains z then u z else m₀ z) (ps c)) → News h₀ env.locals h ((I, o) :: LF c) →
   wpAny (model prog w) A (assign target env v) (fun _ s₂ => wpAny (model prog w) A (execs body env) (KfPost h₀ env.locals { s with heap := h, toks := tk } I o LF ps stored m₀ (P (i + 1)) Q) E s₂) E { s with heap := h, toks := tk })
  (fin : ∀ c (u : Str → Option Value) h tk, P xs.length c → Fr h₀ env.locals h (kstB (fun z => if stored.contains z then u z else m₀ z) (ps c)) → News h₀ env.locals h (LF c) → Q .next { s with heap := h, toks := tk }) :
  ItemsRest prog w A E h₀ env target body Q s [(I, k)] [] xs m (LF c₀) := by
 have key : ∀ (r : List Itm) (i : Nat) (c : σ) (m : Str → Option Value), r = xs.drop i → i + r.length = xs.length → (∀ p ∈ ps c, m p.1 = some p.2) → (∀ z, (∀ p ∈ ps c, z ≠ p.1) → stored.contains z = false → m z = m₀ z) → P i c →
   ItemsRest prog w A E h₀ env target body Q s [(I, k)] [] r m (LF c) := by
  intro r
  induction r with
  | nil =>
   intro i c m _ hi h1 h2 hp h tk F N
   have : i = xs.length := by simpa using hi
   exact fin c m h tk (this ▸ hp) (ksw_fr h1 h2 F) N
  | cons a r ih =>
   intro i c m hd hi h1 h2 hp v h tk hv F o ho N
   have hx : xs[i]? = some a := by
    have e : (xs.drop i)[0]? = some a := by rw [← hd]; rfl
    rwa [List.getElem?_drop, Nat.add_zero] at e
   have hd' : r = xs.drop (i + 1) := by
    rw [← List.drop_drop, ← hd]; rfl
   refine wpAny_mono (turn i a c m v h tk o hx hv hp ho (ksw_fr h1 h2 F) N) (fun _ s₂ q => wpAny_mono q (fun f s₃ q => ?_) fun _ _ e => e) fun _ _ e => e
   cases f with
   | ret v => exact q
   | brk => exact q
   | next =>
    obtain ⟨c', h', tk', m', news', rfl, F', N', hI, hs, k1, k2, hp'⟩ := q
    exact ⟨h', tk', m', LF c', rfl, F', fun p hp => by
     rcases List.mem_cons.mp hp with hp | hp
     ·rw [hp]; exact N' _ hI
     ·exact N' p (hs p hp).1, fun p hp q hq => by rw [List.mem_singleton.mp hq]; exact (hs p hp).2, trivial, ih (i + 1) c' m' hd' (by rw [← hi, List.length_cons]; lia) k1 k2 hp'⟩
   | cont =>
    obtain ⟨c', h', tk', m', news', rfl, F', N', hI, hs, k1, k2, hp'⟩ := q
    exact ⟨h', tk', m', LF c', rfl, F', fun p hp => by
     rcases List.mem_cons.mp hp with hp | hp
     ·rw [hp]; exact N' _ hI
     ·exact N' p (hs p hp).1, fun p hp q hq => by rw [List.mem_singleton.mp hq]; exact (hs p hp).2, trivial, ih (i + 1) c' m' hd' (by rw [← hi, List.length_cons]; lia) k1 k2 hp'⟩
 exact key xs 0 c₀ m rfl (Nat.zero_add _) hk hr hp
end
theorem list_at {prog : Program} {w : World} {A : Around} {E : Value → Shared → Prop} {s : Shared} {h₀ : Heap} {L T : Addr} {news : Led} {vs : List Value} {i n : Nat} {u : Tok} {v : Value} {value slice : Expr} {Q : Value → Shared → Prop} (N : News h₀ L s.heap news) (hm : (T, listOf vs.toArray n) ∈ news) (hv : vs[i]? = some v) (hi : i < 2 ^ 62) (h : Q v s)
  (hs : subscripted slice false (.ref T) (.int (i : Int) u) = operate [.ref T, .int (i : Int) u] (getItem (.ref T) (.int (i : Int) u)) := by with_unfolding_all rfl) :
  wpAny (model prog w) A (subscriptTail value slice (.ref T) (.int (i : Int) u)) Q E s := by
 have hl : s.heap.IsList T vs.toArray := ⟨_, (N _ hm).1, rfl, _, rfl⟩
 exact tail_any hl.typeIs slot_list_getitem.lookup (wpAny_getItem_list hl (by lia) (by lia) (by simpa using hv) h) hs
theorem len_lst {prog : Program} {w : World} {A : Around} {E : Value → Shared → Prop} {s : Shared} {h₀ : Heap} {L T : Addr} {news : Led} {vs : List Value} {n : Nat} {Q : Value → Shared → Prop} (N : News h₀ L s.heap news) (hm : (T, listOf vs.toArray n) ∈ news) (hz : vs.length ≤ 16384)
  (h : Q (.int (vs.length : Nat) (s.toks + 1)) { s with toks := s.toks + 1 + 1 }) : wpAny (model prog w) A (call (.builtin "len") [.ref T]) Q E s :=
 KM.len_K N hm (by simp) (by lia) h
theorem While_out {prog : Program} {w : World} {A : Around} {E : Value → Shared → Prop} {s : Shared} {env : Env} {test : Expr} {body : List Stmt} {pos : Pos} {Q : Flow → Shared → Prop} (h : wpAny (model prog w) A (isTrue test env (eval test env)) (fun b s₂ => b = false ∧ Q .next s₂) E s)
  (hE : PassesOwn (model prog w) A env E := by passes_own) : wpAny (model prog w) A (exec (.While test body [] pos) env) Q E s := by
 refine wpAny_While (codeAny_whileLoop (fun _ s' => s' = s) (fun n s' e => ?_) 0 rfl)
 subst e
 refine wpAny_mono h (fun b s₂ q => ?_) hE
 obtain ⟨rfl, q⟩ := q
 simp only [Bool.false_eq_true, if_false]
 exact wpAny_execs_nil q

end A1fp
section B0p
noncomputable def Nx (P : Shared → Prop) (fl : Flow) (s : Shared) : Prop := fl = .next ∧ P s
theorem intsGet {vs : List Value} {ns : List Int} (h : IntsAre vs ns) : ∀ {i : Nat} {n : Int}, ns[i]? = some n → ∃ t, vs[i]? = some (.int n t) := by
 induction h with
 | nil => intro i n e; cases e
 | cons a t _ ih =>
  intro i n e
  cases i with
  | zero => cases e; exact ⟨t, rfl⟩
  | succ i => exact ih e
theorem data_off {h₀ h : Heap} {L : Addr} {news : Led} {p q : Addr × Obj} (N : News h₀ L h news) (hp : p ∈ news) (hq : q ∈ news) (hd : p.2.data ≠ q.2.data) : p.1 ≠ q.1 := by
 intro e
 have e1 := (N p hp).1
 have e2 := (N q hq).1
 rw [e, e2] at e1
 exact hd (by rw [Option.some.inj e1])
theorem subl_of {keep l : Led} (h : ∀ p ∈ keep, p ∈ l) : SubL keep l := by
 induction keep with
 | nil => trivial
 | cons a r ih => exact ⟨h a (.head _), ih fun p hp => h p (.tail _ hp)⟩
section
variable {prog : Program} {w : World} {A : Around} {E : Value → Shared → Prop} {s : Shared} {env : Env} {h₀ : Heap} {target : Expr} {body : List Stmt} {Q : Flow → Shared → Prop} {σ : Type}
theorem items_forK {I : Addr} {k : String} {m₀ m : Str → Option Value} (keep : Led) (LF : σ → Led) (hkp : ∀ c, ∀ p ∈ keep, p ∈ LF c) (ps : σ → List (Str × Value)) (stored : List Str) (P : Nat → σ → Prop) (xs : List Itm) (c₀ : σ) (hk : ∀ p ∈ ps c₀, m p.1 = some p.2) (hr : ∀ z, (∀ p ∈ ps c₀, z ≠ p.1) → stored.contains z = false → m z = m₀ z) (hp : P 0 c₀)
  (turn : ∀ i x c (u : Str → Option Value) v h tk o, xs[i]? = some x → x.Is v h → P i c → o.cls = .type k → Fr h₀ env.locals h (kstB (fun z => if stored.contains z then u z else m₀ z) (ps c)) → News h₀ env.locals h ((I, o) :: LF c) →
   wpAny (model prog w) A (assign target env v) (fun _ s₂ => wpAny (model prog w) A (execs body env) (KfPost h₀ env.locals { s with heap := h, toks := tk } I o LF ps stored m₀ (P (i + 1)) Q) E s₂) E { s with heap := h, toks := tk })
  (fin : ∀ c (u : Str → Option Value) h tk, P xs.length c → Fr h₀ env.locals h (kstB (fun z => if stored.contains z then u z else m₀ z) (ps c)) → News h₀ env.locals h (LF c) → Q .next { s with heap := h, toks := tk }) :
  ItemsRest prog w A E h₀ env target body Q s [(I, k)] keep xs m (LF c₀) := by
 have key : ∀ (r : List Itm) (i : Nat) (c : σ) (m : Str → Option Value), r = xs.drop i → i + r.length = xs.length → (∀ p ∈ ps c, m p.1 = some p.2) → (∀ z, (∀ p ∈ ps c, z ≠ p.1) → stored.contains z = false → m z = m₀ z) → P i c →
   ItemsRest prog w A E h₀ env target body Q s [(I, k)] keep r m (LF c) := by
  intro r
  induction r with
  | nil =>
   intro i c m _ hi h1 h2 hp h tk F N
   have : i = xs.length := by simpa using hi
   exact fin c m h tk (this ▸ hp) (ksw_fr h1 h2 F) N
  | cons a r ih =>
   intro i c m hd hi h1 h2 hp v h tk hv F o ho N
   have hx : xs[i]? = some a := by
    have e : (xs.drop i)[0]? = some a := by rw [← hd]; rfl
    rwa [List.getElem?_drop, Nat.add_zero] at e
   have hd' : r = xs.drop (i + 1) := by
    rw [← List.drop_drop, ← hd]; rfl
   refine wpAny_mono (turn i a c m v h tk o hx hv hp ho (ksw_fr h1 h2 F) N) (fun _ s₂ q => wpAny_mono q (fun f s₃ q => ?_) fun _ _ e => e) fun _ _ e => e
   cases f with
   | ret v => exact q
   | brk => exact q
   | next =>
    obtain ⟨c', h', tk', m', news', rfl, F', N', hI, hs, k1, k2, hp'⟩ := q
    exact ⟨h', tk', m', LF c', rfl, F', fun p hp => by
     rcases List.mem_cons.mp hp with hp | hp
     ·rw [hp]; exact N' _ hI
     ·exact N' p (hs p hp).1, fun p hp q hq => by rw [List.mem_singleton.mp hq]; exact (hs p hp).2, subl_of (hkp c'), ih (i + 1) c' m' hd' (by rw [← hi, List.length_cons]; lia) k1 k2 hp'⟩
   | cont =>
    obtain ⟨c', h', tk', m', news', rfl, F', N', hI, hs, k1, k2, hp'⟩ := q
    exact ⟨h', tk', m', LF c', rfl, F', fun p hp => by
     rcases List.mem_cons.mp hp with hp | hp
     ·rw [hp]; exact N' _ hI
     ·exact N' p (hs p hp).1, fun p hp q hq => by rw [List.mem_singleton.mp hq]; exact (hs p hp).2, subl_of (hkp c'), ih (i + 1) c' m' hd' (by rw [← hi, List.length_cons]; lia) k1 k2 hp'⟩
 exact key xs 0 c₀ m rfl (Nat.zero_add _) hk hr hp
end
section
variable {M : Model} {A : Around} {E : Value → Shared → Prop} {s : Shared} {Q : Flow → Shared → Prop} {K : Frag} {f : Addr} {oc : Value} {od : Option Addr} {osl : Array (Option Value)} {name qual : Str} {params : Arguments} {body : List Stmt} {scope : Scope} {dV kV doc pm cdv ct : Value} {an : Option Addr} {i : Nat} {env : Env}
theorem execs_nx {P : Shared → Prop} (ho : K.lookup f = some ⟨oc, od, .func (fnOf name qual params body scope dV kV doc pm an cdv ct), osl⟩) (hi : i < body.length) (h : wpAny M A (exec (stmtAt K f i) env) (Nx P) E s) (h2 : ∀ s', P s' → wpAny M A (execs (bodyFrom K f (i + 1)) env) Q E s') :
  wpAny M A (execs (bodyFrom K f i) env) Q E s := by
 have e1 : stmtAt K f i = body.getD i default := by unfold stmtAt; rw [ho]
 have e2 : ∀ j, bodyFrom K f j = body.drop j := by intro j; unfold bodyFrom; rw [ho]
 have e3 : body.drop i = body.getD i default :: body.drop (i + 1) := by
  rw [List.drop_eq_getElem_cons hi, List.getD_eq_getElem?_getD, List.getElem?_eq_getElem hi]; rfl
 rw [e2, e3]
 refine wpAny_execs_cons (wpAny_mono (e1 ▸ h) (fun fl s' q => ?_) fun _ _ e => e)
 obtain ⟨rfl, q⟩ := q
 have := h2 s' q
 rwa [e2] at this
end

end B0p
section N0p
section
variable {w : World} {p : Program} {loose : List Str} {mean : ExcName → Option Value} {mg mb : Str → Option Value} {dp un : Nat} {gd : Option (List Code)} {cn : Str} {cs : Scope} {a : Addr} {ccd : Value} {cl : List (Str × Addr)} {outer : List Env} {A₀ : Around} {base h₀ : Heap} {L : Addr} {m : Str → Option Value} {s : Shared}
 {Q E : Value → Shared → Prop} {Y : Led} {d : DAt} {os ps : Array Value} {no np : Nat} {tl : Led}
theorem sf_led {o1 o2 : Obj} (hY : ∀ p ∈ Y, p.1 ≠ d.oA ∧ p.1 ≠ d.pA) : ∃ G, SF d.oA d.pA (listOf os no) (listOf ps np) tl (Y ++ d.led os ps no np tl) G ∧ ∀ os' no' ps' np' tl', G (listOf os' no') (listOf ps' np') tl' = Y ++ d.led os' ps' no' np' tl' := by
 induction Y with
 | nil => exact ⟨_, .inst (.dict (.one (.two .tail))), fun _ _ _ _ _ => rfl⟩
 | cons x r ih =>
  refine ea1_2 (ih fun p hp => hY p (.tail _ hp)) ?_
  intro G S e
  exact ⟨_, .keep (hY x (.head _)).1 (hY x (.head _)).2 S, fun a b c f g => by rw [e]; rfl⟩
theorem dcall {f : Addr} {dd uu : Nat} {vs : List Value} {ext : Led} {aops aops' : List AOp} {pls pls' : List Int} {rv : Value → Prop} (C : DSpec w f dd uu vs d ext aops pls aops' pls' rv)
  (B : Below A₀ base outer h₀) (F : Fr h₀ L s.heap m) (X : Frag.In (Mine.hd.heap_1 w.params) h₀) (N : News h₀ L s.heap (Y ++ d.led os ps no np tl)) (T : Top p loose mean mg mb h₀) (hk : cs.kind = .function) (hd : dp + dd < recursionLimit) (hu : un + uu < cLine)
  (hY : ∀ p ∈ Y, p.1 ≠ d.oA ∧ p.1 ≠ d.pA) (he : ∀ p ∈ ext, p ∈ tl) (hne : NeA d.oA d.pA) (St : DSt tl os ps aops pls)
  (h : ∀ r os' ps' no' np' tl' h' tk', rv r → Fr h₀ L h' m → News h₀ L h' (Y ++ d.led os' ps' no' np' tl') → DSt tl' os' ps' aops' pls' → (∀ p ∈ tl, p ∈ tl') → Q r { s with heap := h', toks := tk' }) :
  wpAny (model PR w) (ktrTop dp un gd cn cs L a ccd cl outer) (call (.ref f) vs) Q E s := by
 refine ea1_2 (sf_led (o1 := listOf os no) (o2 := listOf ps np) (os := os) (ps := ps) (no := no) (np := np) (tl := tl) hY) ?_
 intro G S e
 have inl : ∀ p ∈ d.led os ps no np tl, p ∈ Y ++ d.led os ps no np tl := fun p hp => List.mem_append.mpr (.inr hp)
 refine dspec_use C B F X N T hk hd hu (inl _ (.head _)) (inl _ (.tail _ (.head _))) (inl _ (.tail _ (.tail _ (.head _)))) (inl _ (.tail _ (.tail _ (.tail _ (.head _))))) (fun p hp => inl p (.tail _ (.tail _ (.tail _ (.tail _ (he p hp)))))) (fun p hp => inl p (.tail _ (.tail _ (.tail _ (.tail _ hp))))) S hne St ?_
 intro r os' ps' no' np' tl' h' tk' hr F' N' St' hs
 rw [e] at N'
 exact h r os' ps' no' np' tl' h' tk' hr F' N' St' fun p hp => hs p (List.mem_append.mpr (.inr hp))
theorem dfresh {aops : List AOp} {pls : List Int} (hsm : aops.length + pls.length < 1000)
  (B : Below A₀ base outer h₀) (F : Fr h₀ L s.heap m) (X : Frag.In (Mine.hd.heap_1 w.params) h₀) (N : News h₀ L s.heap (Y ++ d.led os ps no np tl)) (T : Top p loose mean mg mb h₀) (hk : cs.kind = .function) (hd : dp + 1 < recursionLimit) (hu : un + 8 < cLine)
  (hY : ∀ p ∈ Y, p.1 ≠ d.oA ∧ p.1 ≠ d.pA) (hne : NeA d.oA d.pA) (St : DSt tl os ps aops pls)
  (h : ∀ t ps' np' h' tk', Fr h₀ L h' m → News h₀ L h' (Y ++ d.led os ps' no np' tl) → DSt tl os ps' aops (pls ++ [-1]) → Q (.int pls.length t) { s with heap := h', toks := tk' }) :
  wpAny (model PR w) (ktrTop dp un gd cn cs L a ccd cl outer) (call (.ref 173) [.ref d.D]) Q E s := by
 refine ea1_2 (sf_led (o1 := listOf os no) (o2 := listOf ps np) (os := os) (ps := ps) (no := no) (np := np) (tl := tl) hY) ?_
 intro G S e
 have inl : ∀ p ∈ d.led os ps no np tl, p ∈ Y ++ d.led os ps no np tl := fun p hp => List.mem_append.mpr (.inr hp)
 refine fresh_use hsm B F X N T hk hd hu (inl _ (.head _)) (inl _ (.tail _ (.head _))) (inl _ (.tail _ (.tail _ (.head _)))) (inl _ (.tail _ (.tail _ (.tail _ (.head _))))) (fun p hp => inl p (.tail _ (.tail _ (.tail _ (.tail _ hp))))) S hne St ?_
 intro t ps' np' h' tk' F' N' St'
 rw [e] at N'
 exact h t ps' np' h' tk' F' N' St'
end
structure T4 where
 r : Addr
 f : Addr
 b : Addr
 a : Addr
 c : Addr
structure RowAt (tl : Led) (t : T4) : Prop where
 r : (t.r, tup [.ref t.f, .ref t.b, .ref t.a, .ref t.c]) ∈ tl
 b : ∃ u x, (t.b, tup [.str "number" u, x]) ∈ tl
 a : ∃ u x, (t.a, tup [.str "number" u, x]) ∈ tl
 c : ∃ u x y z, (t.c, tup [.str "rel" u, x, y, z]) ∈ tl
theorem RowAt.mono {tl tl' : Led} {t : T4} (h : RowAt tl t) (hs : ∀ p ∈ tl, p ∈ tl') : RowAt tl' t := by
 obtain ⟨h1, ⟨u, x, h2⟩, ⟨v, y, h3⟩, ⟨q, a, b, c, h4⟩⟩ := h
 exact ⟨hs _ h1, ⟨u, x, hs _ h2⟩, ⟨v, y, hs _ h3⟩, ⟨q, a, b, c, hs _ h4⟩⟩
structure VIn (tl : Led) (R g s2 : Addr) (ts : List T4) : Prop where
 R : (R, tup (ts.map fun t => .ref t.r)) ∈ tl
 row : ∀ t ∈ ts, RowAt tl t
 body : ∃ b s1 t t1 t2 x1 x2, (g, tup [.str "body" t, .ref b]) ∈ tl ∧ (b, tup [.ref s1, .ref s2]) ∈ tl ∧ (s1, tup [.str "continue" t1]) ∈ tl ∧ (s2, tup [.str "display" t2, x1, x2]) ∈ tl
theorem VIn.mono {tl tl' : Led} {R g s2 : Addr} {ts : List T4} (h : VIn tl R g s2 ts) (hs : ∀ p ∈ tl, p ∈ tl') : VIn tl' R g s2 ts := by
 obtain ⟨h1, h2, ⟨b, s1, t, t1, t2, x1, x2, g1, g2, g3, g4⟩⟩ := h
 exact ⟨hs _ h1, fun t ht => (h2 t ht).mono hs, b, s1, t, t1, t2, x1, x2, hs _ g1, hs _ g2, hs _ g3, hs _ g4⟩
noncomputable abbrev AP := List AOp × List Int
noncomputable def stepP (x : AP) (f b : Addr) (way : Str) : AP := (x.1 ++ [.push (.ref b) x.2.length, .put (.ref f) way x.2.length], x.2 ++ [((x.1.length + 2 : Nat) : Int)])
noncomputable def condP (x : AP) (c : Addr) (l : Int) : AP := (x.1 ++ [.test (.ref c) x.2.length, .jump l], x.2 ++ [((x.1.length + 2 : Nat) : Int)])
noncomputable def hereP (x : AP) (i : Nat) : AP := (x.1, x.2.set i x.1.length)
noncomputable def freshP (x : AP) : AP := (x.1, x.2 ++ [-1])
noncomputable def putP (x : AP) (o : AOp) : AP := (x.1 ++ [o], x.2)
noncomputable def goalP (x : AP) (s : Addr) : AP := (x.1 ++ [.deed (.ref s)], x.2 ++ [((x.1.length + 1 : Nat) : Int)])
noncomputable abbrev DS (tl : Led) (os ps : Array Value) (x : AP) : Prop := DSt tl os ps x.1 x.2
noncomputable abbrev v1P (ts : List T4) : AP := ts.foldl (fun x t => stepP x t.f t.b "=") ([], [])
theorem v1_len (ts : List T4) : (v1P ts).1.length = 2 * ts.length ∧ (v1P ts).2.length = ts.length := by
 have key : ∀ (ts : List T4) (x : AP), (ts.foldl (fun x t => stepP x t.f t.b "=") x).1.length = x.1.length + 2 * ts.length ∧ (ts.foldl (fun x t => stepP x t.f t.b "=") x).2.length = x.2.length + ts.length := by
  intro ts
  induction ts with
  | nil => intro x; exact ⟨rfl, rfl⟩
  | cons t r ih =>
   intro x
   obtain ⟨e1, e2⟩ := ih (stepP x t.f t.b "=")
   rw [List.foldl_cons, e1, e2]
   simp only [stepP, List.length_append, List.length_cons, List.length_nil]
   lia
 have := key ts ([], [])
 simpa using this
noncomputable def Sz (x : AP) (n : Nat) : Prop := x.1.length + x.2.length ≤ n
theorem Sz.lt {x : AP} {n N : Nat} (h : Sz x n) (e : Nat.ble (n + 1) N = true) : x.1.length + x.2.length < N := Nat.lt_of_lt_of_le (Nat.lt_succ_of_le h) (Nat.le_of_ble_eq_true e)
theorem Sz.of {x : AP} {n : Nat} (h : x.1.length + x.2.length < n) : Sz x n := Nat.le_of_lt h
theorem Sz.step {x : AP} {n : Nat} {f b : Addr} {way : Str} (h : Sz x n) : Sz (stepP x f b way) (n + 3) := by
 unfold Sz stepP at *; simp only [List.length_append, List.length_cons, List.length_nil]; lia
theorem Sz.cond {x : AP} {n : Nat} {c : Addr} {l : Int} (h : Sz x n) : Sz (condP x c l) (n + 3) := by
 unfold Sz condP at *; simp only [List.length_append, List.length_cons, List.length_nil]; lia
theorem Sz.here {x : AP} {n i : Nat} (h : Sz x n) : Sz (hereP x i) n := by
 unfold Sz hereP at *; simp only [List.length_set]; exact h
theorem Sz.fresh {x : AP} {n : Nat} (h : Sz x n) : Sz (freshP x) (n + 1) := by
 unfold Sz freshP at *; simp only [List.length_append, List.length_cons, List.length_nil]; lia
theorem Sz.put {x : AP} {n : Nat} {o : AOp} (h : Sz x n) : Sz (putP x o) (n + 1) := by
 unfold Sz putP at *; simp only [List.length_append, List.length_cons, List.length_nil]; lia
theorem Sz.goal {x : AP} {n : Nat} {s : Addr} (h : Sz x n) : Sz (goalP x s) (n + 2) := by
 unfold Sz goalP at *; simp only [List.length_append, List.length_cons, List.length_nil]; lia
theorem Sz.v1 {ts : List T4} (h3 : ts.length ≤ 3) : Sz (v1P ts) 9 := by
 obtain ⟨l1, l2⟩ := v1_len ts
 unfold Sz; lia
theorem ltAdd {c n l l' i k : Nat} (e : l' = l + k) (h : c + n ≤ l) (hi : i < n) : c + i < l' := by lia

end N0p
section N1p
noncomputable abbrev eV (K : Frag) (L : Addr) (cd : Value) : Env := envOfC (Str.ofString "put_varying") (scopeAt K 312) L 312 cd
noncomputable abbrev eVA (K : Frag) (L : Addr) (cd : Value) : Env := envOfC (Str.ofString "put_varying_after") (scopeAt K 319) L 319 cd
structure QS where
 os : Array Value
 ps : Array Value
 no : Nat
 np : Nat
 tl : Led
section
variable {w : World} {p : Program} {loose : List Str} {mean : ExcName → Option Value} {mg mb : Str → Option Value} {dp un : Nat} {gd : Option (List Code)} {cn : Str} {cs : Scope} {L a : Addr} {ccd cd : Value} {cl : List (Str × Addr)} {outer : List Env} {base h : Heap} {L' : Addr} {m : Str → Option Value} {s : Shared} {E : Value → Shared → Prop} {d : DAt} {os ps : Array Value} {no np : Nat} {tl : Led} {R g s2 : Addr} {ts : List T4} {q : Obj}
theorem vs0 (B : Below (ktrTop dp un gd cn cs L a ccd cl outer) base (envX cn cs L a ccd cl :: outer) h) (X : Frag.In (Mine.hd.heap_1 w.params) h) (T : Top p loose mean mg mb h) (hdp : dp + 8 < recursionLimit) (hun : un + 96 < cLine)
  (hE : PassesOwn (model PR w) ((ktrTop dp un gd cn cs L a ccd cl outer).deeper (eV (Mine.hd.heap_1 w.params) L' cd)) (eV (Mine.hd.heap_1 w.params) L' cd) E)
  (hq : q.data = .cell (some (.ref d.D))) (h3 : ts.length ≤ 3) (V : VIn tl R g s2 ts) (hne : NeA d.oA d.pA) (St : DS tl os ps ([], [])) (F : Fr h L' s.heap m) (hk : ∀ p ∈ ([(("rows" : Str), .ref R)] : List (Str × Value)), m p.1 = some p.2)
  (N : News h L' s.heap (([(L' + 1, q)] : Led) ++ d.led os ps no np tl)) :
  wpAny (model PR w) ((ktrTop dp un gd cn cs L a ccd cl outer).deeper (eV (Mine.hd.heap_1 w.params) L' cd)) (exec (stmtAt (Mine.hd.heap_1 w.params) 312 0) (eV (Mine.hd.heap_1 w.params) L' cd))
   (Nx fun s' => ∃ h' tk m' os' ps' no' np' tl', s' = { s with heap := h', toks := tk } ∧ Fr h L' h' m' ∧ (∀ z, ([("ref" : Str), "begin", "added", "cond"] : List Str).contains z = false → m' z = m z) ∧ News h L' h' (([(L' + 1, q)] : Led) ++ d.led os' ps' no' np' tl') ∧ DS tl' os' ps' (v1P ts) ∧ ∀ q ∈ tl, q ∈ tl') E s := by
 refine uB ?_
 simp(disch:=k_dflt(
 refine iB ?_
 have F := ksw_fr (ps := [(("rows" : Str), .ref R)]) (m₀ := m) (stored := []) hk (fun _ _ _ => rfl) F
 dsimp only [kstB] at F
 have yq : ∀ z ∈ ([(L' + 1, q)] : Led), z.1 ≠ d.oA ∧ z.1 ≠ d.pA := fc ⟨data_off (p := (L' + 1, q)) (q := (d.oA, listOf os no)) N (.head _) (.tail _ (.tail _ (.tail _ (.head _)))) (by rw [hq]; simp), data_off (p := (L' + 1, q)) (q := (d.pA, listOf ps np)) N (.head _) (.tail _ (.tail _ (.tail _ (.tail _ (.head _))))) (by rw [hq]; simp)⟩ (List.forall_mem_nil _)
 with_reducible refine' stmt_lit ?ho hE ?_
 case ho => k_is
 clear hE
 intro hE
 simp only [List.getD_eq_getElem?_getD, List.getElem?_cons_zero, Option.getD_some]
 have N9 : News h L' s.heap ((R, tup (ts.map fun t => .ref t.r)) :: (([(L' + 1, q)] : Led) ++ d.led os ps no np tl)) := fun p hp => N p ((List.mem_cons.mp hp).elim (fun e => e ▸ List.mem_append.mpr (.inr (.tail _ (.tail _ (.tail _ (.tail _ V.R)))))) id)
 clear N
 k_here
 refine For_turns F ?_
 repeat' (first | ((fail_if_success (with_reducible show wpAny _ _ (pyIter _) _ _ _)); first | keq_rows | keq_hits | (k_unfold; (try dsimp only)) | walk1 | (dsimp only; walk1) | (leave1; try dsimp only)) | fail "no")
 k_here
 refine iter_tupTurns (lo := tup (ts.map fun t => .ref t.r)) (vs := ts.map fun t => .ref t.r) rfl F N9 (.head _) rfl rfl ?_
 intro I l1
 refine' items_forK (m₀ := m) (σ := QS) [(R, tup (ts.map fun t => .ref t.r))] (fun c => (R, tup (ts.map fun t => .ref t.r)) :: (([(L' + 1, q)] : Led) ++ d.led c.os c.ps c.no c.np c.tl)) (hkp := fun c p hp => List.mem_singleton.mp hp ▸ .head _) (fun _ => [(("rows" : Str), .ref R)]) ["ref", "begin", "added", "cond"]
  (fun i c => DS c.tl c.os c.ps (v1P (ts.take i)) ∧ ∀ q ∈ tl, q ∈ c.tl) _ ⟨os, ps, no, np, tl⟩ ?hk ?hr ?hp ?turn ?fin
 case hk =>
  intro p hp
  simp only [List.mem_cons, List.not_mem_nil, or_false] at hp
  subst hp; exact rfl
 case hr =>
  intro z h2 _
  simp only [List.mem_cons, List.not_mem_nil, or_false, forall_eq, forall_eq_or_imp] at h2
  simp only [h2, if_false]
  simp
 case hp => exact ⟨St, fun _ h => h⟩
 case turn =>
  intro i x c u v h9 tk9 o hx hv ⟨St, hs⟩ ho F N
  rw [List.map_map, List.getElem?_map] at hx
  refine ea1_2 (Option.map_eq_some_iff.mp hx) ?_
  intro t ht hR9
  subst hR9
  obtain rfl : v = .ref t.r := hv
  have V' := V.mono hs
  obtain ⟨mr, ⟨ub, xb, mb'⟩, _, _⟩ := V'.row t (List.mem_of_getElem? ht)
  obtain ⟨z1, z2⟩ := v1_len (ts.take i)
  have hi3 : i < ts.length := (List.getElem?_eq_some_iff.mp ht).1
  have hsm : (v1P (ts.take i)).1.length + (v1P (ts.take i)).2.length < 990 := by rw [z1, z2, List.length_take]; lia
  have mrT : (t.r, tup [.ref t.f, .ref t.b, .ref t.a, .ref t.c]) ∈ (R, tup (ts.map fun t => .ref t.r)) :: (([(L' + 1, q)] : Led) ++ d.led c.os c.ps c.no c.np c.tl) := .tail _ (List.mem_append.mpr (.inr (.tail _ (.tail _ (.tail _ (.tail _ mr))))))
  have mqT : (L' + 1, q) ∈ (R, tup (ts.map fun t => .ref t.r)) :: ([(L' + 1, q)] ++ d.led c.os c.ps c.no c.np c.tl) := .tail _ (.head _)
  generalize hTT : (R, tup (ts.map fun t => .ref t.r)) :: (([(L' + 1, q)] : Led) ++ d.led c.os c.ps c.no c.np c.tl) = TT at N mrT mqT
  dsimp only [kstB] at F
  (try k_fold)
  repeat' (first | ((fail_if_success (with_reducible show wpAny _ _ (call (.ref _) _) _ _ _)); first | keq_rows | keq_hits | (k_unfold; (try dsimp only)) | walk1 | (dsimp only; walk1) | (leave1; try dsimp only)) | fail "no")
  rename Fr _ _ _ _ => F8
  rename News _ _ _ _ => N8
  subst hTT
  k_here
  have N8' : News h L' _ (((I, o) :: ([(L' + 1, q)] : Led)) ++ d.led c.os c.ps c.no c.np c.tl) := fun q hq => N8 q ((List.mem_cons.mp hq).elim (fun e => e ▸ .head _) fun h => .tail _ (.tail _ h))
  have oI : I ≠ d.oA ∧ I ≠ d.pA := by
   have hm := fun (z : Addr × Obj) (hz : z ∈ (R, tup (ts.map fun t => .ref t.r)) :: (([(L' + 1, q)] : Led) ++ d.led os ps no np tl)) => Nat.ne_of_gt (l1 z hz)
   exact ⟨hm (d.oA, listOf os no) (.tail _ (List.mem_append.mpr (.inr (.tail _ (.tail _ (.head _)))))), hm (d.pA, listOf ps np) (.tail _ (List.mem_append.mpr (.inr (.tail _ (.tail _ (.tail _ (.head _)))))))⟩
  k_dflt (refine' dcall (put_step_c w d _ _ hsm) B F8 X N8' T rfl ?kd ?ku (fc oI yq) (fc mb' (List.forall_mem_nil _)) hne St ?_; (case kd => ktr_room); (case ku => ktr_units))
  rintro r os' ps' no' np' tl' h' tk' rfl F7 N7 St7 hs7
  clear N8 N8' F8
  (try dsimp only)
  repeat' (first | ((fail_if_success (with_reducible show KfPost _ _ _ _ _ _ _ _ _ _ _ _ _)); first | keq_rows | keq_hits | (k_unfold; (try dsimp only)) | walk1 | (dsimp only; walk1) | (leave1; try dsimp only)) | fail "no")
  show KfEnd _ _ _ _ _ _ _ _ _ _ _
  have e : v1P (ts.take (i + 1)) = stepP (v1P (ts.take i)) t.f t.b "=" := by
   have e9 : ts.take (i + 1) = ts.take i ++ [t] := by rw [List.take_add_one, ht]; rfl
   rw [e9]; simp only [v1P, List.foldl_append, List.foldl_cons, List.foldl_nil]
  have St8 : DS tl' os' ps' (v1P (ts.take (i + 1))) := by rw [e]; exact St7
  have V8 := V'.mono hs7
  have sub8 : ∀ p ∈ (R, tup (ts.map fun t => .ref t.r)) :: (([(L' + 1, q)] : Led) ++ d.led os' ps' no' np' tl'), p ∈ ((I, o) :: ([(L' + 1, q)] : Led)) ++ d.led os' ps' no' np' tl' := fun p hp => by
   rcases List.mem_cons.mp hp with hp | hp
   ·rw [hp]; exact List.mem_append.mpr (.inr (.tail _ (.tail _ (.tail _ (.tail _ V8.R)))))
   ·exact .tail _ hp
  refine' kf_end (k := "tuple_iterator") ⟨os', ps', no', np', tl'⟩ F7 N7 (.head _) ho sub8 ?_ ?_ ?_ ⟨St8, fun q hq => hs7 _ (hs _ hq)⟩
  ·intro p hp
   rcases List.mem_cons.mp hp with hp | hp
   ·rw [hp]; exact .inl (by simp)
   rcases List.mem_cons.mp hp with hp | hp
   ·rw [hp]; exact .inr (Nat.ne_of_lt (l1 (L' + 1, q) (.tail _ (.head _))))
   rcases List.mem_cons.mp hp with hp | hp
   ·rw [hp]; exact .inl (by simp)
   rcases List.mem_cons.mp hp with hp | hp
   ·rw [hp]; exact .inl (by simp)
   rcases List.mem_cons.mp hp with hp | hp
   ·rw [hp]; exact .inl (by simp)
   rcases List.mem_cons.mp hp with hp | hp
   ·rw [hp]; exact .inl (by simp)
   ·exact .inl (by rw [St7.kinds p hp]; simp)
  ·intro p hp
   simp only [List.mem_cons, List.not_mem_nil, or_false] at hp
   subst hp; exact rfl
  ·((try dsimp +zetaDelta only); ksw_same)
 case fin =>
  rintro c u h9 tk9 ⟨St, hs⟩ F N
  rw [List.length_map, List.length_map, List.take_length] at St
  refine ⟨rfl, exi8 h9 tk9 _ c.os c.ps c.no c.np c.tl ⟨rfl, F, fun z hz => kstB_eq hk fun _ => by simp only [hz, Bool.false_eq_true, if_false], fun q hq => N q (.tail _ hq), St, hs⟩⟩
 ))only[↓bB]
theorem va0 (B : Below (ktrTop dp un gd cn cs L a ccd cl outer) base (envX cn cs L a ccd cl :: outer) h) (X : Frag.In (Mine.hd.heap_1 w.params) h) (T : Top p loose mean mg mb h) (hdp : dp + 8 < recursionLimit) (hun : un + 96 < cLine)
  (hE : PassesOwn (model PR w) ((ktrTop dp un gd cn cs L a ccd cl outer).deeper (eVA (Mine.hd.heap_1 w.params) L' cd)) (eVA (Mine.hd.heap_1 w.params) L' cd) E)
  (h3 : ts.length ≤ 3) (V : VIn tl R g s2 ts) (hne : NeA d.oA d.pA) (St : DS tl os ps ([], [])) (F : Fr h L' s.heap m) (hk : ∀ p ∈ ([(("rows" : Str), .ref R), ("draft", .ref d.D)] : List (Str × Value)), m p.1 = some p.2)
  (N : News h L' s.heap (([] : Led) ++ d.led os ps no np tl)) :
  wpAny (model PR w) ((ktrTop dp un gd cn cs L a ccd cl outer).deeper (eVA (Mine.hd.heap_1 w.params) L' cd)) (exec (stmtAt (Mine.hd.heap_1 w.params) 319 0) (eVA (Mine.hd.heap_1 w.params) L' cd))
   (Nx fun s' => ∃ h' tk m' os' ps' no' np' tl', s' = { s with heap := h', toks := tk } ∧ Fr h L' h' m' ∧ (∀ z, ([("ref" : Str), "begin", "added", "cond"] : List Str).contains z = false → m' z = m z) ∧ News h L' h' (([] : Led) ++ d.led os' ps' no' np' tl') ∧ DS tl' os' ps' (v1P ts) ∧ ∀ q ∈ tl, q ∈ tl') E s := by
 refine uB ?_
 simp(disch:=k_dflt(
 refine iB ?_
 have F := ksw_fr (ps := [(("rows" : Str), .ref R), ("draft", .ref d.D)]) (m₀ := m) (stored := []) hk (fun _ _ _ => rfl) F
 dsimp only [kstB] at F
 have yq : ∀ z ∈ ([] : Led), z.1 ≠ d.oA ∧ z.1 ≠ d.pA := List.forall_mem_nil _
 with_reducible refine' stmt_lit ?ho hE ?_
 case ho => k_is
 clear hE
 intro hE
 simp only [List.getD_eq_getElem?_getD, List.getElem?_cons_zero, Option.getD_some]
 have N9 : News h L' s.heap ((R, tup (ts.map fun t => .ref t.r)) :: (([] : Led) ++ d.led os ps no np tl)) := fun p hp => N p ((List.mem_cons.mp hp).elim (fun e => e ▸ List.mem_append.mpr (.inr (.tail _ (.tail _ (.tail _ (.tail _ V.R)))))) id)
 clear N
 k_here
 refine For_turns F ?_
 repeat' (first | ((fail_if_success (with_reducible show wpAny _ _ (pyIter _) _ _ _)); first | keq_rows | keq_hits | (k_unfold; (try dsimp only)) | walk1 | (dsimp only; walk1) | (leave1; try dsimp only)) | fail "no")
 k_here
 refine iter_tupTurns (lo := tup (ts.map fun t => .ref t.r)) (vs := ts.map fun t => .ref t.r) rfl F N9 (.head _) rfl rfl ?_
 intro I l1
 refine' items_forK (m₀ := m) (σ := QS) [(R, tup (ts.map fun t => .ref t.r))] (fun c => (R, tup (ts.map fun t => .ref t.r)) :: (([] : Led) ++ d.led c.os c.ps c.no c.np c.tl)) (hkp := fun c p hp => List.mem_singleton.mp hp ▸ .head _) (fun _ => [(("rows" : Str), .ref R), ("draft", .ref d.D)]) ["ref", "begin", "added", "cond"]
  (fun i c => DS c.tl c.os c.ps (v1P (ts.take i)) ∧ ∀ q ∈ tl, q ∈ c.tl) _ ⟨os, ps, no, np, tl⟩ ?hk ?hr ?hp ?turn ?fin
 case hk =>
  exact fc rfl (fc rfl (List.forall_mem_nil _))
 case hr =>
  intro z h2 _
  simp only [List.mem_cons, List.not_mem_nil, or_false, forall_eq, forall_eq_or_imp] at h2
  simp only [h2, if_false]
  simp
 case hp => exact ⟨St, fun _ h => h⟩
 case turn =>
  intro i x c u v h9 tk9 o hx hv ⟨St, hs⟩ ho F N
  rw [List.map_map, List.getElem?_map] at hx
  refine ea1_2 (Option.map_eq_some_iff.mp hx) ?_
  intro t ht hR9
  subst hR9
  obtain rfl : v = .ref t.r := hv
  have V' := V.mono hs
  obtain ⟨mr, ⟨ub, xb, mb'⟩, _, _⟩ := V'.row t (List.mem_of_getElem? ht)
  obtain ⟨z1, z2⟩ := v1_len (ts.take i)
  have hi3 : i < ts.length := (List.getElem?_eq_some_iff.mp ht).1
  have hsm : (v1P (ts.take i)).1.length + (v1P (ts.take i)).2.length < 990 := by rw [z1, z2, List.length_take]; lia
  have mrT : (t.r, tup [.ref t.f, .ref t.b, .ref t.a, .ref t.c]) ∈ (R, tup (ts.map fun t => .ref t.r)) :: (([] : Led) ++ d.led c.os c.ps c.no c.np c.tl) := .tail _ (List.mem_append.mpr (.inr (.tail _ (.tail _ (.tail _ (.tail _ mr))))))
  generalize hTT : (R, tup (ts.map fun t => .ref t.r)) :: (([] : Led) ++ d.led c.os c.ps c.no c.np c.tl) = TT at N mrT
  dsimp only [kstB] at F
  (try k_fold)
  repeat' (first | ((fail_if_success (with_reducible show wpAny _ _ (call (.ref _) _) _ _ _)); first | keq_rows | keq_hits | (k_unfold; (try dsimp only)) | walk1 | (dsimp only; walk1) | (leave1; try dsimp only)) | fail "no")
  rename Fr _ _ _ _ => F8
  rename News _ _ _ _ => N8
  subst hTT
  k_here
  have N8' : News h L' _ (((I, o) :: ([] : Led)) ++ d.led c.os c.ps c.no c.np c.tl) := fun q hq => N8 q ((List.mem_cons.mp hq).elim (fun e => e ▸ .head _) fun h => .tail _ (.tail _ h))
  have oI : I ≠ d.oA ∧ I ≠ d.pA := by
   have hm := fun (z : Addr × Obj) (hz : z ∈ (R, tup (ts.map fun t => .ref t.r)) :: (([] : Led) ++ d.led os ps no np tl)) => Nat.ne_of_gt (l1 z hz)
   exact ⟨hm (d.oA, listOf os no) (.tail _ (List.mem_append.mpr (.inr (.tail _ (.tail _ (.head _)))))), hm (d.pA, listOf ps np) (.tail _ (List.mem_append.mpr (.inr (.tail _ (.tail _ (.tail _ (.head _)))))))⟩
  k_dflt (refine' dcall (put_step_c w d _ _ hsm) B F8 X N8' T rfl ?kd ?ku (fc oI yq) (fc mb' (List.forall_mem_nil _)) hne St ?_; (case kd => ktr_room); (case ku => ktr_units))
  rintro r os' ps' no' np' tl' h' tk' rfl F7 N7 St7 hs7
  clear N8 N8' F8
  (try dsimp only)
  repeat' (first | ((fail_if_success (with_reducible show KfPost _ _ _ _ _ _ _ _ _ _ _ _ _)); first | keq_rows | keq_hits | (k_unfold; (try dsimp only)) | walk1 | (dsimp only; walk1) | (leave1; try dsimp only)) | fail "no")
  show KfEnd _ _ _ _ _ _ _ _ _ _ _
  have e : v1P (ts.take (i + 1)) = stepP (v1P (ts.take i)) t.f t.b "=" := by
   have e9 : ts.take (i + 1) = ts.take i ++ [t] := by rw [List.take_add_one, ht]; rfl
   rw [e9]; simp only [v1P, List.foldl_append, List.foldl_cons, List.foldl_nil]
  have St8 : DS tl' os' ps' (v1P (ts.take (i + 1))) := by rw [e]; exact St7
  have V8 := V'.mono hs7
  have sub8 : ∀ p ∈ (R, tup (ts.map fun t => .ref t.r)) :: (([] : Led) ++ d.led os' ps' no' np' tl'), p ∈ ((I, o) :: ([] : Led)) ++ d.led os' ps' no' np' tl' := fun p hp => by
   rcases List.mem_cons.mp hp with hp | hp
   ·rw [hp]; exact List.mem_append.mpr (.inr (.tail _ (.tail _ (.tail _ (.tail _ V8.R)))))
   ·exact .tail _ hp
  refine' kf_end (k := "tuple_iterator") ⟨os', ps', no', np', tl'⟩ F7 N7 (.head _) ho sub8 ?_ ?_ ?_ ⟨St8, fun q hq => hs7 _ (hs _ hq)⟩
  ·intro p hp
   rcases List.mem_cons.mp hp with hp | hp
   ·rw [hp]; exact .inl (by simp)
   rcases List.mem_cons.mp hp with hp | hp
   ·rw [hp]; exact .inl (by simp)
   rcases List.mem_cons.mp hp with hp | hp
   ·rw [hp]; exact .inl (by simp)
   rcases List.mem_cons.mp hp with hp | hp
   ·rw [hp]; exact .inl (by simp)
   rcases List.mem_cons.mp hp with hp | hp
   ·rw [hp]; exact .inl (by simp)
   ·exact .inl (by rw [St7.kinds p hp]; simp)
  ·exact fc rfl (fc rfl (List.forall_mem_nil _))
  ·((try dsimp +zetaDelta only); ksw_same)
 case fin =>
  rintro c u h9 tk9 ⟨St, hs⟩ F N
  rw [List.length_map, List.length_map, List.take_length] at St
  refine ⟨rfl, exi8 h9 tk9 _ c.os c.ps c.no c.np c.tl ⟨rfl, F, fun z hz => kstB_eq hk fun _ => by simp only [hz, Bool.false_eq_true, if_false], fun q hq => N q (.tail _ hq), St, hs⟩⟩
 ))only[↓bB]
end

end N1p
section N2p
open PyProof.Rows.LCg
noncomputable def labs (k n : Nat) : List Int := (List.range n).map fun (i : Nat) => ((k + i : Nat) : Int)
theorem labs_succ (k n : Nat) : labs k (n + 1) = labs k n ++ [((k + n : Nat) : Int)] := by
 unfold labs; rw [List.range_succ, List.map_append]; rfl
theorem labs_at {k n i : Nat} (h : i < n) : (labs k n)[i]? = some ((k + i : Nat) : Int) := by
 unfold labs; rw [List.getElem?_map, List.getElem?_range h]; rfl
theorem labs_len (k n : Nat) : (labs k n).length = n := by simp [labs]
noncomputable def freshN (x : AP) (n : Nat) : AP := (x.1, x.2 ++ List.replicate n (-1))
theorem freshN_len (x : AP) (n : Nat) : (freshN x n).2.length = x.2.length + n := by simp [freshN]
theorem Sz.freshN {x : AP} {n k : Nat} (h : Sz x n) (hk : k ≤ 3) : Sz (freshN x k) (n + 3) := by
 unfold Sz at *; rw [freshN_len]; show x.1.length + _ ≤ _; lia
theorem freshN_succ (x : AP) (n : Nat) : freshN x (n + 1) = (x.1, (freshN x n).2 ++ [-1]) := by
 simp only [freshN, List.replicate_succ', List.append_assoc]
section
variable {w : World} {p : Program} {loose : List Str} {mean : ExcName → Option Value} {mg mb : Str → Option Value} {dp un : Nat} {gd : Option (List Code)} {cn : Str} {cs : Scope} {L a : Addr} {ccd cd : Value} {cl : List (Str × Addr)} {outer : List Env} {base h : Heap} {L' : Addr} {m : Str → Option Value} {s : Shared} {E : Value → Shared → Prop} {d : DAt} {os ps : Array Value} {no np : Nat} {tl : Led} {R g s2 : Addr} {ts : List T4} {q : Obj} {Y : Led} {x : AP}
theorem vs1 (B : Below (ktrTop dp un gd cn cs L a ccd cl outer) base (envX cn cs L a ccd cl :: outer) h) (X : Frag.In (Mine.hd.heap_1 w.params) h) (T : Top p loose mean mg mb h) (hdp : dp + 8 < recursionLimit) (hun : un + 96 < cLine)
  (hE : PassesOwn (model PR w) ((ktrTop dp un gd cn cs L a ccd cl outer).deeper (eV (Mine.hd.heap_1 w.params) L' cd)) (eV (Mine.hd.heap_1 w.params) L' cd) E)
  (hq : q.data = .cell (some (.ref d.D))) (mq : (L' + 1, q) ∈ Y) (yq : ∀ z ∈ Y, z.1 ≠ d.oA ∧ z.1 ≠ d.pA) (h3 : ts.length ≤ 3) (hx : x.1.length + x.2.length < 900) (mR : (R, tup (ts.map fun t => .ref t.r)) ∈ tl) (hne : NeA d.oA d.pA) (St : DS tl os ps x) (F : Fr h L' s.heap m) (hk : m ("rows" : Str) = some (.ref R))
  (N : News h L' s.heap (Y ++ d.led os ps no np tl)) :
  wpAny (model PR w) ((ktrTop dp un gd cn cs L a ccd cl outer).deeper (eV (Mine.hd.heap_1 w.params) L' cd)) (exec (stmtAt (Mine.hd.heap_1 w.params) 312 1) (eV (Mine.hd.heap_1 w.params) L' cd))
   (Nx fun s' => ∃ h' tk m' D ys ps' np', s' = { s with heap := h', toks := tk } ∧ Fr h L' h' m' ∧ m' ("checks" : Str) = some (.ref D) ∧ (∀ z, z ≠ ("checks" : Str) → m' z = m z) ∧ IntsAre ys (labs x.2.length ts.length) ∧ (D ≠ d.oA ∧ D ≠ d.pA) ∧ News h L' h' ((D, lst ys) :: (Y ++ d.led os ps' no np' tl)) ∧ DS tl os ps' (freshN x ts.length)) E s := by
 refine uB ?_
 simp(disch:=k_dflt(
 refine iB ?_
 with_reducible refine' stmt_lit ?ho hE ?_
 case ho => k_is
 clear hE
 intro hE
 simp only [List.getD_eq_getElem?_getD, List.getElem?_cons_succ, List.getElem?_cons_zero, Option.getD_some]
 have F := ksw_fr (ps := [(("rows" : Str), .ref R)]) (m₀ := m) (stored := []) (by simpa using hk) (fun _ _ _ => rfl) F
 dsimp only [kstB] at F
 have mRT : (R, tup (ts.map fun t => .ref t.r)) ∈ Y ++ d.led os ps no np tl := List.mem_append.mpr (.inr (.tail _ (.tail _ (.tail _ (.tail _ mR)))))
 k_here
 k_dflt (refine' Assign_ListComp_T (h₀ := h) (L := L') (cl := [(Str.ofString "draft", L' + 1)]) F rfl ?hsw ?hclos (by decide) rfl (by decide) rfl rfl rfl ?h2)
 case hsw => rfl
 case hclos => rfl
 case h2 =>
  repeat' (first | ((fail_if_success (with_reducible show SrcT _ _ _ _ _ _ _ _ _ _ _ _ _ _)); first | keq_rows | keq_hits | (k_unfold; (try dsimp only)) | walk1 | (dsimp only; walk1) | (leave1; try dsimp only)) | fail "no")
  k_here
  refine' ⟨R, (ts.map fun t => Value.ref t.r).toArray, Y ++ d.led os ps no np tl, rfl, rfl, F, N, ⟨_, mRT, rfl, _, rfl⟩, ?sz, ?_⟩
  case sz => rw [List.size_toArray, List.length_map, sizeLine_eq]; lia
  rintro s₂ ⟨g9, e9⟩
  subst e9
  refine comp_induct (J := fun i ys news => ∃ ps' np', news = Y ++ d.led os ps' no np' tl ∧ DS tl os ps' (freshN x i) ∧ IntsAre ys (labs x.2.length i)) ?step ?fin _ 0 [] _ (Nat.zero_add _) ⟨ps, np, rfl, by simpa [freshN] using St, .nil⟩
  case fin =>
   intro ys news hK9
   with_reducible refine ex2 hK9 ?_
   clear hK9
   intro ps' np' hX9
   with_reducible refine an3 hX9 ?_
   clear hX9
   intro hR9
   subst hR9
   intro St1 hi1
   rintro D h1 tk1 F1 N1 o1
   rw [List.size_toArray, List.length_map] at St1 hi1
   refine ⟨rfl, exi7 h1 tk1 _ D ys ps' np' ⟨rfl, F1, if_pos rfl, fun z hz => ?_, hi1, ⟨Ne.symm ((off1_all o1).all (d.oA, listOf os no) ?_), Ne.symm ((off1_all o1).all (d.pA, listOf ps' np') ?_)⟩, N1, St1⟩⟩
   ·show (if z = _ then _ else (if z = ("rows" : Str) then _ else _)) = _
    rw [if_neg hz]
    by_cases e : z = ("rows" : Str)
    ·rw [if_pos e, e, hk]
    ·rw [if_neg e]; rfl
   ·exact List.mem_append.mpr (.inr (.tail _ (.tail _ (.head _))))
   ·exact List.mem_append.mpr (.inr (.tail _ (.tail _ (.tail _ (.head _)))))
  case step =>
   intro i ys news hi hK9
   with_reducible refine ex2 hK9 ?_
   clear hK9
   intro ps' np' hX9
   with_reducible refine an3 hX9 ?_
   clear hX9
   intro hR9
   subst hR9
   intro St1 hi1
   rintro v I oI C oC D m₂ h1 tk1 E1 hv hC hx2 F9 N9 off ne
   rw [List.size_toArray, List.length_map] at hi
   have mq9 : (L' + 1, q) ∈ (I, oI) :: (C, oC) :: (D, lst ys) :: (Y ++ d.led os ps' no np' tl) := .tail _ (.tail _ (.tail _ (List.mem_append.mpr (.inl mq))))
   repeat' (first | ((fail_if_success (with_reducible show wpAny _ _ (eval (Expr.Name _ _) (compEnvC _ _ _ _)) _ _ _)); first | keq_rows | keq_hits | (k_unfold; (try dsimp only)) | walk1 | (dsimp only; walk1) | (leave1; try dsimp only)) | fail "no")
   k_here
   k_dflt (refine' nameCC N9 rfl mq9 hq ?_)
   have m1 : (d.D, instObj 209 d.dx) ∈ (I, oI) :: (C, oC) :: (D, lst ys) :: (Y ++ d.led os ps' no np' tl) := .tail _ (.tail _ (.tail _ (List.mem_append.mpr (.inr (.head _)))))
   have m2 : (d.dx, dictOf (draftD d.k d.pr (.ref d.oA) (.ref d.pA) d.sl d.hd) 5) ∈ (I, oI) :: (C, oC) :: (D, lst ys) :: (Y ++ d.led os ps' no np' tl) := .tail _ (.tail _ (.tail _ (List.mem_append.mpr (.inr (.tail _ (.head _))))))
   generalize hTT : (I, oI) :: (C, oC) :: (D, lst ys) :: (Y ++ d.led os ps' no np' tl) = TT at N9 m1 m2
   (try dsimp only)
   repeat' (first | ((fail_if_success (with_reducible show wpAny _ _ (call (.ref _) _) _ _ _)); first | keq_rows | keq_hits | (k_unfold; (try dsimp only)) | walk1 | (dsimp only; walk1) | (leave1; try dsimp only)) | fail "no")
   rename News _ _ _ _ => N8
   rename Fr _ _ _ _ => F8
   subst hTT
   k_here
   refine an3 (off3_all off) ?_
   intro o1 o2 o3
   have ma : (d.oA, listOf os no) ∈ Y ++ d.led os ps' no np' tl := List.mem_append.mpr (.inr (.tail _ (.tail _ (.head _))))
   have mb : (d.pA, listOf ps' np') ∈ Y ++ d.led os ps' no np' tl := List.mem_append.mpr (.inr (.tail _ (.tail _ (.tail _ (.head _)))))
   have hsm : (freshN x i).1.length + (freshN x i).2.length < 1000 := by rw [freshN_len]; show x.1.length + _ < _; lia
   k_dflt (refine' dfresh (Y := (I, oI) :: (C, oC) :: (D, lst ys) :: Y) hsm B ?kF X ?kN T ?kk ?kd ?ku (fc ⟨Ne.symm (o1.all _ ma), Ne.symm (o1.all _ mb)⟩ (fc ⟨Ne.symm (o2.all _ ma), Ne.symm (o2.all _ mb)⟩ (fc ⟨Ne.symm (o3.all _ ma), Ne.symm (o3.all _ mb)⟩ yq))) hne St1 ?_; (case kF => exact F8); (case kN => exact N8); (case kk => exact rfl); (case kd => ktr_room); (case ku => ktr_units))
   intro t ps2 np2 h2 tk2 F2 N2 St2
   refine compEnd_of F2 N2 off (by simp [DAt.led, dLed]) ⟨_, List.mem_append.mpr (.inr (.tail _ (.tail _ (.tail _ (.tail _ mR))))), rfl, _, rfl⟩ ⟨ps2, np2, rfl, ?_, ?_⟩
   ·rw [freshN_succ]; exact St2
   ·rw [labs_succ, ← freshN_len]; exact IntsAre.append hi1 (.cons _ _ .nil)
 ))only[↓bB]
theorem vs2 (B : Below (ktrTop dp un gd cn cs L a ccd cl outer) base (envX cn cs L a ccd cl :: outer) h) (X : Frag.In (Mine.hd.heap_1 w.params) h) (T : Top p loose mean mg mb h) (hdp : dp + 8 < recursionLimit) (hun : un + 96 < cLine)
  (hE : PassesOwn (model PR w) ((ktrTop dp un gd cn cs L a ccd cl outer).deeper (eV (Mine.hd.heap_1 w.params) L' cd)) (eV (Mine.hd.heap_1 w.params) L' cd) E)
  (hq : q.data = .cell (some (.ref d.D))) (mq : (L' + 1, q) ∈ Y) (yq : ∀ z ∈ Y, z.1 ≠ d.oA ∧ z.1 ≠ d.pA) (h3 : ts.length ≤ 3) (hx : x.1.length + x.2.length < 900) (mR : (R, tup (ts.map fun t => .ref t.r)) ∈ tl) (hne : NeA d.oA d.pA) (St : DS tl os ps x) (F : Fr h L' s.heap m) (hk : m ("rows" : Str) = some (.ref R))
  (N : News h L' s.heap (Y ++ d.led os ps no np tl)) :
  wpAny (model PR w) ((ktrTop dp un gd cn cs L a ccd cl outer).deeper (eV (Mine.hd.heap_1 w.params) L' cd)) (exec (stmtAt (Mine.hd.heap_1 w.params) 312 2) (eV (Mine.hd.heap_1 w.params) L' cd))
   (Nx fun s' => ∃ h' tk m' D ys ps' np', s' = { s with heap := h', toks := tk } ∧ Fr h L' h' m' ∧ m' ("overs" : Str) = some (.ref D) ∧ (∀ z, z ≠ ("overs" : Str) → m' z = m z) ∧ IntsAre ys (labs x.2.length ts.length) ∧ (D ≠ d.oA ∧ D ≠ d.pA) ∧ News h L' h' ((D, lst ys) :: (Y ++ d.led os ps' no np' tl)) ∧ DS tl os ps' (freshN x ts.length)) E s := by
 refine uB ?_
 simp(disch:=k_dflt(
 refine iB ?_
 with_reducible refine' stmt_lit ?ho hE ?_
 case ho => k_is
 clear hE
 intro hE
 simp only [List.getD_eq_getElem?_getD, List.getElem?_cons_succ, List.getElem?_cons_zero, Option.getD_some]
 have F := ksw_fr (ps := [(("rows" : Str), .ref R)]) (m₀ := m) (stored := []) (by simpa using hk) (fun _ _ _ => rfl) F
 dsimp only [kstB] at F
 have mRT : (R, tup (ts.map fun t => .ref t.r)) ∈ Y ++ d.led os ps no np tl := List.mem_append.mpr (.inr (.tail _ (.tail _ (.tail _ (.tail _ mR)))))
 k_here
 k_dflt (refine' Assign_ListComp_T (h₀ := h) (L := L') (cl := [(Str.ofString "draft", L' + 1)]) F rfl ?hsw ?hclos (by decide) rfl (by decide) rfl rfl rfl ?h2)
 case hsw => rfl
 case hclos => rfl
 case h2 =>
  repeat' (first | ((fail_if_success (with_reducible show SrcT _ _ _ _ _ _ _ _ _ _ _ _ _ _)); first | keq_rows | keq_hits | (k_unfold; (try dsimp only)) | walk1 | (dsimp only; walk1) | (leave1; try dsimp only)) | fail "no")
  k_here
  refine' ⟨R, (ts.map fun t => Value.ref t.r).toArray, Y ++ d.led os ps no np tl, rfl, rfl, F, N, ⟨_, mRT, rfl, _, rfl⟩, ?sz, ?_⟩
  case sz => rw [List.size_toArray, List.length_map, sizeLine_eq]; lia
  rintro s₂ ⟨g9, e9⟩
  subst e9
  refine comp_induct (J := fun i ys news => ∃ ps' np', news = Y ++ d.led os ps' no np' tl ∧ DS tl os ps' (freshN x i) ∧ IntsAre ys (labs x.2.length i)) ?step ?fin _ 0 [] _ (Nat.zero_add _) ⟨ps, np, rfl, by simpa [freshN] using St, .nil⟩
  case fin =>
   intro ys news hK9
   with_reducible refine ex2 hK9 ?_
   clear hK9
   intro ps' np' hX9
   with_reducible refine an3 hX9 ?_
   clear hX9
   intro hR9
   subst hR9
   intro St1 hi1
   rintro D h1 tk1 F1 N1 o1
   rw [List.size_toArray, List.length_map] at St1 hi1
   refine ⟨rfl, exi7 h1 tk1 _ D ys ps' np' ⟨rfl, F1, if_pos rfl, fun z hz => ?_, hi1, ⟨Ne.symm ((off1_all o1).all (d.oA, listOf os no) ?_), Ne.symm ((off1_all o1).all (d.pA, listOf ps' np') ?_)⟩, N1, St1⟩⟩
   ·show (if z = _ then _ else (if z = ("rows" : Str) then _ else _)) = _
    rw [if_neg hz]
    by_cases e : z = ("rows" : Str)
    ·rw [if_pos e, e, hk]
    ·rw [if_neg e]; rfl
   ·exact List.mem_append.mpr (.inr (.tail _ (.tail _ (.head _))))
   ·exact List.mem_append.mpr (.inr (.tail _ (.tail _ (.tail _ (.head _)))))
  case step =>
   intro i ys news hi hK9
   with_reducible refine ex2 hK9 ?_
   clear hK9
   intro ps' np' hX9
   with_reducible refine an3 hX9 ?_
   clear hX9
   intro hR9
   subst hR9
   intro St1 hi1
   rintro v I oI C oC D m₂ h1 tk1 E1 hv hC hx2 F9 N9 off ne
   rw [List.size_toArray, List.length_map] at hi
   have mq9 : (L' + 1, q) ∈ (I, oI) :: (C, oC) :: (D, lst ys) :: (Y ++ d.led os ps' no np' tl) := .tail _ (.tail _ (.tail _ (List.mem_append.mpr (.inl mq))))
   repeat' (first | ((fail_if_success (with_reducible show wpAny _ _ (eval (Expr.Name _ _) (compEnvC _ _ _ _)) _ _ _)); first | keq_rows | keq_hits | (k_unfold; (try dsimp only)) | walk1 | (dsimp only; walk1) | (leave1; try dsimp only)) | fail "no")
   k_here
   k_dflt (refine' nameCC N9 rfl mq9 hq ?_)
   have m1 : (d.D, instObj 209 d.dx) ∈ (I, oI) :: (C, oC) :: (D, lst ys) :: (Y ++ d.led os ps' no np' tl) := .tail _ (.tail _ (.tail _ (List.mem_append.mpr (.inr (.head _)))))
   have m2 : (d.dx, dictOf (draftD d.k d.pr (.ref d.oA) (.ref d.pA) d.sl d.hd) 5) ∈ (I, oI) :: (C, oC) :: (D, lst ys) :: (Y ++ d.led os ps' no np' tl) := .tail _ (.tail _ (.tail _ (List.mem_append.mpr (.inr (.tail _ (.head _))))))
   generalize hTT : (I, oI) :: (C, oC) :: (D, lst ys) :: (Y ++ d.led os ps' no np' tl) = TT at N9 m1 m2
   (try dsimp only)
   repeat' (first | ((fail_if_success (with_reducible show wpAny _ _ (call (.ref _) _) _ _ _)); first | keq_rows | keq_hits | (k_unfold; (try dsimp only)) | walk1 | (dsimp only; walk1) | (leave1; try dsimp only)) | fail "no")
   rename News _ _ _ _ => N8
   rename Fr _ _ _ _ => F8
   subst hTT
   k_here
   refine an3 (off3_all off) ?_
   intro o1 o2 o3
   have ma : (d.oA, listOf os no) ∈ Y ++ d.led os ps' no np' tl := List.mem_append.mpr (.inr (.tail _ (.tail _ (.head _))))
   have mb : (d.pA, listOf ps' np') ∈ Y ++ d.led os ps' no np' tl := List.mem_append.mpr (.inr (.tail _ (.tail _ (.tail _ (.head _)))))
   have hsm : (freshN x i).1.length + (freshN x i).2.length < 1000 := by rw [freshN_len]; show x.1.length + _ < _; lia
   k_dflt (refine' dfresh (Y := (I, oI) :: (C, oC) :: (D, lst ys) :: Y) hsm B ?kF X ?kN T ?kk ?kd ?ku (fc ⟨Ne.symm (o1.all _ ma), Ne.symm (o1.all _ mb)⟩ (fc ⟨Ne.symm (o2.all _ ma), Ne.symm (o2.all _ mb)⟩ (fc ⟨Ne.symm (o3.all _ ma), Ne.symm (o3.all _ mb)⟩ yq))) hne St1 ?_; (case kF => exact F8); (case kN => exact N8); (case kk => exact rfl); (case kd => ktr_room); (case ku => ktr_units))
   intro t ps2 np2 h2 tk2 F2 N2 St2
   refine compEnd_of F2 N2 off (by simp [DAt.led, dLed]) ⟨_, List.mem_append.mpr (.inr (.tail _ (.tail _ (.tail _ (.tail _ mR))))), rfl, _, rfl⟩ ⟨ps2, np2, rfl, ?_, ?_⟩
   ·rw [freshN_succ]; exact St2
   ·rw [labs_succ, ← freshN_len]; exact IntsAre.append hi1 (.cons _ _ .nil)
 ))only[↓bB]
end

end N2p
section N3p
theorem tup_atz {prog : Program} {w : World} {A : Around} {E : Value → Shared → Prop} {s : Shared} {h₀ : Heap} {L T : Addr} {news : Led} {vs : List Value} {z : Int} {i : Nat} {u : Tok} {v : Value} {value slice : Expr} {Q : Value → Shared → Prop} (N : News h₀ L s.heap news) (hm : (T, tup vs) ∈ news) (hz : z = ((i : Nat) : Int) ∨ z + vs.length = ((i : Nat) : Int) ∧ z < 0) (hv : vs[i]? = some v) (hl : vs.length ≤ 1000) (h : Q v s)
  (hs : subscripted slice false (.ref T) (.int z u) = operate [.ref T, .int z u] (getItem (.ref T) (.int z u)) := by with_unfolding_all rfl) :
  wpAny (model prog w) A (subscriptTail value slice (.ref T) (.int z u)) Q E s := by
 have ht : IsTup s.heap T vs.toArray := News.isTup N hm
 have hi : i < vs.length := (List.getElem?_eq_some_iff.mp hv).1
 refine tail_any ht.typeIs slot_tuple_getitem.lookup (getItem_tuple ht (by lia) (by lia) (j := i) ?_ (by simpa using hv) h) hs
 rw [List.size_toArray]
 rcases hz with rfl | ⟨hz, h0⟩
 ·rw [seqIndex_of (by lia) (by lia)]; rfl
 ·unfold seqIndex?
  simp only [h0, if_true]; rw [hz]; simp [hi]
theorem list_atz {prog : Program} {w : World} {A : Around} {E : Value → Shared → Prop} {s : Shared} {h₀ : Heap} {L T : Addr} {news : Led} {vs : List Value} {z : Int} {i n : Nat} {u : Tok} {v : Value} {value slice : Expr} {Q : Value → Shared → Prop} (N : News h₀ L s.heap news) (hm : (T, listOf vs.toArray n) ∈ news) (hz : z = ((i : Nat) : Int)) (hv : vs[i]? = some v) (hl : vs.length ≤ 1000) (h : Q v s)
  (hs : subscripted slice false (.ref T) (.int z u) = operate [.ref T, .int z u] (getItem (.ref T) (.int z u)) := by with_unfolding_all rfl) :
  wpAny (model prog w) A (subscriptTail value slice (.ref T) (.int z u)) Q E s := by
 subst hz
 have hi : i < vs.length := (List.getElem?_eq_some_iff.mp hv).1
 exact list_at N hm hv (by lia) h hs
theorem led_y {Y : Led} {d : DAt} {os ps : Array Value} {no np : Nat} {tl : Led} {z : Addr × Obj} (h : z ∈ Y) : z ∈ Y ++ d.led os ps no np tl := List.mem_append.mpr (.inl h)
theorem led_t {Y : Led} {d : DAt} {os ps : Array Value} {no np : Nat} {tl : Led} {z : Addr × Obj} (h : z ∈ tl) : z ∈ Y ++ d.led os ps no np tl := List.mem_append.mpr (.inr (.tail _ (.tail _ (.tail _ (.tail _ h)))))
theorem led_1 {Y : Led} {d : DAt} {os ps : Array Value} {no np : Nat} {tl : Led} : (d.D, instObj 209 d.dx) ∈ Y ++ d.led os ps no np tl := List.mem_append.mpr (.inr (.head _))
theorem led_2 {Y : Led} {d : DAt} {os ps : Array Value} {no np : Nat} {tl : Led} : (d.dx, dictOf (draftD d.k d.pr (.ref d.oA) (.ref d.pA) d.sl d.hd) 5) ∈ Y ++ d.led os ps no np tl := List.mem_append.mpr (.inr (.tail _ (.head _)))
theorem led_o {Y : Led} {d : DAt} {os ps : Array Value} {no np : Nat} {tl : Led} : (d.oA, listOf os no) ∈ Y ++ d.led os ps no np tl := List.mem_append.mpr (.inr (.tail _ (.tail _ (.head _))))
theorem led_p {Y : Led} {d : DAt} {os ps : Array Value} {no np : Nat} {tl : Led} : (d.pA, listOf ps np) ∈ Y ++ d.led os ps no np tl := List.mem_append.mpr (.inr (.tail _ (.tail _ (.tail _ (.head _)))))
section
variable {prog : Program} {w : World} {A : Around} {E : Value → Shared → Prop} {s : Shared} {env : Env} {h₀ : Heap} {target : Expr} {body : List Stmt} {Q : Flow → Shared → Prop} {Y : Led} {d : DAt} {os ps : Array Value} {no np : Nat} {tl : Led}
theorem dl_range (J : Nat → AP) (PS : List (Str × Value)) (st : List Str) {m : Str → Option Value} {r : Addr} {a b c : Int} {t u v : Tok} {n : Nat} (hh : A.handled = none) (F : Fr h₀ env.locals s.heap m) (N : News h₀ env.locals s.heap (Y ++ d.led os ps no np tl)) (hr : IsRange s.heap r a b c t u v) (hsm : Builtin.Range.small a b c = true) (hn : Builtin.Range.rangeSize a b c = ((n : Nat) : Int)) (hk : ∀ p ∈ PS, m p.1 = some p.2) (St : DS tl os ps (J 0))
  (turn : ∀ i (q : QS) (u : Str → Option Value) t h tk I o, i < n → DS q.tl q.os q.ps (J i) → (∀ p ∈ tl, p ∈ q.tl) → o.cls = .type "range_iterator" → (I ≠ d.oA ∧ I ≠ d.pA) → (∀ p ∈ Y, @Ne Nat p.1 I) → Fr h₀ env.locals h (kstB (fun z => if st.contains z then u z else m z) PS) → News h₀ env.locals h ((I, o) :: (Y ++ d.led q.os q.ps q.no q.np q.tl)) →
   wpAny (model prog w) A (assign target env (.int (a + (i : Int) * c) t)) (fun _ s₂ => wpAny (model prog w) A (execs body env) (KfPost h₀ env.locals { s with heap := h, toks := tk } I o (fun q : QS => Y ++ d.led q.os q.ps q.no q.np q.tl) (fun _ => PS) st m (fun q => DS q.tl q.os q.ps (J (i + 1)) ∧ ∀ p ∈ tl, p ∈ q.tl) Q) E s₂) E { s with heap := h, toks := tk })
  (fin : ∀ (q : QS) (u : Str → Option Value) h tk, DS q.tl q.os q.ps (J n) → (∀ p ∈ tl, p ∈ q.tl) → Fr h₀ env.locals h (kstB (fun z => if st.contains z then u z else m z) PS) → News h₀ env.locals h (Y ++ d.led q.os q.ps q.no q.np q.tl) → Q .next { s with heap := h, toks := tk }) :
  wpAny (model prog w) A (pyIter (.ref r)) (fun it s₂ => TurnsAt prog w A h₀ env target body Q E it s₂) E s := by
 refine' iter_rangeTurns (n := n) hh F N hr hsm hn rfl ?_
 intro I l1
 refine' items_forK (m₀ := m) (σ := QS) [] (fun q => Y ++ d.led q.os q.ps q.no q.np q.tl) (hkp := fun _ _ h => nomatch h) (fun _ => PS) st (fun i q => DS q.tl q.os q.ps (J i) ∧ ∀ p ∈ tl, p ∈ q.tl) _ ⟨os, ps, no, np, tl⟩ hk ?hr ⟨St, fun _ h => h⟩ ?turn ?fin
 case hr => intro z _ _; rfl
 case turn =>
  intro i x q u v h tk o hx hv hP ho F N
  have hi : i < n := by
   rcases Nat.lt_or_ge i n with h | h
   ·exact h
   ·rw [List.getElem?_eq_none (by simpa using h)] at hx; cases hx
  rw [List.getElem?_map, List.getElem?_range hi] at hx
  cases hx
  obtain ⟨ti, rfl⟩ := hv
  exact turn i q u ti h tk I o hi hP.1 hP.2 ho ⟨Nat.ne_of_gt (l1 _ led_o), Nat.ne_of_gt (l1 _ led_p)⟩ (fun p hp => Nat.ne_of_lt (l1 p (led_y hp))) F N
 case fin =>
  intro q u h tk hP F N
  rw [List.length_map, List.length_range] at hP
  exact fin q u h tk hP.1 hP.2 F N
theorem dl_end {L I : Addr} {o : Obj} {PS : List (Str × Value)} {st : List Str} {m m' : Str → Option Value} {x : AP} {h' : Heap} {tk : Nat} {os' ps' : Array Value} {no' np' : Nat} {tl' : Led} (F : Fr h₀ L h' m') (N : News h₀ L h' ((I, o) :: Y ++ d.led os' ps' no' np' tl')) (ho : o.cls = .type "range_iterator") (hY : ∀ p ∈ Y, @Ne Nat p.1 I)
  (hk : ∀ p ∈ PS, m' p.1 = some p.2) (hr : ∀ z, (∀ p ∈ PS, z ≠ p.1) → st.contains z = false → m' z = m z) (St : DS tl' os' ps' x) (hs : ∀ p ∈ tl, p ∈ tl') :
  KfEnd h₀ L s I o (fun q : QS => Y ++ d.led q.os q.ps q.no q.np q.tl) (fun _ => PS) st m (fun q => DS q.tl q.os q.ps x ∧ ∀ p ∈ tl, p ∈ q.tl) { s with heap := h', toks := tk } := by
 refine kf_end (k := "range_iterator") ⟨os', ps', no', np', tl'⟩ F N (.head _) ho (fun p hp => .tail _ hp) (fun p hp => ?_) hk hr ⟨St, hs⟩
 rcases List.mem_append.mp hp with hp | hp
 ·exact .inr (hY p hp)
 rcases List.mem_cons.mp hp with hp | hp
 ·rw [hp]; exact .inl (by simp)
 rcases List.mem_cons.mp hp with hp | hp
 ·rw [hp]; exact .inl (by simp)
 rcases List.mem_cons.mp hp with hp | hp
 ·rw [hp]; exact .inl (by simp)
 rcases List.mem_cons.mp hp with hp | hp
 ·rw [hp]; exact .inl (by simp)
 ·exact .inl (by rw [St.kinds p hp]; simp)
end
noncomputable def v3P (x : AP) (ts : List T4) (c0 o0 : Nat) : Nat → AP
 | 0 => x
 | i + 1 => match ts[i]? with
  | some t => condP (hereP (v3P x ts c0 o0 i) (c0 + i)) t.c ((o0 + i : Nat) : Int)
  | none => v3P x ts c0 o0 i
theorem v3_len (x : AP) (ts : List T4) (c0 o0 : Nat) : ∀ i, i ≤ ts.length → (v3P x ts c0 o0 i).1.length = x.1.length + 2 * i ∧ (v3P x ts c0 o0 i).2.length = x.2.length + i
 | 0, _ => ⟨rfl, rfl⟩
 | i + 1, h => by
  obtain ⟨e1, e2⟩ := v3_len x ts c0 o0 i (by lia)
  have ht : ts[i]? = some (ts[i]'(by lia)) := List.getElem?_eq_getElem _
  simp only [v3P, ht, condP, hereP, List.length_append, List.length_cons, List.length_nil, List.length_set, e1, e2]
  lia
theorem Sz.v3 {x : AP} {ts : List T4} {c0 o0 i n : Nat} (h : Sz x n) (h3 : ts.length ≤ 3) (hi : i ≤ ts.length) : Sz (v3P x ts c0 o0 i) (n + 9) := by
 obtain ⟨e1, e2⟩ := v3_len x ts c0 o0 i hi
 unfold Sz at *; lia

end N3p
section N4p
open PyProof.Rows.LCg
section
variable {w : World} {p : Program} {loose : List Str} {mean : ExcName → Option Value} {mg mb : Str → Option Value} {dp un : Nat} {gd : Option (List Code)} {cn : Str} {cs : Scope} {L a : Addr} {ccd cd : Value} {cl : List (Str × Addr)} {outer : List Env} {base h : Heap} {L' : Addr} {m : Str → Option Value} {s : Shared} {E : Value → Shared → Prop} {d : DAt} {os ps : Array Value} {no np : Nat} {tl : Led} {R g s2 : Addr} {ts : List T4} {q : Obj} {Y : Led} {x : AP}
theorem vs3 {Dc Do : Addr} {cys oys : List Value} {c0 o0 : Nat} (B : Below (ktrTop dp un gd cn cs L a ccd cl outer) base (envX cn cs L a ccd cl :: outer) h) (X : Frag.In (Mine.hd.heap_1 w.params) h) (T : Top p loose mean mg mb h) (hdp : dp + 8 < recursionLimit) (hun : un + 96 < cLine)
  (hE : PassesOwn (model PR w) ((ktrTop dp un gd cn cs L a ccd cl outer).deeper (eV (Mine.hd.heap_1 w.params) L' cd)) (eV (Mine.hd.heap_1 w.params) L' cd) E)
  (hq : q.data = .cell (some (.ref d.D))) (mq : (L' + 1, q) ∈ Y) (yq : ∀ z ∈ Y, z.1 ≠ d.oA ∧ z.1 ≠ d.pA) (mC : (Dc, lst cys) ∈ Y) (mO : (Do, lst oys) ∈ Y) (hC : IntsAre cys (labs c0 ts.length)) (hO : IntsAre oys (labs o0 ts.length)) (hc0 : c0 + ts.length ≤ x.2.length) (h3 : ts.length ≤ 3) (hx : x.1.length + x.2.length < 900)
  (V : VIn tl R g s2 ts) (hne : NeA d.oA d.pA) (St : DS tl os ps x) (F : Fr h L' s.heap m) (hk : ∀ p ∈ ([(("rows" : Str), .ref R), ("checks", .ref Dc), ("overs", .ref Do)] : List (Str × Value)), m p.1 = some p.2)
  (N : News h L' s.heap (Y ++ d.led os ps no np tl)) :
  wpAny (model PR w) ((ktrTop dp un gd cn cs L a ccd cl outer).deeper (eV (Mine.hd.heap_1 w.params) L' cd)) (exec (stmtAt (Mine.hd.heap_1 w.params) 312 3) (eV (Mine.hd.heap_1 w.params) L' cd))
   (Nx fun s' => ∃ h' tk m' os' ps' no' np' tl', s' = { s with heap := h', toks := tk } ∧ Fr h L' h' m' ∧ (∀ z, ([("at" : Str)] : List Str).contains z = false → m' z = m z) ∧ News h L' h' (Y ++ d.led os' ps' no' np' tl') ∧ DS tl' os' ps' (v3P x ts c0 o0 ts.length) ∧ ∀ q ∈ tl, q ∈ tl') E s := by
 refine uB ?_
 simp(disch:=k_dflt(
 refine iB ?_
 have F := ksw_fr (ps := [(("rows" : Str), .ref R), ("checks", .ref Dc), ("overs", .ref Do)]) (m₀ := m) (stored := []) hk (fun _ _ _ => rfl) F
 dsimp only [kstB] at F
 with_reducible refine' stmt_lit ?ho hE ?_
 case ho => k_is
 clear hE
 intro hE
 simp only [List.getD_eq_getElem?_getD, List.getElem?_cons_succ, List.getElem?_cons_zero, Option.getD_some]
 (refine absQ ?_; intro qN uqN)
 have lC := hC.length
 have lO := hO.length
 rw [labs_len] at lC lO
 k_here
 refine For_turns F ?_
 repeat' (first | ((fail_if_success (with_reducible show wpAny _ _ (call (.builtin _) [.ref _]) _ _ _)); first | keq_rows | keq_hits | (k_unfold; (try dsimp only)) | walk1 | (dsimp only; walk1) | (leave1; try dsimp only)) | fail "no")
 k_here
 refine len_tup N (led_t V.R) (by first | exact lenM (by assumption) rfl | (rw [List.length_map]; omega)) ?_
 rw [List.length_map]
 repeat' (first | ((fail_if_success (with_reducible show wpAny _ _ (pyIter (.ref _)) _ _ _)); first | keq_rows | keq_hits | (k_unfold; (try dsimp only)) | walk1 | (dsimp only; walk1) | (leave1; try dsimp only)) | fail "no")
 rename IsRange _ _ _ _ _ _ _ _ => rgX
 rename News _ _ _ _ => N6
 rename Fr _ _ _ _ => F6
 k_here
 refine' dl_range (n := ts.length) (v3P x ts c0 o0) [(("rows" : Str), .ref R), ("checks", .ref Dc), ("overs", .ref Do)] ["at"] rfl F6 N6 rgX ?sm ?rn ?hk St ?turn ?fin
 case sm => exact small_one (by lia) (by lia) (by lia) (by lia)
 case rn => rw [rangeSize_nat]; lia
 case hk =>
  exact fc rfl (fc rfl (fc rfl (List.forall_mem_nil _)))
 case fin =>
  intro c u h9 tk9 St hs F N
  refine upUse uqN ?_
  refine ⟨rfl, exi8 h9 tk9 _ c.os c.ps c.no c.np c.tl ⟨rfl, F, fun z hz => ?_, N, St, hs⟩⟩
  refine (kstB_eq (m₁ := kstB m [(("rows" : Str), .ref R), ("checks", .ref Dc), ("overs", .ref Do)]) (fc rfl (fc rfl (fc rfl (List.forall_mem_nil _)))) fun _ => by simp only [hz, Bool.false_eq_true, if_false]; rfl).trans (kstB_eq hk fun _ => rfl)
 case turn =>
  intro i c u t9 h9 tk9 I o hi St hs ho oI yI F N
  (refine absG ?_; intro G9 kG9)
  obtain ⟨t, ht⟩ : ∃ t, ts[i]? = some t := ⟨_, List.getElem?_eq_getElem hi⟩
  have V' := V.mono hs
  obtain ⟨mr, _, _, ⟨uc, xc, yc, zc, mc⟩⟩ := V'.row t (List.mem_of_getElem? ht)
  obtain ⟨z1, z2⟩ := v3_len x ts c0 o0 i (Nat.le_of_lt hi)
  obtain ⟨tc, hc1⟩ := intsGet hC (labs_at hi)
  obtain ⟨to, ho1⟩ := intsGet hO (labs_at hi)
  have e0 : (0 : Int) + (i : Int) * 1 = (i : Int) := by lia
  (refine kG9 ?_; clear kG9)
  rw [e0]
  have yq' : ∀ z ∈ (I, o) :: Y, z.1 ≠ d.oA ∧ z.1 ≠ d.pA := fc oI yq
  have m1 : (d.D, instObj 209 d.dx) ∈ (I, o) :: (Y ++ d.led c.os c.ps c.no c.np c.tl) := .tail _ led_1
  have m2 : (d.dx, dictOf (draftD d.k d.pr (.ref d.oA) (.ref d.pA) d.sl d.hd) 5) ∈ (I, o) :: (Y ++ d.led c.os c.ps c.no c.np c.tl) := .tail _ led_2
  have mq9 : (L' + 1, q) ∈ (I, o) :: (Y ++ d.led c.os c.ps c.no c.np c.tl) := .tail _ (led_y mq)
  have mC9 : (Dc, lst cys) ∈ (I, o) :: (Y ++ d.led c.os c.ps c.no c.np c.tl) := .tail _ (led_y mC)
  generalize hTT : (I, o) :: (Y ++ d.led c.os c.ps c.no c.np c.tl) = TT at N m1 m2 mq9 mC9
  dsimp only [kstB] at F
  (try k_fold)
  repeat' (first | ((fail_if_success (with_reducible show wpAny _ _ (subscriptTail _ _ (.ref _) (.int _ _)) _ _ _)); first | keq_rows | keq_hits | (k_unfold; (try dsimp only)) | walk1 | (dsimp only; walk1) | (leave1; try dsimp only)) | fail "no")
  k_here
  rename News _ _ _ _ => N8
  refine list_atz N8 mC9 rfl hc1 (by lia) ?_ (by with_unfolding_all rfl)
  repeat' (first | ((fail_if_success (with_reducible show wpAny _ _ (call (.ref _) _) _ _ _)); first | keq_rows | keq_hits | (k_unfold; (try dsimp only)) | walk1 | (dsimp only; walk1) | (leave1; try dsimp only)) | fail "no")
  rename Fr _ _ _ _ => F8
  subst hTT
  k_here
  k_dflt (refine' dcall (Y := (I, o) :: Y) (here_c w d _ _ _ _ (ltAdd z2 hc0 hi)) B ?kF X ?kN T ?kk ?kd ?ku yq' (List.forall_mem_nil _) hne St ?_; (case kF => exact F8); (case kN => exact N8); (case kk => exact rfl); (case kd => ktr_room); (case ku => ktr_units))
  rintro r os7 ps7 no7 np7 tl7 h7 tk7 rfl F7 N7 St7 hs7
  clear N8 F8
  have V7 := V'.mono hs7
  have m1 : (d.D, instObj 209 d.dx) ∈ (I, o) :: (Y ++ d.led os7 ps7 no7 np7 tl7) := .tail _ led_1
  have m2 : (d.dx, dictOf (draftD d.k d.pr (.ref d.oA) (.ref d.pA) d.sl d.hd) 5) ∈ (I, o) :: (Y ++ d.led os7 ps7 no7 np7 tl7) := .tail _ led_2
  have mq9 : (L' + 1, q) ∈ (I, o) :: (Y ++ d.led os7 ps7 no7 np7 tl7) := .tail _ (led_y mq)
  have mR9 : (R, tup (ts.map fun t => Value.ref t.r)) ∈ (I, o) :: (Y ++ d.led os7 ps7 no7 np7 tl7) := .tail _ (led_t V7.R)
  have mr9 : (t.r, tup [.ref t.f, .ref t.b, .ref t.a, .ref t.c]) ∈ (I, o) :: (Y ++ d.led os7 ps7 no7 np7 tl7) := .tail _ (led_t (hs7 _ mr))
  have mO9 : (Do, lst oys) ∈ (I, o) :: (Y ++ d.led os7 ps7 no7 np7 tl7) := .tail _ (led_y mO)
  replace N7 : News h L' h7 ((I, o) :: (Y ++ d.led os7 ps7 no7 np7 tl7)) := N7
  generalize hTT : (I, o) :: (Y ++ d.led os7 ps7 no7 np7 tl7) = TT at N7 m1 m2 mq9 mR9 mr9 mO9
  (try dsimp only)
  have hv : (ts.map fun t => Value.ref t.r)[i]? = some (.ref t.r) := by rw [List.getElem?_map, ht]; rfl
  repeat' (first | ((fail_if_success (with_reducible show wpAny _ _ (subscriptTail _ _ (.ref _) (.int _ _)) _ _ _)); first | keq_rows | keq_hits | (k_unfold; (try dsimp only)) | walk1 | (dsimp only; walk1) | (leave1; try dsimp only)) | fail "no")
  k_here
  rename News _ _ _ _ => N8
  refine tup_atz N8 mR9 (.inl rfl) hv (by first | exact lenM (by assumption) rfl | (rw [List.length_map]; omega)) ?_ (by with_unfolding_all rfl)
  repeat' (first | ((fail_if_success (with_reducible show wpAny _ _ (subscriptTail _ _ (.ref _) (.int _ _)) _ _ _)); first | keq_rows | keq_hits | (k_unfold; (try dsimp only)) | walk1 | (dsimp only; walk1) | (leave1; try dsimp only)) | fail "no")
  walk1
  repeat' (first | ((fail_if_success (with_reducible show wpAny _ _ (subscriptTail _ _ (.ref _) (.int _ _)) _ _ _)); first | keq_rows | keq_hits | (k_unfold; (try dsimp only)) | walk1 | (dsimp only; walk1) | (leave1; try dsimp only)) | fail "no")
  k_here
  rename News _ _ _ _ => N8
  refine list_atz N8 mO9 rfl ho1 (by lia) ?_ (by with_unfolding_all rfl)
  repeat' (first | ((fail_if_success (with_reducible show wpAny _ _ (call (.ref _) _) _ _ _)); first | keq_rows | keq_hits | (k_unfold; (try dsimp only)) | walk1 | (dsimp only; walk1) | (leave1; try dsimp only)) | fail "no")
  rename Fr _ _ _ _ => F8
  subst hTT
  k_here
  k_dflt (refine' dcall (Y := (I, o) :: Y) (put_condition_c w d _ _ (Sz.lt (Sz.here (Sz.v3 (Sz.of hx) h3 (Nat.le_of_lt hi))) rfl)) B ?kF X ?kN T ?kk ?kd ?ku yq' (fc (hs7 _ mc) (List.forall_mem_nil _)) hne St7 ?_; (case kF => exact F8); (case kN => exact N8); (case kk => exact rfl); (case kd => ktr_room); (case ku => ktr_units))
  rintro r os8 ps8 no8 np8 tl8 h8 tk8 rfl F9 N9 St9 hs9
  clear N8 F8
  (try dsimp only)
  repeat' (first | ((fail_if_success (with_reducible show KfPost _ _ _ _ _ _ _ _ _ _ _ _ _)); first | keq_rows | keq_hits | (k_unfold; (try dsimp only)) | walk1 | (dsimp only; walk1) | (leave1; try dsimp only)) | fail "no")
  show KfEnd _ _ _ _ _ _ _ _ _ _ _
  have St8 : DS tl8 os8 ps8 (v3P x ts c0 o0 (i + 1)) := by simp only [v3P, ht]; exact St9
  refine dl_end F9 N9 ho yI ?_ ?_ St8 fun p hp => hs9 p (hs7 p (hs p hp))
  ·exact fc rfl (fc rfl (fc rfl (List.forall_mem_nil _)))
  ·((try dsimp +zetaDelta only); ksw_same)
 ))only[↓bB]
end

end N4p
section N5p
open PyProof.Rows.LCg
theorem list_neg {prog : Program} {w : World} {A : Around} {E : Value → Shared → Prop} {s : Shared} {h₀ : Heap} {L T : Addr} {news : Led} {vs : List Value} {n : Nat} {u : Tok} {v : Value} {value slice : Expr} {Q : Value → Shared → Prop} (N : News h₀ L s.heap news) (hm : (T, listOf vs.toArray n) ∈ news) (hv : vs[vs.length - 1]? = some v) (hz : vs.length ≤ 1000) (h : Q v s)
  (hs : subscripted slice false (.ref T) (.int (-1) u) = operate [.ref T, .int (-1) u] (getItem (.ref T) (.int (-1) u)) := by with_unfolding_all rfl) :
  wpAny (model prog w) A (subscriptTail value slice (.ref T) (.int (-1) u)) Q E s := by
 have hl : s.heap.IsList T vs.toArray := ⟨_, (N _ hm).1, rfl, _, rfl⟩
 have h0 : 0 < vs.length := Nat.lt_of_le_of_lt (Nat.zero_le _) (List.getElem?_eq_some_iff.mp hv).1
 refine tail_any hl.typeIs slot_list_getitem.lookup (wpAny_getItem_list_neg hl (by decide) (by simp; lia) (by decide) ?_ h) hs
 have e : (-1 + (vs.toArray.size : Int)).toNat = vs.length - 1 := by rw [List.size_toArray]; lia
 rw [e]
 simpa using hv
theorem DSt.more {tl : Led} {os ps : Array Value} {aops : List AOp} {pls : List Int} (h : DSt tl os ps aops pls) {a : Addr} {vs : List Value} : DSt ((a, tup vs) :: tl) os ps aops pls :=
 ⟨fc rfl h.kinds, h.ops.mono fun _ hp => .tail _ hp, h.pint, h.small⟩
theorem jump_led {h₀ h : Heap} {L b : Addr} {o : Obj} {Y : Led} {d : DAt} {os ps : Array Value} {no np : Nat} {tl : Led} (N : News h₀ L h ((b, o) :: (Y ++ d.led os ps no np tl))) : News h₀ L h (Y ++ d.led os ps no np ((b, o) :: tl)) := by
 intro p hp
 refine N p ?_
 rcases List.mem_append.mp hp with hp | hp
 ·exact .tail _ (led_y hp)
 simp only [DAt.led, dLed, List.mem_cons] at hp
 rcases hp with hp | hp | hp | hp | hp | hp
 ·rw [hp]; exact .tail _ led_1
 ·rw [hp]; exact .tail _ led_2
 ·rw [hp]; exact .tail _ led_o
 ·rw [hp]; exact .tail _ led_p
 ·rw [hp]; exact .head _
 ·exact .tail _ (led_t hp)
section
variable {w : World} {p : Program} {loose : List Str} {mean : ExcName → Option Value} {mg mb : Str → Option Value} {dp un : Nat} {gd : Option (List Code)} {cn : Str} {cs : Scope} {L a : Addr} {ccd cd : Value} {cl : List (Str × Addr)} {outer : List Env} {base h : Heap} {L' : Addr} {m : Str → Option Value} {s : Shared} {E : Value → Shared → Prop} {d : DAt} {os ps : Array Value} {no np : Nat} {tl : Led} {R g s2 : Addr} {ts : List T4} {q : Obj} {Y : Led} {x : AP}
theorem vs4 (B : Below (ktrTop dp un gd cn cs L a ccd cl outer) base (envX cn cs L a ccd cl :: outer) h) (X : Frag.In (Mine.hd.heap_1 w.params) h) (T : Top p loose mean mg mb h) (hdp : dp + 8 < recursionLimit) (hun : un + 96 < cLine)
  (hE : PassesOwn (model PR w) ((ktrTop dp un gd cn cs L a ccd cl outer).deeper (eV (Mine.hd.heap_1 w.params) L' cd)) (eV (Mine.hd.heap_1 w.params) L' cd) E)
  (hq : q.data = .cell (some (.ref d.D))) (mq : (L' + 1, q) ∈ Y) (yq : ∀ z ∈ Y, z.1 ≠ d.oA ∧ z.1 ≠ d.pA) (hx : x.1.length + x.2.length < 900) (V : VIn tl R g s2 ts) (hne : NeA d.oA d.pA) (St : DS tl os ps x) (F : Fr h L' s.heap m) (hk : ∀ p ∈ ([(("goal" : Str), .ref g)] : List (Str × Value)), m p.1 = some p.2)
  (N : News h L' s.heap (Y ++ d.led os ps no np tl)) :
  wpAny (model PR w) ((ktrTop dp un gd cn cs L a ccd cl outer).deeper (eV (Mine.hd.heap_1 w.params) L' cd)) (exec (stmtAt (Mine.hd.heap_1 w.params) 312 4) (eV (Mine.hd.heap_1 w.params) L' cd))
   (Nx fun s' => ∃ h' tk m' os' ps' no' np' tl', s' = { s with heap := h', toks := tk } ∧ Fr h L' h' m' ∧ (∀ z, m' z = m z) ∧ News h L' h' (Y ++ d.led os' ps' no' np' tl') ∧ DS tl' os' ps' (goalP x s2) ∧ ∀ q ∈ tl, q ∈ tl') E s := by
 have F := ksw_fr (ps := [(("goal" : Str), .ref g)]) (m₀ := m) (stored := []) hk (fun _ _ _ => rfl) F
 dsimp only [kstB] at F
 with_reducible refine' stmt_lit ?ho hE ?_
 case ho => k_is
 clear hE
 intro hE
 simp only [List.getD_eq_getElem?_getD, List.getElem?_cons_succ, List.getElem?_cons_zero, Option.getD_some]
 (refine absQ ?_; intro qN uqN)
 with_reducible refine ex7 V.body ?_
 intro b s1 t t1 t2 x1 x2 hX9
 with_reducible refine an4 hX9 ?_
 clear hX9
 intro g1 g2 g3 g4
 have mq9 : (L' + 1, q) ∈ Y ++ d.led os ps no np tl := (led_y mq)
 generalize hTT : Y ++ d.led os ps no np tl = TT at N mq9
 repeat' (first | ((fail_if_success (with_reducible show wpAny _ _ (call (.ref _) _) _ _ _)); first | keq_rows | keq_hits | (k_unfold; (try dsimp only)) | walk1 | (dsimp only; walk1) | (leave1; try dsimp only)) | fail "no")
 rename News _ _ _ _ => N8
 rename Fr _ _ _ _ => F8
 subst hTT
 k_here
 k_dflt (refine' dcall (put_goal_c w d _ _ (Sz.lt (Sz.of hx) rfl)) B ?kF X ?kN T ?kk ?kd ?ku yq (fc g1 (fc g2 (fc g3 (fc g4 (List.forall_mem_nil _))))) hne St ?_; (case kF => exact F8); (case kN => exact N8); (case kk => exact rfl); (case kd => ktr_room); (case ku => ktr_units))
 rintro r os8 ps8 no8 np8 tl8 h8 tk8 rfl F9 N9 St9 hs9
 clear N8 F8
 (try dsimp only)
 repeat' (first | ((fail_if_success (with_reducible show Nx _ _ _)); first | keq_rows | keq_hits | (k_unfold; (try dsimp only)) | walk1 | (dsimp only; walk1) | (leave1; try dsimp only)) | fail "no")
 exact ⟨rfl, exi8 _ _ _ os8 ps8 no8 np8 tl8 ⟨rfl, F9, fun z => kstB_eq hk fun _ => rfl, N9, St9, fun p hp => hs9 p hp⟩⟩
theorem va3 (B : Below (ktrTop dp un gd cn cs L a ccd cl outer) base (envX cn cs L a ccd cl :: outer) h) (X : Frag.In (Mine.hd.heap_1 w.params) h) (T : Top p loose mean mg mb h) (hdp : dp + 8 < recursionLimit) (hun : un + 96 < cLine)
  (hE : PassesOwn (model PR w) ((ktrTop dp un gd cn cs L a ccd cl outer).deeper (eVA (Mine.hd.heap_1 w.params) L' cd)) (eVA (Mine.hd.heap_1 w.params) L' cd) E)
  (yq : ∀ z ∈ Y, z.1 ≠ d.oA ∧ z.1 ≠ d.pA) (hx : x.1.length + x.2.length < 900) (V : VIn tl R g s2 ts) (hne : NeA d.oA d.pA) (St : DS tl os ps x) (F : Fr h L' s.heap m) (hk : ∀ p ∈ ([(("draft" : Str), .ref d.D), ("goal", .ref g)] : List (Str × Value)), m p.1 = some p.2)
  (N : News h L' s.heap (Y ++ d.led os ps no np tl)) :
  wpAny (model PR w) ((ktrTop dp un gd cn cs L a ccd cl outer).deeper (eVA (Mine.hd.heap_1 w.params) L' cd)) (exec (stmtAt (Mine.hd.heap_1 w.params) 319 3) (eVA (Mine.hd.heap_1 w.params) L' cd))
   (Nx fun s' => ∃ h' tk m' os' ps' no' np' tl', s' = { s with heap := h', toks := tk } ∧ Fr h L' h' m' ∧ (∀ z, m' z = m z) ∧ News h L' h' (Y ++ d.led os' ps' no' np' tl') ∧ DS tl' os' ps' (goalP x s2) ∧ ∀ q ∈ tl, q ∈ tl') E s := by
 have F := ksw_fr (ps := [(("draft" : Str), .ref d.D), ("goal", .ref g)]) (m₀ := m) (stored := []) hk (fun _ _ _ => rfl) F
 dsimp only [kstB] at F
 with_reducible refine' stmt_lit ?ho hE ?_
 case ho => k_is
 clear hE
 intro hE
 simp only [List.getD_eq_getElem?_getD, List.getElem?_cons_succ, List.getElem?_cons_zero, Option.getD_some]
 (refine absQ ?_; intro qN uqN)
 with_reducible refine ex7 V.body ?_
 intro b s1 t t1 t2 x1 x2 hX9
 with_reducible refine an4 hX9 ?_
 clear hX9
 intro g1 g2 g3 g4
 repeat' (first | ((fail_if_success (with_reducible show wpAny _ _ (call (.ref _) _) _ _ _)); first | keq_rows | keq_hits | (k_unfold; (try dsimp only)) | walk1 | (dsimp only; walk1) | (leave1; try dsimp only)) | fail "no")
 rename News _ _ _ _ => N8
 rename Fr _ _ _ _ => F8
 k_here
 k_dflt (refine' dcall (put_goal_c w d _ _ (Sz.lt (Sz.of hx) rfl)) B ?kF X ?kN T ?kk ?kd ?ku yq (fc g1 (fc g2 (fc g3 (fc g4 (List.forall_mem_nil _))))) hne St ?_; (case kF => exact F8); (case kN => exact N8); (case kk => exact rfl); (case kd => ktr_room); (case ku => ktr_units))
 rintro r os8 ps8 no8 np8 tl8 h8 tk8 rfl F9 N9 St9 hs9
 clear N8 F8
 (try dsimp only)
 repeat' (first | ((fail_if_success (with_reducible show Nx _ _ _)); first | keq_rows | keq_hits | (k_unfold; (try dsimp only)) | walk1 | (dsimp only; walk1) | (leave1; try dsimp only)) | fail "no")
 exact ⟨rfl, exi8 _ _ _ os8 ps8 no8 np8 tl8 ⟨rfl, F9, fun z => kstB_eq hk fun _ => rfl, N9, St9, fun p hp => hs9 p hp⟩⟩
theorem vs5 (B : Below (ktrTop dp un gd cn cs L a ccd cl outer) base (envX cn cs L a ccd cl :: outer) h) (X : Frag.In (Mine.hd.heap_1 w.params) h) (T : Top p loose mean mg mb h) (hdp : dp + 8 < recursionLimit) (hun : un + 96 < cLine)
  (hE : PassesOwn (model PR w) ((ktrTop dp un gd cn cs L a ccd cl outer).deeper (eV (Mine.hd.heap_1 w.params) L' cd)) (eV (Mine.hd.heap_1 w.params) L' cd) E)
  (hq : q.data = .cell (some (.ref d.D))) (mq : (L' + 1, q) ∈ Y) (yq : ∀ z ∈ Y, z.1 ≠ d.oA ∧ z.1 ≠ d.pA) (hx : x.1.length + x.2.length < 900) (V : VIn tl R g s2 ts) {t : T4} (h3 : ts.length ≤ 3) (ht : ts[ts.length - 1]? = some t) (hn : 0 < ts.length) (hne : NeA d.oA d.pA) (St : DS tl os ps x) (F : Fr h L' s.heap m) (hk : ∀ p ∈ ([(("rows" : Str), .ref R)] : List (Str × Value)), m p.1 = some p.2)
  (N : News h L' s.heap (Y ++ d.led os ps no np tl)) :
  wpAny (model PR w) ((ktrTop dp un gd cn cs L a ccd cl outer).deeper (eV (Mine.hd.heap_1 w.params) L' cd)) (exec (stmtAt (Mine.hd.heap_1 w.params) 312 5) (eV (Mine.hd.heap_1 w.params) L' cd))
   (Nx fun s' => ∃ h' tk m' os' ps' no' np' tl', s' = { s with heap := h', toks := tk } ∧ Fr h L' h' m' ∧ (∀ z, m' z = m z) ∧ News h L' h' (Y ++ d.led os' ps' no' np' tl') ∧ DS tl' os' ps' (stepP x t.f t.a "+") ∧ ∀ q ∈ tl, q ∈ tl') E s := by
 refine uB ?_
 simp(disch:=k_dflt(
 refine iB ?_
 have F := ksw_fr (ps := [(("rows" : Str), .ref R)]) (m₀ := m) (stored := []) hk (fun _ _ _ => rfl) F
 dsimp only [kstB] at F
 with_reducible refine' stmt_lit ?ho hE ?_
 case ho => k_is
 clear hE
 intro hE
 simp only [List.getD_eq_getElem?_getD, List.getElem?_cons_succ, List.getElem?_cons_zero, Option.getD_some]
 (refine absQ ?_; intro qN uqN)
 obtain ⟨mr, ⟨ub, xb, mb'⟩, ⟨ua, xa, ma'⟩, _⟩ := V.row t (List.mem_of_getElem? ht)
 have hv : (ts.map fun t => Value.ref t.r)[ts.length - 1]? = some (.ref t.r) := by rw [List.getElem?_map, ht]; rfl
 have mq9 : (L' + 1, q) ∈ Y ++ d.led os ps no np tl := (led_y mq)
 have mR9 : (R, tup (ts.map fun t => Value.ref t.r)) ∈ Y ++ d.led os ps no np tl := (led_t V.R)
 have mr9 : (t.r, tup [.ref t.f, .ref t.b, .ref t.a, .ref t.c]) ∈ Y ++ d.led os ps no np tl := (led_t mr)
 generalize hTT : Y ++ d.led os ps no np tl = TT at N mq9 mR9 mr9
 repeat' (first | ((fail_if_success (with_reducible show wpAny _ _ (subscriptTail _ _ (.ref _) (.int _ _)) _ _ _)); first | keq_rows | keq_hits | (k_unfold; (try dsimp only)) | walk1 | (dsimp only; walk1) | (leave1; try dsimp only)) | fail "no")
 k_here
 rename News _ _ _ _ => N8
 refine tup_atz N8 mR9 (.inr ⟨by rw [List.length_map]; lia, by decide⟩) hv (by first | exact lenM (by assumption) rfl | (rw [List.length_map]; omega)) ?_ (by with_unfolding_all rfl)
 repeat' (first | ((fail_if_success (with_reducible show wpAny _ _ (subscriptTail _ _ (.ref _) (.int _ _)) _ _ _)); first | keq_rows | keq_hits | (k_unfold; (try dsimp only)) | walk1 | (dsimp only; walk1) | (leave1; try dsimp only)) | fail "no")
 walk1
 repeat' (first | ((fail_if_success (with_reducible show wpAny _ _ (subscriptTail _ _ (.ref _) (.int _ _)) _ _ _)); first | keq_rows | keq_hits | (k_unfold; (try dsimp only)) | walk1 | (dsimp only; walk1) | (leave1; try dsimp only)) | fail "no")
 k_here
 rename News _ _ _ _ => N8
 refine tup_atz N8 mR9 (.inr ⟨by rw [List.length_map]; lia, by decide⟩) hv (by first | exact lenM (by assumption) rfl | (rw [List.length_map]; omega)) ?_ (by with_unfolding_all rfl)
 repeat' (first | ((fail_if_success (with_reducible show wpAny _ _ (subscriptTail _ _ (.ref _) (.int _ _)) _ _ _)); first | keq_rows | keq_hits | (k_unfold; (try dsimp only)) | walk1 | (dsimp only; walk1) | (leave1; try dsimp only)) | fail "no")
 walk1
 repeat' (first | ((fail_if_success (with_reducible show wpAny _ _ (call (.ref _) _) _ _ _)); first | keq_rows | keq_hits | (k_unfold; (try dsimp only)) | walk1 | (dsimp only; walk1) | (leave1; try dsimp only)) | fail "no")
 rename Fr _ _ _ _ => F8
 subst hTT
 k_here
 k_dflt (refine' dcall (put_step_c w d _ _ (Sz.lt (Sz.of hx) rfl)) B ?kF X ?kN T ?kk ?kd ?ku yq (fc ma' (List.forall_mem_nil _)) hne St ?_; (case kF => exact F8); (case kN => exact N8); (case kk => exact rfl); (case kd => ktr_room); (case ku => ktr_units))
 rintro r os8 ps8 no8 np8 tl8 h8 tk8 rfl F9 N9 St9 hs9
 clear N8 F8
 (try dsimp only)
 repeat' (first | ((fail_if_success (with_reducible show Nx _ _ _)); first | keq_rows | keq_hits | (k_unfold; (try dsimp only)) | walk1 | (dsimp only; walk1) | (leave1; try dsimp only)) | fail "no")
 exact ⟨rfl, exi8 _ _ _ os8 ps8 no8 np8 tl8 ⟨rfl, F9, fun z => kstB_eq hk fun _ => rfl, N9, St9, fun p hp => hs9 p hp⟩⟩
 ))only[↓bB]
theorem vs6 (B : Below (ktrTop dp un gd cn cs L a ccd cl outer) base (envX cn cs L a ccd cl :: outer) h) (X : Frag.In (Mine.hd.heap_1 w.params) h) (T : Top p loose mean mg mb h) (hdp : dp + 8 < recursionLimit) (hun : un + 96 < cLine)
  (hE : PassesOwn (model PR w) ((ktrTop dp un gd cn cs L a ccd cl outer).deeper (eV (Mine.hd.heap_1 w.params) L' cd)) (eV (Mine.hd.heap_1 w.params) L' cd) E)
  (hq : q.data = .cell (some (.ref d.D))) (mq : (L' + 1, q) ∈ Y) (yq : ∀ z ∈ Y, z.1 ≠ d.oA ∧ z.1 ≠ d.pA) (hx : x.1.length + x.2.length < 900) {Dc : Addr} {cys : List Value} {c0 : Nat} (mC : (Dc, lst cys) ∈ Y) (hC : IntsAre cys (labs c0 ts.length)) (h3 : ts.length ≤ 3) (hn : 0 < ts.length) (hne : NeA d.oA d.pA) (St : DS tl os ps x) (F : Fr h L' s.heap m) (hk : ∀ p ∈ ([(("checks" : Str), .ref Dc)] : List (Str × Value)), m p.1 = some p.2)
  (N : News h L' s.heap (Y ++ d.led os ps no np tl)) :
  wpAny (model PR w) ((ktrTop dp un gd cn cs L a ccd cl outer).deeper (eV (Mine.hd.heap_1 w.params) L' cd)) (exec (stmtAt (Mine.hd.heap_1 w.params) 312 6) (eV (Mine.hd.heap_1 w.params) L' cd))
   (Nx fun s' => ∃ h' tk m' os' ps' no' np' tl', s' = { s with heap := h', toks := tk } ∧ Fr h L' h' m' ∧ (∀ z, m' z = m z) ∧ News h L' h' (Y ++ d.led os' ps' no' np' tl') ∧ DS tl' os' ps' (putP x (.jump ((c0 + (ts.length - 1) : Nat) : Int))) ∧ ∀ q ∈ tl, q ∈ tl') E s := by
 have F := ksw_fr (ps := [(("checks" : Str), .ref Dc)]) (m₀ := m) (stored := []) hk (fun _ _ _ => rfl) F
 dsimp only [kstB] at F
 with_reducible refine' stmt_lit ?ho hE ?_
 case ho => k_is
 clear hE
 intro hE
 simp only [List.getD_eq_getElem?_getD, List.getElem?_cons_succ, List.getElem?_cons_zero, Option.getD_some]
 (refine absQ ?_; intro qN uqN)
 have lC := hC.length
 rw [labs_len] at lC
 obtain ⟨tc, hc1⟩ := intsGet hC (labs_at (i := ts.length - 1) (by lia))
 have m1 : (d.D, instObj 209 d.dx) ∈ Y ++ d.led os ps no np tl := led_1
 have m2 : (d.dx, dictOf (draftD d.k d.pr (.ref d.oA) (.ref d.pA) d.sl d.hd) 5) ∈ Y ++ d.led os ps no np tl := led_2
 have mq9 : (L' + 1, q) ∈ Y ++ d.led os ps no np tl := (led_y mq)
 have mC9 : (Dc, lst cys) ∈ Y ++ d.led os ps no np tl := (led_y mC)
 generalize hTT : Y ++ d.led os ps no np tl = TT at N m1 m2 mq9 mC9
 repeat' (first | ((fail_if_success (with_reducible show wpAny _ _ (subscriptTail _ _ (.ref _) (.int _ _)) _ _ _)); first | keq_rows | keq_hits | (k_unfold; (try dsimp only)) | walk1 | (dsimp only; walk1) | (leave1; try dsimp only)) | fail "no")
 k_here
 rename News _ _ _ _ => N8
 refine list_neg N8 mC9 (by rw [lC]; exact hc1) (by lia) ?_ (by with_unfolding_all rfl)
 repeat' (first | ((fail_if_success (with_reducible show wpAny _ _ (call (.ref _) _) _ _ _)); first | keq_rows | keq_hits | (k_unfold; (try dsimp only)) | walk1 | (dsimp only; walk1) | (leave1; try dsimp only)) | fail "no")
 rename News _ _ _ _ => N8
 rename Fr _ _ _ _ => F8
 subst hTT
 k_here
 have N8 := jump_led N8
 k_here
 k_dflt (refine' dcall (put_jump w d _ _ (Sz.lt (Sz.of hx) rfl)) B ?kF X ?kN T ?kk ?kd ?ku yq (fc (.head _) (List.forall_mem_nil _)) hne St.more ?_; (case kF => exact F8); (case kN => exact N8); (case kk => exact rfl); (case kd => ktr_room); (case ku => ktr_units))
 rintro r os8 ps8 no8 np8 tl8 h8 tk8 rfl F9 N9 St9 hs9
 clear N8 F8
 (try dsimp only)
 repeat' (first | ((fail_if_success (with_reducible show Nx _ _ _)); first | keq_rows | keq_hits | (k_unfold; (try dsimp only)) | walk1 | (dsimp only; walk1) | (leave1; try dsimp only)) | fail "no")
 exact ⟨rfl, exi8 _ _ _ os8 ps8 no8 np8 tl8 ⟨rfl, F9, fun z => kstB_eq hk fun _ => rfl, N9, St9, fun p hp => hs9 p (.tail _ hp)⟩⟩
theorem vs8 (B : Below (ktrTop dp un gd cn cs L a ccd cl outer) base (envX cn cs L a ccd cl :: outer) h) (X : Frag.In (Mine.hd.heap_1 w.params) h) (T : Top p loose mean mg mb h) (hdp : dp + 8 < recursionLimit) (hun : un + 96 < cLine)
  (hE : PassesOwn (model PR w) ((ktrTop dp un gd cn cs L a ccd cl outer).deeper (eV (Mine.hd.heap_1 w.params) L' cd)) (eV (Mine.hd.heap_1 w.params) L' cd) E)
  (hq : q.data = .cell (some (.ref d.D))) (mq : (L' + 1, q) ∈ Y) (yq : ∀ z ∈ Y, z.1 ≠ d.oA ∧ z.1 ≠ d.pA) (hx : x.1.length + x.2.length < 900) {Do : Addr} {oys : List Value} {o0 : Nat} (mO : (Do, lst oys) ∈ Y) (hO : IntsAre oys (labs o0 ts.length)) (h3 : ts.length ≤ 3) (hn : 0 < ts.length) (ho0 : o0 < x.2.length) (hne : NeA d.oA d.pA) (St : DS tl os ps x) (F : Fr h L' s.heap m) (hk : ∀ p ∈ ([(("overs" : Str), .ref Do)] : List (Str × Value)), m p.1 = some p.2)
  (N : News h L' s.heap (Y ++ d.led os ps no np tl)) :
  wpAny (model PR w) ((ktrTop dp un gd cn cs L a ccd cl outer).deeper (eV (Mine.hd.heap_1 w.params) L' cd)) (exec (stmtAt (Mine.hd.heap_1 w.params) 312 8) (eV (Mine.hd.heap_1 w.params) L' cd))
   (Nx fun s' => ∃ h' tk m' os' ps' no' np' tl', s' = { s with heap := h', toks := tk } ∧ Fr h L' h' m' ∧ (∀ z, m' z = m z) ∧ News h L' h' (Y ++ d.led os' ps' no' np' tl') ∧ DS tl' os' ps' (hereP x (o0 + 0)) ∧ ∀ q ∈ tl, q ∈ tl') E s := by
 have F := ksw_fr (ps := [(("overs" : Str), .ref Do)]) (m₀ := m) (stored := []) hk (fun _ _ _ => rfl) F
 dsimp only [kstB] at F
 with_reducible refine' stmt_lit ?ho hE ?_
 case ho => k_is
 clear hE
 intro hE
 simp only [List.getD_eq_getElem?_getD, List.getElem?_cons_succ, List.getElem?_cons_zero, Option.getD_some]
 (refine absQ ?_; intro qN uqN)
 have lO := hO.length
 rw [labs_len] at lO
 obtain ⟨to, ho1⟩ := intsGet hO (labs_at hn)
 have m1 : (d.D, instObj 209 d.dx) ∈ Y ++ d.led os ps no np tl := led_1
 have m2 : (d.dx, dictOf (draftD d.k d.pr (.ref d.oA) (.ref d.pA) d.sl d.hd) 5) ∈ Y ++ d.led os ps no np tl := led_2
 have mq9 : (L' + 1, q) ∈ Y ++ d.led os ps no np tl := (led_y mq)
 have mO9 : (Do, lst oys) ∈ Y ++ d.led os ps no np tl := (led_y mO)
 generalize hTT : Y ++ d.led os ps no np tl = TT at N m1 m2 mq9 mO9
 repeat' (first | ((fail_if_success (with_reducible show wpAny _ _ (subscriptTail _ _ (.ref _) (.int _ _)) _ _ _)); first | keq_rows | keq_hits | (k_unfold; (try dsimp only)) | walk1 | (dsimp only; walk1) | (leave1; try dsimp only)) | fail "no")
 k_here
 rename News _ _ _ _ => N8
 refine list_atz N8 mO9 rfl ho1 (by lia) ?_ (by with_unfolding_all rfl)
 repeat' (first | ((fail_if_success (with_reducible show wpAny _ _ (call (.ref _) _) _ _ _)); first | keq_rows | keq_hits | (k_unfold; (try dsimp only)) | walk1 | (dsimp only; walk1) | (leave1; try dsimp only)) | fail "no")
 rename Fr _ _ _ _ => F8
 subst hTT
 k_here
 k_dflt (refine' dcall (here_c w d _ _ _ _ (by omega)) B ?kF X ?kN T ?kk ?kd ?ku yq (List.forall_mem_nil _) hne St ?_; (case kF => exact F8); (case kN => exact N8); (case kk => exact rfl); (case kd => ktr_room); (case ku => ktr_units))
 rintro r os8 ps8 no8 np8 tl8 h8 tk8 rfl F9 N9 St9 hs9
 clear N8 F8
 (try dsimp only)
 repeat' (first | ((fail_if_success (with_reducible show Nx _ _ _)); first | keq_rows | keq_hits | (k_unfold; (try dsimp only)) | walk1 | (dsimp only; walk1) | (leave1; try dsimp only)) | fail "no")
 exact ⟨rfl, exi8 _ _ _ os8 ps8 no8 np8 tl8 ⟨rfl, F9, fun z => kstB_eq hk fun _ => rfl, N9, St9, fun p hp => hs9 p hp⟩⟩
end

end N5p
section N6p
open PyProof.Rows.LCg
noncomputable def v7P (x : AP) (ts : List T4) (c0 o0 : Nat) : Nat → AP
 | 0 => x
 | i + 1 => match ts[ts.length - 1 - i - 1]?, ts[ts.length - 1 - i]? with
  | some t', some t => putP (stepP (stepP (hereP (v7P x ts c0 o0 i) (o0 + (ts.length - 1 - i))) t'.f t'.a "+") t.f t.b "=") (.jump ((c0 + (ts.length - 1 - i - 1) : Nat) : Int))
  | _, _ => v7P x ts c0 o0 i
theorem v7_len (x : AP) (ts : List T4) (c0 o0 : Nat) : ∀ i, i ≤ ts.length - 1 → (v7P x ts c0 o0 i).1.length = x.1.length + 5 * i ∧ (v7P x ts c0 o0 i).2.length = x.2.length + 2 * i
 | 0, _ => ⟨rfl, rfl⟩
 | i + 1, h => by
  obtain ⟨e1, e2⟩ := v7_len x ts c0 o0 i (by lia)
  have h1 : ts[ts.length - 1 - i - 1]? = some (ts[ts.length - 1 - i - 1]'(by omega)) := List.getElem?_eq_getElem _
  have h2 : ts[ts.length - 1 - i]? = some (ts[ts.length - 1 - i]'(by omega)) := List.getElem?_eq_getElem _
  simp only [v7P, h1, h2, stepP, putP, hereP, List.length_append, List.length_cons, List.length_nil, List.length_set, e1, e2]
  lia
theorem Sz.v7 {x : AP} {ts : List T4} {c0 o0 i n : Nat} (h : Sz x n) (h3 : ts.length ≤ 3) (hi : i ≤ ts.length - 1) : Sz (v7P x ts c0 o0 i) (n + 14) := by
 obtain ⟨e1, e2⟩ := v7_len x ts c0 o0 i hi
 unfold Sz at *; omega
section
variable {w : World} {p : Program} {loose : List Str} {mean : ExcName → Option Value} {mg mb : Str → Option Value} {dp un : Nat} {gd : Option (List Code)} {cn : Str} {cs : Scope} {L a : Addr} {ccd cd : Value} {cl : List (Str × Addr)} {outer : List Env} {base h : Heap} {L' : Addr} {m : Str → Option Value} {s : Shared} {E : Value → Shared → Prop} {d : DAt} {os ps : Array Value} {no np : Nat} {tl : Led} {R g s2 : Addr} {ts : List T4} {q : Obj} {Y : Led} {x : AP}
theorem vs7 {Dc Do : Addr} {cys oys : List Value} {c0 o0 : Nat} (B : Below (ktrTop dp un gd cn cs L a ccd cl outer) base (envX cn cs L a ccd cl :: outer) h) (X : Frag.In (Mine.hd.heap_1 w.params) h) (T : Top p loose mean mg mb h) (hdp : dp + 8 < recursionLimit) (hun : un + 96 < cLine)
  (hE : PassesOwn (model PR w) ((ktrTop dp un gd cn cs L a ccd cl outer).deeper (eV (Mine.hd.heap_1 w.params) L' cd)) (eV (Mine.hd.heap_1 w.params) L' cd) E)
  (hq : q.data = .cell (some (.ref d.D))) (mq : (L' + 1, q) ∈ Y) (yq : ∀ z ∈ Y, z.1 ≠ d.oA ∧ z.1 ≠ d.pA) (mC : (Dc, lst cys) ∈ Y) (mO : (Do, lst oys) ∈ Y) (hC : IntsAre cys (labs c0 ts.length)) (hO : IntsAre oys (labs o0 ts.length)) (ho0 : o0 + ts.length ≤ x.2.length) (h3 : ts.length ≤ 3) (h1 : 1 ≤ ts.length) (hx : x.1.length + x.2.length < 900)
  (V : VIn tl R g s2 ts) (hne : NeA d.oA d.pA) (St : DS tl os ps x) (F : Fr h L' s.heap m) (hk : ∀ p ∈ ([(("rows" : Str), .ref R), ("checks", .ref Dc), ("overs", .ref Do)] : List (Str × Value)), m p.1 = some p.2)
  (N : News h L' s.heap (Y ++ d.led os ps no np tl)) :
  wpAny (model PR w) ((ktrTop dp un gd cn cs L a ccd cl outer).deeper (eV (Mine.hd.heap_1 w.params) L' cd)) (exec (stmtAt (Mine.hd.heap_1 w.params) 312 7) (eV (Mine.hd.heap_1 w.params) L' cd))
   (Nx fun s' => ∃ h' tk m' os' ps' no' np' tl', s' = { s with heap := h', toks := tk } ∧ Fr h L' h' m' ∧ (∀ z, ([("at" : Str)] : List Str).contains z = false → m' z = m z) ∧ News h L' h' (Y ++ d.led os' ps' no' np' tl') ∧ DS tl' os' ps' (v7P x ts c0 o0 (ts.length - 1)) ∧ ∀ q ∈ tl, q ∈ tl') E s := by
 refine uB ?_
 simp(disch:=k_dflt(
 refine iB ?_
 have F := ksw_fr (ps := [(("rows" : Str), .ref R), ("checks", .ref Dc), ("overs", .ref Do)]) (m₀ := m) (stored := []) hk (fun _ _ _ => rfl) F
 dsimp only [kstB] at F
 with_reducible refine' stmt_lit ?ho hE ?_
 case ho => k_is
 clear hE
 intro hE
 simp only [List.getD_eq_getElem?_getD, List.getElem?_cons_succ, List.getElem?_cons_zero, Option.getD_some]
 (refine absQ ?_; intro qN uqN)
 have lC := hC.length
 have lO := hO.length
 rw [labs_len] at lC lO
 have h4 : ts.length = 1 ∨ ts.length = 2 ∨ ts.length = 3 := by lia
 k_here
 refine For_turns F ?_
 repeat' (first | ((fail_if_success (with_reducible show wpAny _ _ (call (.builtin _) [.ref _]) _ _ _)); first | keq_rows | keq_hits | (k_unfold; (try dsimp only)) | walk1 | (dsimp only; walk1) | (leave1; try dsimp only)) | fail "no")
 k_here
 refine len_tup N (led_t V.R) (by first | exact lenM (by assumption) rfl | (rw [List.length_map]; omega)) ?_
 rw [List.length_map]
 repeat' (first | ((fail_if_success (with_reducible show wpAny _ _ (pyIter (.ref _)) _ _ _)); first | keq_rows | keq_hits | (k_unfold; (try dsimp only)) | walk1 | (dsimp only; walk1) | (leave1; try dsimp only)) | fail "no")
 rename IsRange _ _ _ _ _ _ _ _ => rgX
 rename News _ _ _ _ => N6
 rename Fr _ _ _ _ => F6
 k_here
 refine' dl_range (n := ts.length - 1) (v7P x ts c0 o0) [(("rows" : Str), .ref R), ("checks", .ref Dc), ("overs", .ref Do)] ["at"] rfl F6 N6 rgX ?sm ?rn ?hk St ?turn ?fin
 case sm => rcases h4 with h | h | h <;> rw [h] <;> decide
 case rn => rcases h4 with h | h | h <;> rw [h] <;> rfl
 case hk =>
  exact fc rfl (fc rfl (fc rfl (List.forall_mem_nil _)))
 case fin =>
  intro c u h9 tk9 St hs F N
  refine upUse uqN ?_
  refine ⟨rfl, exi8 h9 tk9 _ c.os c.ps c.no c.np c.tl ⟨rfl, F, fun z hz => ?_, N, St, hs⟩⟩
  refine (kstB_eq (m₁ := kstB m [(("rows" : Str), .ref R), ("checks", .ref Dc), ("overs", .ref Do)]) (fc rfl (fc rfl (fc rfl (List.forall_mem_nil _)))) fun _ => by simp only [hz, Bool.false_eq_true, if_false]; rfl).trans (kstB_eq hk fun _ => rfl)
 case turn =>
  intro i c u t9 h9 tk9 I o hi St hs ho oI yI F N
  (refine absG ?_; intro G9 kG9)
  have z2 := (v7_len x ts c0 o0 i (Nat.le_of_lt hi)).2
  obtain ⟨j, hj⟩ : ∃ j, j = ts.length - 1 - i := ⟨_, rfl⟩
  have hj1 : 1 ≤ j := by omega
  have hj2 : j < ts.length := by omega
  obtain ⟨t', ht'⟩ : ∃ t, ts[j - 1]? = some t := ⟨_, List.getElem?_eq_getElem (by omega)⟩
  obtain ⟨t, ht⟩ : ∃ t, ts[j]? = some t := ⟨_, List.getElem?_eq_getElem hj2⟩
  have V' := V.mono hs
  obtain ⟨mr', _, ⟨ua, xa, ma⟩, _⟩ := V'.row t' (List.mem_of_getElem? ht')
  obtain ⟨mr, ⟨ub, xb, mb'⟩, _, _⟩ := V'.row t (List.mem_of_getElem? ht)
  have hv' : (ts.map fun t => Value.ref t.r)[j - 1]? = some (.ref t'.r) := by rw [List.getElem?_map, ht']; rfl
  have hv : (ts.map fun t => Value.ref t.r)[j]? = some (.ref t.r) := by rw [List.getElem?_map, ht]; rfl
  obtain ⟨tc, hc1⟩ := intsGet hC (labs_at (i := j - 1) (by omega))
  obtain ⟨to, ho1⟩ := intsGet hO (labs_at (i := j) hj2)
  have e0 : (ts.length : Int) - 1 + (i : Int) * (-1) = (j : Int) := by omega
  (refine kG9 ?_; clear kG9)
  rw [e0]
  have yq' : ∀ z ∈ (I, o) :: Y, z.1 ≠ d.oA ∧ z.1 ≠ d.pA := fc oI yq
  have m1 : (d.D, instObj 209 d.dx) ∈ (I, o) :: (Y ++ d.led c.os c.ps c.no c.np c.tl) := .tail _ led_1
  have m2 : (d.dx, dictOf (draftD d.k d.pr (.ref d.oA) (.ref d.pA) d.sl d.hd) 5) ∈ (I, o) :: (Y ++ d.led c.os c.ps c.no c.np c.tl) := .tail _ led_2
  have mq9 : (L' + 1, q) ∈ (I, o) :: (Y ++ d.led c.os c.ps c.no c.np c.tl) := .tail _ (led_y mq)
  have mO9 : (Do, lst oys) ∈ (I, o) :: (Y ++ d.led c.os c.ps c.no c.np c.tl) := .tail _ (led_y mO)
  generalize hTT : (I, o) :: (Y ++ d.led c.os c.ps c.no c.np c.tl) = TT at N m1 m2 mq9 mO9
  dsimp only [kstB] at F
  (try k_fold)
  repeat' (first | ((fail_if_success (with_reducible show wpAny _ _ (subscriptTail _ _ (.ref _) (.int _ _)) _ _ _)); first | keq_rows | keq_hits | (k_unfold; (try dsimp only)) | walk1 | (dsimp only; walk1) | (leave1; try dsimp only)) | fail "no")
  k_here
  rename News _ _ _ _ => N8
  refine list_atz N8 mO9 rfl ho1 (by lia) ?_ (by with_unfolding_all rfl)
  repeat' (first | ((fail_if_success (with_reducible show wpAny _ _ (call (.ref _) _) _ _ _)); first | keq_rows | keq_hits | (k_unfold; (try dsimp only)) | walk1 | (dsimp only; walk1) | (leave1; try dsimp only)) | fail "no")
  rename Fr _ _ _ _ => F8
  subst hTT
  k_here
  k_dflt (refine' dcall (Y := (I, o) :: Y) (here_c w d _ _ _ _ (ltAdd z2 ho0 hj2)) B ?kF X ?kN T ?kk ?kd ?ku yq' (List.forall_mem_nil _) hne St ?_; (case kF => exact F8); (case kN => exact N8); (case kk => exact rfl); (case kd => ktr_room); (case ku => ktr_units))
  rintro r os7 ps7 no7 np7 tl7 h7 tk7 rfl F7 N7 St7 hs7
  clear N8 F8
  have V7 := V'.mono hs7
  have mq9 : (L' + 1, q) ∈ (I, o) :: (Y ++ d.led os7 ps7 no7 np7 tl7) := .tail _ (led_y mq)
  have mR9 : (R, tup (ts.map fun t => Value.ref t.r)) ∈ (I, o) :: (Y ++ d.led os7 ps7 no7 np7 tl7) := .tail _ (led_t V7.R)
  have mr9 : (t'.r, tup [.ref t'.f, .ref t'.b, .ref t'.a, .ref t'.c]) ∈ (I, o) :: (Y ++ d.led os7 ps7 no7 np7 tl7) := .tail _ (led_t (hs7 _ mr'))
  replace N7 : News h L' h7 ((I, o) :: (Y ++ d.led os7 ps7 no7 np7 tl7)) := N7
  generalize hTT : (I, o) :: (Y ++ d.led os7 ps7 no7 np7 tl7) = TT at N7 mq9 mR9 mr9
  (try dsimp only)
  repeat' (first | ((fail_if_success (with_reducible show wpAny _ _ (subscriptTail _ _ (.ref _) (.int _ _)) _ _ _)); first | keq_rows | keq_hits | (k_unfold; (try dsimp only)) | walk1 | (dsimp only; walk1) | (leave1; try dsimp only)) | fail "no")
  k_here
  rename News _ _ _ _ => N8
  refine tup_atz N8 mR9 (.inl (by omega)) hv' (by first | exact lenM (by assumption) rfl | (rw [List.length_map]; omega)) ?_ (by with_unfolding_all rfl)
  repeat' (first | ((fail_if_success (with_reducible show wpAny _ _ (subscriptTail _ _ (.ref _) (.int _ _)) _ _ _)); first | keq_rows | keq_hits | (k_unfold; (try dsimp only)) | walk1 | (dsimp only; walk1) | (leave1; try dsimp only)) | fail "no")
  walk1
  repeat' (first | ((fail_if_success (with_reducible show wpAny _ _ (subscriptTail _ _ (.ref _) (.int _ _)) _ _ _)); first | keq_rows | keq_hits | (k_unfold; (try dsimp only)) | walk1 | (dsimp only; walk1) | (leave1; try dsimp only)) | fail "no")
  k_here
  rename News _ _ _ _ => N8
  refine tup_atz N8 mR9 (.inl (by omega)) hv' (by first | exact lenM (by assumption) rfl | (rw [List.length_map]; omega)) ?_ (by with_unfolding_all rfl)
  repeat' (first | ((fail_if_success (with_reducible show wpAny _ _ (subscriptTail _ _ (.ref _) (.int _ _)) _ _ _)); first | keq_rows | keq_hits | (k_unfold; (try dsimp only)) | walk1 | (dsimp only; walk1) | (leave1; try dsimp only)) | fail "no")
  walk1
  repeat' (first | ((fail_if_success (with_reducible show wpAny _ _ (call (.ref _) _) _ _ _)); first | keq_rows | keq_hits | (k_unfold; (try dsimp only)) | walk1 | (dsimp only; walk1) | (leave1; try dsimp only)) | fail "no")
  rename News _ _ _ _ => N8
  rename Fr _ _ _ _ => F8
  subst hTT
  k_here
  k_dflt (refine' dcall (Y := (I, o) :: Y) (put_step_c w d _ _ (Sz.lt (Sz.here (Sz.v7 (Sz.of hx) h3 (Nat.le_of_lt hi))) rfl)) B ?kF X ?kN T ?kk ?kd ?ku yq' (fc (hs7 _ ma) (List.forall_mem_nil _)) hne St7 ?_; (case kF => exact F8); (case kN => exact N8); (case kk => exact rfl); (case kd => ktr_room); (case ku => ktr_units))
  rintro r os6 ps6 no6 np6 tl6 h6 tk6 rfl F6 N6 St6 hs6
  clear N8 F8
  have V6 := V7.mono hs6
  have mq9 : (L' + 1, q) ∈ (I, o) :: (Y ++ d.led os6 ps6 no6 np6 tl6) := .tail _ (led_y mq)
  have mR9 : (R, tup (ts.map fun t => Value.ref t.r)) ∈ (I, o) :: (Y ++ d.led os6 ps6 no6 np6 tl6) := .tail _ (led_t V6.R)
  have mr9 : (t.r, tup [.ref t.f, .ref t.b, .ref t.a, .ref t.c]) ∈ (I, o) :: (Y ++ d.led os6 ps6 no6 np6 tl6) := .tail _ (led_t (hs6 _ (hs7 _ mr)))
  replace N6 : News h L' h6 ((I, o) :: (Y ++ d.led os6 ps6 no6 np6 tl6)) := N6
  generalize hTT : (I, o) :: (Y ++ d.led os6 ps6 no6 np6 tl6) = TT at N6 mq9 mR9 mr9
  (try dsimp only)
  repeat' (first | ((fail_if_success (with_reducible show wpAny _ _ (subscriptTail _ _ (.ref _) (.int _ _)) _ _ _)); first | keq_rows | keq_hits | (k_unfold; (try dsimp only)) | walk1 | (dsimp only; walk1) | (leave1; try dsimp only)) | fail "no")
  k_here
  rename News _ _ _ _ => N8
  refine tup_atz N8 mR9 (.inl rfl) hv (by first | exact lenM (by assumption) rfl | (rw [List.length_map]; omega)) ?_ (by with_unfolding_all rfl)
  repeat' (first | ((fail_if_success (with_reducible show wpAny _ _ (subscriptTail _ _ (.ref _) (.int _ _)) _ _ _)); first | keq_rows | keq_hits | (k_unfold; (try dsimp only)) | walk1 | (dsimp only; walk1) | (leave1; try dsimp only)) | fail "no")
  walk1
  repeat' (first | ((fail_if_success (with_reducible show wpAny _ _ (subscriptTail _ _ (.ref _) (.int _ _)) _ _ _)); first | keq_rows | keq_hits | (k_unfold; (try dsimp only)) | walk1 | (dsimp only; walk1) | (leave1; try dsimp only)) | fail "no")
  k_here
  rename News _ _ _ _ => N8
  refine tup_atz N8 mR9 (.inl rfl) hv (by first | exact lenM (by assumption) rfl | (rw [List.length_map]; omega)) ?_ (by with_unfolding_all rfl)
  repeat' (first | ((fail_if_success (with_reducible show wpAny _ _ (subscriptTail _ _ (.ref _) (.int _ _)) _ _ _)); first | keq_rows | keq_hits | (k_unfold; (try dsimp only)) | walk1 | (dsimp only; walk1) | (leave1; try dsimp only)) | fail "no")
  walk1
  repeat' (first | ((fail_if_success (with_reducible show wpAny _ _ (call (.ref _) _) _ _ _)); first | keq_rows | keq_hits | (k_unfold; (try dsimp only)) | walk1 | (dsimp only; walk1) | (leave1; try dsimp only)) | fail "no")
  rename News _ _ _ _ => N8
  rename Fr _ _ _ _ => F8
  subst hTT
  k_here
  k_dflt (refine' dcall (Y := (I, o) :: Y) (put_step_c w d _ _ (Sz.lt (Sz.step (Sz.here (Sz.v7 (Sz.of hx) h3 (Nat.le_of_lt hi)))) rfl)) B ?kF X ?kN T ?kk ?kd ?ku yq' (fc (hs6 _ (hs7 _ mb')) (List.forall_mem_nil _)) hne St6 ?_; (case kF => exact F8); (case kN => exact N8); (case kk => exact rfl); (case kd => ktr_room); (case ku => ktr_units))
  rintro r os5 ps5 no5 np5 tl5 h5 tk5 rfl F5 N5 St5 hs5
  clear N8 F8
  have m1 : (d.D, instObj 209 d.dx) ∈ (I, o) :: (Y ++ d.led os5 ps5 no5 np5 tl5) := .tail _ led_1
  have m2 : (d.dx, dictOf (draftD d.k d.pr (.ref d.oA) (.ref d.pA) d.sl d.hd) 5) ∈ (I, o) :: (Y ++ d.led os5 ps5 no5 np5 tl5) := .tail _ led_2
  have mq9 : (L' + 1, q) ∈ (I, o) :: (Y ++ d.led os5 ps5 no5 np5 tl5) := .tail _ (led_y mq)
  have mC9 : (Dc, lst cys) ∈ (I, o) :: (Y ++ d.led os5 ps5 no5 np5 tl5) := .tail _ (led_y mC)
  replace N5 : News h L' h5 ((I, o) :: (Y ++ d.led os5 ps5 no5 np5 tl5)) := N5
  generalize hTT : (I, o) :: (Y ++ d.led os5 ps5 no5 np5 tl5) = TT at N5 m1 m2 mq9 mC9
  (try dsimp only)
  repeat' (first | ((fail_if_success (with_reducible show wpAny _ _ (subscriptTail _ _ (.ref _) (.int _ _)) _ _ _)); first | keq_rows | keq_hits | (k_unfold; (try dsimp only)) | walk1 | (dsimp only; walk1) | (leave1; try dsimp only)) | fail "no")
  k_here
  rename News _ _ _ _ => N8
  refine list_atz N8 mC9 (by omega) hc1 (by lia) ?_ (by with_unfolding_all rfl)
  repeat' (first | ((fail_if_success (with_reducible show wpAny _ _ (call (.ref _) _) _ _ _)); first | keq_rows | keq_hits | (k_unfold; (try dsimp only)) | walk1 | (dsimp only; walk1) | (leave1; try dsimp only)) | fail "no")
  rename News _ _ _ _ => N8
  rename Fr _ _ _ _ => F8
  subst hTT
  have N8 := jump_led (Y := (I, o) :: Y) N8
  k_here
  k_dflt (refine' dcall (Y := (I, o) :: Y) (put_jump w d _ _ (Sz.lt (Sz.step (Sz.step (Sz.here (Sz.v7 (Sz.of hx) h3 (Nat.le_of_lt hi))))) rfl)) B ?kF X ?kN T ?kk ?kd ?ku yq' (fc (.head _) (List.forall_mem_nil _)) hne St5.more ?_; (case kF => exact F8); (case kN => exact N8); (case kk => exact rfl); (case kd => ktr_room); (case ku => ktr_units))
  rintro r os4 ps4 no4 np4 tl4 h4 tk4 rfl F4 N4 St4 hs4
  clear N8 F8
  (try dsimp only)
  repeat' (first | ((fail_if_success (with_reducible show KfPost _ _ _ _ _ _ _ _ _ _ _ _ _)); first | keq_rows | keq_hits | (k_unfold; (try dsimp only)) | walk1 | (dsimp only; walk1) | (leave1; try dsimp only)) | fail "no")
  show KfEnd _ _ _ _ _ _ _ _ _ _ _
  have St3 : DS tl4 os4 ps4 (v7P x ts c0 o0 (i + 1)) := by simp only [v7P, ← hj, ht, ht']; exact St4
  refine dl_end F4 N4 ho yI ?_ ?_ St3 fun p hp => hs4 p (.tail _ (hs5 p (hs6 p (hs7 p (hs p hp)))))
  ·exact fc rfl (fc rfl (fc rfl (List.forall_mem_nil _)))
  ·((try dsimp +zetaDelta only); ksw_same)
 ))only[↓bB]
end

end N6p
section N7p
open PyProof.Rows.LCg
noncomputable def innP (x : AP) (ts : List T4) (j : Nat) : Nat → AP
 | 0 => x
 | k + 1 => match ts[j + 1 + k]? with
  | some t => stepP (innP x ts j k) t.f t.b "="
  | none => innP x ts j k
theorem inn_len (x : AP) (ts : List T4) (j : Nat) : ∀ k, (innP x ts j k).1.length ≤ x.1.length + 2 * k ∧ (innP x ts j k).2.length ≤ x.2.length + k ∧ x.2.length ≤ (innP x ts j k).2.length
 | 0 => ⟨Nat.le_refl _, Nat.le_refl _, Nat.le_refl _⟩
 | k + 1 => by
  refine an3 (inn_len x ts j k) ?_
  intro e1 e2 e3
  unfold innP
  cases ts[j + 1 + k]? with
  | none => exact ⟨by simp only; lia, by simp only; lia, e3⟩
  | some t =>
   simp only [stepP, List.length_append, List.length_cons, List.length_nil]
   lia
noncomputable def vaP (x : AP) (ts : List T4) (ag : Nat) : Nat → AP
 | 0 => x
 | i + 1 => match ts[ts.length - 1 - i]? with
  | some t => hereP (putP (innP (stepP (condP (freshP (vaP x ts ag i)) t.c ((vaP x ts ag i).2.length : Nat)) t.f t.a "+") ts (ts.length - 1 - i) i) (.jump (ag : Nat))) (vaP x ts ag i).2.length
  | none => vaP x ts ag i
theorem va_len (x : AP) (ts : List T4) (ag : Nat) : ∀ i, i ≤ 3 → (vaP x ts ag i).1.length + (vaP x ts ag i).2.length ≤ x.1.length + x.2.length + 20 * i
 | 0, _ => Nat.le_refl _
 | i + 1, h => by
  have e := va_len x ts ag i (by lia)
  rw [vaP]
  cases ts[ts.length - 1 - i]? with
  | none => simp only; lia
  | some t =>
   refine an3 (inn_len (stepP (condP (freshP (vaP x ts ag i)) t.c ((vaP x ts ag i).2.length : Nat)) t.f t.a "+") ts (ts.length - 1 - i) i) ?_
   intro e1 e2 _
   simp only [stepP, condP, freshP, List.length_append, List.length_cons, List.length_nil] at e1 e2
   simp only [hereP, putP, stepP, condP, freshP, List.length_append, List.length_cons, List.length_nil, List.length_set]
   lia
theorem Sz.va {x : AP} {ts : List T4} {ag i n : Nat} (h : Sz x n) (hi : i ≤ 3) : Sz (vaP x ts ag i) (n + 60) := by
 have e := va_len x ts ag i hi
 unfold Sz at *; lia
theorem Sz.inn {x : AP} {ts : List T4} {j k n : Nat} (h : Sz x n) (hk : k ≤ 3) : Sz (innP x ts j k) (n + 9) := by
 refine an3 (inn_len x ts j k) ?_
 intro e1 e2 _
 unfold Sz at *; lia
theorem ltFresh {x : AP} {f a c : Addr} {l : Int} {way : Str} : x.2.length < (stepP (condP (freshP x) c l) f a way).2.length := by
 simp only [stepP, condP, freshP, List.length_append, List.length_cons, List.length_nil]; lia
section
variable {w : World} {p : Program} {loose : List Str} {mean : ExcName → Option Value} {mg mb : Str → Option Value} {dp un : Nat} {gd : Option (List Code)} {cn : Str} {cs : Scope} {L a : Addr} {ccd cd : Value} {cl : List (Str × Addr)} {outer : List Env} {base h : Heap} {L' : Addr} {m : Str → Option Value} {s : Shared} {E : Value → Shared → Prop} {d : DAt} {os ps : Array Value} {no np : Nat} {tl : Led} {R g s2 : Addr} {ts : List T4} {q : Obj} {Y : Led} {x : AP}
theorem va1 (B : Below (ktrTop dp un gd cn cs L a ccd cl outer) base (envX cn cs L a ccd cl :: outer) h) (X : Frag.In (Mine.hd.heap_1 w.params) h) (T : Top p loose mean mg mb h) (hdp : dp + 8 < recursionLimit) (hun : un + 96 < cLine)
  (hE : PassesOwn (model PR w) ((ktrTop dp un gd cn cs L a ccd cl outer).deeper (eVA (Mine.hd.heap_1 w.params) L' cd)) (eVA (Mine.hd.heap_1 w.params) L' cd) E)
  (yq : ∀ z ∈ Y, z.1 ≠ d.oA ∧ z.1 ≠ d.pA) (hx : x.1.length + x.2.length < 900) (hne : NeA d.oA d.pA) (St : DS tl os ps x) (F : Fr h L' s.heap m) (hk : ∀ p ∈ ([(("draft" : Str), .ref d.D)] : List (Str × Value)), m p.1 = some p.2)
  (N : News h L' s.heap (Y ++ d.led os ps no np tl)) :
  wpAny (model PR w) ((ktrTop dp un gd cn cs L a ccd cl outer).deeper (eVA (Mine.hd.heap_1 w.params) L' cd)) (exec (stmtAt (Mine.hd.heap_1 w.params) 319 1) (eVA (Mine.hd.heap_1 w.params) L' cd))
   (Nx fun s' => ∃ h' tk m' ps' np' t, s' = { s with heap := h', toks := tk } ∧ Fr h L' h' m' ∧ m' ("again" : Str) = some (.int (x.2.length : Nat) t) ∧ (∀ z, z ≠ ("again" : Str) → m' z = m z) ∧ News h L' h' (Y ++ d.led os ps' no np' tl) ∧ DS tl os ps' (freshP x)) E s := by
 have F := ksw_fr (ps := [(("draft" : Str), .ref d.D)]) (m₀ := m) (stored := []) hk (fun _ _ _ => rfl) F
 dsimp only [kstB] at F
 with_reducible refine' stmt_lit ?ho hE ?_
 case ho => k_is
 clear hE
 intro hE
 simp only [List.getD_eq_getElem?_getD, List.getElem?_cons_succ, List.getElem?_cons_zero, Option.getD_some]
 (refine absQ ?_; intro qN uqN)
 have m1 : (d.D, instObj 209 d.dx) ∈ Y ++ d.led os ps no np tl := led_1
 have m2 : (d.dx, dictOf (draftD d.k d.pr (.ref d.oA) (.ref d.pA) d.sl d.hd) 5) ∈ Y ++ d.led os ps no np tl := led_2
 generalize hTT : Y ++ d.led os ps no np tl = TT at N m1 m2
 repeat' (first | ((fail_if_success (with_reducible show wpAny _ _ (call (.ref _) _) _ _ _)); first | keq_rows | keq_hits | (k_unfold; (try dsimp only)) | walk1 | (dsimp only; walk1) | (leave1; try dsimp only)) | fail "no")
 rename News _ _ _ _ => N8
 rename Fr _ _ _ _ => F8
 subst hTT
 k_here
 k_dflt (refine' dfresh (Sz.lt (Sz.of hx) rfl) B ?kF X ?kN T ?kk ?kd ?ku yq hne St ?_; (case kF => exact F8); (case kN => exact N8); (case kk => exact rfl); (case kd => ktr_room); (case ku => ktr_units))
 intro t ps8 np8 h8 tk8 F9 N9 St9
 clear N8 F8
 (try dsimp only)
 repeat' (first | ((fail_if_success (with_reducible show Nx _ _ _)); first | keq_rows | keq_hits | (k_unfold; (try dsimp only)) | walk1 | (dsimp only; walk1) | (leave1; try dsimp only)) | fail "no")
 rename News _ _ _ _ => N7
 rename Fr _ _ _ _ => F7
 refine ⟨rfl, exi6 _ _ _ ps8 np8 t ⟨rfl, F7, if_pos rfl, fun z hz => ?_, N7, St9⟩⟩
 (try dsimp +zetaDelta only)
 simp only [hz, if_false]
 exact kstB_eq hk fun _ => rfl
theorem va2 (B : Below (ktrTop dp un gd cn cs L a ccd cl outer) base (envX cn cs L a ccd cl :: outer) h) (X : Frag.In (Mine.hd.heap_1 w.params) h) (T : Top p loose mean mg mb h) (hdp : dp + 8 < recursionLimit) (hun : un + 96 < cLine)
  (hE : PassesOwn (model PR w) ((ktrTop dp un gd cn cs L a ccd cl outer).deeper (eVA (Mine.hd.heap_1 w.params) L' cd)) (eVA (Mine.hd.heap_1 w.params) L' cd) E)
  (yq : ∀ z ∈ Y, z.1 ≠ d.oA ∧ z.1 ≠ d.pA) (hx : x.1.length + x.2.length < 900) {ag : Nat} {ta : Tok} (hag : ag < x.2.length) (hne : NeA d.oA d.pA) (St : DS tl os ps x) (F : Fr h L' s.heap m) (hk : ∀ p ∈ ([(("draft" : Str), .ref d.D), ("again", .int (ag : Nat) ta)] : List (Str × Value)), m p.1 = some p.2)
  (N : News h L' s.heap (Y ++ d.led os ps no np tl)) :
  wpAny (model PR w) ((ktrTop dp un gd cn cs L a ccd cl outer).deeper (eVA (Mine.hd.heap_1 w.params) L' cd)) (exec (stmtAt (Mine.hd.heap_1 w.params) 319 2) (eVA (Mine.hd.heap_1 w.params) L' cd))
   (Nx fun s' => ∃ h' tk m' os' ps' no' np' tl', s' = { s with heap := h', toks := tk } ∧ Fr h L' h' m' ∧ (∀ z, m' z = m z) ∧ News h L' h' (Y ++ d.led os' ps' no' np' tl') ∧ DS tl' os' ps' (hereP x ag) ∧ ∀ q ∈ tl, q ∈ tl') E s := by
 have F := ksw_fr (ps := [(("draft" : Str), .ref d.D), ("again", .int (ag : Nat) ta)]) (m₀ := m) (stored := []) hk (fun _ _ _ => rfl) F
 dsimp only [kstB] at F
 with_reducible refine' stmt_lit ?ho hE ?_
 case ho => k_is
 clear hE
 intro hE
 simp only [List.getD_eq_getElem?_getD, List.getElem?_cons_succ, List.getElem?_cons_zero, Option.getD_some]
 (refine absQ ?_; intro qN uqN)
 have m1 : (d.D, instObj 209 d.dx) ∈ Y ++ d.led os ps no np tl := led_1
 have m2 : (d.dx, dictOf (draftD d.k d.pr (.ref d.oA) (.ref d.pA) d.sl d.hd) 5) ∈ Y ++ d.led os ps no np tl := led_2
 generalize hTT : Y ++ d.led os ps no np tl = TT at N m1 m2
 repeat' (first | ((fail_if_success (with_reducible show wpAny _ _ (call (.ref _) _) _ _ _)); first | keq_rows | keq_hits | (k_unfold; (try dsimp only)) | walk1 | (dsimp only; walk1) | (leave1; try dsimp only)) | fail "no")
 rename News _ _ _ _ => N8
 rename Fr _ _ _ _ => F8
 subst hTT
 k_here
 k_dflt (refine' dcall (here_c w d _ _ _ _ hag) B ?kF X ?kN T ?kk ?kd ?ku yq (List.forall_mem_nil _) hne St ?_; (case kF => exact F8); (case kN => exact N8); (case kk => exact rfl); (case kd => ktr_room); (case ku => ktr_units))
 rintro r os8 ps8 no8 np8 tl8 h8 tk8 rfl F9 N9 St9 hs9
 clear N8 F8
 (try dsimp only)
 repeat' (first | ((fail_if_success (with_reducible show Nx _ _ _)); first | keq_rows | keq_hits | (k_unfold; (try dsimp only)) | walk1 | (dsimp only; walk1) | (leave1; try dsimp only)) | fail "no")
 exact ⟨rfl, exi8 _ _ _ os8 ps8 no8 np8 tl8 ⟨rfl, F9, fun z => kstB_eq hk fun _ => rfl, N9, St9, fun p hp => hs9 p hp⟩⟩
theorem va4 {ag : Nat} {ta : Tok} (B : Below (ktrTop dp un gd cn cs L a ccd cl outer) base (envX cn cs L a ccd cl :: outer) h) (X : Frag.In (Mine.hd.heap_1 w.params) h) (T : Top p loose mean mg mb h) (hdp : dp + 8 < recursionLimit) (hun : un + 96 < cLine)
  (hE : PassesOwn (model PR w) ((ktrTop dp un gd cn cs L a ccd cl outer).deeper (eVA (Mine.hd.heap_1 w.params) L' cd)) (eVA (Mine.hd.heap_1 w.params) L' cd) E)
  (yq : ∀ z ∈ Y, z.1 ≠ d.oA ∧ z.1 ≠ d.pA) (h3 : ts.length ≤ 3) (h1 : 1 ≤ ts.length) (hx : x.1.length + x.2.length < 900) (V : VIn tl R g s2 ts) (hne : NeA d.oA d.pA) (St : DS tl os ps x) (F : Fr h L' s.heap m) (hk : ∀ p ∈ ([(("rows" : Str), .ref R), ("draft", .ref d.D), ("again", .int (ag : Nat) ta)] : List (Str × Value)), m p.1 = some p.2)
  (N : News h L' s.heap (Y ++ d.led os ps no np tl)) :
  wpAny (model PR w) ((ktrTop dp un gd cn cs L a ccd cl outer).deeper (eVA (Mine.hd.heap_1 w.params) L' cd)) (exec (stmtAt (Mine.hd.heap_1 w.params) 319 4) (eVA (Mine.hd.heap_1 w.params) L' cd))
   (Nx fun s' => ∃ h' tk m' os' ps' no' np' tl', s' = { s with heap := h', toks := tk } ∧ Fr h L' h' m' ∧ News h L' h' (Y ++ d.led os' ps' no' np' tl') ∧ DS tl' os' ps' (vaP x ts ag ts.length) ∧ ∀ q ∈ tl, q ∈ tl') E s := by
 refine uB ?_
 simp(disch:=k_dflt(
 refine iB ?_
 have F := ksw_fr (ps := [(("rows" : Str), .ref R), ("draft", .ref d.D), ("again", .int (ag : Nat) ta)]) (m₀ := m) (stored := []) hk (fun _ _ _ => rfl) F
 dsimp only [kstB] at F
 with_reducible refine' stmt_lit ?ho hE ?_
 case ho => k_is
 clear hE
 intro hE
 simp only [List.getD_eq_getElem?_getD, List.getElem?_cons_succ, List.getElem?_cons_zero, Option.getD_some]
 (refine absQ ?_; intro qN uqN)
 have h4 : ts.length = 1 ∨ ts.length = 2 ∨ ts.length = 3 := by lia
 k_here
 refine For_turns F ?_
 repeat' (first | ((fail_if_success (with_reducible show wpAny _ _ (call (.builtin _) [.ref _]) _ _ _)); first | keq_rows | keq_hits | (k_unfold; (try dsimp only)) | walk1 | (dsimp only; walk1) | (leave1; try dsimp only)) | fail "no")
 k_here
 refine len_tup N (led_t V.R) (by first | exact lenM (by assumption) rfl | (rw [List.length_map]; omega)) ?_
 rw [List.length_map]
 repeat' (first | ((fail_if_success (with_reducible show wpAny _ _ (pyIter (.ref _)) _ _ _)); first | keq_rows | keq_hits | (k_unfold; (try dsimp only)) | walk1 | (dsimp only; walk1) | (leave1; try dsimp only)) | fail "no")
 rename IsRange _ _ _ _ _ _ _ _ => rgX
 rename News _ _ _ _ => N6
 rename Fr _ _ _ _ => F6
 k_here
 refine' dl_range (n := ts.length) (vaP x ts ag) [(("rows" : Str), .ref R), ("draft", .ref d.D), ("again", .int (ag : Nat) ta)] ["at", "over", "inner"] rfl F6 N6 rgX ?sm ?rn ?hk St ?turn ?fin
 case sm => rcases h4 with h | h | h <;> rw [h] <;> decide
 case rn => rcases h4 with h | h | h <;> rw [h] <;> rfl
 case hk =>
  exact fc rfl (fc rfl (fc rfl (List.forall_mem_nil _)))
 case fin =>
  intro c u h9 tk9 St hs F N
  refine upUse uqN ?_
  exact ⟨rfl, exi8 h9 tk9 _ c.os c.ps c.no c.np c.tl ⟨rfl, F, N, St, hs⟩⟩
 case turn =>
  intro i c u t9 h9 tk9 I o hi St hs ho oI yI F N
  (refine absG ?_; intro G9 kG9)
  have zz : Sz (vaP x ts ag i) 960 := Sz.va (Sz.of hx) (Nat.le_trans (Nat.le_of_lt hi) h3)
  obtain ⟨j, hj⟩ : ∃ j, j = ts.length - 1 - i := ⟨_, rfl⟩
  have hj2 : j < ts.length := by omega
  obtain ⟨t, ht⟩ : ∃ t, ts[j]? = some t := ⟨_, List.getElem?_eq_getElem hj2⟩
  have V' := V.mono hs
  obtain ⟨mr, _, ⟨ua, xa, ma⟩, ⟨uc, xc, yc, zc, mc⟩⟩ := V'.row t (List.mem_of_getElem? ht)
  have hv : (ts.map fun t => Value.ref t.r)[j]? = some (.ref t.r) := by rw [List.getElem?_map, ht]; rfl
  have e0 : (ts.length : Int) - 1 + (i : Int) * (-1) = (j : Int) := by omega
  (refine kG9 ?_; clear kG9)
  rw [e0]
  have yq' : ∀ z ∈ (I, o) :: Y, z.1 ≠ d.oA ∧ z.1 ≠ d.pA := fc oI yq
  have m1 : (d.D, instObj 209 d.dx) ∈ (I, o) :: (Y ++ d.led c.os c.ps c.no c.np c.tl) := .tail _ led_1
  have m2 : (d.dx, dictOf (draftD d.k d.pr (.ref d.oA) (.ref d.pA) d.sl d.hd) 5) ∈ (I, o) :: (Y ++ d.led c.os c.ps c.no c.np c.tl) := .tail _ led_2
  generalize hTT : (I, o) :: (Y ++ d.led c.os c.ps c.no c.np c.tl) = TT at N m1 m2
  dsimp only [kstB] at F
  (try k_fold)
  repeat' (first | ((fail_if_success (with_reducible show wpAny _ _ (call (.ref _) _) _ _ _)); first | keq_rows | keq_hits | (k_unfold; (try dsimp only)) | walk1 | (dsimp only; walk1) | (leave1; try dsimp only)) | fail "no")
  rename News _ _ _ _ => N8
  rename Fr _ _ _ _ => F8
  subst hTT
  k_here
  k_dflt (refine' dfresh (Y := (I, o) :: Y) (Sz.lt zz rfl) B ?kF X ?kN T ?kk ?kd ?ku yq' hne St ?_; (case kF => exact F8); (case kN => exact N8); (case kk => exact rfl); (case kd => ktr_room); (case ku => ktr_units))
  intro to ps7 np7 h7 tk7 F7 N7 St7
  clear N8 F8
  have m1 : (d.D, instObj 209 d.dx) ∈ (I, o) :: (Y ++ d.led c.os ps7 c.no np7 c.tl) := .tail _ led_1
  have m2 : (d.dx, dictOf (draftD d.k d.pr (.ref d.oA) (.ref d.pA) d.sl d.hd) 5) ∈ (I, o) :: (Y ++ d.led c.os ps7 c.no np7 c.tl) := .tail _ led_2
  have mR9 : (R, tup (ts.map fun t => Value.ref t.r)) ∈ (I, o) :: (Y ++ d.led c.os ps7 c.no np7 c.tl) := .tail _ (led_t V'.R)
  have mr9 : (t.r, tup [.ref t.f, .ref t.b, .ref t.a, .ref t.c]) ∈ (I, o) :: (Y ++ d.led c.os ps7 c.no np7 c.tl) := .tail _ (led_t (mr))
  replace N7 : News h L' h7 ((I, o) :: (Y ++ d.led c.os ps7 c.no np7 c.tl)) := N7
  generalize hTT : (I, o) :: (Y ++ d.led c.os ps7 c.no np7 c.tl) = TT at N7 m1 m2 mR9 mr9
  (try dsimp only)
  repeat' (first | ((fail_if_success (with_reducible show wpAny _ _ (subscriptTail _ _ (.ref _) (.int _ _)) _ _ _)); first | keq_rows | keq_hits | (k_unfold; (try dsimp only)) | walk1 | (dsimp only; walk1) | (leave1; try dsimp only)) | fail "no")
  k_here
  rename News _ _ _ _ => N8
  refine tup_atz N8 mR9 (.inl rfl) hv (by first | exact lenM (by assumption) rfl | (rw [List.length_map]; omega)) ?_ (by with_unfolding_all rfl)
  repeat' (first | ((fail_if_success (with_reducible show wpAny _ _ (subscriptTail _ _ (.ref _) (.int _ _)) _ _ _)); first | keq_rows | keq_hits | (k_unfold; (try dsimp only)) | walk1 | (dsimp only; walk1) | (leave1; try dsimp only)) | fail "no")
  walk1
  repeat' (first | ((fail_if_success (with_reducible show wpAny _ _ (call (.ref _) _) _ _ _)); first | keq_rows | keq_hits | (k_unfold; (try dsimp only)) | walk1 | (dsimp only; walk1) | (leave1; try dsimp only)) | fail "no")
  rename News _ _ _ _ => N8
  rename Fr _ _ _ _ => F8
  subst hTT
  k_here
  k_dflt (refine' dcall (Y := (I, o) :: Y) (put_condition_c w d _ _ (Sz.lt (Sz.fresh zz) rfl)) B ?kF X ?kN T ?kk ?kd ?ku yq' (fc mc (List.forall_mem_nil _)) hne St7 ?_; (case kF => exact F8); (case kN => exact N8); (case kk => exact rfl); (case kd => ktr_room); (case ku => ktr_units))
  rintro r os6 ps6 no6 np6 tl6 h6 tk6 rfl F6 N6 St6 hs6a
  clear N8 F8
  have V6 := V'.mono hs6a
  have m1 : (d.D, instObj 209 d.dx) ∈ (I, o) :: (Y ++ d.led os6 ps6 no6 np6 tl6) := .tail _ led_1
  have m2 : (d.dx, dictOf (draftD d.k d.pr (.ref d.oA) (.ref d.pA) d.sl d.hd) 5) ∈ (I, o) :: (Y ++ d.led os6 ps6 no6 np6 tl6) := .tail _ led_2
  have mR9 : (R, tup (ts.map fun t => Value.ref t.r)) ∈ (I, o) :: (Y ++ d.led os6 ps6 no6 np6 tl6) := .tail _ (led_t V6.R)
  have mr9 : (t.r, tup [.ref t.f, .ref t.b, .ref t.a, .ref t.c]) ∈ (I, o) :: (Y ++ d.led os6 ps6 no6 np6 tl6) := .tail _ (led_t (hs6a _ mr))
  replace N6 : News h L' h6 ((I, o) :: (Y ++ d.led os6 ps6 no6 np6 tl6)) := N6
  generalize hTT : (I, o) :: (Y ++ d.led os6 ps6 no6 np6 tl6) = TT at N6 m1 m2 mR9 mr9
  (try dsimp only)
  repeat' (first | ((fail_if_success (with_reducible show wpAny _ _ (subscriptTail _ _ (.ref _) (.int _ _)) _ _ _)); first | keq_rows | keq_hits | (k_unfold; (try dsimp only)) | walk1 | (dsimp only; walk1) | (leave1; try dsimp only)) | fail "no")
  k_here
  rename News _ _ _ _ => N8
  refine tup_atz N8 mR9 (.inl rfl) hv (by first | exact lenM (by assumption) rfl | (rw [List.length_map]; omega)) ?_ (by with_unfolding_all rfl)
  repeat' (first | ((fail_if_success (with_reducible show wpAny _ _ (subscriptTail _ _ (.ref _) (.int _ _)) _ _ _)); first | keq_rows | keq_hits | (k_unfold; (try dsimp only)) | walk1 | (dsimp only; walk1) | (leave1; try dsimp only)) | fail "no")
  walk1
  repeat' (first | ((fail_if_success (with_reducible show wpAny _ _ (subscriptTail _ _ (.ref _) (.int _ _)) _ _ _)); first | keq_rows | keq_hits | (k_unfold; (try dsimp only)) | walk1 | (dsimp only; walk1) | (leave1; try dsimp only)) | fail "no")
  k_here
  rename News _ _ _ _ => N8
  refine tup_atz N8 mR9 (.inl rfl) hv (by first | exact lenM (by assumption) rfl | (rw [List.length_map]; omega)) ?_ (by with_unfolding_all rfl)
  repeat' (first | ((fail_if_success (with_reducible show wpAny _ _ (subscriptTail _ _ (.ref _) (.int _ _)) _ _ _)); first | keq_rows | keq_hits | (k_unfold; (try dsimp only)) | walk1 | (dsimp only; walk1) | (leave1; try dsimp only)) | fail "no")
  walk1
  repeat' (first | ((fail_if_success (with_reducible show wpAny _ _ (call (.ref _) _) _ _ _)); first | keq_rows | keq_hits | (k_unfold; (try dsimp only)) | walk1 | (dsimp only; walk1) | (leave1; try dsimp only)) | fail "no")
  rename News _ _ _ _ => N8
  rename Fr _ _ _ _ => F8
  subst hTT
  k_here
  k_dflt (refine' dcall (Y := (I, o) :: Y) (put_step_c w d _ _ (Sz.lt (Sz.cond (Sz.fresh zz)) rfl)) B ?kF X ?kN T ?kk ?kd ?ku yq' (fc (hs6a _ ma) (List.forall_mem_nil _)) hne St6 ?_; (case kF => exact F8); (case kN => exact N8); (case kk => exact rfl); (case kd => ktr_room); (case ku => ktr_units))
  rintro r os5 ps5 no5 np5 tl5 h5 tk5 rfl F5 N5 St5 hs5
  clear N8 F8
  have V5 := V6.mono hs5
  have mR5 : (R, tup (ts.map fun t => Value.ref t.r)) ∈ (I, o) :: (Y ++ d.led os5 ps5 no5 np5 tl5) := .tail _ (led_t V5.R)
  replace N5 : News h L' h5 ((I, o) :: (Y ++ d.led os5 ps5 no5 np5 tl5)) := N5
  (try dsimp only)
  repeat' (first | ((fail_if_success (with_reducible show wpAny _ _ (exec (.For _ _ _ _ _) _) _ _ _)); first | keq_rows | keq_hits | (k_unfold; (try dsimp only)) | walk1 | (dsimp only; walk1) | (leave1; try dsimp only)) | fail "no")
  rename Fr _ _ _ _ => F8
  k_here
  refine For_turns F8 ?_
  repeat' (first | ((fail_if_success (with_reducible show wpAny _ _ (call (.builtin _) [.ref _]) _ _ _)); first | keq_rows | keq_hits | (k_unfold; (try dsimp only)) | walk1 | (dsimp only; walk1) | (leave1; try dsimp only)) | fail "no")
  k_here
  refine len_tup N5 mR5 (by first | exact lenM (by assumption) rfl | (rw [List.length_map]; omega)) ?_
  rw [List.length_map]
  repeat' (first | ((fail_if_success (with_reducible show wpAny _ _ (pyIter (.ref _)) _ _ _)); first | keq_rows | keq_hits | (k_unfold; (try dsimp only)) | walk1 | (dsimp only; walk1) | (leave1; try dsimp only)) | fail "no")
  rename IsRange _ _ _ _ _ _ _ _ => rgY
  rename News _ _ _ _ => N4
  rename Fr _ _ _ _ => F4
  k_here
  obtain ⟨y, hy⟩ : ∃ y, y = stepP (condP (freshP (vaP x ts ag i)) t.c ((vaP x ts ag i).2.length : Nat)) t.f t.a "+" := ⟨_, rfl⟩
  have St5 : DS tl5 os5 ps5 (innP y ts j 0) := by rw [hy]; exact St5
  have y1 : Sz y 967 := by rw [hy]; exact Sz.step (Sz.cond (Sz.fresh zz))
  have y2 : (vaP x ts ag i).2.length < y.2.length := by rw [hy]; exact ltFresh
  refine' dl_range (Y := (I, o) :: Y) (n := i) (innP y ts j) [(("rows" : Str), .ref R), ("draft", .ref d.D), ("again", .int (ag : Nat) ta), ("at", .int (j : Int) t9), ("over", .int ((vaP x ts ag i).2.length : Nat) to)] ["inner"] rfl F4 N4 rgY ?sm ?rn ?hk St5 ?turn ?fin
  case sm => exact small_one (by omega) (by lia) (by lia) (by lia)
  case rn => rw [rangeSize_nat]; lia
  case hk =>
   exact fc rfl (fc rfl (fc rfl (fc rfl (fc rfl (List.forall_mem_nil _)))))
  case turn =>
   intro k c2 u2 t8 h8 tk8 I2 o2 hk2 St4 hs4 ho2 oI2 yI2 F N
   (refine absG ?_; intro G9 kG9)
   obtain ⟨t2, ht2⟩ : ∃ t, ts[j + 1 + k]? = some t := ⟨_, List.getElem?_eq_getElem (by lia)⟩
   have V4 := V5.mono hs4
   obtain ⟨mr2, ⟨ub, xb, mb2⟩, _, _⟩ := V4.row t2 (List.mem_of_getElem? ht2)
   have hv2 : (ts.map fun t => Value.ref t.r)[j + 1 + k]? = some (.ref t2.r) := by rw [List.getElem?_map, ht2]; rfl
   have e1 : (j : Int) + 1 + (k : Int) * 1 = ((j + 1 + k : Nat) : Int) := by lia
   (refine kG9 ?_; clear kG9)
   rw [e1]
   have yq2 : ∀ z ∈ (I2, o2) :: (I, o) :: Y, z.1 ≠ d.oA ∧ z.1 ≠ d.pA := fc oI2 yq'
   have mR9 : (R, tup (ts.map fun t => Value.ref t.r)) ∈ (I2, o2) :: ((I, o) :: Y ++ d.led c2.os c2.ps c2.no c2.np c2.tl) := .tail _ (led_t V4.R)
   have mr9 : (t2.r, tup [.ref t2.f, .ref t2.b, .ref t2.a, .ref t2.c]) ∈ (I2, o2) :: ((I, o) :: Y ++ d.led c2.os c2.ps c2.no c2.np c2.tl) := .tail _ (led_t mr2)
   generalize hTT : (I2, o2) :: ((I, o) :: Y ++ d.led c2.os c2.ps c2.no c2.np c2.tl) = TT at N mR9 mr9
   dsimp only [kstB] at F
   (try k_fold)
   repeat' (first | ((fail_if_success (with_reducible show wpAny _ _ (subscriptTail _ _ (.ref _) (.int _ _)) _ _ _)); first | keq_rows | keq_hits | (k_unfold; (try dsimp only)) | walk1 | (dsimp only; walk1) | (leave1; try dsimp only)) | fail "no")
   k_here
   rename News _ _ _ _ => N8
   refine tup_atz N8 mR9 (.inl rfl) hv2 (by first | exact lenM (by assumption) rfl | (rw [List.length_map]; omega)) ?_ (by with_unfolding_all rfl)
   repeat' (first | ((fail_if_success (with_reducible show wpAny _ _ (subscriptTail _ _ (.ref _) (.int _ _)) _ _ _)); first | keq_rows | keq_hits | (k_unfold; (try dsimp only)) | walk1 | (dsimp only; walk1) | (leave1; try dsimp only)) | fail "no")
   walk1
   repeat' (first | ((fail_if_success (with_reducible show wpAny _ _ (subscriptTail _ _ (.ref _) (.int _ _)) _ _ _)); first | keq_rows | keq_hits | (k_unfold; (try dsimp only)) | walk1 | (dsimp only; walk1) | (leave1; try dsimp only)) | fail "no")
   k_here
   rename News _ _ _ _ => N8
   refine tup_atz N8 mR9 (.inl rfl) hv2 (by first | exact lenM (by assumption) rfl | (rw [List.length_map]; omega)) ?_ (by with_unfolding_all rfl)
   repeat' (first | ((fail_if_success (with_reducible show wpAny _ _ (subscriptTail _ _ (.ref _) (.int _ _)) _ _ _)); first | keq_rows | keq_hits | (k_unfold; (try dsimp only)) | walk1 | (dsimp only; walk1) | (leave1; try dsimp only)) | fail "no")
   walk1
   repeat' (first | ((fail_if_success (with_reducible show wpAny _ _ (call (.ref _) _) _ _ _)); first | keq_rows | keq_hits | (k_unfold; (try dsimp only)) | walk1 | (dsimp only; walk1) | (leave1; try dsimp only)) | fail "no")
   rename News _ _ _ _ => N8
   rename Fr _ _ _ _ => F8
   subst hTT
   k_here
   k_dflt (refine' dcall (Y := (I2, o2) :: (I, o) :: Y) (put_step_c w d _ _ (Sz.lt (Sz.inn y1 (Nat.le_trans (Nat.le_of_lt hk2) (Nat.le_trans (Nat.le_of_lt hi) h3))) rfl)) B ?kF X ?kN T ?kk ?kd ?ku yq2 (fc mb2 (List.forall_mem_nil _)) hne St4 ?_; (case kF => exact F8); (case kN => exact N8); (case kk => exact rfl); (case kd => ktr_room); (case ku => ktr_units))
   rintro r os7 ps7 no7 np7 tl7 h7 tk7 rfl F7 N7 St7 hs7
   clear N8 F8
   (try dsimp only)
   repeat' (first | ((fail_if_success (with_reducible show KfPost _ _ _ _ _ _ _ _ _ _ _ _ _)); first | keq_rows | keq_hits | (k_unfold; (try dsimp only)) | walk1 | (dsimp only; walk1) | (leave1; try dsimp only)) | fail "no")
   show KfEnd _ _ _ _ _ _ _ _ _ _ _
   have St3 : DS tl7 os7 ps7 (innP y ts j (k + 1)) := by simp only [innP, ht2]; exact St7
   refine dl_end F7 N7 ho2 yI2 ?_ ?_ St3 fun p hp => hs7 p (hs4 p hp)
   ·exact fc rfl (fc rfl (fc rfl (fc rfl (fc rfl (List.forall_mem_nil _)))))
   ·((try dsimp +zetaDelta only); ksw_same)
  case fin =>
   intro c2 u2 h8 tk8 St4 hs4 F N
   refine an3 (inn_len y ts j i) ?_
   intro i1 i2 i3
   replace N : News h L' h8 ((I, o) :: (Y ++ d.led c2.os c2.ps c2.no c2.np c2.tl)) := N
   have m1 : (d.D, instObj 209 d.dx) ∈ (I, o) :: (Y ++ d.led c2.os c2.ps c2.no c2.np c2.tl) := .tail _ led_1
   have m2 : (d.dx, dictOf (draftD d.k d.pr (.ref d.oA) (.ref d.pA) d.sl d.hd) 5) ∈ (I, o) :: (Y ++ d.led c2.os c2.ps c2.no c2.np c2.tl) := .tail _ led_2
   generalize hTT : (I, o) :: (Y ++ d.led c2.os c2.ps c2.no c2.np c2.tl) = TT at N m1 m2
   dsimp only [kstB] at F
   (try dsimp only)
   repeat' (first | ((fail_if_success (with_reducible show wpAny _ _ (call (.ref _) _) _ _ _)); first | keq_rows | keq_hits | (k_unfold; (try dsimp only)) | walk1 | (dsimp only; walk1) | (leave1; try dsimp only)) | fail "no")
   rename News _ _ _ _ => N8
   rename Fr _ _ _ _ => F8
   subst hTT
   have N8 := jump_led (Y := (I, o) :: Y) N8
   k_here
   k_dflt (refine' dcall (Y := (I, o) :: Y) (put_jump w d _ _ (Sz.lt (Sz.inn y1 (Nat.le_trans (Nat.le_of_lt hi) h3)) rfl)) B ?kF X ?kN T ?kk ?kd ?ku yq' (fc (.head _) (List.forall_mem_nil _)) hne St4.more ?_; (case kF => exact F8); (case kN => exact N8); (case kk => exact rfl); (case kd => ktr_room); (case ku => ktr_units))
   rintro r os7 ps7 no7 np7 tl7 h7 tk7 rfl F7 N7 St7 hs7
   clear N8 F8
   have m1 : (d.D, instObj 209 d.dx) ∈ (I, o) :: (Y ++ d.led os7 ps7 no7 np7 tl7) := .tail _ led_1
   have m2 : (d.dx, dictOf (draftD d.k d.pr (.ref d.oA) (.ref d.pA) d.sl d.hd) 5) ∈ (I, o) :: (Y ++ d.led os7 ps7 no7 np7 tl7) := .tail _ led_2
   replace N7 : News h L' h7 ((I, o) :: (Y ++ d.led os7 ps7 no7 np7 tl7)) := N7
   generalize hTT : (I, o) :: (Y ++ d.led os7 ps7 no7 np7 tl7) = TT at N7 m1 m2
   (try dsimp only)
   repeat' (first | ((fail_if_success (with_reducible show wpAny _ _ (call (.ref _) _) _ _ _)); first | keq_rows | keq_hits | (k_unfold; (try dsimp only)) | walk1 | (dsimp only; walk1) | (leave1; try dsimp only)) | fail "no")
   rename News _ _ _ _ => N8
   rename Fr _ _ _ _ => F8
   subst hTT
   k_here
   k_dflt (refine' dcall (Y := (I, o) :: Y) (here_c w d _ _ _ _ (Nat.lt_of_lt_of_le y2 i3)) B ?kF X ?kN T ?kk ?kd ?ku yq' (List.forall_mem_nil _) hne St7 ?_; (case kF => exact F8); (case kN => exact N8); (case kk => exact rfl); (case kd => ktr_room); (case ku => ktr_units))
   rintro r os6 ps6 no6 np6 tl6 h6 tk6 rfl F6 N6 St6 hs6
   clear N8 F8
   (try dsimp only)
   repeat' (first | ((fail_if_success (with_reducible show KfPost _ _ _ _ _ _ _ _ _ _ _ _ _)); first | keq_rows | keq_hits | (k_unfold; (try dsimp only)) | walk1 | (dsimp only; walk1) | (leave1; try dsimp only)) | fail "no")
   show KfEnd _ _ _ _ _ _ _ _ _ _ _
   have St3 : DS tl6 os6 ps6 (vaP x ts ag (i + 1)) := by simp only [vaP, ← hj, ht, ← hy]; exact St6
   refine dl_end F6 N6 ho yI ?_ ?_ St3 fun p hp => hs6 p (hs7 p (.tail _ (hs4 p (hs5 p (hs6a p (hs p hp))))))
   ·exact fc rfl (fc rfl (fc rfl (List.forall_mem_nil _)))
   ·((try dsimp +zetaDelta only); ksw_same)
 ))only[↓bB]
end

end N7p
section N8p
open PyProof.Rows.LCg
noncomputable def vP (ts : List T4) (s2 : Addr) : AP :=
 let n := ts.length
 let x1 := v1P ts
 let c0 := x1.2.length
 let x2 := freshN x1 n
 let o0 := x2.2.length
 let x5 := goalP (v3P (freshN x2 n) ts c0 o0 n) s2
 match ts[n - 1]? with
 | some t => hereP (v7P (putP (stepP x5 t.f t.a "+") (.jump ((c0 + (n - 1) : Nat) : Int))) ts c0 o0 (n - 1)) (o0 + 0)
 | none => x5
noncomputable def vaP' (ts : List T4) (s2 : Addr) : AP :=
 let x1 := v1P ts
 vaP (goalP (hereP (freshP x1) x1.2.length) s2) ts x1.2.length ts.length
theorem ltFresh1 {x : AP} : x.2.length < (freshP x).2.length := by
 simp only [freshP, List.length_append, List.length_cons, List.length_nil]; lia
theorem leFresh {x : AP} {n : Nat} : x.2.length + n ≤ (freshN (freshN x n) n).2.length := by
 rw [freshN_len, freshN_len]; lia
theorem leOver {x : AP} {ts : List T4} {c0 o0 i : Nat} {s f b : Addr} {way : Str} {o : AOp} (hi : i ≤ ts.length) : x.2.length + ts.length ≤ (putP (stepP (goalP (v3P (freshN x ts.length) ts c0 o0 i) s) f b way) o).2.length := by
 simp only [putP, stepP, goalP, List.length_append, List.length_cons, List.length_nil, (v3_len (freshN x ts.length) ts c0 o0 i hi).2, freshN_len]; lia
theorem ltOver {o n l l' k : Nat} (h1 : 1 ≤ n) (h : o + n ≤ l) (e : l' = l + k) : o < l' := by lia
theorem at312 (w : World) {P : Prop} (h : ∀ {oc : Value} {od : Option Addr} {osl : Array (Option Value)} {name qual : Str} {params : Arguments} {body : List Stmt} {scope : Scope} {dV kV doc pm cdv ct : Value} {an : Option Addr}, (Mine.hd.heap_1 w.params).lookup 312 = some ⟨oc, od, .func (fnOf name qual params body scope dV kV doc pm an cdv ct), osl⟩ → body.length = 9 → P) : P := by
 refine' h ?h1 ?h2
 case h1 => k_is
 case h2 => exact rfl
theorem at319 (w : World) {P : Prop} (h : ∀ {oc : Value} {od : Option Addr} {osl : Array (Option Value)} {name qual : Str} {params : Arguments} {body : List Stmt} {scope : Scope} {dV kV doc pm cdv ct : Value} {an : Option Addr}, (Mine.hd.heap_1 w.params).lookup 319 = some ⟨oc, od, .func (fnOf name qual params body scope dV kV doc pm an cdv ct), osl⟩ → body.length = 5 → P) : P := by
 refine' h ?h1 ?h2
 case h1 => k_is
 case h2 => exact rfl
section
variable {w : World} {p : Program} {loose : List Str} {mean : ExcName → Option Value} {mg mb : Str → Option Value} {dp un : Nat} {gd : Option (List Code)} {cn : Str} {cs : Scope} {L a : Addr} {ccd cd : Value} {cl : List (Str × Addr)} {outer : List Env} {base h : Heap} {L' : Addr} {m : Str → Option Value} {s : Shared} {E : Value → Shared → Prop} {d : DAt} {os ps : Array Value} {no np : Nat} {tl : Led} {R g s2 : Addr} {ts : List T4} {q : Obj} {Y : Led} {x : AP}
theorem v_all (B : Below (ktrTop dp un gd cn cs L a ccd cl outer) base (envX cn cs L a ccd cl :: outer) h) (X : Frag.In (Mine.hd.heap_1 w.params) h) (T : Top p loose mean mg mb h) (hdp : dp + 8 < recursionLimit) (hun : un + 96 < cLine)
  (hE : PassesOwn (model PR w) ((ktrTop dp un gd cn cs L a ccd cl outer).deeper (eV (Mine.hd.heap_1 w.params) L' cd)) (eV (Mine.hd.heap_1 w.params) L' cd) E)
  (hq : q.data = .cell (some (.ref d.D))) (h3 : ts.length ≤ 3) (h1 : 1 ≤ ts.length) (V : VIn tl R g s2 ts) (hne : NeA d.oA d.pA) (St : DS tl os ps ([], [])) (F : Fr h L' s.heap m) (hkr : m ("rows" : Str) = some (.ref R)) (hkg : m ("goal" : Str) = some (.ref g))
  (N : News h L' s.heap ([(L' + 1, q)] ++ d.led os ps no np tl)) {Q : Flow → Shared → Prop}
  (hret : ∀ h' tk m' os' ps' no' np' tl', Fr h L' h' m' → News h L' h' ((L' + 1, q) :: d.led os' ps' no' np' tl') → DS tl' os' ps' (vP ts s2) → (∀ p ∈ tl, p ∈ tl') → Q .next { s with heap := h', toks := tk }) :
  wpAny (model PR w) ((ktrTop dp un gd cn cs L a ccd cl outer).deeper (eV (Mine.hd.heap_1 w.params) L' cd)) (execs (bodyFrom (Mine.hd.heap_1 w.params) 312 0) (eV (Mine.hd.heap_1 w.params) L' cd)) Q E s := by
 refine at312 w fun ho hb => ?_
 have q0 : ∀ z ∈ [(L' + 1, q)], z.1 ≠ d.oA ∧ z.1 ≠ d.pA := fc ⟨data_off (p := (L' + 1, q)) (q := (d.oA, listOf os no)) N (.head _) (.tail _ (.tail _ (.tail _ (.head _)))) (by rw [hq]; simp), data_off (p := (L' + 1, q)) (q := (d.pA, listOf ps np)) N (.head _) (.tail _ (.tail _ (.tail _ (.tail _ (.head _))))) (by rw [hq]; simp)⟩ (List.forall_mem_nil _)
 have s1 := Sz.v1 h3
 have hn0 : 0 < ts.length := h1
 have mq1 : (L' + 1, q) ∈ [(L' + 1, q)] := .head _
 have h7 : ts[ts.length - 1]? = some (ts[ts.length - 1]'(by lia)) := List.getElem?_eq_getElem _
 generalize ts[ts.length - 1]'(by lia) = t at h7
 with_reducible refine execs_nx ho (hb ▸ (by decide)) (vs0 B X T hdp hun hE hq h3 V hne St F (by simpa using hkr) N) ?_
 intro _ hK9
 with_reducible refine ex8 hK9 ?_
 clear hK9
 intro h0 k0 m0 os0 ps0 no0 np0 tl0 hX9
 with_reducible refine an6 hX9 ?_
 clear hX9
 intro hR9
 subst hR9
 intro F0 e0 N0 St0 hs0
 with_reducible refine execs_nx ho (hb ▸ (by decide)) (vs1 B X T hdp hun hE hq mq1 q0 h3 (s1.lt rfl) (V.mono hs0).R hne St0 F0 ((e0 _ (by decide)).trans hkr) N0) ?_
 intro _ hK9
 with_reducible refine ex7 hK9 ?_
 clear hK9
 intro h1' k1 m1 Dc cys ps1 np1 hX9
 with_reducible refine an8 hX9 ?_
 clear hX9
 intro hR9
 subst hR9
 intro F1 fcH e1 hC qc N1 St1
 replace N1 : News h L' h1' (((Dc, lst cys) :: [(L' + 1, q)]) ++ d.led os0 ps1 no0 np1 tl0) := N1
 have q1 : ∀ z ∈ (Dc, lst cys) :: [(L' + 1, q)], z.1 ≠ d.oA ∧ z.1 ≠ d.pA := fc qc q0
 have sz2 := s1.freshN h3
 have mq2 : (L' + 1, q) ∈ (Dc, lst cys) :: [(L' + 1, q)] := .tail _ (.head _)
 with_reducible refine execs_nx ho (hb ▸ (by decide)) (vs2 (Y := (Dc, lst cys) :: [(L' + 1, q)]) B X T hdp hun hE hq mq2 q1 h3 (sz2.lt rfl) (V.mono hs0).R hne St1 F1 ((e1 _ (by decide)).trans ((e0 _ (by decide)).trans hkr)) N1) ?_
 intro _ hK9
 with_reducible refine ex7 hK9 ?_
 clear hK9
 intro h2 k2 m2 Do oys ps2 np2 hX9
 with_reducible refine an8 hX9 ?_
 clear hX9
 intro hR9
 subst hR9
 intro F2 fo e2 hO qo N2 St2
 replace N2 : News h L' h2 (((Do, lst oys) :: (Dc, lst cys) :: [(L' + 1, q)]) ++ d.led os0 ps2 no0 np2 tl0) := N2
 have q2 : ∀ z ∈ (Do, lst oys) :: (Dc, lst cys) :: [(L' + 1, q)], z.1 ≠ d.oA ∧ z.1 ≠ d.pA := fc qo q1
 have mq3 : (L' + 1, q) ∈ (Do, lst oys) :: (Dc, lst cys) :: [(L' + 1, q)] := .tail _ (.tail _ (.head _))
 have mC : (Dc, lst cys) ∈ (Do, lst oys) :: (Dc, lst cys) :: [(L' + 1, q)] := .tail _ (.head _)
 have mO : (Do, lst oys) ∈ (Do, lst oys) :: (Dc, lst cys) :: [(L' + 1, q)] := .head _
 have s3 := sz2.freshN h3
 have r2 : m2 ("rows" : Str) = some (.ref R) := (e2 _ (by decide)).trans ((e1 _ (by decide)).trans ((e0 _ (by decide)).trans hkr))
 have c2 : m2 ("checks" : Str) = some (.ref Dc) := (e2 _ (by decide)).trans fcH
 have g2 : m2 ("goal" : Str) = some (.ref g) := (e2 _ (by decide)).trans ((e1 _ (by decide)).trans ((e0 _ (by decide)).trans hkg))
 have p3 : ∀ p ∈ ([(("rows" : Str), .ref R), ("checks", .ref Dc), ("overs", .ref Do)] : List (Str × Value)), m2 p.1 = some p.2 := fc r2 (fc c2 (fc fo (List.forall_mem_nil _)))
 with_reducible refine execs_nx ho (hb ▸ (by decide)) (vs3 (Y := (Do, lst oys) :: (Dc, lst cys) :: [(L' + 1, q)]) B X T hdp hun hE hq mq3 q2 mC mO hC hO leFresh h3 (s3.lt rfl) (V.mono hs0) hne St2 F2 p3 N2) ?_
 intro _ hK9
 with_reducible refine ex8 hK9 ?_
 clear hK9
 intro h3' k3 m3 os3 ps3 no3 np3 tl3 hX9
 with_reducible refine an6 hX9 ?_
 clear hX9
 intro hR9
 subst hR9
 intro F3 e3 N3 St3 hs3
 have s4 := Sz.v3 (c0 := (v1P ts).2.length) (o0 := (freshN (v1P ts) ts.length).2.length) s3 h3 (Nat.le_refl _)
 have V3 := (V.mono hs0).mono hs3
 with_reducible refine execs_nx ho (hb ▸ (by decide)) (vs4 (Y := (Do, lst oys) :: (Dc, lst cys) :: [(L' + 1, q)]) B X T hdp hun hE hq mq3 q2 (s4.lt rfl) V3 hne St3 F3 (by simpa using (e3 _ (by decide)).trans g2) N3) ?_
 intro _ hK9
 with_reducible refine ex8 hK9 ?_
 clear hK9
 intro h4 k4 m4 os4 ps4 no4 np4 tl4 hX9
 with_reducible refine an6 hX9 ?_
 clear hX9
 intro hR9
 subst hR9
 intro F4 e4 N4 St4 hs4
 have V4 := V3.mono hs4
 have s5 := Sz.goal (s := s2) s4
 have r4 : m4 ("rows" : Str) = some (.ref R) := (e4 _).trans ((e3 _ (by decide)).trans r2)
 have c4 : m4 ("checks" : Str) = some (.ref Dc) := (e4 _).trans ((e3 _ (by decide)).trans c2)
 have o4 : m4 ("overs" : Str) = some (.ref Do) := (e4 _).trans ((e3 _ (by decide)).trans fo)
 with_reducible refine execs_nx ho (hb ▸ (by decide)) (vs5 (Y := (Do, lst oys) :: (Dc, lst cys) :: [(L' + 1, q)]) B X T hdp hun hE hq mq3 q2 (s5.lt rfl) V4 h3 h7 hn0 hne St4 F4 (by simpa using r4) N4) ?_
 intro _ hK9
 with_reducible refine ex8 hK9 ?_
 clear hK9
 intro h5 k5 m5 os5 ps5 no5 np5 tl5 hX9
 with_reducible refine an6 hX9 ?_
 clear hX9
 intro hR9
 subst hR9
 intro F5 e5 N5 St5 hs5
 have V5 := V4.mono hs5
 have s6 := Sz.step (f := t.f) (b := t.a) (way := "+") s5
 with_reducible refine execs_nx ho (hb ▸ (by decide)) (vs6 (Y := (Do, lst oys) :: (Dc, lst cys) :: [(L' + 1, q)]) B X T hdp hun hE hq mq3 q2 (s6.lt rfl) mC hC h3 hn0 hne St5 F5 (by simpa using (e5 _).trans c4) N5) ?_
 intro _ hK9
 with_reducible refine ex8 hK9 ?_
 clear hK9
 intro h6 k6 m6 os6 ps6 no6 np6 tl6 hX9
 with_reducible refine an6 hX9 ?_
 clear hX9
 intro hR9
 subst hR9
 intro F6 e6 N6 St6 hs6
 have V6 := V5.mono hs6
 obtain ⟨x7, hx7⟩ : ∃ y, y = putP (stepP (goalP (v3P (freshN (freshN (v1P ts) ts.length) ts.length) ts (v1P ts).2.length (freshN (v1P ts) ts.length).2.length ts.length) s2) t.f t.a "+") (.jump (((v1P ts).2.length + (ts.length - 1) : Nat) : Int)) := ⟨_, rfl⟩
 rw [← hx7] at St6
 have s7 : Sz x7 30 := by rw [hx7]; exact s6.put
 have o7 : (freshN (v1P ts) ts.length).2.length + ts.length ≤ x7.2.length := by rw [hx7]; exact leOver (Nat.le_refl _)
 have p6 : ∀ p ∈ ([(("rows" : Str), .ref R), ("checks", .ref Dc), ("overs", .ref Do)] : List (Str × Value)), m6 p.1 = some p.2 := fc ((e6 _).trans ((e5 _).trans r4)) (fc ((e6 _).trans ((e5 _).trans c4)) (fc ((e6 _).trans ((e5 _).trans o4)) (List.forall_mem_nil _)))
 with_reducible refine execs_nx ho (hb ▸ (by decide)) (vs7 (Y := (Do, lst oys) :: (Dc, lst cys) :: [(L' + 1, q)]) B X T hdp hun hE hq mq3 q2 mC mO hC hO o7 h3 h1 (s7.lt rfl) V6 hne St6 F6 p6 N6) ?_
 intro _ hK9
 with_reducible refine ex8 hK9 ?_
 clear hK9
 intro h7' k7 m7 os7 ps7 no7 np7 tl7 hX9
 with_reducible refine an6 hX9 ?_
 clear hX9
 intro hR9
 subst hR9
 intro F7 e7 N7 St7 hs7
 have s8 := Sz.v7 (c0 := (v1P ts).2.length) (o0 := (freshN (v1P ts) ts.length).2.length) s7 h3 (Nat.le_refl _)
 have o8 := ltOver h1 o7 (v7_len x7 ts (v1P ts).2.length (freshN (v1P ts) ts.length).2.length (ts.length - 1) (Nat.le_refl _)).2
 with_reducible refine execs_nx ho (hb ▸ (by decide)) (vs8 (Y := (Do, lst oys) :: (Dc, lst cys) :: [(L' + 1, q)]) B X T hdp hun hE hq mq3 q2 (s8.lt rfl) mO hO h3 hn0 o8 hne St7 F7 (by simpa using (e7 _ (by decide)).trans ((e6 _).trans ((e5 _).trans o4))) N7) ?_
 intro _ hK9
 with_reducible refine ex8 hK9 ?_
 clear hK9
 intro h8 k8 m8 os8 ps8 no8 np8 tl8 hX9
 with_reducible refine an6 hX9 ?_
 clear hX9
 intro hR9
 subst hR9
 intro F8 e8 N8 St8 hs8
 have e9 : bodyFrom (Mine.hd.heap_1 w.params) 312 9 = [] := by unfold bodyFrom; rw [ho]; exact List.drop_eq_nil_iff.mpr (Nat.le_of_eq hb)
 show wpAny _ _ (execs (bodyFrom (Mine.hd.heap_1 w.params) 312 9) _) _ _ _
 rw [e9]
 have St9 : DS tl8 os8 ps8 (vP ts s2) := by
  rw [hx7] at St8
  simp only [vP, h7]
  exact St8
 exact wpAny_execs_nil (hret h8 k8 m8 os8 ps8 no8 np8 tl8 F8 (fun p hp => N8 p (.tail _ (.tail _ hp))) St9 fun p hp => hs8 p (hs7 p (hs6 p (hs5 p (hs4 p (hs3 p (hs0 p hp)))))))
theorem va_all (B : Below (ktrTop dp un gd cn cs L a ccd cl outer) base (envX cn cs L a ccd cl :: outer) h) (X : Frag.In (Mine.hd.heap_1 w.params) h) (T : Top p loose mean mg mb h) (hdp : dp + 8 < recursionLimit) (hun : un + 96 < cLine)
  (hE : PassesOwn (model PR w) ((ktrTop dp un gd cn cs L a ccd cl outer).deeper (eVA (Mine.hd.heap_1 w.params) L' cd)) (eVA (Mine.hd.heap_1 w.params) L' cd) E)
  (h3 : ts.length ≤ 3) (h1 : 1 ≤ ts.length) (V : VIn tl R g s2 ts) (hne : NeA d.oA d.pA) (St : DS tl os ps ([], [])) (F : Fr h L' s.heap m) (hkd : m ("draft" : Str) = some (.ref d.D)) (hkr : m ("rows" : Str) = some (.ref R)) (hkg : m ("goal" : Str) = some (.ref g))
  (N : News h L' s.heap (d.led os ps no np tl)) {Q : Flow → Shared → Prop}
  (hret : ∀ h' tk m' os' ps' no' np' tl', Fr h L' h' m' → News h L' h' (d.led os' ps' no' np' tl') → DS tl' os' ps' (vaP' ts s2) → (∀ p ∈ tl, p ∈ tl') → Q .next { s with heap := h', toks := tk }) :
  wpAny (model PR w) ((ktrTop dp un gd cn cs L a ccd cl outer).deeper (eVA (Mine.hd.heap_1 w.params) L' cd)) (execs (bodyFrom (Mine.hd.heap_1 w.params) 319 0) (eVA (Mine.hd.heap_1 w.params) L' cd)) Q E s := by
 refine at319 w fun ho hb => ?_
 have q0 : ∀ z ∈ ([] : Led), z.1 ≠ d.oA ∧ z.1 ≠ d.pA := List.forall_mem_nil _
 have s1 := Sz.v1 h3
 have N : News h L' s.heap (([] : Led) ++ d.led os ps no np tl) := N
 with_reducible refine execs_nx ho (hb ▸ (by decide)) (va0 B X T hdp hun hE h3 V hne St F (fc hkr (fc hkd (List.forall_mem_nil _))) N) ?_
 intro _ hK9
 with_reducible refine ex8 hK9 ?_
 clear hK9
 intro h0 k0 m0 os0 ps0 no0 np0 tl0 hX9
 with_reducible refine an6 hX9 ?_
 clear hX9
 intro hR9
 subst hR9
 intro F0 e0 N0 St0 hs0
 have d0 : m0 ("draft" : Str) = some (.ref d.D) := (e0 _ (by decide)).trans hkd
 with_reducible refine execs_nx ho (hb ▸ (by decide)) (va1 (Y := []) B X T hdp hun hE q0 (s1.lt rfl) hne St0 F0 (by simpa using d0) N0) ?_
 intro _ hK9
 with_reducible refine ex6 hK9 ?_
 clear hK9
 intro h1' k1 m1 ps1 np1 t1 hX9
 with_reducible refine an6 hX9 ?_
 clear hX9
 intro hR9
 subst hR9
 intro F1 fa e1 N1 St1
 have sz2 := s1.fresh
 have l5 : (v1P ts).2.length < (freshP (v1P ts)).2.length := ltFresh1
 have d1 : m1 ("draft" : Str) = some (.ref d.D) := (e1 _ (by decide)).trans d0
 with_reducible refine execs_nx ho (hb ▸ (by decide)) (va2 (Y := []) B X T hdp hun hE q0 (sz2.lt rfl) l5 hne St1 F1 (fc d1 (fc fa (List.forall_mem_nil _))) N1) ?_
 intro _ hK9
 with_reducible refine ex8 hK9 ?_
 clear hK9
 intro h2 k2 m2 os2 ps2 no2 np2 tl2 hX9
 with_reducible refine an6 hX9 ?_
 clear hX9
 intro hR9
 subst hR9
 intro F2 e2 N2 St2 hs2
 have V2 := (V.mono hs0).mono hs2
 have s3 := Sz.here (i := (v1P ts).2.length) sz2
 have g2 : m2 ("goal" : Str) = some (.ref g) := (e2 _).trans ((e1 _ (by decide)).trans ((e0 _ (by decide)).trans hkg))
 with_reducible refine execs_nx ho (hb ▸ (by decide)) (va3 (Y := []) B X T hdp hun hE q0 (s3.lt rfl) V2 hne St2 F2 (fc ((e2 _).trans d1) (fc g2 (List.forall_mem_nil _))) N2) ?_
 intro _ hK9
 with_reducible refine ex8 hK9 ?_
 clear hK9
 intro h3' k3 m3 os3 ps3 no3 np3 tl3 hX9
 with_reducible refine an6 hX9 ?_
 clear hX9
 intro hR9
 subst hR9
 intro F3 e3 N3 St3 hs3
 have V3 := V2.mono hs3
 have s4 := Sz.goal (s := s2) s3
 have r3 : m3 ("rows" : Str) = some (.ref R) := (e3 _).trans ((e2 _).trans ((e1 _ (by decide)).trans ((e0 _ (by decide)).trans hkr)))
 with_reducible refine execs_nx ho (hb ▸ (by decide)) (va4 (Y := []) (ag := (v1P ts).2.length) B X T hdp hun hE q0 h3 h1 (s4.lt rfl) V3 hne St3 F3 (fc r3 (fc ((e3 _).trans ((e2 _).trans d1)) (fc ((e3 _).trans ((e2 _).trans fa)) (List.forall_mem_nil _)))) N3) ?_
 intro _ hK9
 with_reducible refine ex8 hK9 ?_
 clear hK9
 intro h4 k4 m4 os4 ps4 no4 np4 tl4 hX9
 with_reducible refine an5 hX9 ?_
 clear hX9
 intro hR9
 subst hR9
 intro F4 N4 St4 hs4
 have e9 : bodyFrom (Mine.hd.heap_1 w.params) 319 5 = [] := by unfold bodyFrom; rw [ho]; exact List.drop_eq_nil_iff.mpr (Nat.le_of_eq hb)
 show wpAny _ _ (execs (bodyFrom (Mine.hd.heap_1 w.params) 319 5) _) _ _ _
 rw [e9]
 exact wpAny_execs_nil (hret _ _ _ _ _ _ _ _ F4 N4 St4 fun p hp => hs4 p (hs3 p (hs2 p (hs0 p hp))))
end

end N8p
section N9p
theorem envOf_C {n : Str} {sc : Scope} {L a : Addr} {cd : Value} (h : cellsFrom (L + 1) sc.names [] = []) : envOf n sc L a cd = envOfC n sc L a cd := by unfold envOf envOfC; rw [h]
theorem pv_c (w : World) (d : DAt) {ts : List T4} {R g s2 : Addr} {os ps : Array Value} {no np : Nat} {tl : Led} (h3 : ts.length ≤ 3) (h1 : 1 ≤ ts.length) (St : DS tl os ps ([], [])) (hne : NeA d.oA d.pA) (V : VIn tl R g s2 ts) :
  Ctr w 312 8 96 [.ref d.D, .ref g, .ref R] (d.led os ps no np tl) (fun _ r _ out => r = .none ∧ ∃ os' ps' no' np' tl', DS tl' os' ps' (vP ts s2) ∧ (∀ p ∈ tl, p ∈ tl') ∧ (∀ p ∈ d.led os' ps' no' np' tl', p ∈ out)) := by
 unfold Ctr
 intro p loose mean mg mb dp un gd cn cs a ccd cl outer A₀ base h₀ L m s Q E B F X N T hk hdp hun hret
 refine wpAny_call ?_
 k_dflt (refine' code_defCS ?k1 ?k2 ?k3 ?k4 ?k5 ?kA ?kF ?kK ?k6 ?k7 ?k8 ?k9 ?kB ?kD ?_ ?c2 ?c3 ?c4; (case kA => exact rfl); (case kF => exact rfl); (case kK => assumption); (case k1 => k_asm); (case k2 => k_asm); (case k3 => k_asm); (case k4 => k_asm); (case k5 => k_asm); (case k6 => k_is); (case k7 => k_is); (case k8 => ktr_room); (case k9 => first | exact BindsTo.of_eq rfl | exact binds_K (by k_in) rfl (by k_is) rfl rfl rfl); (case kB => exact rfl); (case kD => decide +kernel); (case c2 => exact rfl); (case c3 => exact rfl); (case c4 => exact rfl); k_whole; intro g' L' h' tk' cells' FG' F' N' Y' B' X' T' l1; (try k_lt l1); (obtain ⟨o9, hE9, d9⟩ := CellsAre.one Y'); subst hE9; clear Y'; (try simp only [List.cons_append, List.nil_append] at N'); (try dsimp only); (try k_fold))
 (refine letFr F' ?_; clear F'; intro mL F')
 (refine letNews N' ?_; clear N'; intro nL N')
 k_here
 with_reducible rename Fr _ _ _ _ => F9
 with_reducible rename News _ _ _ _ => N9
 with_reducible refine' execs_at (K := Mine.hd.heap_1 _) (f := 312) (i := 0) ?ho ?hs ?hsc ?h
 case ho => k_is
 case hs => exact rfl
 case hsc => exact rfl
 case h =>
  k_dflt (refine' v_all B' X' T' ?hdp ?hun ?hE d9 h3 h1 V hne St F9 ?hkr ?hkg (show News _ _ _ ([(L' + 1, o9)] ++ d.led os ps no np tl) from N9) ?hret)
  case hdp => exact hdp
  case hun => exact hun
  case hE => passes_own
  case hkr => with_unfolding_all exact rfl
  case hkg => with_unfolding_all exact rfl
  case hret =>
   intro h9 tk9 m9 os9 ps9 no9 np9 tl9 F N St9 hs9
   clear F9 N9
   repeat' (first | keq_rows | (k_unfold; (try dsimp only)) | (k_end; wrow_close) | walk1 | (dsimp only; walk1) | (leave1; try dsimp only) | fail "no")
   rename News _ _ _ _ => NY
   refine' hret _ _ _ _ ?ra NY ?rc ?rd
   case ra => k_asm
   case rc => k_asm
   case rd => exact ⟨rfl, os9, ps9, no9, np9, tl9, St9, hs9, fun p hp => by first | exact hp | exact .tail _ hp⟩
theorem pva_c (w : World) (d : DAt) {ts : List T4} {R g s2 : Addr} {os ps : Array Value} {no np : Nat} {tl : Led} (h3 : ts.length ≤ 3) (h1 : 1 ≤ ts.length) (St : DS tl os ps ([], [])) (hne : NeA d.oA d.pA) (V : VIn tl R g s2 ts) :
  Ctr w 319 8 96 [.ref d.D, .ref g, .ref R] (d.led os ps no np tl) (fun _ r _ out => r = .none ∧ ∃ os' ps' no' np' tl', DS tl' os' ps' (vaP' ts s2) ∧ (∀ p ∈ tl, p ∈ tl') ∧ (∀ p ∈ d.led os' ps' no' np' tl', p ∈ out)) := by
 unfold Ctr
 intro p loose mean mg mb dp un gd cn cs a ccd cl outer A₀ base h₀ L m s Q E B F X N T hk hdp hun hret
 refine wpAny_call ?_
 k_dflt (refine' code_defS ?k1 ?k2 ?k3 ?k4 ?k5 ?kA ?kF ?kK ?k6 ?k7 ?k8 ?k9 ?kB ?_ ?c2 ?c3 ?c4 ?c5; (case kA => exact rfl); (case kF => exact rfl); (case kK => assumption); (case k1 => k_asm); (case k2 => k_asm); (case k3 => k_asm); (case k4 => k_asm); (case k5 => k_asm); (case k6 => k_is); (case k7 => k_is); (case k8 => ktr_room); (case k9 => first | exact BindsTo.of_eq rfl | exact binds_K (by k_in) rfl (by k_is) rfl rfl rfl); (case c5 => decide); (case kB => exact locs rfl); (case c2 => exact rfl); (case c3 => exact rfl); (case c4 => exact rfl); k_whole; intro g' L' h' FG' F' N' B' X' T' GS'; (try dsimp only); (try k_fold))
 (refine letFr F' ?_; clear F'; intro mL F')
 (refine letNews N' ?_; clear N'; intro nL N')
 k_here
 with_reducible rename Fr _ _ _ _ => F9
 with_reducible rename News _ _ _ _ => N9
 rw [envOf_C]; rotate_left; exact rfl
 with_reducible refine' execs_at (K := Mine.hd.heap_1 _) (f := 319) (i := 0) ?ho ?hs ?hsc ?h
 case ho => k_is
 case hs => exact rfl
 case hsc => exact rfl
 case h =>
  k_dflt (refine' va_all B' X' T' ?hdp ?hun ?hE h3 h1 V hne St F9 ?hkd ?hkr ?hkg N9 ?hret)
  case hdp => exact hdp
  case hun => exact hun
  case hE => passes_own
  case hkd => with_unfolding_all exact rfl
  case hkr => with_unfolding_all exact rfl
  case hkg => with_unfolding_all exact rfl
  case hret =>
   intro h9 tk9 m9 os9 ps9 no9 np9 tl9 F N St9 hs9
   clear F9 N9
   repeat' (first | keq_rows | (k_unfold; (try dsimp only)) | (k_end; wrow_close) | walk1 | (dsimp only; walk1) | (leave1; try dsimp only) | fail "no")
   rename News _ _ _ _ => NY
   refine' hret _ _ _ _ ?ra NY ?rc ?rd
   case ra => k_asm
   case rc => k_asm
   case rd => exact ⟨rfl, os9, ps9, no9, np9, tl9, St9, hs9, fun p hp => by first | exact hp | exact .tail _ hp⟩

end N9p
section M2p
open PyProof.V PySem.Spec
structure MS where
 am : AM
 n : Nat
 st : Nat
 tp : Tok
 ts : Tok
 xa : Addr
 ns : Nat
 kv : Value
 tw : Tok
 oW : Obj
 lg : List Value
 nl : Nat
 tl : Led
noncomputable abbrev stkOf (k : Option Int) (xa : Addr) : Array Value := match k with
 | none => #[]
 | some _ => #[.ref xa]
structure MK where
 h1 : Int
 h2 : Int
 h3 : Int
 h4 : Int
 h5 : Int
 h6 : Int
 h7 : Int
 t1 : Tok
 t2 : Tok
 t3 : Tok
 t4 : Tok
 t5 : Tok
 t6 : Tok
 t7 : Tok
noncomputable abbrev machD (k : MK) (code deeds place stack frames key word : Value) : List DictEntry :=
 [⟨k.h1, .str "code" k.t1, code⟩, ⟨k.h2, .str "deeds" k.t2, deeds⟩, ⟨k.h3, .str "place" k.t3, place⟩, ⟨k.h4, .str "stack" k.t4, stack⟩, ⟨k.h5, .str "frames" k.t5, frames⟩, ⟨k.h6, .str "key" k.t6, key⟩, ⟨k.h7, .str "word" k.t7, word⟩]
noncomputable abbrev MLed (M mx Sa Wa lgA Ta : Addr) (k : MK) (code deeds frames : Value) (oT : Obj) (c : MS) : Led :=
 (M, instObj 541 mx) :: (mx, dictOf (machD k code deeds (.int (c.am.place : Int) c.tp) (.ref Sa) frames c.kv (.str c.am.word c.tw)) 7) :: (Sa, listOf (stkOf c.am.stk c.xa) c.ns) :: (Wa, c.oW) :: (lgA, listOf c.lg.toArray c.nl) :: (Ta, oT) :: c.tl
structure MOk (w : World) (names : List Str) (mx Sa Wa lgA : Addr) (tl : Led) (c : MS) : Prop where
 sub : ∀ p ∈ tl, p ∈ c.tl
 wh : WhAt w c.oW c.am.W
 wl : c.am.W.length ≤ 1000
 wn : ∀ n ∈ names, (c.am.W.lookup n).isSome = true
 log : LogIn c.tl c.lg c.am.log
 ll : c.lg.length ≤ c.st
 stk : ∀ u, c.am.stk = some u → ∃ tu tz, (c.xa, tup [.int u tu, .int 0 tz]) ∈ tl
 o1 : NeAll mx c.tl
 o2 : NeAll Sa c.tl
 o3 : NeAll Wa c.tl
 o4 : NeAll lgA c.tl
theorem gather {w : World} {h₀ h : Heap} {L M mx Sa Wa lgA Ta : Addr} {news tl : Led} {oT oW : Obj} {kvs : List (Str × Value)} {h1 h2 h3 h4 h5 h6 h7 : Int} {t1 t2 t3 t4 t5 t6 t7 tp tw : Tok} {code deeds fr kv : Value} {ns nl : Nat} (N : News h₀ L h news) (_HT : oT.IsDictOf (strKind PR w) kvs)
  (m1 : (M, instObj 541 mx) ∈ news)
  (m2 : (mx, dictOf [⟨h1, .str "code" t1, code⟩, ⟨h2, .str "deeds" t2, deeds⟩, ⟨h3, .str "place" t3, .int 0 tp⟩, ⟨h4, .str "stack" t4, .ref Sa⟩, ⟨h5, .str "frames" t5, fr⟩, ⟨h6, .str "key" t6, kv⟩, ⟨h7, .str "word" t7, .str "" tw⟩] 7) ∈ news)
  (m3 : (Sa, listOf #[] ns) ∈ news) (m4 : (Wa, oW) ∈ news) (m5 : (lgA, listOf #[] nl) ∈ news) (m6 : (Ta, oT) ∈ news) (mt : ∀ p ∈ tl, p ∈ news) (n : Nat) (W : Wheels) :
  News h₀ L h (MLed M mx Sa Wa lgA Ta ⟨h1, h2, h3, h4, h5, h6, h7, t1, t2, t3, t4, t5, t6, t7⟩ code deeds fr oT ⟨⟨0, none, W, [], ""⟩, n, 0, tp, 0, 0, ns, kv, tw, oW, [], nl, tl⟩) := fun p hp => N p (by
 rcases List.mem_cons.mp hp with hp | hp
 ·rw [hp]; exact m1
 rcases List.mem_cons.mp hp with hp | hp
 ·rw [hp]; exact m2
 rcases List.mem_cons.mp hp with hp | hp
 ·rw [hp]; exact m3
 rcases List.mem_cons.mp hp with hp | hp
 ·rw [hp]; exact m4
 rcases List.mem_cons.mp hp with hp | hp
 ·rw [hp]; exact m5
 rcases List.mem_cons.mp hp with hp | hp
 ·rw [hp]; exact m6
 ·exact mt p hp)
theorem setW_isSome {W : Wheels} {x n : Str} {i : Int} (h : (W.lookup n).isSome = true) : ((setW W x i).lookup n).isSome = true := by
 induction W with
 | nil => cases h
 | cons p r ih =>
  obtain ⟨a, b⟩ := p
  rw [List.lookup_cons] at h
  show (((if a = x then (a, i) else (a, b)) :: setW r x i).lookup n).isSome = true
  by_cases q : a = x
  ·rw [if_pos q, List.lookup_cons]
   cases e : (n == a) with
   | true => rfl
   | false => rw [e] at h; exact ih h
  ·rw [if_neg q, List.lookup_cons]
   cases e : (n == a) with
   | true => rfl
   | false => rw [e] at h; exact ih h
noncomputable def ways (prog : List COp) : Prop := ∀ o ∈ prog, ∀ name way l, o = .put name way l → way = "+" ∨ way = "="
theorem run_code_c (w : World) (names : List Str) (prog : List COp) (n : Nat) (f₀ fin : AM) {Cd cx T Bg Dp px fDo fTest fNum fPut Wa lgA : Addr} {c1 c2 d1 d2 d3 d4 : Int} {tc1 tc2 td1 td2 td3 td4 tli : Tok} {fd1 fd2 fd3 fd4 : FuncData} {vs : List Value} {oW : Obj} {nl : Nat} {tl : Led}
  (hC : (Cd, instObj 138 cx) ∈ tl) (hCx : (cx, dictOf [⟨c1, .str "ops" tc1, .ref T⟩, ⟨c2, .str "begins" tc2, .ref Bg⟩] 2) ∈ tl) (hT : (T, tup vs) ∈ tl) (hops : COpsIn tl vs prog) (hways : ways prog)
  (hD : (Dp, instObj 31 px) ∈ tl) (hDx : (px, dictOf [⟨d1, .str "do" td1, .ref fDo⟩, ⟨d2, .str "test" td2, .ref fTest⟩, ⟨d3, .str "number" td3, .ref fNum⟩, ⟨d4, .str "put" td4, .ref fPut⟩] 4) ∈ tl)
  (hf1 : (fDo, fnO fd1) ∈ tl) (hf2 : (fTest, fnO fd2) ∈ tl) (hf3 : (fNum, fnO fd3) ∈ tl) (hf4 : (fPut, fnO fd4) ∈ tl)
  (hd : DeedsOk w names fDo fTest fNum fPut Wa lgA tl) (oW1 : NeAll Wa tl) (oL1 : NeAll lgA tl) (hWl : NeA Wa lgA) (lo : (Wa == sysModules) = false)
  (hW : WhAt w oW f₀.W) (hWn : f₀.W.length ≤ 1000) (hnm : ∀ n ∈ names, (f₀.W.lookup n).isSome = true) (hlen : prog.length ≤ 1000) (h0 : f₀.place = 0) (h1 : f₀.stk = none) (h2 : f₀.log = []) (h3 : f₀.word = "") (hr : Runs names prog n f₀ fin) (hn : n ≤ 6000) :
  Ctr w 657 8 128 [.ref Cd, .ref Dp, .int 6000 tli] ((Wa, oW) :: (lgA, listOf #[] nl) :: tl) (fun _ r _ out => (∃ t, r = .str fin.word t) ∧ ∃ oW' lg' nl' tl', WhAt w oW' fin.W ∧ LogIn tl' lg' fin.log ∧ (∀ p ∈ (Wa, oW') :: (lgA, listOf (lg' : List Value).toArray nl') :: tl', p ∈ out) ∧ ∀ p ∈ tl, p ∈ tl') := by
 refine uB ?_
 simp(disch:=k_dflt(
 refine iB ?_
 obtain ⟨pl0, sk0, W0, lg0, wd0⟩ := f₀
 dsimp only at h0 h1 h2 h3 hW hWn hnm
 subst h0 h1 h2 h3
 unfold Ctr
 intro p loose mean mg mb dp un gd cn cs a ccd cl outer A₀ base h₀ L m s Q E B F X N T' hk hdp hun hret
 refine wpAny_call ?_
 k_dflt (refine' code_defS ?k1 ?k2 ?k3 ?k4 ?k5 ?kA ?kF ?kK ?k6 ?k7 ?k8 ?k9 ?kB ?_ ?c2 ?c3 ?c4 ?c5; (case kA => exact rfl); (case kF => exact rfl); (case kK => assumption); (case k1 => k_asm); (case k2 => k_asm); (case k3 => k_asm); (case k4 => k_asm); (case k5 => k_asm); (case k6 => k_is); (case k7 => k_is); (case k8 => ktr_room); (case k9 => first | exact BindsTo.of_eq rfl | exact binds_K (by k_in) rfl (by k_is) rfl rfl rfl); (case c5 => decide); (case kB => exact locs rfl); (case c2 => exact rfl); (case c3 => exact rfl); (case c4 => exact rfl); k_whole; intro g' L' h' FG' F' N' B' X' T' GS'; (try dsimp only); (try k_fold))
 (refine letFr F' ?_; clear F'; intro mL F')
 (refine letNews N' ?_; clear N'; intro nL N')
 (refine absQ ?_; intro qA uqA)
 repeat' (first | ((fail_if_success (with_reducible show wpAny _ _ (exec (.While _ _ _ _) _) _ _ _)); first | keq_rows | ((with_reducible show wpAny _ _ (execs (_ :: _) _) _ _ _); (with_reducible rename News _ _ _ _ => N9); (with_reducible refine consA3 N9 ?_); clear N9; intro nL N9 q0 uq0 qA uqA) | keq_hits | ((k_here; (with_reducible show wpAny _ _ (call (Value.builtin "len") [Value.ref _]) _ _ _); k_dflt (refine' len_tup ?N ?hm ?hz ?_; (case N => k_asm); (case hm => k_mem); (case hz => lia); k_whole))) | ((with_reducible show wpAny _ _ (callWith _ (Value.ref _) _ _ _) _ _ _); (k_here; k_dflt (first   | (refine' callWith_F ?k1 ?_; (case k1 => exact FnAt.of (by k_asm) (by k_mem)); k_whole)   | (refine' callWith_F0 ?k1 ?_; (case k1 => exact FnAt.of (by k_asm) (by k_mem)); k_whole; try dsimp only [List.nil_append, List.cons_append])))) | ((k_here; (with_reducible show wpAny _ _ (subscriptTail _ _ (Value.ref _) (Value.str _ _)) _ _ _); k_dflt (refine' tab_get ?N ?hm ?hd ?hv ?_ ?hs ?hg; (case N => k_asm); (case hm => k_mem); (case hd => assumption); (case hv => assumption); (case hs => with_unfolding_all rfl); (case hg => (intros; with_unfolding_all rfl)); k_whole))) | ((k_here; (with_reducible show wpAny _ _ (subscriptTail _ _ (Value.ref _) (Value.int (Nat.cast _) _)) _ _ _); k_dflt (refine' tup_at ?N ?hm ?hv ?hi ?_ ?hs; (case N => k_asm); (case hm => k_mem); (case hv => assumption); (case hi => lia); (case hs => with_unfolding_all rfl); k_whole))) | ((with_reducible show wpAny _ _ (setAttr (Value.ref _) _ _) _ _ _); (k_here; k_dflt (refine' setX ?k1 ?k2 ?k3 ?k4 ?k5 ?k6 ?k7 ?k8 ?k9 ?k10 ?k11 ?k12 ?k13 ?_; (case k1 => k_asm); (case k2 => k_asm); (case k3 => k_asm); (case k4 => k_inst); (case k5 => exact rfl); (case k6 => k_is); (case k7 => k_is); (case k8 => k_is); (case k9 => k_is); (case k10 => k_get); (case k11 => k_put); (case k12 => k_upd); (case k13 => exact Nat.le_of_ble_eq_true rfl); k_whole); intros; (try k_sweep))) | (k_unfold; (try dsimp only)) | (k_end; wrow_close) | walk1 | (dsimp only; walk1) | (leave1; try dsimp only)) | fail "no")
 rename Fr _ _ _ _ => F9
 rename News _ _ _ _ => N9
 rename Obj.IsDictOf _ _ _ => HT9
 have N8 := gather (tl := tl) (Wa := Wa) (lgA := lgA) (oW := oW) N9 HT9 (by k_mem) (by k_mem) (by k_mem) (by k_mem) (by k_mem) (by k_mem) (by intro p hp; (repeat (first | exact hp | exact mKt hp | exact mKt (mKt hp) | exact mKt (mKt (mKt hp)) | refine' mK4 rfl ?_ | refine' mK1 rfl ?_))) n W0
 clear N9
 have hX8 : ∃ kvs, Obj.IsDictOf (strKind PR w) _ kvs ∧ valueAt kvs "push" = some (.ref 566) ∧ valueAt kvs "put" = some (.ref 573) ∧ valueAt kvs "do" = some (.ref 580) ∧ valueAt kvs "test" = some (.ref 594) ∧ valueAt kvs "jump" = some (.ref 601) ∧ valueAt kvs "stop" = some (.ref 643) := ⟨_, HT9, rfl, rfl, rfl, rfl, rfl, rfl⟩
 with_reducible refine ex1 hX8 ?_
 clear hX8
 intro kvs hX9
 with_reducible refine an7 hX9 ?_
 clear hX9
 intro HT e1 e2 e3 e4 e5 e6
 have hX8 : ∃ mx Sa M Ta mk fr oT ns tp tw kv, _ = M ∧ _ = Ta ∧ Obj.IsDictOf (strKind PR w) oT kvs ∧ News g' L' _ (MLed M mx Sa Wa lgA Ta mk (.ref Cd) (.ref Dp) fr oT ⟨⟨0, none, W0, [], ""⟩, n, 0, tp, 0, 0, ns, kv, tw, oW, [], nl, tl⟩) ∧
  NeAll mx tl ∧ NeAll Sa tl ∧ NeA mx Sa ∧ NeA mx Wa ∧ NeA mx lgA ∧ NeA mx Ta ∧ NeA mx M ∧ NeA Sa Wa ∧ NeA Sa lgA ∧ NeA Sa Ta ∧ NeA Sa M ∧ NeA Wa Ta ∧ NeA Wa M ∧ NeA lgA Ta := exi11 _ _ _ _ _ _ _ _ _ _ _ ⟨rfl, rfl, HT, N8, ⟨by k_all⟩, ⟨by k_all⟩, ⟨by k_ne⟩, ⟨by k_ne⟩, ⟨by k_ne⟩, ⟨by k_ne⟩, ⟨by k_ne⟩, ⟨by k_ne⟩, ⟨by k_ne⟩, ⟨by k_ne⟩, ⟨by k_ne⟩, ⟨by k_ne⟩, ⟨by k_ne⟩, ⟨by k_ne⟩⟩
 with_reducible refine ex11 hX8 ?_
 clear hX8
 intro mx Sa M Ta mk fr oT ns tp tw kv hX9
 with_reducible refine an18 hX9 ?_
 clear hX9
 intro eM eT HT' N7 q1 q2 q3 q4 q5 q6 q7 q8 q9 q10 q11 q12 q13 q14
 clear N8 HT HT9
 subst eM
 subst eT
 k_dflt (refine' ksw_while (σ := MS) (MLed _ mx Sa Wa lgA _ mk (.ref Cd) (.ref Dp) fr oT) (fun c => [(Str.ofString "steps", .int (c.st : Int) c.ts)]) (fun c => MOk w names mx Sa Wa lgA tl c) [Str.ofString "op"] (fun c => Runs names prog c.n c.am fin ∧ c.st + c.n ≤ 6000) (fun c => c.n) ⟨⟨0, none, W0, [], ""⟩, n, 0, tp, ?ts, 0, ns, kv, tw, oW, [], nl, tl⟩ F9 ?N ?hf ?hk ?hp ?turn)
 case hk =>
  intro p hp
  rw [List.mem_singleton] at hp
  subst hp
  with_unfolding_all exact rfl
 case N => exact N7
 case hf => exact ⟨fun _ h => h, hW, hWn, hnm, .nil, Nat.zero_le _, (fun _ h => by cases h), q1, q2, oW1, oL1⟩
 case hp => exact ⟨hr, by simpa using hn⟩
 case turn =>
  clear F9 N7
  rintro ⟨⟨place, stk, W, log, word⟩, nn, st, tp, ts, xa, ns, kv, tw, oW, lg, nl, tl'⟩ u h tk hf9 ⟨hr9, hle⟩ F N
  obtain ⟨f1, f2, f3, f4, f5, f6, f7, f8, f9, f10, f11⟩ := hf9
  dsimp only at f1 f2 f3 f4 f5 f6 f7 f8 f9 f10 f11 hr9 hle
  have hC := f1 _ hC
  have hCx := f1 _ hCx
  have hT := f1 _ hT
  have hD := f1 _ hD
  have hDx := f1 _ hDx
  have hf1 := f1 _ hf1
  have hf2 := f1 _ hf2
  have hf3 := f1 _ hf3
  have hf4 := f1 _ hf4
  dsimp only [MLed] at N
  cases hr9 with
  | done hw =>
   dsimp only at hw
   have hwf : (word == Str.ofString "") = false := by simpa using hw
   dsimp only [kstB] at F
   (try k_fold)
   repeat' (first | keq_rows | ((with_reducible show wpAny _ _ (execs (_ :: _) _) _ _ _); (with_reducible rename News _ _ _ _ => N9); (with_reducible refine consA3 N9 ?_); clear N9; intro nL N9 q0 uq0 qA uqA) | keq_hits | ((k_here; (with_reducible show wpAny _ _ (call (Value.builtin "len") [Value.ref _]) _ _ _); k_dflt (refine' len_tup ?N ?hm ?hz ?_; (case N => k_asm); (case hm => k_mem); (case hz => lia); k_whole))) | ((with_reducible show wpAny _ _ (callWith _ (Value.ref _) _ _ _) _ _ _); (k_here; k_dflt (first   | (refine' callWith_F ?k1 ?_; (case k1 => exact FnAt.of (by k_asm) (by k_mem)); k_whole)   | (refine' callWith_F0 ?k1 ?_; (case k1 => exact FnAt.of (by k_asm) (by k_mem)); k_whole; try dsimp only [List.nil_append, List.cons_append])))) | ((k_here; (with_reducible show wpAny _ _ (subscriptTail _ _ (Value.ref _) (Value.str _ _)) _ _ _); k_dflt (refine' tab_get ?N ?hm ?hd ?hv ?_ ?hs ?hg; (case N => k_asm); (case hm => k_mem); (case hd => assumption); (case hv => assumption); (case hs => with_unfolding_all rfl); (case hg => (intros; with_unfolding_all rfl)); k_whole))) | ((k_here; (with_reducible show wpAny _ _ (subscriptTail _ _ (Value.ref _) (Value.int (Nat.cast _) _)) _ _ _); k_dflt (refine' tup_at ?N ?hm ?hv ?hi ?_ ?hs; (case N => k_asm); (case hm => k_mem); (case hv => assumption); (case hi => lia); (case hs => with_unfolding_all rfl); k_whole))) | (k_unfold; (try dsimp only)) | (k_end; wrow_close) | walk1 | (dsimp only; walk1) | (leave1; try dsimp only) | fail "no")
   refine' hret _ _ _ _ ?ra ?rb ?rc ?rd
   case ra => k_asm
   case rb => k_asm
   case rc => k_asm
   case rd =>
    refine ⟨⟨_, rfl⟩, oW, lg, nl, tl', f2, f5, fc (by k_mem) (fc (by k_mem) ?_), f1⟩
    intro p hp; (repeat (first | exact hp | exact mKt hp | exact mKt (mKt hp) | exact mKt (mKt (mKt hp)) | refine' mK4 rfl ?_ | refine' mK1 rfl ?_))
  | @step _ _ _ n' hw hs hr =>
   dsimp only at hw
   subst hw
   dsimp only [kstB]  at F
   cases ho : prog[place]? with
   | none => simp [stepA, ho] at hs
   | some o =>
    obtain ⟨v, hv, hov⟩ := hops.at ho
    have hpl : place < vs.length := by
     rcases Nat.lt_or_ge place vs.length with h1 | h1
     ·exact h1
     ·rw [List.getElem?_eq_none h1] at hv; cases hv
    have hvl := hops.length
    have hst : st < 6000 := by lia
    have p1 := f8.all
    have p2 := f9.all
    have p3 := f10.all
    have p4 := f11.all
    (try k_fold)
    repeat' (first | keq_rows | ((with_reducible show wpAny _ _ (execs (_ :: _) _) _ _ _); (with_reducible rename News _ _ _ _ => N9); (with_reducible refine consA3 N9 ?_); clear N9; intro nL N9 q0 uq0 qA uqA) | keq_hits | ((k_here; (with_reducible show wpAny _ _ (call (Value.builtin "len") [Value.ref _]) _ _ _); k_dflt (refine' len_tup ?N ?hm ?hz ?_; (case N => k_asm); (case hm => k_mem); (case hz => lia); k_whole))) | ((with_reducible show wpAny _ _ (callWith _ (Value.ref _) _ _ _) _ _ _); (k_here; k_dflt (first   | (refine' callWith_F ?k1 ?_; (case k1 => exact FnAt.of (by k_asm) (by k_mem)); k_whole)   | (refine' callWith_F0 ?k1 ?_; (case k1 => exact FnAt.of (by k_asm) (by k_mem)); k_whole; try dsimp only [List.nil_append, List.cons_append])))) | ((k_here; (with_reducible show wpAny _ _ (subscriptTail _ _ (Value.ref _) (Value.str _ _)) _ _ _); k_dflt (refine' tab_get ?N ?hm ?hd ?hv ?_ ?hs ?hg; (case N => k_asm); (case hm => k_mem); (case hd => assumption); (case hv => assumption); (case hs => with_unfolding_all rfl); (case hg => (intros; with_unfolding_all rfl)); k_whole))) | ((k_here; (with_reducible show wpAny _ _ (subscriptTail _ _ (Value.ref _) (Value.int (Nat.cast _) _)) _ _ _); k_dflt (refine' tup_at ?N ?hm ?hv ?hi ?_ ?hs; (case N => k_asm); (case hm => k_mem); (case hv => assumption); (case hi => lia); (case hs => with_unfolding_all rfl); k_whole))) | (k_unfold; (try dsimp only)) | (k_end; wrow_close) | walk1 | (dsimp only; walk1) | (leave1; try dsimp only) | fail "no")
    cases hov with
    | @push _ _ _ _ _ u hm he =>
     have hm := f1 _ hm
     cases stk with
     | some _ => simp [stepA, ho] at hs
     | none =>
     simp only [stepA, ho, Option.some.injEq] at hs
     subst hs
     rename News _ _ _ _ => N9
     (try dsimp +zetaDelta only [stkOf] at N9)
     repeat' (first | keq_rows | ((with_reducible show wpAny _ _ (execs (_ :: _) _) _ _ _); (with_reducible rename News _ _ _ _ => N9); (with_reducible refine consA3 N9 ?_); clear N9; intro nL N9 q0 uq0 qA uqA) | keq_hits | ((k_here; (with_reducible show wpAny _ _ (call (Value.builtin "len") [Value.ref _]) _ _ _); k_dflt (refine' len_tup ?N ?hm ?hz ?_; (case N => k_asm); (case hm => k_mem); (case hz => lia); k_whole))) | ((with_reducible show wpAny _ _ (callWith _ (Value.ref _) _ _ _) _ _ _); (k_here; k_dflt (first   | (refine' callWith_F ?k1 ?_; (case k1 => exact FnAt.of (by k_asm) (by k_mem)); k_whole)   | (refine' callWith_F0 ?k1 ?_; (case k1 => exact FnAt.of (by k_asm) (by k_mem)); k_whole; try dsimp only [List.nil_append, List.cons_append])))) | ((with_reducible show wpAny _ _ (call (Value.ref _) _) _ _ _); (k_here; k_dflt (refine' num_use ?D ?he ?k1 ?k2 ?k3 ?k4 ?k5 ?kK ?kd ?ku ?hn ?_; (case D => assumption); (case k1 => k_asm); (case k2 => k_asm); (case k4 => k_asm); (case k3 => k_asm); (case k5 => k_asm); (case kK => first | exact rfl | assumption); (case kd => ktr_room); (case ku => ktr_units); (case hn => (intro p hp; (repeat (first | exact hp | apply List.Mem.tail | (refine' kd_use ?_ (by assumption)))))); (case he => assumption); k_whole); (intros); (try dsimp only); (try k_sweep))) | ((k_here; (with_reducible show wpAny _ _ (subscriptTail _ _ (Value.ref _) (Value.str _ _)) _ _ _); k_dflt (refine' tab_get ?N ?hm ?hd ?hv ?_ ?hs ?hg; (case N => k_asm); (case hm => k_mem); (case hd => assumption); (case hv => assumption); (case hs => with_unfolding_all rfl); (case hg => (intros; with_unfolding_all rfl)); k_whole))) | ((k_here; (with_reducible show wpAny _ _ (subscriptTail _ _ (Value.ref _) (Value.int (Nat.cast _) _)) _ _ _); k_dflt (refine' tup_at ?N ?hm ?hv ?hi ?_ ?hs; (case N => k_asm); (case hm => k_mem); (case hv => assumption); (case hi => lia); (case hs => with_unfolding_all rfl); k_whole))) | ((k_here; (with_reducible show wpAny _ _ (getMethod (Value.ref _) _ _) _ _ _); k_dflt (refine' kmu_own ?k1 ?k2 ?k3 ?k4 ?k5 ?_; (case k1 => k_asm); (case k2 => k_asm); (case k3 => k_inst); (case k4 => k_is); (case k5 => k_is); k_whole))) | (k_unfold; (try dsimp only)) | (k_end; wrow_close) | walk1 | (dsimp only; walk1) | (leave1; try dsimp only) | fail "no")
     rename News _ _ _ _ => N9
     refine' ksw_end ⟨⟨place + 1, some u, W, log, ""⟩, n', st + 1, _, _, _, _, _, _, oW, lg, _, tl'⟩ ?F ?N ?hn ?hf ?hk ?hr ?hp ?hm
     case F => k_asm
     case N => exact N9
     case hn =>
      dsimp only [MLed, stkOf]
      refine fc ?_ (fc ?_ (fc ?_ (fc ?_ (fc ?_ (fc ?_ ?_)))))
      ·k_mem
      ·k_mem
      ·k_mem
      ·k_mem
      ·k_mem
      ·k_mem
      ·intro p hp; (repeat (first | exact hp | exact mKt hp | exact mKt (mKt hp) | exact mKt (mKt (mKt hp)) | refine' mK4 rfl ?_ | refine' mK1 rfl ?_))
     case hk =>
      intro p hp
      rw [List.mem_singleton] at hp
      subst hp
      with_unfolding_all exact rfl
     case hr => ((try dsimp +zetaDelta only); ksw_same)
     case hp => exact ⟨hr, by dsimp only; lia⟩
     case hm => exact Nat.lt_succ_self _
     case hf => exact ⟨f1, f2, f3, f4, f5, (Nat.le_succ_of_le f6), (fun u e => by cases e; exact ⟨_, _, by assumption⟩), f8, f9, f10, f11⟩
    | @put _ _ _ _ name way l hm hp =>
     have hm := f1 _ hm
     have hwy : way = "+" ∨ way = "=" := hways _ (List.mem_of_getElem? ho) name way l rfl
     cases stk with
     | none => simp [stepA, ho] at hs
     | some u =>
     cases hx : W.lookup name with
     | none => simp [stepA, ho, hx] at hs
     | some x =>
     simp only [stepA, ho, hx, Option.some.injEq] at hs
     subst hs
     obtain ⟨tu, tz, hxa⟩ := f7 u rfl
     have hxa' := f1 _ hxa
     rename News _ _ _ _ => N9
     (try dsimp +zetaDelta only [stkOf] at N9)
     repeat' (first | keq_rows | ((with_reducible show wpAny _ _ (execs (_ :: _) _) _ _ _); (with_reducible rename News _ _ _ _ => N9); (with_reducible refine consA3 N9 ?_); clear N9; intro nL N9 q0 uq0 qA uqA) | keq_hits | ((k_here; (with_reducible show wpAny _ _ (call (Value.builtin "len") [Value.ref _]) _ _ _); k_dflt (refine' len_tup ?N ?hm ?hz ?_; (case N => k_asm); (case hm => k_mem); (case hz => lia); k_whole))) | ((with_reducible show wpAny _ _ (callWith _ (Value.ref _) _ _ _) _ _ _); (k_here; k_dflt (first   | (refine' callWith_F ?k1 ?_; (case k1 => exact FnAt.of (by k_asm) (by k_mem)); k_whole)   | (refine' callWith_F0 ?k1 ?_; (case k1 => exact FnAt.of (by k_asm) (by k_mem)); k_whole; try dsimp only [List.nil_append, List.cons_append])))) | ((with_reducible show wpAny _ _ (call (Value.ref _) _) _ _ _); (k_here; k_dflt (refine' put_use ?D ?hp ?hw ?hxa ?hW ?hl ?hx ?k1 ?k2 ?k3 ?k4 ?k5 ?kK ?kd ?ku ?hn ?U ?_; (case D => assumption); (case k1 => k_asm); (case k2 => k_asm); (case k4 => k_asm); (case k3 => k_asm); (case k5 => k_asm); (case kK => first | exact rfl | assumption); (case kd => ktr_room); (case ku => ktr_units); (case hn => (intro p hp; (repeat (first | exact hp | apply List.Mem.tail | (refine' kd_use ?_ (by assumption)))))); (case hp => assumption); (case hw => assumption); (case hxa => assumption); (case hW => assumption); (case hl => assumption); (case hx => assumption); (case U => k_updF); k_whole); (intro oW'9 h'9 tk'9 hW'9 F'9 N'9); (try dsimp only at N'9); (try dsimp only); (try k_sweep))) | ((k_here; (with_reducible show wpAny _ _ (subscriptTail _ _ (Value.ref _) (Value.str _ _)) _ _ _); k_dflt (refine' tab_get ?N ?hm ?hd ?hv ?_ ?hs ?hg; (case N => k_asm); (case hm => k_mem); (case hd => assumption); (case hv => assumption); (case hs => with_unfolding_all rfl); (case hg => (intros; with_unfolding_all rfl)); k_whole))) | ((k_here; (with_reducible show wpAny _ _ (subscriptTail _ _ (Value.ref _) (Value.int (Nat.cast _) _)) _ _ _); k_dflt (refine' tup_at ?N ?hm ?hv ?hi ?_ ?hs; (case N => k_asm); (case hm => k_mem); (case hv => assumption); (case hi => lia); (case hs => with_unfolding_all rfl); k_whole))) | ((k_here; (with_reducible show wpAny _ _ (getMethod (Value.ref _) _ _) _ _ _); k_dflt (refine' kmu_own ?k1 ?k2 ?k3 ?k4 ?k5 ?_; (case k1 => k_asm); (case k2 => k_asm); (case k3 => k_inst); (case k4 => k_is); (case k5 => k_is); k_whole))) | (k_unfold; (try dsimp only)) | (k_end; wrow_close) | walk1 | (dsimp only; walk1) | (leave1; try dsimp only) | fail "no")
     rename News _ _ _ _ => N9
     refine' ksw_end ⟨⟨place + 1, none, setW W name (u + (if way = "+" then x else 0)), log, ""⟩, n', st + 1, _, _, xa, _, _, _, _, lg, _, tl'⟩ ?F ?N ?hn ?hf ?hk ?hr ?hp ?hm
     case F => k_asm
     case N => exact N9
     case hn =>
      dsimp only [MLed, stkOf]
      refine fc ?_ (fc ?_ (fc ?_ (fc ?_ (fc ?_ (fc ?_ ?_)))))
      ·k_mem
      ·k_mem
      ·k_mem
      ·k_mem
      ·k_mem
      ·k_mem
      ·intro p hp; (repeat (first | exact hp | exact mKt hp | exact mKt (mKt hp) | exact mKt (mKt (mKt hp)) | refine' mK4 rfl ?_ | refine' mK1 rfl ?_))
     case hk =>
      intro p hp
      rw [List.mem_singleton] at hp
      subst hp
      with_unfolding_all exact rfl
     case hr => ((try dsimp +zetaDelta only); ksw_same)
     case hp => exact ⟨hr, by dsimp only; lia⟩
     case hm => exact Nat.lt_succ_self _
     case hf => exact ⟨f1, (by assumption), (by rw [setW, List.length_map]; exact f3), (fun n hn => setW_isSome (f4 n hn)), f5, (Nat.le_succ_of_le f6), (fun _ e => by cases e), f8, f9, f10, f11⟩
    | @test _ _ _ _ name b l hm hc =>
     have hm := f1 _ hm
     cases hx : W.lookup name with
     | none => simp [stepA, ho, hx] at hs
     | some x =>
     simp only [stepA, ho, hx, Option.some.injEq] at hs
     subst hs
     repeat' (first | ((fail_if_success (with_reducible show wpAny _ _ (truthy (Value.bool (decide _))) _ _ _)); first | keq_rows | ((with_reducible show wpAny _ _ (execs (_ :: _) _) _ _ _); (with_reducible rename News _ _ _ _ => N9); (with_reducible refine consA3 N9 ?_); clear N9; intro nL N9 q0 uq0 qA uqA) | keq_hits | ((k_here; (with_reducible show wpAny _ _ (call (Value.builtin "len") [Value.ref _]) _ _ _); k_dflt (refine' len_tup ?N ?hm ?hz ?_; (case N => k_asm); (case hm => k_mem); (case hz => lia); k_whole))) | ((with_reducible show wpAny _ _ (callWith _ (Value.ref _) _ _ _) _ _ _); (k_here; k_dflt (first   | (refine' callWith_F ?k1 ?_; (case k1 => exact FnAt.of (by k_asm) (by k_mem)); k_whole)   | (refine' callWith_F0 ?k1 ?_; (case k1 => exact FnAt.of (by k_asm) (by k_mem)); k_whole; try dsimp only [List.nil_append, List.cons_append])))) | ((with_reducible show wpAny _ _ (call (Value.ref _) _) _ _ _); (k_here; k_dflt (refine' test_use ?hb ?D ?hc ?hW ?hx ?k1 ?k2 ?k3 ?k4 ?k5 ?kK ?kd ?ku ?hn ?hm ?_; (case D => assumption); (case k1 => k_asm); (case k2 => k_asm); (case k4 => k_asm); (case k3 => k_asm); (case k5 => k_asm); (case kK => first | exact rfl | assumption); (case kd => ktr_room); (case ku => ktr_units); (case hn => (intro p hp; (repeat (first | exact hp | apply List.Mem.tail | (refine' kd_use ?_ (by assumption)))))); (case hc => assumption); (case hb => assumption); (case hW => assumption); (case hx => assumption); (case hm => k_mem); k_whole); (intros); (try dsimp only); (try k_sweep))) | ((k_here; (with_reducible show wpAny _ _ (subscriptTail _ _ (Value.ref _) (Value.str _ _)) _ _ _); k_dflt (refine' tab_get ?N ?hm ?hd ?hv ?_ ?hs ?hg; (case N => k_asm); (case hm => k_mem); (case hd => assumption); (case hv => assumption); (case hs => with_unfolding_all rfl); (case hg => (intros; with_unfolding_all rfl)); k_whole))) | ((k_here; (with_reducible show wpAny _ _ (subscriptTail _ _ (Value.ref _) (Value.int (Nat.cast _) _)) _ _ _); k_dflt (refine' tup_at ?N ?hm ?hv ?hi ?_ ?hs; (case N => k_asm); (case hm => k_mem); (case hv => assumption); (case hi => lia); (case hs => with_unfolding_all rfl); k_whole))) | ((k_here; (with_reducible show wpAny _ _ (getMethod (Value.ref _) _ _) _ _ _); k_dflt (refine' kmu_own ?k1 ?k2 ?k3 ?k4 ?k5 ?_; (case k1 => k_asm); (case k2 => k_asm); (case k3 => k_inst); (case k4 => k_is); (case k5 => k_is); k_whole))) | (k_unfold; (try dsimp only)) | (k_end; wrow_close) | walk1 | (dsimp only; walk1) | (leave1; try dsimp only)) | fail "no")
     by_cases hbx : b < x
     ·have hb9 : decide (b < x) = true := decide_eq_true hbx
      simp only [hbx, if_true] at hr
      repeat' (first | keq_rows | ((with_reducible show wpAny _ _ (execs (_ :: _) _) _ _ _); (with_reducible rename News _ _ _ _ => N9); (with_reducible refine consA3 N9 ?_); clear N9; intro nL N9 q0 uq0 qA uqA) | keq_hits | ((k_here; (with_reducible show wpAny _ _ (call (Value.builtin "len") [Value.ref _]) _ _ _); k_dflt (refine' len_tup ?N ?hm ?hz ?_; (case N => k_asm); (case hm => k_mem); (case hz => lia); k_whole))) | ((with_reducible show wpAny _ _ (callWith _ (Value.ref _) _ _ _) _ _ _); (k_here; k_dflt (first   | (refine' callWith_F ?k1 ?_; (case k1 => exact FnAt.of (by k_asm) (by k_mem)); k_whole)   | (refine' callWith_F0 ?k1 ?_; (case k1 => exact FnAt.of (by k_asm) (by k_mem)); k_whole; try dsimp only [List.nil_append, List.cons_append])))) | ((with_reducible show wpAny _ _ (call (Value.ref _) _) _ _ _); (k_here; k_dflt (refine' test_use ?hb ?D ?hc ?hW ?hx ?k1 ?k2 ?k3 ?k4 ?k5 ?kK ?kd ?ku ?hn ?hm ?_; (case D => assumption); (case k1 => k_asm); (case k2 => k_asm); (case k4 => k_asm); (case k3 => k_asm); (case k5 => k_asm); (case kK => first | exact rfl | assumption); (case kd => ktr_room); (case ku => ktr_units); (case hn => (intro p hp; (repeat (first | exact hp | apply List.Mem.tail | (refine' kd_use ?_ (by assumption)))))); (case hc => assumption); (case hb => assumption); (case hW => assumption); (case hx => assumption); (case hm => k_mem); k_whole); (intros); (try dsimp only); (try k_sweep))) | ((k_here; (with_reducible show wpAny _ _ (subscriptTail _ _ (Value.ref _) (Value.str _ _)) _ _ _); k_dflt (refine' tab_get ?N ?hm ?hd ?hv ?_ ?hs ?hg; (case N => k_asm); (case hm => k_mem); (case hd => assumption); (case hv => assumption); (case hs => with_unfolding_all rfl); (case hg => (intros; with_unfolding_all rfl)); k_whole))) | ((k_here; (with_reducible show wpAny _ _ (subscriptTail _ _ (Value.ref _) (Value.int (Nat.cast _) _)) _ _ _); k_dflt (refine' tup_at ?N ?hm ?hv ?hi ?_ ?hs; (case N => k_asm); (case hm => k_mem); (case hv => assumption); (case hi => lia); (case hs => with_unfolding_all rfl); k_whole))) | (k_unfold; (try dsimp only)) | (k_end; wrow_close) | walk1 | (dsimp only; walk1) | (leave1; try dsimp only) | fail "no")
      rename News _ _ _ _ => N9
      refine' ksw_end ⟨⟨place + 1, stk, W, log, ""⟩, n', st + 1, _, _, xa, _, _, _, oW, lg, _, tl'⟩ ?F ?N ?hn ?hf ?hk ?hr ?hp ?hm
      case F => k_asm
      case N => exact N9
      case hn =>
       dsimp only [MLed, stkOf]
       refine fc ?_ (fc ?_ (fc ?_ (fc ?_ (fc ?_ (fc ?_ ?_)))))
       ·k_mem
       ·k_mem
       ·k_mem
       ·k_mem
       ·k_mem
       ·k_mem
       ·intro p hp; (repeat (first | exact hp | exact mKt hp | exact mKt (mKt hp) | exact mKt (mKt (mKt hp)) | refine' mK4 rfl ?_ | refine' mK1 rfl ?_))
      case hk =>
       intro p hp
       rw [List.mem_singleton] at hp
       subst hp
       with_unfolding_all exact rfl
      case hr => ((try dsimp +zetaDelta only); ksw_same)
      case hp => exact ⟨hr, by dsimp only; lia⟩
      case hm => exact Nat.lt_succ_self _
      case hf => exact ⟨f1, f2, f3, f4, f5, (Nat.le_succ_of_le f6), f7, f8, f9, f10, f11⟩
     ·have hb9 : decide (b < x) = false := decide_eq_false hbx
      simp only [hbx, if_false] at hr
      repeat' (first | keq_rows | ((with_reducible show wpAny _ _ (execs (_ :: _) _) _ _ _); (with_reducible rename News _ _ _ _ => N9); (with_reducible refine consA3 N9 ?_); clear N9; intro nL N9 q0 uq0 qA uqA) | keq_hits | ((k_here; (with_reducible show wpAny _ _ (call (Value.builtin "len") [Value.ref _]) _ _ _); k_dflt (refine' len_tup ?N ?hm ?hz ?_; (case N => k_asm); (case hm => k_mem); (case hz => lia); k_whole))) | ((with_reducible show wpAny _ _ (callWith _ (Value.ref _) _ _ _) _ _ _); (k_here; k_dflt (first   | (refine' callWith_F ?k1 ?_; (case k1 => exact FnAt.of (by k_asm) (by k_mem)); k_whole)   | (refine' callWith_F0 ?k1 ?_; (case k1 => exact FnAt.of (by k_asm) (by k_mem)); k_whole; try dsimp only [List.nil_append, List.cons_append])))) | ((with_reducible show wpAny _ _ (call (Value.ref _) _) _ _ _); (k_here; k_dflt (refine' test_use ?hb ?D ?hc ?hW ?hx ?k1 ?k2 ?k3 ?k4 ?k5 ?kK ?kd ?ku ?hn ?hm ?_; (case D => assumption); (case k1 => k_asm); (case k2 => k_asm); (case k4 => k_asm); (case k3 => k_asm); (case k5 => k_asm); (case kK => first | exact rfl | assumption); (case kd => ktr_room); (case ku => ktr_units); (case hn => (intro p hp; (repeat (first | exact hp | apply List.Mem.tail | (refine' kd_use ?_ (by assumption)))))); (case hc => assumption); (case hb => assumption); (case hW => assumption); (case hx => assumption); (case hm => k_mem); k_whole); (intros); (try dsimp only); (try k_sweep))) | ((k_here; (with_reducible show wpAny _ _ (subscriptTail _ _ (Value.ref _) (Value.str _ _)) _ _ _); k_dflt (refine' tab_get ?N ?hm ?hd ?hv ?_ ?hs ?hg; (case N => k_asm); (case hm => k_mem); (case hd => assumption); (case hv => assumption); (case hs => with_unfolding_all rfl); (case hg => (intros; with_unfolding_all rfl)); k_whole))) | ((k_here; (with_reducible show wpAny _ _ (subscriptTail _ _ (Value.ref _) (Value.int (Nat.cast _) _)) _ _ _); k_dflt (refine' tup_at ?N ?hm ?hv ?hi ?_ ?hs; (case N => k_asm); (case hm => k_mem); (case hv => assumption); (case hi => lia); (case hs => with_unfolding_all rfl); k_whole))) | (k_unfold; (try dsimp only)) | (k_end; wrow_close) | walk1 | (dsimp only; walk1) | (leave1; try dsimp only) | fail "no")
      rename News _ _ _ _ => N9
      refine' ksw_end ⟨⟨l, stk, W, log, ""⟩, n', st + 1, _, _, xa, _, _, _, oW, lg, _, tl'⟩ ?F ?N ?hn ?hf ?hk ?hr ?hp ?hm
      case F => k_asm
      case N => exact N9
      case hn =>
       dsimp only [MLed, stkOf]
       refine fc ?_ (fc ?_ (fc ?_ (fc ?_ (fc ?_ (fc ?_ ?_)))))
       ·k_mem
       ·k_mem
       ·k_mem
       ·k_mem
       ·k_mem
       ·k_mem
       ·intro p hp; (repeat (first | exact hp | exact mKt hp | exact mKt (mKt hp) | exact mKt (mKt (mKt hp)) | refine' mK4 rfl ?_ | refine' mK1 rfl ?_))
      case hk =>
       intro p hp
       rw [List.mem_singleton] at hp
       subst hp
       with_unfolding_all exact rfl
      case hr => ((try dsimp +zetaDelta only); ksw_same)
      case hp => exact ⟨hr, by dsimp only; lia⟩
      case hm => exact Nat.lt_succ_self _
      case hf => exact ⟨f1, f2, f3, f4, f5, (Nat.le_succ_of_le f6), f7, f8, f9, f10, f11⟩
    | jump hm =>
     have hm := f1 _ hm
     simp only [stepA, ho, Option.some.injEq] at hs
     subst hs
     repeat' (first | keq_rows | ((with_reducible show wpAny _ _ (execs (_ :: _) _) _ _ _); (with_reducible rename News _ _ _ _ => N9); (with_reducible refine consA3 N9 ?_); clear N9; intro nL N9 q0 uq0 qA uqA) | keq_hits | ((k_here; (with_reducible show wpAny _ _ (call (Value.builtin "len") [Value.ref _]) _ _ _); k_dflt (refine' len_tup ?N ?hm ?hz ?_; (case N => k_asm); (case hm => k_mem); (case hz => lia); k_whole))) | ((with_reducible show wpAny _ _ (callWith _ (Value.ref _) _ _ _) _ _ _); (k_here; k_dflt (first   | (refine' callWith_F ?k1 ?_; (case k1 => exact FnAt.of (by k_asm) (by k_mem)); k_whole)   | (refine' callWith_F0 ?k1 ?_; (case k1 => exact FnAt.of (by k_asm) (by k_mem)); k_whole; try dsimp only [List.nil_append, List.cons_append])))) | ((k_here; (with_reducible show wpAny _ _ (subscriptTail _ _ (Value.ref _) (Value.str _ _)) _ _ _); k_dflt (refine' tab_get ?N ?hm ?hd ?hv ?_ ?hs ?hg; (case N => k_asm); (case hm => k_mem); (case hd => assumption); (case hv => assumption); (case hs => with_unfolding_all rfl); (case hg => (intros; with_unfolding_all rfl)); k_whole))) | ((k_here; (with_reducible show wpAny _ _ (subscriptTail _ _ (Value.ref _) (Value.int (Nat.cast _) _)) _ _ _); k_dflt (refine' tup_at ?N ?hm ?hv ?hi ?_ ?hs; (case N => k_asm); (case hm => k_mem); (case hv => assumption); (case hi => lia); (case hs => with_unfolding_all rfl); k_whole))) | (k_unfold; (try dsimp only)) | (k_end; wrow_close) | walk1 | (dsimp only; walk1) | (leave1; try dsimp only) | fail "no")
     rename News _ _ _ _ => N9
     refine' ksw_end ⟨⟨_, stk, W, log, ""⟩, n', st + 1, _, _, xa, _, _, _, oW, lg, _, tl'⟩ ?F ?N ?hn ?hf ?hk ?hr ?hp ?hm
     case F => k_asm
     case N => exact N9
     case hn =>
      dsimp only [MLed, stkOf]
      refine fc ?_ (fc ?_ (fc ?_ (fc ?_ (fc ?_ (fc ?_ ?_)))))
      ·k_mem
      ·k_mem
      ·k_mem
      ·k_mem
      ·k_mem
      ·k_mem
      ·intro p hp; (repeat (first | exact hp | exact mKt hp | exact mKt (mKt hp) | exact mKt (mKt (mKt hp)) | refine' mK4 rfl ?_ | refine' mK1 rfl ?_))
     case hk =>
      intro p hp
      rw [List.mem_singleton] at hp
      subst hp
      with_unfolding_all exact rfl
     case hr => ((try dsimp +zetaDelta only); ksw_same)
     case hp => exact ⟨hr, by dsimp only; lia⟩
     case hm => exact Nat.lt_succ_self _
     case hf => exact ⟨f1, f2, f3, f4, f5, (Nat.le_succ_of_le f6), f7, f8, f9, f10, f11⟩
    | deed hm =>
     have hm := f1 _ hm
     simp only [stepA, ho, Option.some.injEq] at hs
     subst hs
     have hlz : lg.toArray.size ≤ 10000 := by rw [List.size_toArray]; lia
     repeat' (first | keq_rows | ((with_reducible show wpAny _ _ (execs (_ :: _) _) _ _ _); (with_reducible rename News _ _ _ _ => N9); (with_reducible refine consA3 N9 ?_); clear N9; intro nL N9 q0 uq0 qA uqA) | keq_hits | ((k_here; (with_reducible show wpAny _ _ (call (Value.builtin "len") [Value.ref _]) _ _ _); k_dflt (refine' len_tup ?N ?hm ?hz ?_; (case N => k_asm); (case hm => k_mem); (case hz => lia); k_whole))) | ((with_reducible show wpAny _ _ (callWith _ (Value.ref _) _ _ _) _ _ _); (k_here; k_dflt (first   | (refine' callWith_F ?k1 ?_; (case k1 => exact FnAt.of (by k_asm) (by k_mem)); k_whole)   | (refine' callWith_F0 ?k1 ?_; (case k1 => exact FnAt.of (by k_asm) (by k_mem)); k_whole; try dsimp only [List.nil_append, List.cons_append])))) | ((with_reducible show wpAny _ _ (call (Value.ref _) _) _ _ _); (k_here; k_dflt (refine' deed_use ?D ?hW ?hnm ?hl ?k1 ?k2 ?k3 ?k4 ?k5 ?kK ?kd ?ku ?hn ?hm ?hne ?hnl ?U ?_; (case D => assumption); (case k1 => k_asm); (case k2 => k_asm); (case k4 => k_asm); (case k3 => k_asm); (case k5 => k_asm); (case kK => first | exact rfl | assumption); (case kd => ktr_room); (case ku => ktr_units); (case hn => (intro p hp; (repeat (first | exact hp | apply List.Mem.tail | (refine' kd_use ?_ (by assumption)))))); (case hW => assumption); (case hnm => assumption); (case hl => assumption); (case hm => k_mem); (case hne => assumption); (case hnl => assumption); (case U => k_updF); k_whole); (intro t'9 a'9 its'9 n'9 nl'9 h'9 tk'9 hi'9 ha'9 F'9 N'9); (try dsimp only at N'9); (try dsimp only); (try k_sweep))) | ((k_here; (with_reducible show wpAny _ _ (subscriptTail _ _ (Value.ref _) (Value.str _ _)) _ _ _); k_dflt (refine' tab_get ?N ?hm ?hd ?hv ?_ ?hs ?hg; (case N => k_asm); (case hm => k_mem); (case hd => assumption); (case hv => assumption); (case hs => with_unfolding_all rfl); (case hg => (intros; with_unfolding_all rfl)); k_whole))) | ((k_here; (with_reducible show wpAny _ _ (subscriptTail _ _ (Value.ref _) (Value.int (Nat.cast _) _)) _ _ _); k_dflt (refine' tup_at ?N ?hm ?hv ?hi ?_ ?hs; (case N => k_asm); (case hm => k_mem); (case hv => assumption); (case hi => lia); (case hs => with_unfolding_all rfl); k_whole))) | ((k_here; (with_reducible show wpAny _ _ (getMethod (Value.ref _) _ _) _ _ _); k_dflt (refine' kmu_own ?k1 ?k2 ?k3 ?k4 ?k5 ?_; (case k1 => k_asm); (case k2 => k_asm); (case k3 => k_inst); (case k4 => k_is); (case k5 => k_is); k_whole))) | (k_unfold; (try dsimp only)) | (k_end; wrow_close) | walk1 | (dsimp only; walk1) | (leave1; try dsimp only) | fail "no")
     rename News _ _ _ _ => N9
     rename IntsAre _ _ => hi9
     rename NeAll _ _ => ha9
     simp only [List.push_toArray] at N9
     refine' ksw_end ⟨⟨place + 1, stk, W, log ++ [names.map fun n => (W.lookup n).getD 0], ""⟩, n', st + 1, _, _, xa, _, _, _, oW, lg ++ [.ref _], _, (_, listOf (List.toArray _) _) :: tl'⟩ ?F ?N ?hn ?hf ?hk ?hr ?hp ?hm
     case F => k_asm
     case N => exact N9
     case hn =>
      dsimp only [MLed, stkOf]
      refine fc ?_ (fc ?_ (fc ?_ (fc ?_ (fc ?_ (fc ?_ (fc ?_ ?_))))))
      ·k_mem
      ·k_mem
      ·k_mem
      ·k_mem
      ·k_mem
      ·k_mem
      ·exact .head _
      ·intro p hp; (repeat (first | exact hp | exact mKt hp | exact mKt (mKt hp) | exact mKt (mKt (mKt hp)) | refine' mK4 rfl ?_ | refine' mK1 rfl ?_))
     case hk =>
      intro p hp
      rw [List.mem_singleton] at hp
      subst hp
      with_unfolding_all exact rfl
     case hr => ((try dsimp +zetaDelta only); ksw_same)
     case hp => exact ⟨hr, by dsimp only; lia⟩
     case hm => exact Nat.lt_succ_self _
     case hf => exact ⟨fun p hp => .tail _ (f1 p hp), f2, f3, f4, LogIn.snoc (.head _) hi9 (f5.mono fun p hp => .tail _ hp), by dsimp only; rw [List.length_append]; exact Nat.succ_le_succ f6, f7, ⟨fc (NeAll.at' ha9 (by k_mem)) p1⟩, ⟨fc (NeAll.at' ha9 (by k_mem)) p2⟩, ⟨fc (NeAll.at' ha9 (by k_mem)) p3⟩, ⟨fc (NeAll.at' ha9 (by k_mem)) p4⟩⟩
    | stop hm =>
     have hm := f1 _ hm
     simp only [stepA, ho, Option.some.injEq] at hs
     subst hs
     repeat' (first | keq_rows | ((with_reducible show wpAny _ _ (execs (_ :: _) _) _ _ _); (with_reducible rename News _ _ _ _ => N9); (with_reducible refine consA3 N9 ?_); clear N9; intro nL N9 q0 uq0 qA uqA) | keq_hits | ((k_here; (with_reducible show wpAny _ _ (call (Value.builtin "len") [Value.ref _]) _ _ _); k_dflt (refine' len_tup ?N ?hm ?hz ?_; (case N => k_asm); (case hm => k_mem); (case hz => lia); k_whole))) | ((with_reducible show wpAny _ _ (callWith _ (Value.ref _) _ _ _) _ _ _); (k_here; k_dflt (first   | (refine' callWith_F ?k1 ?_; (case k1 => exact FnAt.of (by k_asm) (by k_mem)); k_whole)   | (refine' callWith_F0 ?k1 ?_; (case k1 => exact FnAt.of (by k_asm) (by k_mem)); k_whole; try dsimp only [List.nil_append, List.cons_append])))) | ((k_here; (with_reducible show wpAny _ _ (subscriptTail _ _ (Value.ref _) (Value.str _ _)) _ _ _); k_dflt (refine' tab_get ?N ?hm ?hd ?hv ?_ ?hs ?hg; (case N => k_asm); (case hm => k_mem); (case hd => assumption); (case hv => assumption); (case hs => with_unfolding_all rfl); (case hg => (intros; with_unfolding_all rfl)); k_whole))) | ((k_here; (with_reducible show wpAny _ _ (subscriptTail _ _ (Value.ref _) (Value.int (Nat.cast _) _)) _ _ _); k_dflt (refine' tup_at ?N ?hm ?hv ?hi ?_ ?hs; (case N => k_asm); (case hm => k_mem); (case hv => assumption); (case hi => lia); (case hs => with_unfolding_all rfl); k_whole))) | (k_unfold; (try dsimp only)) | (k_end; wrow_close) | walk1 | (dsimp only; walk1) | (leave1; try dsimp only) | fail "no")
     rename News _ _ _ _ => N9
     refine' ksw_end ⟨⟨place + 1, stk, W, log, _⟩, n', st + 1, _, _, xa, _, _, _, oW, lg, _, tl'⟩ ?F ?N ?hn ?hf ?hk ?hr ?hp ?hm
     case F => k_asm
     case N => exact N9
     case hn =>
      dsimp only [MLed, stkOf]
      refine fc ?_ (fc ?_ (fc ?_ (fc ?_ (fc ?_ (fc ?_ ?_)))))
      ·k_mem
      ·k_mem
      ·k_mem
      ·k_mem
      ·k_mem
      ·k_mem
      ·intro p hp; (repeat (first | exact hp | exact mKt hp | exact mKt (mKt hp) | exact mKt (mKt (mKt hp)) | refine' mK4 rfl ?_ | refine' mK1 rfl ?_))
     case hk =>
      intro p hp
      rw [List.mem_singleton] at hp
      subst hp
      with_unfolding_all exact rfl
     case hr => ((try dsimp +zetaDelta only); ksw_same)
     case hp => exact ⟨hr, by dsimp only; lia⟩
     case hm => exact Nat.lt_succ_self _
     case hf => exact ⟨f1, f2, f3, f4, f5, (Nat.le_succ_of_le f6), f7, f8, f9, f10, f11⟩
 ))only[↓bB]

end M2p
section F1p
open PyProof.Rows.LCg
noncomputable def relab (pls : List Int) : AOp → AOp
 | .push e l => .push e (pls.getD l.toNat 0)
 | .put r x l => .put r x (pls.getD l.toNat 0)
 | .test c l => .test c (pls.getD l.toNat 0)
 | .jump l => .jump (pls.getD l.toNat 0)
 | .deed st => .deed st
 | .stop x => .stop x
noncomputable abbrev posF : Pos := { line := 132, col := 36, endLine := 132, endCol := 68 }
noncomputable abbrev qualF : Str := ("Draft.finished" : Str) ++ ".<locals>." ++ "<lambda>"
noncomputable def labOk (n : Nat) : AOp → Prop
 | .push _ l => 0 ≤ l ∧ l < n
 | .put _ _ l => 0 ≤ l ∧ l < n
 | .test _ l => 0 ≤ l ∧ l < n
 | .jump l => 0 ≤ l ∧ l < n
 | _ => True
theorem OpsIn.at {tl : Led} {vs : List Value} {os : List AOp} (h : OpsIn tl vs os) : ∀ {i : Nat} {v : Value}, vs[i]? = some v → ∃ o, os[i]? = some o ∧ OpIn tl v o := by
 induction h with
 | nil => intro i v e; simp at e
 | cons a _ ih =>
  intro i v e
  cases i with
  | zero => exact ⟨_, rfl, by simp at e; rw [← e]; exact a⟩
  | succ i => exact ih (by simpa using e)
inductive OpV (tl : Led) (n : Nat) (pls : List Int) : Value → AOp → Prop
 | three {a : Addr} {t u : Tok} {x : Str} {e : Value} {l : Int} {o : AOp} : (a, tup [.str x t, e, .int l u]) ∈ tl → (x = "push" ∨ x = "put" ∨ x = "test") → 0 ≤ l → l < n →
  (∀ (tl' : Led) (a' : Addr) (t' u' : Tok), (∀ p ∈ tl, p ∈ tl') → (a', tup [.str x t', e, .int (pls.getD l.toNat 0) u']) ∈ tl' → OpIn tl' (.ref a') (relab pls o)) → OpV tl n pls (.ref a) o
 | jump {a : Addr} {t u : Tok} {l : Int} : (a, tup [.str "jump" t, .int l u]) ∈ tl → 0 ≤ l → l < n → OpV tl n pls (.ref a) (.jump l)
 | two {a : Addr} {t : Tok} {x : Str} {y : Value} {o : AOp} : (a, tup [.str x t, y]) ∈ tl → (x = "do" ∨ x = "stop") → (∀ tl' : Led, (∀ p ∈ tl, p ∈ tl') → OpIn tl' (.ref a) (relab pls o)) → OpV tl n pls (.ref a) o
theorem opV {tl : Led} {n : Nat} {pls : List Int} {v : Value} {o : AOp} (h : OpIn tl v o) (hl : labOk n o) : OpV tl n pls v o := by
 cases h with
 | push hm => exact .three hm (.inl rfl) hl.1 hl.2 fun _ _ _ _ _ h => .push h
 | put hm hb hc => exact .three hm (.inr (.inl rfl)) hl.1 hl.2 fun _ _ _ _ hs h => .put h (hs _ hb) (hs _ hc)
 | test hm => exact .three hm (.inr (.inr rfl)) hl.1 hl.2 fun _ _ _ _ _ h => .test h
 | jump hm => exact .jump hm hl.1 hl.2
 | deed hm => exact .two hm (.inl rfl) fun _ hs => .deed (hs _ hm)
 | stop hm => exact .two hm (.inr rfl) fun _ hs => .stop (hs _ hm)
theorem opx1 {x : Str} (h : x = "push" ∨ x = "put" ∨ x = "test") : (x == ("choose" : Str)) = false := by rcases h with h | h | h <;> rw [h] <;> rfl
theorem opx2 {x : Str} (h : x = "push" ∨ x = "put" ∨ x = "test") : (x == ("jump" : Str)) = false := by rcases h with h | h | h <;> rw [h] <;> rfl
theorem opx3 {x : Str} (h : x = "push" ∨ x = "put" ∨ x = "test") : (["push", "calc", "put", "key", "test", "less"] : List Str).any (· == x) = true := by rcases h with h | h | h <;> rw [h] <;> rfl
theorem opy1 {x : Str} (h : x = "do" ∨ x = "stop") : (x == ("choose" : Str)) = false := by rcases h with h | h <;> rw [h] <;> rfl
theorem opy2 {x : Str} (h : x = "do" ∨ x = "stop") : (x == ("jump" : Str)) = false := by rcases h with h | h <;> rw [h] <;> rfl
theorem opy3 {x : Str} (h : x = "do" ∨ x = "stop") : (["push", "calc", "put", "key", "test", "less"] : List Str).any (· == x) = false := by rcases h with h | h <;> rw [h] <;> rfl
theorem eq_strB {w : World} {A : Around} {x y : Str} {t u : Tok} {b : Bool} {E : Value → Shared → Prop} {Q : Value → Shared → Prop} {s : Shared} (hb : (x == y) = b) (h : Q (.bool b) s) : wpAny (model PR w) A (compareOp .Eq (.str x t) (.str y u)) Q E s := PyProof.Rows.eq_str (hb ▸ h)
theorem take_ops {tl : Led} {ys : List Value} {y : Value} {aops : List AOp} {pls : List Int} {i : Nat} {o : AOp} (ho : aops[i]? = some o) (h : OpsIn tl ys ((aops.take i).map (relab pls))) (h1 : OpsIn tl [y] [relab pls o]) : OpsIn tl (ys ++ [y]) ((aops.take (i + 1)).map (relab pls)) := by
 have e : aops.take (i + 1) = aops.take i ++ [o] := by simp [List.take_add_one, ho]
 rw [e, List.map_append]
 exact h.append h1
noncomputable def CtrB (w : World) (c P : Addr) (f : Addr) (dd uu : Nat) (vs : List Value) (need : List (Addr × Obj)) (Post : Heap → Value → Heap → List (Addr × Obj) → Prop) : Prop :=
 ∀ (p : Program) (loose : List Str) (mean : ExcName → Option Value) (mg mb : Str → Option Value) (dp un : Nat) (gd : Option (List Code)) (cn : Str) (cs : Scope) (a : Addr) (ccd : Value) (cl : List (Str × Addr)) (outer : List Env) (A₀ : Around) (base h₀ : Heap) (L : Addr) (m : Str → Option Value) (s : Shared)
  (Q E : Value → Shared → Prop),
  CodeHd base c P → Below A₀ base outer h₀ → Fr h₀ L s.heap m → Frag.In (Mine.hd.heap_1 w.params) h₀ → News h₀ L s.heap need → Top p loose mean mg mb h₀ → cs.kind = .function → dp + dd < recursionLimit → un + uu < cLine →
  (∀ r out h' tk', Fr h₀ L h' m → News h₀ L h' out → Keep s.heap h' (need.map (·.1)) → Post s.heap r h' out → Q r { s with heap := h', toks := tk' }) →
  wpAny (model PR w) (ktrTop dp un gd cn cs L a ccd cl outer) (call (.ref f) vs) Q E s
theorem fresh_of {H g h : Heap} {L D : Addr} {o : Obj} {news : Led} {adr : List Addr} (N : News g L h news) (hm : (D, o) ∈ news) (G : GSub H g adr) (hn : D ∉ adr) : H.get? D = none := by
 cases e8 : H.get? D with
 | none => rfl
 | some o8 =>
  have := G D o8 e8 hn
  rw [(N _ hm).2.2] at this; cases this
theorem allLt_mem {d : Addr} : ∀ {l : List (Addr × Obj)}, AllLt d l → ∀ {p : Addr × Obj}, p ∈ l → p.1 < d
 | [], _, _, h => nomatch h
 | _ :: _, h, _, hp => by
  rcases List.mem_cons.mp hp with e | hp
  ·rw [e]; exact h.1
  ·exact allLt_mem h.2 hp
theorem finished_c (w : World) {D dx oA pA hA : Addr} {k : DK5} {pr sl : Value} {os ps : List Value} {no np nh : Nat} {tab : Array Value} {tl : Led} {aops : List AOp} {pls : List Int} (hops : OpsIn tl os aops) (hps : IntsAre ps pls) (hne : NeA oA pA) (LT : LamTab posF qualF tab tl) (hlen : os.length ≤ 1000) (hlab : ∀ o ∈ aops, labOk pls.length o) (hpl : pls.length ≤ 1000) (n203 : NeAll 203 tl) :
  CtrB w 205 203 206 8 96 [.ref D] ((D, instObj 209 dx) :: (dx, dictOf (draftD k pr (.ref oA) (.ref pA) sl (.ref hA)) 5) :: (oA, listOf os.toArray no) :: (pA, listOf ps.toArray np) :: (hA, listOf #[] nh) :: (203, tabObj tab) :: tl) (fun H r _ out => ∃ Cd cx T Bg c1 c2 tc1 tc2 vs tab' tl', r = .ref Cd ∧ H.get? cx = none ∧ (Cd, instObj 138 cx) ∈ out ∧ (cx, dictOf [⟨c1, .str "ops" tc1, .ref T⟩, ⟨c2, .str "begins" tc2, .ref Bg⟩] 2) ∈ out ∧ (T, tup vs) ∈ out ∧ OpsIn tl' vs (aops.map (relab pls)) ∧ LamTab posF qualF tab' tl' ∧ NeAll 203 tl' ∧ (∀ p ∈ tl, p ∈ tl') ∧
   ∀ p ∈ (D, instObj 209 dx) :: (dx, dictOf (draftD k pr (.ref oA) (.ref pA) sl (.ref hA)) 5) :: (oA, listOf os.toArray no) :: (pA, listOf ps.toArray np) :: (hA, listOf #[] nh) :: (203, tabObj tab') :: tl', p ∈ out) := by
 refine uB ?_
 simp(disch:=k_dflt(
 refine iB ?_
 unfold CtrB
 intro p loose mean mg mb dp un gd cn cs a ccd cl outer A₀ base h₀ L m s Q E C9 B F X N T' hk hdp hun hret
 have z1 : NeA D 203 := ⟨news_ne (p := (D, _)) (q := (203, _)) N (by k_mem) (by k_mem) (by simp)⟩
 have z2 : NeA dx 203 := ⟨news_ne (p := (dx, _)) (q := (203, _)) N (by k_mem) (by k_mem) (by simp)⟩
 have z3 : NeA oA 203 := ⟨news_ne (p := (oA, _)) (q := (203, _)) N (by k_mem) (by k_mem) (by simp)⟩
 have z4 : NeA pA 203 := ⟨news_ne (p := (pA, _)) (q := (203, _)) N (by k_mem) (by k_mem) (by simp)⟩
 have z5 : NeA hA 203 := ⟨news_ne (p := (hA, _)) (q := (203, _)) N (by k_mem) (by k_mem) (by simp)⟩
 refine wpAny_call ?_
 k_dflt (refine' code_defCG ?k1 ?k2 ?k3 ?k4 ?k5 ?kA ?kF ?kK ?k6 ?k7 ?k8 ?k9 ?kB ?kD ?_ ?c2 ?c3 ?c4; (case kA => exact rfl); (case kF => exact rfl); (case kK => assumption); (case k1 => k_asm); (case k2 => k_asm); (case k3 => k_asm); (case k4 => k_asm); (case k5 => k_asm); (case k6 => k_is); (case k7 => k_is); (case k8 => ktr_room); (case k9 => first | exact BindsTo.of_eq rfl | exact binds_K (by k_in) rfl (by k_is) rfl rfl rfl); (case kB => exact rfl); (case kD => decide +kernel); (case c2 => exact rfl); (case c3 => exact rfl); (case c4 => exact rfl); k_whole; intro g' L' h' tk' cells' FG' F' N' Y' B' X' T' l1 GS'; (try k_lt l1); (obtain ⟨o9, hE9, d9⟩ := CellsAre.one Y'); subst hE9; clear Y'; (try simp only [List.cons_append, List.nil_append] at N'); (try dsimp only); (try k_fold))
 (refine letFr F' ?_; clear F'; intro mL F')
 (refine letNews N' ?_; clear N'; intro nL N')
 repeat' (first | keq_rows | (((with_reducible show wpAny _ _ (compareOp CmpOp.Eq (Value.str _ _) (Value.str _ _)) _ _ _); (with_reducible refine eq_strB (by assumption) ?_))) | ((k_here; (with_reducible show wpAny _ _ (compareOp CmpOp.In (Value.str _ _) (Value.ref _)) _ _ _); k_dflt (refine' in_strsB ?k1 ?k2 ?k3 ?_; (case k1 => kun_tup); (case k2 => kde_strs); (case k3 => first | assumption | exact (rfl : _ = true) | exact (rfl : _ = false)); k_whole))) | ((with_reducible show wpAny _ _ (eval (Expr.ListComp _ _ _ _) _) _ _ _); (k_here; k_dflt (refine LCg.ListComp_U (F₀ := by k_asm) (by rfl) (by decide) (by rfl) (by decide) (by rfl) ?_))) | ((with_reducible show wpAny _ _ (callWith _ (Value.ref _) _ _ _) _ _ _); (k_here; k_dflt (first   | (refine' callWith_F ?k1 ?_; (case k1 => exact FnAt.of (by k_asm) (by k_mem)); k_whole)   | (refine' callWith_F0 ?k1 ?_; (case k1 => exact FnAt.of (by k_asm) (by k_mem)); k_whole; try dsimp only [List.nil_append, List.cons_append])))) | ((with_reducible show wpAny _ _ (setAttr (Value.ref _) _ _) _ _ _); (k_here; k_dflt (refine' setX ?k1 ?k2 ?k3 ?k4 ?k5 ?k6 ?k7 ?k8 ?k9 ?k10 ?k11 ?k12 ?k13 ?_; (case k1 => k_asm); (case k2 => k_asm); (case k3 => k_asm); (case k4 => k_inst); (case k5 => exact rfl); (case k6 => k_is); (case k7 => k_is); (case k8 => k_is); (case k9 => k_is); (case k10 => k_get); (case k11 => k_put); (case k12 => k_upd); (case k13 => exact Nat.le_of_ble_eq_true rfl); k_whole); intros; (try k_sweep))) | ((k_here; (with_reducible show wpAny _ _ (newTuple _) _ _ _); k_dflt (refine' tupX ?F ?N ?_ ?z; (case F => k_asm); (case N => k_asm); (case z => kmk_size)); intros; (try k_sweep))) | (k_unfold; (try dsimp only)) | (k_end; wrow_close) | walk1 | (dsimp only; walk1) | (leave1; try dsimp only) | fail "no")
 refine LCg.CompSrc.ledger (by rfl) (by k_asm) (by k_asm) (by k_mem) ?sz ?hc
 case sz => rw [List.size_toArray, sizeLine_eq]; lia
 case hc =>
  intro g''
  refine comp_induct (J := fun i ys news => ∃ tab' tl', LamTab posF qualF tab' tl' ∧ OpsIn tl' ys ((aops.take i).map (relab pls)) ∧ (∀ p ∈ tl, p ∈ tl') ∧ NeAll 203 tl' ∧ news = (L' + 1, o9) :: (D, instObj 209 dx) :: (dx, dictOf (draftD k pr (.ref oA) (.ref pA) sl (.ref hA)) 5) :: (oA, listOf os.toArray no) :: (pA, listOf ps.toArray np) :: (hA, listOf #[] nh) :: (203, tabObj tab') :: tl') ?step ?fin _ 0 [] _ (Nat.zero_add _) ?init
  case init => exact exi2 tab tl ⟨LT, .nil, fun _ h => h, n203, rfl⟩
  case step =>
   intro i ys news hi hK9
   with_reducible refine ex2 hK9 ?_
   clear hK9
   intro tab' tl' hX9
   with_reducible refine an5 hX9 ?_
   clear hX9
   intro LT' ho' hs' n203' hR9
   subst hR9
   rintro v I oI C oC D' m₂ h tk E' hv hC hx F N off ne
   have hv' : os[i]? = some v := by simpa using hv
   refine ea1_2 (hops.at hv') ?_
   intro o ho hov
   refine an3 (off3_all off) ?_
   intro n1 n2 n3
   refine an3 (ne3_all ne) ?_
   intro n4 n5 n6
   have p203 := n203'.all
   have hlo := hlab o (List.mem_of_getElem? ho)
   repeat' (first | keq_rows | (((with_reducible show wpAny _ _ (compareOp CmpOp.Eq (Value.str _ _) (Value.str _ _)) _ _ _); (with_reducible refine eq_strB (by assumption) ?_))) | ((k_here; (with_reducible show wpAny _ _ (compareOp CmpOp.In (Value.str _ _) (Value.ref _)) _ _ _); k_dflt (refine' in_strsB ?k1 ?k2 ?k3 ?_; (case k1 => kun_tup); (case k2 => kde_strs); (case k3 => first | assumption | exact (rfl : _ = true) | exact (rfl : _ = false)); k_whole))) | ((k_here; (with_reducible show wpAny _ _ (eval (Expr.Name _ _) (compEnvC _ _ _ _)) _ _ _); k_dflt (first   | (refine' LCgL.ld_own ?N ?hm ?hC ?hx ?_; (case N => k_asm); (case hm => k_mem); (case hC => assumption); (case hx => assumption))   | (refine' LCgL.ld_global ?F ?X ?T ?e ?_; (case F => k_asm); (case X => k_asm); (case T => k_asm); (case e => k_is))))) | ((with_reducible show wpAny _ _ (callWith _ (Value.ref _) _ _ _) _ _ _); (k_here; k_dflt (first   | (refine' callWith_F ?k1 ?_; (case k1 => exact FnAt.of (by k_asm) (by k_mem)); k_whole)   | (refine' callWith_F0 ?k1 ?_; (case k1 => exact FnAt.of (by k_asm) (by k_mem)); k_whole; try dsimp only [List.nil_append, List.cons_append])))) | ((k_here; (with_reducible show wpAny _ _ (eval (Expr.Name _ _) (compEnvC _ _ _ _)) _ _ _); k_dflt (refine' nameCC ?N ?hc ?hm ?hd ?_; (case N => k_asm); (case hc => exact rfl); (case hm => k_mem); (case hd => assumption); k_whole))) | ((with_reducible show wpAny _ _ (setAttr (Value.ref _) _ _) _ _ _); (k_here; k_dflt (refine' setX ?k1 ?k2 ?k3 ?k4 ?k5 ?k6 ?k7 ?k8 ?k9 ?k10 ?k11 ?k12 ?k13 ?_; (case k1 => k_asm); (case k2 => k_asm); (case k3 => k_asm); (case k4 => k_inst); (case k5 => exact rfl); (case k6 => k_is); (case k7 => k_is); (case k8 => k_is); (case k9 => k_is); (case k10 => k_get); (case k11 => k_put); (case k12 => k_upd); (case k13 => exact Nat.le_of_ble_eq_true rfl); k_whole); intros; (try k_sweep))) | ((k_here; (with_reducible show wpAny _ _ (newTuple _) _ _ _); k_dflt (refine' tupX ?F ?N ?_ ?z; (case F => k_asm); (case N => k_asm); (case z => kmk_size)); intros; (try k_sweep))) | (k_unfold; (try dsimp only)) | (k_end; wrow_close) | walk1 | (dsimp only; walk1) | (leave1; try dsimp only) | fail "no")
   k_dflt (refine' kla_eval ?d0 ?_; (case d0 => exact rfl))
   k_dflt (refine' lam_make ?F ?N ?T ?C ?hge ?hcd ?U ?LT ?hs ?hcl ?_)
   case F => k_asm
   case N => k_asm
   case T => k_asm
   case hge => exact rfl
   case hcd => exact rfl
   case C => kn_code
   case U => k_updF
   case LT => exact LT'
   case hs => (repeat (first | exact sid | refine' sK4 rfl ?_ | refine' sK1 rfl ?_))
   case hcl => exact rfl
   intro f9 c9 oc9 vs9 t9 ct9 tab9 h9 tk9 F9 N9 d1 d2 d3 d4 m1 m2
   (try dsimp only at N9)
   have g1 : @Ne Nat c9 I := m2 I oI (by k_mem) (fun q hq => n1.all q (by (repeat (first | exact hq | exact mKt hq | exact mKt (mKt hq) | exact mKt (mKt (mKt hq)) | refine' mK4 rfl ?_ | refine' mK1 rfl ?_))))
   have g2 : @Ne Nat c9 C := m2 C oC (by k_mem) (fun q hq => n2.all q (by (repeat (first | exact hq | exact mKt hq | exact mKt (mKt hq) | exact mKt (mKt (mKt hq)) | refine' mK4 rfl ?_ | refine' mK1 rfl ?_))))
   have g3 : @Ne Nat c9 D' := m2 D' _ (by k_mem) (fun q hq => n3.all q (by (repeat (first | exact hq | exact mKt hq | exact mKt (mKt hq) | exact mKt (mKt (mKt hq)) | refine' mK4 rfl ?_ | refine' mK1 rfl ?_))))
   have g4 : @Ne Nat c9 203 := m2 203 _ (by k_mem) p203
   clear F N
   repeat' (first | keq_rows | (((with_reducible show wpAny _ _ (compareOp CmpOp.Eq (Value.str _ _) (Value.str _ _)) _ _ _); (with_reducible refine eq_strB (by assumption) ?_))) | ((k_here; (with_reducible show wpAny _ _ (compareOp CmpOp.In (Value.str _ _) (Value.ref _)) _ _ _); k_dflt (refine' in_strsB ?k1 ?k2 ?k3 ?_; (case k1 => kun_tup); (case k2 => kde_strs); (case k3 => first | assumption | exact (rfl : _ = true) | exact (rfl : _ = false)); k_whole))) | ((with_reducible show wpAny _ _ (callWith _ (Value.ref _) _ _ _) _ _ _); (k_here; k_dflt (first   | (refine' callWith_F ?k1 ?_; (case k1 => exact FnAt.of (by k_asm) (by k_mem)); k_whole)   | (refine' callWith_F0 ?k1 ?_; (case k1 => exact FnAt.of (by k_asm) (by k_mem)); k_whole; try dsimp only [List.nil_append, List.cons_append])))) | ((with_reducible show wpAny _ _ (setAttr (Value.ref _) _ _) _ _ _); (k_here; k_dflt (refine' setX ?k1 ?k2 ?k3 ?k4 ?k5 ?k6 ?k7 ?k8 ?k9 ?k10 ?k11 ?k12 ?k13 ?_; (case k1 => k_asm); (case k2 => k_asm); (case k3 => k_asm); (case k4 => k_inst); (case k5 => exact rfl); (case k6 => k_is); (case k7 => k_is); (case k8 => k_is); (case k9 => k_is); (case k10 => k_get); (case k11 => k_put); (case k12 => k_upd); (case k13 => exact Nat.le_of_ble_eq_true rfl); k_whole); intros; (try k_sweep))) | ((k_here; (with_reducible show wpAny _ _ (newTuple _) _ _ _); k_dflt (refine' tupX ?F ?N ?_ ?z; (case F => k_asm); (case N => k_asm); (case z => kmk_size)); intros; (try k_sweep))) | (k_unfold; (try dsimp only)) | (k_end; wrow_close) | walk1 | (dsimp only; walk1) | (leave1; try dsimp only) | fail "no")
   cases opV (pls := pls) hov hlo with
   | three hm hx9 l0 l1 hr =>
    have hm := hs' _ hm
    have c1 := opx1 hx9
    have c2 := opx2 hx9
    have c3 := opx3 hx9
    clear hx9 hov hlo
    repeat' (first | keq_rows | (((with_reducible show wpAny _ _ (compareOp CmpOp.Eq (Value.str _ _) (Value.str _ _)) _ _ _); (with_reducible refine eq_strB (by assumption) ?_))) | ((k_here; (with_reducible show wpAny _ _ (compareOp CmpOp.In (Value.str _ _) (Value.ref _)) _ _ _); k_dflt (refine' in_strsB ?k1 ?k2 ?k3 ?_; (case k1 => kun_tup); (case k2 => kde_strs); (case k3 => first | assumption | exact (rfl : _ = true) | exact (rfl : _ = false)); k_whole))) | ((with_reducible show wpAny _ _ (callWith _ (Value.ref _) _ _ _) _ _ _); (k_here; k_dflt (first   | (refine' callWith_F ?k1 ?_; (case k1 => exact FnAt.of (by k_asm) (by k_mem)); k_whole)   | (refine' callWith_F0 ?k1 ?_; (case k1 => exact FnAt.of (by k_asm) (by k_mem)); k_whole; try dsimp only [List.nil_append, List.cons_append])))) | ((with_reducible show wpAny _ _ (setAttr (Value.ref _) _ _) _ _ _); (k_here; k_dflt (refine' setX ?k1 ?k2 ?k3 ?k4 ?k5 ?k6 ?k7 ?k8 ?k9 ?k10 ?k11 ?k12 ?k13 ?_; (case k1 => k_asm); (case k2 => k_asm); (case k3 => k_asm); (case k4 => k_inst); (case k5 => exact rfl); (case k6 => k_is); (case k7 => k_is); (case k8 => k_is); (case k9 => k_is); (case k10 => k_get); (case k11 => k_put); (case k12 => k_upd); (case k13 => exact Nat.le_of_ble_eq_true rfl); k_whole); intros; (try k_sweep))) | ((k_here; (with_reducible show wpAny _ _ (newTuple _) _ _ _); k_dflt (refine' tupX ?F ?N ?_ ?z; (case F => k_asm); (case N => k_asm); (case z => kmk_size)); intros; (try k_sweep))) | (k_unfold; (try dsimp only)) | (k_end; wrow_close) | walk1 | (dsimp only; walk1) | (leave1; try dsimp only) | fail "no")
    ·(try k_unmd)
     (try k_unfold)
     (try dsimp only)
     rename News _ _ _ _ => N8
     refine' LCg.CompEnd.intro ?F ?N ((L' + 1, o9) :: (D, instObj 209 dx) :: (dx, dictOf (draftD k pr (.ref oA) (.ref pA) sl (.ref hA)) 5) :: (oA, listOf os.toArray no) :: (pA, listOf ps.toArray np) :: (hA, listOf #[] nh) :: (203, tabObj tab9) :: (_, tup _) :: (c9, oc9) :: tl') ?sub ?off ?S ?r
     case F => k_asm
     case N => exact N8
     case sub => (first | ((repeat (first | with_reducible exact sid | exact List.forall_mem_nil _ | with_reducible refine sc ?_ | with_reducible refine sk ?_)); done) | ((repeat (refine fc (by first | exact List.Mem.head _ | k_mem) ?_)); (repeat (first | exact sid | refine' sK4 rfl ?_ | refine' sK1 rfl ?_))))
     case S => exact .inr ⟨_, by k_mem, rfl, _, rfl⟩
     case off =>
      refine an8 off ?_
      intro o1 o2 o3 o4 o5 o6 o7 o8
      exact ⟨o1, o2, o3, o4, o5, o6, o7, ⟨by k_ne, by k_ne, by k_ne⟩, ⟨g1, g2, g3⟩, o8⟩
     case r => exact exi2 tab9 _ ⟨⟨d4, .inr ⟨c9, oc9, vs9, t9, d3, .tail _ (.head _), d1, d2⟩⟩, take_ops ho (ho'.mono (fun p hp => .tail _ (.tail _ hp))) (.cons (hr _ _ _ _ (fun p hp => .tail _ (.tail _ (hs' p hp))) (.head _)) .nil), fun p hp => .tail _ (.tail _ (hs' p hp)), ⟨fc (by k_ne) (fc g4 p203)⟩, rfl⟩
    ·exfalso; first | omega | (simp only [decide_eq_true_eq, decide_eq_false_iff_not, Bool.not_eq_true', Bool.not_eq_true, Bool.not_eq_false'] at *; omega) | (simp at *; omega)
   | jump hm l0 l1 =>
    have hm := hs' _ hm
    clear hov hlo
    repeat' (first | keq_rows | (((with_reducible show wpAny _ _ (compareOp CmpOp.Eq (Value.str _ _) (Value.str _ _)) _ _ _); (with_reducible refine eq_strB (by assumption) ?_))) | ((k_here; (with_reducible show wpAny _ _ (compareOp CmpOp.In (Value.str _ _) (Value.ref _)) _ _ _); k_dflt (refine' in_strsB ?k1 ?k2 ?k3 ?_; (case k1 => kun_tup); (case k2 => kde_strs); (case k3 => first | assumption | exact (rfl : _ = true) | exact (rfl : _ = false)); k_whole))) | ((with_reducible show wpAny _ _ (callWith _ (Value.ref _) _ _ _) _ _ _); (k_here; k_dflt (first   | (refine' callWith_F ?k1 ?_; (case k1 => exact FnAt.of (by k_asm) (by k_mem)); k_whole)   | (refine' callWith_F0 ?k1 ?_; (case k1 => exact FnAt.of (by k_asm) (by k_mem)); k_whole; try dsimp only [List.nil_append, List.cons_append])))) | ((with_reducible show wpAny _ _ (setAttr (Value.ref _) _ _) _ _ _); (k_here; k_dflt (refine' setX ?k1 ?k2 ?k3 ?k4 ?k5 ?k6 ?k7 ?k8 ?k9 ?k10 ?k11 ?k12 ?k13 ?_; (case k1 => k_asm); (case k2 => k_asm); (case k3 => k_asm); (case k4 => k_inst); (case k5 => exact rfl); (case k6 => k_is); (case k7 => k_is); (case k8 => k_is); (case k9 => k_is); (case k10 => k_get); (case k11 => k_put); (case k12 => k_upd); (case k13 => exact Nat.le_of_ble_eq_true rfl); k_whole); intros; (try k_sweep))) | ((k_here; (with_reducible show wpAny _ _ (newTuple _) _ _ _); k_dflt (refine' tupX ?F ?N ?_ ?z; (case F => k_asm); (case N => k_asm); (case z => kmk_size)); intros; (try k_sweep))) | (k_unfold; (try dsimp only)) | (k_end; wrow_close) | walk1 | (dsimp only; walk1) | (leave1; try dsimp only) | fail "no")
    (try k_unmd)
    (try k_unfold)
    (try dsimp only)
    rename News _ _ _ _ => N8
    refine' LCg.CompEnd.intro ?F ?N ((L' + 1, o9) :: (D, instObj 209 dx) :: (dx, dictOf (draftD k pr (.ref oA) (.ref pA) sl (.ref hA)) 5) :: (oA, listOf os.toArray no) :: (pA, listOf ps.toArray np) :: (hA, listOf #[] nh) :: (203, tabObj tab9) :: (_, tup _) :: (c9, oc9) :: tl') ?sub ?off ?S ?r
    case F => k_asm
    case N => exact N8
    case sub => (first | ((repeat (first | with_reducible exact sid | exact List.forall_mem_nil _ | with_reducible refine sc ?_ | with_reducible refine sk ?_)); done) | ((repeat (refine fc (by first | exact List.Mem.head _ | k_mem) ?_)); (repeat (first | exact sid | refine' sK4 rfl ?_ | refine' sK1 rfl ?_))))
    case S => exact .inr ⟨_, by k_mem, rfl, _, rfl⟩
    case off =>
     refine an8 off ?_
     intro o1 o2 o3 o4 o5 o6 o7 o8
     exact ⟨o1, o2, o3, o4, o5, o6, o7, ⟨by k_ne, by k_ne, by k_ne⟩, ⟨g1, g2, g3⟩, o8⟩
    case r => exact exi2 tab9 _ ⟨⟨d4, .inr ⟨c9, oc9, vs9, t9, d3, .tail _ (.head _), d1, d2⟩⟩, take_ops ho (ho'.mono (fun p hp => .tail _ (.tail _ hp))) (.cons (.jump (.head _)) .nil), fun p hp => .tail _ (.tail _ (hs' p hp)), ⟨fc (by k_ne) (fc g4 p203)⟩, rfl⟩
   | two hm hx9 hr =>
    have hm := hs' _ hm
    have c1 := opy1 hx9
    have c2 := opy2 hx9
    have c3 := opy3 hx9
    clear hx9 hov hlo
    repeat' (first | keq_rows | (((with_reducible show wpAny _ _ (compareOp CmpOp.Eq (Value.str _ _) (Value.str _ _)) _ _ _); (with_reducible refine eq_strB (by assumption) ?_))) | ((k_here; (with_reducible show wpAny _ _ (compareOp CmpOp.In (Value.str _ _) (Value.ref _)) _ _ _); k_dflt (refine' in_strsB ?k1 ?k2 ?k3 ?_; (case k1 => kun_tup); (case k2 => kde_strs); (case k3 => first | assumption | exact (rfl : _ = true) | exact (rfl : _ = false)); k_whole))) | ((with_reducible show wpAny _ _ (callWith _ (Value.ref _) _ _ _) _ _ _); (k_here; k_dflt (first   | (refine' callWith_F ?k1 ?_; (case k1 => exact FnAt.of (by k_asm) (by k_mem)); k_whole)   | (refine' callWith_F0 ?k1 ?_; (case k1 => exact FnAt.of (by k_asm) (by k_mem)); k_whole; try dsimp only [List.nil_append, List.cons_append])))) | ((with_reducible show wpAny _ _ (setAttr (Value.ref _) _ _) _ _ _); (k_here; k_dflt (refine' setX ?k1 ?k2 ?k3 ?k4 ?k5 ?k6 ?k7 ?k8 ?k9 ?k10 ?k11 ?k12 ?k13 ?_; (case k1 => k_asm); (case k2 => k_asm); (case k3 => k_asm); (case k4 => k_inst); (case k5 => exact rfl); (case k6 => k_is); (case k7 => k_is); (case k8 => k_is); (case k9 => k_is); (case k10 => k_get); (case k11 => k_put); (case k12 => k_upd); (case k13 => exact Nat.le_of_ble_eq_true rfl); k_whole); intros; (try k_sweep))) | ((k_here; (with_reducible show wpAny _ _ (newTuple _) _ _ _); k_dflt (refine' tupX ?F ?N ?_ ?z; (case F => k_asm); (case N => k_asm); (case z => kmk_size)); intros; (try k_sweep))) | (k_unfold; (try dsimp only)) | (k_end; wrow_close) | walk1 | (dsimp only; walk1) | (leave1; try dsimp only) | fail "no")
    (try k_unmd)
    (try k_unfold)
    (try dsimp only)
    rename News _ _ _ _ => N8
    refine' LCg.CompEnd.intro ?F ?N ((L' + 1, o9) :: (D, instObj 209 dx) :: (dx, dictOf (draftD k pr (.ref oA) (.ref pA) sl (.ref hA)) 5) :: (oA, listOf os.toArray no) :: (pA, listOf ps.toArray np) :: (hA, listOf #[] nh) :: (203, tabObj tab9) :: (c9, oc9) :: tl') ?sub ?off ?S ?r
    case F => k_asm
    case N => exact N8
    case sub => (first | ((repeat (first | with_reducible exact sid | exact List.forall_mem_nil _ | with_reducible refine sc ?_ | with_reducible refine sk ?_)); done) | ((repeat (refine fc (by first | exact List.Mem.head _ | k_mem) ?_)); (repeat (first | exact sid | refine' sK4 rfl ?_ | refine' sK1 rfl ?_))))
    case S => exact .inr ⟨_, by k_mem, rfl, _, rfl⟩
    case off =>
     refine an8 off ?_
     intro o1 o2 o3 o4 o5 o6 o7 o8
     exact ⟨o1, o2, o3, o4, o5, o6, o7, ⟨g1, g2, g3⟩, o8⟩
    case r => exact exi2 tab9 _ ⟨⟨d4, .inr ⟨c9, oc9, vs9, t9, d3, .head _, d1, d2⟩⟩, take_ops ho (ho'.mono (fun p hp => .tail _ hp)) (.cons (hr _ fun p hp => .tail _ (hs' p hp)) .nil), fun p hp => .tail _ (hs' p hp), ⟨fc g4 p203⟩, rfl⟩
  case fin =>
   intro ys news hK9
   with_reducible refine ex2 hK9 ?_
   clear hK9
   intro tab' tl' hX9
   with_reducible refine an5 hX9 ?_
   clear hX9
   intro LT' ho' hs' n203' hR9
   subst hR9
   unfold LCg.FinE
   intro Dl h tk F N o1
   replace o1 := off1_all o1
   have hyl : ys.length ≤ 1000 := by
    have := ho'.length
    rw [this, List.length_map, List.length_take]
    have := hops.length
    lia
   (try k_unmd)
   (try dsimp only)
   repeat' (first | ((fail_if_success (with_reducible show LCg.CompSrc _ _ _ _ _ _ _ _ _ _ _ _ _ _)); first | keq_rows | (k_here; (with_reducible show wpAny _ _ (eval (Expr.ListComp _ _ _ _) _) _ _ _); k_dflt (refine LCg.ListComp_U (F₀ := by k_asm) (by rfl) (by decide) (by rfl) (by decide) (by rfl) ?_)) | (k_here; (with_reducible show wpAny _ _ (newTuple _) _ _ _); k_dflt (refine' tupX ?F ?N ?_ ?z; (case F => k_asm); (case N => k_asm); (case z => kmk_size)); intros; (try k_sweep)) | (k_unfold; try dsimp only) | walk1 | (dsimp only; walk1) | (leave1; try dsimp only)) | fail "no")
   refine LCg.CompSrc.ledger (its := #[]) (by rfl) (by k_asm) (by k_asm) (by k_mem) (Nat.zero_le _) ?_
   intro gc
   refine LCg.CompRest.zero ?_
   dsimp only [LCg.FinE]
   intro Dc hc tkc Fc Nc oc
   replace oc := off1_all oc
   (try dsimp only)
   repeat' (first | keq_rows | (((with_reducible show wpAny _ _ (compareOp CmpOp.Eq (Value.str _ _) (Value.str _ _)) _ _ _); (with_reducible refine eq_strB (by assumption) ?_))) | ((k_here; (with_reducible show wpAny _ _ (compareOp CmpOp.In (Value.str _ _) (Value.ref _)) _ _ _); k_dflt (refine' in_strsB ?k1 ?k2 ?k3 ?_; (case k1 => kun_tup); (case k2 => kde_strs); (case k3 => first | assumption | exact (rfl : _ = true) | exact (rfl : _ = false)); k_whole))) | ((with_reducible show wpAny _ _ (callWith _ (Value.ref _) _ _ _) _ _ _); (k_here; k_dflt (first   | (refine' callWith_F ?k1 ?_; (case k1 => exact FnAt.of (by k_asm) (by k_mem)); k_whole)   | (refine' callWith_F0 ?k1 ?_; (case k1 => exact FnAt.of (by k_asm) (by k_mem)); k_whole; try dsimp only [List.nil_append, List.cons_append])))) | ((with_reducible show wpAny _ _ (setAttr (Value.ref _) _ _) _ _ _); (k_here; k_dflt (refine' setX ?k1 ?k2 ?k3 ?k4 ?k5 ?k6 ?k7 ?k8 ?k9 ?k10 ?k11 ?k12 ?k13 ?_; (case k1 => k_asm); (case k2 => k_asm); (case k3 => k_asm); (case k4 => k_inst); (case k5 => exact rfl); (case k6 => k_is); (case k7 => k_is); (case k8 => k_is); (case k9 => k_is); (case k10 => k_get); (case k11 => k_put); (case k12 => k_upd); (case k13 => exact Nat.le_of_ble_eq_true rfl); k_whole); intros; (try k_sweep))) | ((k_here; (with_reducible show wpAny _ _ (newTuple _) _ _ _); k_dflt (refine' tupX ?F ?N ?_ ?z; (case F => k_asm); (case N => k_asm); (case z => kmk_size)); intros; (try k_sweep))) | (k_unfold; (try dsimp only)) | (k_end; wrow_close) | walk1 | (dsimp only; walk1) | (leave1; try dsimp only) | fail "no")
   refine' hret _ _ _ _ ?ra ?rb ?rc ?rd
   case ra => k_asm
   case rb => k_asm
   case rc => k_asm
   case rd =>
    have et : aops.take os.toArray.size = aops := by rw [List.size_toArray, hops.length, List.take_length]
    rw [et] at ho'
    refine' exi11 _ _ _ _ _ _ _ _ _ tab' tl' ⟨rfl, ?f2, ?m1, ?m2, ?m3, ?mo, LT', n203', hs', ?m4⟩
    case m1 => k_mem
    case m2 => k_mem
    case m3 => k_mem
    case f2 =>
     refine' fresh_of ?N ?hm GS' ?hn
     case N => assumption
     case hm => k_mem
     case hn =>
      intro q
      simp only [List.map_cons, List.mem_cons] at q
      rcases q with q | q | q | q | q | q | q
      ·exact absurd q (by k_ne)
      ·exact absurd q (by k_ne)
      ·exact absurd q (by k_ne)
      ·exact absurd q (by k_ne)
      ·exact absurd q (by k_ne)
      ·exact absurd q (by k_ne)
      ·refine ea1_2 (List.mem_map.mp q) ?_
       intro p hp e
       first | exact ltAll (by assumption) (by (repeat (first | exact sid | refine' sK4 rfl ?_ | refine' sK1 rfl ?_))) p (hs' p hp) e | exact ltAllT (by assumption) (by assumption) (by (repeat (first | exact sid | refine' sK4 rfl ?_ | refine' sK1 rfl ?_))) p (hs' p hp) e
    case mo => exact ho'
    case m4 => (first | ((repeat (first | with_reducible exact sid | exact List.forall_mem_nil _ | with_reducible refine sc ?_ | with_reducible refine sk ?_)); done) | ((repeat (refine fc (by first | exact List.Mem.head _ | k_mem) ?_)); (repeat (first | exact sid | refine' sK4 rfl ?_ | refine' sK1 rfl ?_))))
 ))only[↓bB]

end F1p
section R0p
inductive AC (tl : Led) : AOp → COp → Prop
 | push {e : Value} {l u : Int} : ExpIn tl e u → AC tl (.push e l) (.push u)
 | put {r : Value} {name way : Str} {l : Nat} : RefIn tl r name → AC tl (.put r way (l : Int)) (.put name way l)
 | test {c : Value} {name : Str} {b : Int} {l : Nat} : CondIn tl c name b → AC tl (.test c (l : Int)) (.test name b l)
 | jump {l : Nat} : AC tl (.jump (l : Int)) (.jump l)
 | deed {st : Value} : AC tl (.deed st) .deed
 | stop {x : Str} : AC tl (.stop x) (.stop x)
inductive ACs (tl : Led) : List AOp → List COp → Prop
 | nil : ACs tl [] []
 | cons {a : AOp} {c : COp} {as : List AOp} {cs : List COp} : AC tl a c → ACs tl as cs → ACs tl (a :: as) (c :: cs)
theorem ExpIn.mono {tl tl' : Led} (hs : ∀ p ∈ tl, p ∈ tl') {e : Value} {u : Int} (h : ExpIn tl e u) : ExpIn tl' e u := by
 obtain ⟨a, b, c, d, f, g, h1, h2⟩ := h
 exact ⟨a, b, c, d, f, g, hs _ h1, hs _ h2⟩
theorem RefIn.mono {tl tl' : Led} (hs : ∀ p ∈ tl, p ∈ tl') {e : Value} {u : Str} (h : RefIn tl e u) : RefIn tl' e u := by
 obtain ⟨a, b, c, d, f, g, e1, h1⟩ := h
 exact ⟨a, b, c, d, f, g, e1, hs _ h1⟩
theorem CondIn.mono {tl tl' : Led} (hs : ∀ p ∈ tl, p ∈ tl') {e : Value} {u : Str} {b : Int} (h : CondIn tl e u b) : CondIn tl' e u b := by
 obtain ⟨a, b, c, d, f, e1, h1, h2, h3⟩ := h
 exact ⟨a, b, c, d, f, e1, hs _ h1, h2.mono hs, h3.mono hs⟩
theorem AC.mono {tl tl' : Led} (hs : ∀ p ∈ tl, p ∈ tl') {a : AOp} {c : COp} (h : AC tl a c) : AC tl' a c := by
 cases h with
 | push h => exact .push (h.mono hs)
 | put h => exact .put (h.mono hs)
 | test h => exact .test (h.mono hs)
 | jump => exact .jump
 | deed => exact .deed
 | stop => exact .stop
theorem ACs.mono {tl tl' : Led} (hs : ∀ p ∈ tl, p ∈ tl') {as : List AOp} {cs : List COp} (h : ACs tl as cs) : ACs tl' as cs := by
 induction h with
 | nil => exact .nil
 | cons a _ ih => exact .cons (a.mono hs) ih
theorem AC.op {tl : Led} {v : Value} {a : AOp} {c : COp} (h : AC tl a c) (o : OpIn tl v a) : COpIn tl v c := by
 cases h with
 | push h => cases o with | push m => exact .push m h
 | put h => cases o with | put m b c => exact .put m ⟨_, _, _, _, rfl, b, c, h⟩
 | test h => cases o with | test m => exact .test m h
 | jump => cases o with | jump m => exact .jump m
 | deed => cases o with | deed m => exact .deed m
 | stop => cases o with | stop m => exact .stop m
theorem ACs.ops {tl : Led} {as : List AOp} {cs : List COp} (h : ACs tl as cs) : ∀ {vs : List Value}, OpsIn tl vs as → COpsIn tl vs cs := by
 induction h with
 | nil => intro vs o; cases o; exact .nil
 | cons a _ ih => intro vs o; cases o with | cons o1 o2 => exact .cons (a.op o1) (ih o2)
noncomputable abbrev Row := Int × Int × Int
noncomputable def ToldIn (tl : Led) (v : Value) (name : Str) (r : Row) : Prop :=
 ∃ ra fa ba aa ca, v = .ref ra ∧ (ra, tup [.ref fa, .ref ba, .ref aa, .ref ca]) ∈ tl ∧ RefIn tl (.ref fa) name ∧ ExpIn tl (.ref ba) r.1 ∧ ExpIn tl (.ref aa) r.2.1 ∧ CondIn tl (.ref ca) name r.2.2
theorem ToldIn.mono {tl tl' : Led} (hs : ∀ p ∈ tl, p ∈ tl') {v : Value} {u : Str} {r : Row} (h : ToldIn tl v u r) : ToldIn tl' v u r := by
 obtain ⟨a, b, c, d, e, e1, h1, h2, h3, h4, h5⟩ := h
 exact ⟨a, b, c, d, e, e1, hs _ h1, h2.mono hs, h3.mono hs, h4.mono hs, h5.mono hs⟩
inductive ToldsIn (tl : Led) : List Value → List Str → List Row → Prop
 | nil : ToldsIn tl [] [] []
 | cons {v : Value} {n : Str} {r : Row} {vs : List Value} {ns : List Str} {rs : List Row} : ToldIn tl v n r → ToldsIn tl vs ns rs → ToldsIn tl (v :: vs) (n :: ns) (r :: rs)
theorem ToldsIn.mono {tl tl' : Led} (hs : ∀ p ∈ tl, p ∈ tl') {vs : List Value} {ns : List Str} {rs : List Row} (h : ToldsIn tl vs ns rs) : ToldsIn tl' vs ns rs := by
 induction h with
 | nil => exact .nil
 | cons a _ ih => exact .cons (a.mono hs) ih
theorem ToldsIn.snoc {tl : Led} {v : Value} {n : Str} {r : Row} (k : ToldIn tl v n r) {vs : List Value} {ns : List Str} {rs : List Row} (h : ToldsIn tl vs ns rs) : ToldsIn tl (vs ++ [v]) (ns ++ [n]) (rs ++ [r]) := by
 induction h with
 | nil => exact .cons k .nil
 | cons a _ ih => exact .cons a ih
theorem ToldsIn.length {tl : Led} {vs : List Value} {ns : List Str} {rs : List Row} (h : ToldsIn tl vs ns rs) : vs.length = rs.length := by
 induction h with
 | nil => rfl
 | cons a _ ih => rw [List.length_cons, List.length_cons, ih]
noncomputable def wnames (n : Nat) : List Str := [("A" : Str), "B", "C"].take n
noncomputable def cProg (after : Bool) : List Row → List COp
 | [(b0, m0, d0)] => if after then cVaryA1 b0 m0 d0 else cVary1 b0 m0 d0
 | [(b0, m0, d0), (b1, m1, d1)] => if after then cVaryA2 b0 m0 d0 b1 m1 d1 else cVary2 b0 m0 d0 b1 m1 d1
 | [(b0, m0, d0), (b1, m1, d1), (b2, m2, d2)] => if after then cVaryA3 b0 m0 d0 b1 m1 d1 b2 m2 d2 else cVary3 b0 m0 d0 b1 m1 d1 b2 m2 d2
 | _ => []
structure VaryOk (after : Bool) (tl : Led) (rows : List Row) (aops : List AOp) (pls : List Int) : Prop where
 lab : ∀ o ∈ aops ++ [AOp.stop "end"], labOk pls.length o
 acs : ACs tl ((aops ++ [AOp.stop "end"]).map (relab pls)) (cProg after rows)
 small : aops.length + pls.length ≤ 900
noncomputable def BodyIn (tl : Led) (g : Addr) : Prop := ∃ b s1 s2 t t1 t2 x1 x2, (g, tup [.str "body" t, .ref b]) ∈ tl ∧ (b, tup [.ref s1, .ref s2]) ∈ tl ∧ (s1, tup [.str "continue" t1]) ∈ tl ∧ (s2, tup [.str "display" t2, x1, x2]) ∈ tl
theorem Ctr.sub {w : World} {f : Addr} {dd uu : Nat} {vs : List Value} {need need' : Led} {Post Post' : Heap → Value → Heap → Led → Prop} (h : Ctr w f dd uu vs need' Post') (hs : ∀ p ∈ need', p ∈ need) (hp : ∀ H r H' out, Post' H r H' out → Post H r H' out) : Ctr w f dd uu vs need Post := by
 intro p loose mean mg mb dp un gd cn cs a ccd cl outer A₀ base h₀ L m s Q E B F X N T hk hd hu hret
 refine h p loose mean mg mb dp un gd cn cs a ccd cl outer A₀ base h₀ L m s Q E B F X (fun q hq => N q (hs q hq)) T hk hd hu ?_
 intro r out h' tk' F' N' K hP
 refine hret r out h' tk' F' N' (fun b o e n => K b o e fun q => n ?_) (hp _ _ _ _ hP)
 refine ea1_2 (List.mem_map.mp q) ?_
 intro x hx e
 exact List.mem_map.mpr ⟨x, hs x hx, e⟩
noncomputable def VaryC (w : World) (after : Bool) : Prop :=
 ∀ (d : DAt) (R g : Addr) (vs : List Value) (rows : List Row) os ps no np tl, DSt tl os ps [] [] → NeA d.oA d.pA → (R, tup vs) ∈ tl → BodyIn tl g → ToldsIn tl vs (wnames rows.length) rows → 1 ≤ rows.length → rows.length ≤ 3 →
  Ctr w (if after then 319 else 312) 8 96 [.ref d.D, .ref g, .ref R] (d.led os ps no np tl)
   (fun _ r _ out => r = .none ∧ ∃ os' ps' no' np' tl' aops pls, DSt tl' os' ps' aops pls ∧ VaryOk after tl' rows aops pls ∧ (∀ p ∈ tl, p ∈ tl') ∧ (∀ p ∈ d.led os' ps' no' np' tl', p ∈ out))

end R0p
section R0bp
theorem vary_of2 {w : World} {f : Addr} {d : DAt} {after : Bool} {args : List Value} {rows : List Row} {X : AP} {aops : List AOp} {pls : List Int} {os ps : Array Value} {no np : Nat} {tl : Led}
  (C : Ctr w f 8 96 args (d.led os ps no np tl) (fun _ r _ out => r = .none ∧ ∃ os' ps' no' np' tl', DS tl' os' ps' X ∧ (∀ p ∈ tl, p ∈ tl') ∧ (∀ p ∈ d.led os' ps' no' np' tl', p ∈ out))) (e : X = (aops, pls)) (ok : VaryOk after tl rows aops pls) :
  Ctr w f 8 96 args (d.led os ps no np tl) (fun _ r _ out => r = .none ∧ ∃ os' ps' no' np' tl' aops pls, DSt tl' os' ps' aops pls ∧ VaryOk after tl' rows aops pls ∧ (∀ p ∈ tl, p ∈ tl') ∧ (∀ p ∈ d.led os' ps' no' np' tl', p ∈ out)) := by
 refine C.sub (fun p hp => hp) (fun H r H' out h => ?_)
 obtain ⟨h1, os', ps', no', np', tl', St', hs, ho⟩ := h
 subst e
 exact ⟨h1, os', ps', no', np', tl', aops, pls, St', ⟨ok.lab, ok.acs.mono hs, ok.small⟩, hs, ho⟩
noncomputable def labB (n : Nat) : AOp → Bool
 | .push _ l => decide (0 ≤ l) && decide (l < n)
 | .put _ _ l => decide (0 ≤ l) && decide (l < n)
 | .test _ l => decide (0 ≤ l) && decide (l < n)
 | .jump l => decide (0 ≤ l) && decide (l < n)
 | _ => true
theorem lab_of {n : Nat} {ops : List AOp} (h : ops.all (labB n) = true) : ∀ o ∈ ops, labOk n o := fun o ho => by
 have h := List.all_eq_true.mp h o ho
 cases o <;> first | trivial | exact ⟨of_decide_eq_true (Bool.and_eq_true_iff.mp h).1, of_decide_eq_true (Bool.and_eq_true_iff.mp h).2⟩
structure T4In (tl : Led) (t : T4) (v : Value) (name : Str) (r : Row) : Prop where
 v : v = .ref t.r
 row : RowAt tl t
 rf : RefIn tl (.ref t.f) name
 eb : ExpIn tl (.ref t.b) r.1
 ea : ExpIn tl (.ref t.a) r.2.1
 cc : CondIn tl (.ref t.c) name r.2.2
theorem t4_of {tl : Led} {v : Value} {name : Str} {r : Row} (h : ToldIn tl v name r) : ∃ t, T4In tl t v name r := by
 obtain ⟨r0, f0, b0, a0, c0, rfl, m0, rf0, eb0, ea0, cc0⟩ := h
 refine ⟨⟨r0, f0, b0, a0, c0⟩, rfl, ⟨m0, ?_, ?_, ?_⟩, rf0, eb0, ea0, cc0⟩
 ·obtain ⟨_, xb0, tb0, _, _, e, nb0, _⟩ := eb0; cases e; exact ⟨_, _, nb0⟩
 ·obtain ⟨_, xb0, tb0, _, _, e, nb0, _⟩ := ea0; cases e; exact ⟨_, _, nb0⟩
 ·obtain ⟨_, tc0, tg0, yc0, zc0, e, nc0, _, _⟩ := cc0; cases e; exact ⟨_, _, _, _, nc0⟩
theorem vary_n1 (w : World) {d : DAt} {R g s2 : Addr} {os ps : Array Value} {no np : Nat} {tl : Led} {t0 : T4} {v0 : Value} {r0 : Row} (St : DSt tl os ps [] []) (hne : NeA d.oA d.pA) (V : VIn tl R g s2 [t0]) (h0 : T4In tl t0 v0 "A" r0) :
  Ctr w 312 8 96 [.ref d.D, .ref g, .ref R] (d.led os ps no np tl) (fun _ r _ out => r = .none ∧ ∃ os' ps' no' np' tl' aops pls, DSt tl' os' ps' aops pls ∧ VaryOk false tl' [r0] aops pls ∧ (∀ p ∈ tl, p ∈ tl') ∧ (∀ p ∈ d.led os' ps' no' np' tl', p ∈ out)) :=
 vary_of2 (aops := varyOps1 t0.b t0.a t0.c s2 (.ref t0.f)) (pls := varyPls1) (pv_c w d (ts := [t0]) (Nat.le_of_ble_eq_true rfl) (Nat.le_of_ble_eq_true rfl) St hne V) (by kernel_rfl) ⟨lab_of (by kernel_rfl), (.cons (.push h0.eb) (.cons (.put h0.rf) (.cons (.test h0.cc) (.cons .jump (.cons .deed (.cons (.push h0.ea) (.cons (.put h0.rf) (.cons .jump (.cons .stop .nil))))))))), Nat.le_of_ble_eq_true rfl⟩
theorem varyA_n1 (w : World) {d : DAt} {R g s2 : Addr} {os ps : Array Value} {no np : Nat} {tl : Led} {t0 : T4} {v0 : Value} {r0 : Row} (St : DSt tl os ps [] []) (hne : NeA d.oA d.pA) (V : VIn tl R g s2 [t0]) (h0 : T4In tl t0 v0 "A" r0) :
  Ctr w 319 8 96 [.ref d.D, .ref g, .ref R] (d.led os ps no np tl) (fun _ r _ out => r = .none ∧ ∃ os' ps' no' np' tl' aops pls, DSt tl' os' ps' aops pls ∧ VaryOk true tl' [r0] aops pls ∧ (∀ p ∈ tl, p ∈ tl') ∧ (∀ p ∈ d.led os' ps' no' np' tl', p ∈ out)) :=
 vary_of2 (aops := varyAOps1 t0.b t0.a t0.c s2 (.ref t0.f)) (pls := varyAPls1) (pva_c w d (ts := [t0]) (Nat.le_of_ble_eq_true rfl) (Nat.le_of_ble_eq_true rfl) St hne V) (by kernel_rfl) ⟨lab_of (by kernel_rfl), (.cons (.push h0.eb) (.cons (.put h0.rf) (.cons .deed (.cons (.test h0.cc) (.cons .jump (.cons (.push h0.ea) (.cons (.put h0.rf) (.cons .jump (.cons .stop .nil))))))))), Nat.le_of_ble_eq_true rfl⟩
theorem vary_n2 (w : World) {d : DAt} {R g s2 : Addr} {os ps : Array Value} {no np : Nat} {tl : Led} {t0 t1 : T4} {v0 v1 : Value} {r0 r1 : Row} (St : DSt tl os ps [] []) (hne : NeA d.oA d.pA) (V : VIn tl R g s2 [t0, t1]) (h0 : T4In tl t0 v0 "A" r0) (h1 : T4In tl t1 v1 "B" r1) :
  Ctr w 312 8 96 [.ref d.D, .ref g, .ref R] (d.led os ps no np tl) (fun _ r _ out => r = .none ∧ ∃ os' ps' no' np' tl' aops pls, DSt tl' os' ps' aops pls ∧ VaryOk false tl' [r0, r1] aops pls ∧ (∀ p ∈ tl, p ∈ tl') ∧ (∀ p ∈ d.led os' ps' no' np' tl', p ∈ out)) :=
 vary_of2 (aops := varyOps2 t0.b t0.a t0.c t1.b t1.a t1.c s2 (.ref t0.f) (.ref t1.f)) (pls := varyPls2) (pv_c w d (ts := [t0, t1]) (Nat.le_of_ble_eq_true rfl) (Nat.le_of_ble_eq_true rfl) St hne V) (by kernel_rfl) ⟨lab_of (by kernel_rfl), (.cons (.push h0.eb) (.cons (.put h0.rf) (.cons (.push h1.eb) (.cons (.put h1.rf) (.cons (.test h0.cc) (.cons .jump (.cons (.test h1.cc) (.cons .jump (.cons .deed (.cons (.push h1.ea) (.cons (.put h1.rf) (.cons .jump (.cons (.push h0.ea) (.cons (.put h0.rf) (.cons (.push h1.eb) (.cons (.put h1.rf) (.cons .jump (.cons .stop .nil)))))))))))))))))), Nat.le_of_ble_eq_true rfl⟩
theorem varyA_n2 (w : World) {d : DAt} {R g s2 : Addr} {os ps : Array Value} {no np : Nat} {tl : Led} {t0 t1 : T4} {v0 v1 : Value} {r0 r1 : Row} (St : DSt tl os ps [] []) (hne : NeA d.oA d.pA) (V : VIn tl R g s2 [t0, t1]) (h0 : T4In tl t0 v0 "A" r0) (h1 : T4In tl t1 v1 "B" r1) :
  Ctr w 319 8 96 [.ref d.D, .ref g, .ref R] (d.led os ps no np tl) (fun _ r _ out => r = .none ∧ ∃ os' ps' no' np' tl' aops pls, DSt tl' os' ps' aops pls ∧ VaryOk true tl' [r0, r1] aops pls ∧ (∀ p ∈ tl, p ∈ tl') ∧ (∀ p ∈ d.led os' ps' no' np' tl', p ∈ out)) :=
 vary_of2 (aops := varyAOps2 t0.b t0.a t0.c t1.b t1.a t1.c s2 (.ref t0.f) (.ref t1.f)) (pls := varyAPls2) (pva_c w d (ts := [t0, t1]) (Nat.le_of_ble_eq_true rfl) (Nat.le_of_ble_eq_true rfl) St hne V) (by kernel_rfl) ⟨lab_of (by kernel_rfl), (.cons (.push h0.eb) (.cons (.put h0.rf) (.cons (.push h1.eb) (.cons (.put h1.rf) (.cons .deed (.cons (.test h1.cc) (.cons .jump (.cons (.push h1.ea) (.cons (.put h1.rf) (.cons .jump (.cons (.test h0.cc) (.cons .jump (.cons (.push h0.ea) (.cons (.put h0.rf) (.cons (.push h1.eb) (.cons (.put h1.rf) (.cons .jump (.cons .stop .nil)))))))))))))))))), Nat.le_of_ble_eq_true rfl⟩
theorem vary_n3 (w : World) {d : DAt} {R g s2 : Addr} {os ps : Array Value} {no np : Nat} {tl : Led} {t0 t1 t2 : T4} {v0 v1 v2 : Value} {r0 r1 r2 : Row} (St : DSt tl os ps [] []) (hne : NeA d.oA d.pA) (V : VIn tl R g s2 [t0, t1, t2]) (h0 : T4In tl t0 v0 "A" r0) (h1 : T4In tl t1 v1 "B" r1) (h2 : T4In tl t2 v2 "C" r2) :
  Ctr w 312 8 96 [.ref d.D, .ref g, .ref R] (d.led os ps no np tl) (fun _ r _ out => r = .none ∧ ∃ os' ps' no' np' tl' aops pls, DSt tl' os' ps' aops pls ∧ VaryOk false tl' [r0, r1, r2] aops pls ∧ (∀ p ∈ tl, p ∈ tl') ∧ (∀ p ∈ d.led os' ps' no' np' tl', p ∈ out)) :=
 vary_of2 (aops := varyOps3 t0.b t0.a t0.c t1.b t1.a t1.c t2.b t2.a t2.c s2 (.ref t0.f) (.ref t1.f) (.ref t2.f)) (pls := varyPls3) (pv_c w d (ts := [t0, t1, t2]) (Nat.le_of_ble_eq_true rfl) (Nat.le_of_ble_eq_true rfl) St hne V) (by kernel_rfl) ⟨lab_of (by kernel_rfl), (.cons (.push h0.eb) (.cons (.put h0.rf) (.cons (.push h1.eb) (.cons (.put h1.rf) (.cons (.push h2.eb) (.cons (.put h2.rf) (.cons (.test h0.cc) (.cons .jump (.cons (.test h1.cc) (.cons .jump (.cons (.test h2.cc) (.cons .jump (.cons .deed (.cons (.push h2.ea) (.cons (.put h2.rf) (.cons .jump (.cons (.push h1.ea) (.cons (.put h1.rf) (.cons (.push h2.eb) (.cons (.put h2.rf) (.cons .jump (.cons (.push h0.ea) (.cons (.put h0.rf) (.cons (.push h1.eb) (.cons (.put h1.rf) (.cons .jump (.cons .stop .nil))))))))))))))))))))))))))), Nat.le_of_ble_eq_true rfl⟩
theorem varyA_n3 (w : World) {d : DAt} {R g s2 : Addr} {os ps : Array Value} {no np : Nat} {tl : Led} {t0 t1 t2 : T4} {v0 v1 v2 : Value} {r0 r1 r2 : Row} (St : DSt tl os ps [] []) (hne : NeA d.oA d.pA) (V : VIn tl R g s2 [t0, t1, t2]) (h0 : T4In tl t0 v0 "A" r0) (h1 : T4In tl t1 v1 "B" r1) (h2 : T4In tl t2 v2 "C" r2) :
  Ctr w 319 8 96 [.ref d.D, .ref g, .ref R] (d.led os ps no np tl) (fun _ r _ out => r = .none ∧ ∃ os' ps' no' np' tl' aops pls, DSt tl' os' ps' aops pls ∧ VaryOk true tl' [r0, r1, r2] aops pls ∧ (∀ p ∈ tl, p ∈ tl') ∧ (∀ p ∈ d.led os' ps' no' np' tl', p ∈ out)) :=
 vary_of2 (aops := varyAOps3 t0.b t0.a t0.c t1.b t1.a t1.c t2.b t2.a t2.c s2 (.ref t0.f) (.ref t1.f) (.ref t2.f)) (pls := varyAPls3) (pva_c w d (ts := [t0, t1, t2]) (Nat.le_of_ble_eq_true rfl) (Nat.le_of_ble_eq_true rfl) St hne V) (by kernel_rfl) ⟨lab_of (by kernel_rfl), (.cons (.push h0.eb) (.cons (.put h0.rf) (.cons (.push h1.eb) (.cons (.put h1.rf) (.cons (.push h2.eb) (.cons (.put h2.rf) (.cons .deed (.cons (.test h2.cc) (.cons .jump (.cons (.push h2.ea) (.cons (.put h2.rf) (.cons .jump (.cons (.test h1.cc) (.cons .jump (.cons (.push h1.ea) (.cons (.put h1.rf) (.cons (.push h2.eb) (.cons (.put h2.rf) (.cons .jump (.cons (.test h0.cc) (.cons .jump (.cons (.push h0.ea) (.cons (.put h0.rf) (.cons (.push h1.eb) (.cons (.put h1.rf) (.cons (.push h2.eb) (.cons (.put h2.rf) (.cons .jump (.cons .stop .nil))))))))))))))))))))))))))))), Nat.le_of_ble_eq_true rfl⟩
theorem rows13 {motive : List Row → Prop} (k1 : ∀ r, motive [r]) (k2 : ∀ r r', motive [r, r']) (k3 : ∀ r r' r'', motive [r, r', r'']) : ∀ rows : List Row, 1 ≤ rows.length → rows.length ≤ 3 → motive rows
 | [], h, _ => absurd h (by decide)
 | [r], _, _ => k1 r
 | [r, r'], _, _ => k2 r r'
 | [r, r', r''], _, _ => k3 r r' r''
 | _ :: _ :: _ :: _ :: _, _, h => absurd h (by simp only [List.length_cons]; lia)
theorem tolds_cons {tl : Led} {vs : List Value} {n : Str} {ns : List Str} {r : Row} {rs : List Row} {G : Prop} (h : ToldsIn tl vs (n :: ns) (r :: rs)) (k : ∀ t vs', vs = .ref t.r :: vs' → T4In tl t (.ref t.r) n r → ToldsIn tl vs' ns rs → G) : G := by
 cases h with | cons a h =>
 obtain ⟨t, q⟩ := t4_of a
 obtain ⟨e, q⟩ : _ = _ ∧ T4In _ t _ _ _ := ⟨q.v, q⟩
 subst e
 exact k t _ rfl q h
theorem tolds_nil {tl : Led} {vs : List Value} (h : ToldsIn tl vs [] []) : vs = [] := by cases h; rfl
theorem vary_c (w : World) (after : Bool) : VaryC w after := by
 intro d R g vs rows os ps no np tl St hne hR hB hT h1 h3
 obtain ⟨b, s1, s2, hB⟩ := hB
 revert rows
 suffices H : ∀ rows, 1 ≤ rows.length → rows.length ≤ 3 → ToldsIn tl vs (wnames rows.length) rows → Ctr w (if after then 319 else 312) 8 96 [.ref d.D, .ref g, .ref R] (d.led os ps no np tl) (fun _ r _ out => r = .none ∧ ∃ os' ps' no' np' tl' aops pls, DSt tl' os' ps' aops pls ∧ VaryOk after tl' rows aops pls ∧ (∀ p ∈ tl, p ∈ tl') ∧ (∀ p ∈ d.led os' ps' no' np' tl', p ∈ out)) from fun rows hT h1 h3 => H rows h1 h3 hT
 refine rows13 ?_ ?_ ?_
 ·intro r0 hT
  refine tolds_cons hT ?_
  clear hT
  intro t0 vs e q0 hT
  subst e
  have e := tolds_nil hT
  subst e
  have V : VIn tl R g s2 [t0] := ⟨hR, fc q0.row (List.forall_mem_nil _), b, s1, hB⟩
  cases after
  ·exact vary_n1 w St hne V q0
  ·exact varyA_n1 w St hne V q0
 ·intro r0 r1 hT
  refine tolds_cons hT ?_
  clear hT
  intro t0 vs e q0 hT
  subst e
  refine tolds_cons hT ?_
  clear hT
  intro t1 vs e q1 hT
  subst e
  have e := tolds_nil hT
  subst e
  have V : VIn tl R g s2 [t0, t1] := ⟨hR, fc q0.row (fc q1.row (List.forall_mem_nil _)), b, s1, hB⟩
  cases after
  ·exact vary_n2 w St hne V q0 q1
  ·exact varyA_n2 w St hne V q0 q1
 ·intro r0 r1 r2 hT
  refine tolds_cons hT ?_
  clear hT
  intro t0 vs e q0 hT
  subst e
  refine tolds_cons hT ?_
  clear hT
  intro t1 vs e q1 hT
  subst e
  refine tolds_cons hT ?_
  clear hT
  intro t2 vs e q2 hT
  subst e
  have e := tolds_nil hT
  subst e
  have V : VIn tl R g s2 [t0, t1, t2] := ⟨hR, fc q0.row (fc q1.row (fc q2.row (List.forall_mem_nil _))), b, s1, hB⟩
  cases after
  ·exact vary_n3 w St hne V q0 q1 q2
  ·exact varyA_n3 w St hne V q0 q1 q2

end R0bp
theorem reset2 : True ∧ True := by
  (try walk1)
  all_goals first | exact ⟨trivial, trivial⟩ | trivial
section
local macro_rules | `(tactic| passes_own) => `(tactic| assumption)
section R1p
inductive RowsIn (tl : Led) : List Value → List Row → Prop
 | nil : RowsIn tl [] []
 | cons {a : Addr} {b m d : Int} {t1 t2 t3 : Tok} {vs : List Value} {rs : List Row} : (a, tup [.int b t1, .int m t2, .int d t3]) ∈ tl → RowsIn tl vs rs → RowsIn tl (.ref a :: vs) ((b, m, d) :: rs)
theorem RowsIn.at {tl : Led} {vs : List Value} {rs : List Row} (h : RowsIn tl vs rs) : ∀ {i : Nat} {r : Row}, rs[i]? = some r → ∃ a t1 t2 t3, vs[i]? = some (.ref a) ∧ (a, tup [.int r.1 t1, .int r.2.1 t2, .int r.2.2 t3]) ∈ tl := by
 induction h with
 | nil => intro i r e; simp at e
 | cons a _ ih =>
  intro i r e
  cases i with
  | zero => simp at e; subst e; exact ⟨_, _, _, _, rfl, a⟩
  | succ i => exact ih (by simpa using e)
theorem RowsIn.length {tl : Led} {vs : List Value} {rs : List Row} (h : RowsIn tl vs rs) : vs.length = rs.length := by
 induction h with
 | nil => rfl
 | cons a _ ih => rw [List.length_cons, List.length_cons, ih]
theorem decimal_c (w : World) {u : Int} {t : Tok} : Ctr w 411 1 16 [.int u t] [] (fun H r _ out => ∃ a t1 t2, r = .ref a ∧ (a, tup [.int u t1, .int 0 t2]) ∈ out ∧ H.get? a = none) := by
 unfold Ctr
 intro p loose mean mg mb dp un gd cn cs a ccd cl outer A₀ base h₀ L m s Q E B F X N T hk hdp hun hret
 refine wpAny_call ?_
 k_dflt (refine' code_defS ?k1 ?k2 ?k3 ?k4 ?k5 ?kA ?kF ?kK ?k6 ?k7 ?k8 ?k9 ?kB ?_ ?c2 ?c3 ?c4 ?c5; (case kA => exact rfl); (case kF => exact rfl); (case kK => assumption); (case k1 => k_asm); (case k2 => k_asm); (case k3 => k_asm); (case k4 => k_asm); (case k5 => k_asm); (case k6 => k_is); (case k7 => k_is); (case k8 => ktr_room); (case k9 => first | exact BindsTo.of_eq rfl | exact binds_K (by k_in) rfl (by k_is) rfl rfl rfl); (case c5 => decide); (case kB => exact locs rfl); (case c2 => exact rfl); (case c3 => exact rfl); (case c4 => exact rfl); k_whole; intro g' L' h' FG' F' N' B' X' T' GS'; (try dsimp only); (try k_fold))
 (refine letA ?_; intro aL)
 (refine letFr F' ?_; clear F'; intro mL F')
 (refine letNews N' ?_; clear N'; intro nL N')
 repeat' (first | keq_rows | ((with_reducible show wpAny _ _ (exec (Stmt.While _ _ _ _) _) _ _ _); (k_here; (with_unfolding_all refine' While_out ?_; k_whole))) | (k_unfold; (try dsimp only)) | (k_end; wrow_close) | walk1 | (dsimp only; walk1) | (leave1; try dsimp only) | fail "no")
 rename News _ _ _ _ => N8
 refine' hret _ _ _ _ ?ra N8 ?rc ?rd
 case ra => k_asm
 case rc => k_asm
 case rd =>
  refine exi3 _ _ _ ⟨rfl, by k_mem, ?_⟩
  refine' fresh_of ?N (List.Mem.head _) GS' (fun q => nomatch q)
  case N => assumption
theorem decimal_use {w : World} {u : Int} {t : Tok}
  {p : Program} {loose : List Str} {mean : ExcName → Option Value} {mg mb : Str → Option Value} {dp un : Nat} {gd : Option (List Code)} {cn : Str} {cs : Scope} {a : Addr} {ccd : Value} {cl : List (Str × Addr)} {outer : List Env} {A₀ : Around} {base h₀ : Heap} {L : Addr} {m : Str → Option Value} {s : Shared}
  {Q E : Value → Shared → Prop} {news : Led}
  (B : Below A₀ base outer h₀) (F : Fr h₀ L s.heap m) (X : Frag.In (Mine.hd.heap_1 w.params) h₀) (N : News h₀ L s.heap news) (T : Top p loose mean mg mb h₀) (hk : cs.kind = .function) (hd : dp + 1 < recursionLimit) (hu : un + 16 < cLine)
  (h : ∀ b t1 t2 h' tk', NeAll b news → Fr h₀ L h' m → News h₀ L h' ((b, tup [.int u t1, .int 0 t2]) :: news) → Q (.ref b) { s with heap := h', toks := tk' }) :
  wpAny (model PR w) (ktrTop dp un gd cn cs L a ccd cl outer) (call (.ref 411) [.int u t]) Q E s := by
 refine decimal_c w p loose mean mg mb dp un gd cn cs a ccd cl outer A₀ base h₀ L m s Q E B F X (fun q hq => nomatch hq) T hk hd hu ?_
 intro r out h' tk' F' N' K hK9
 with_reducible refine ex3 hK9 ?_
 clear hK9
 intro b t1 t2 hX9
 with_reducible refine an3 hX9 ?_
 clear hX9
 intro hR9
 subst hR9
 intro hb hf
 refine h b t1 t2 h' tk' ⟨fun q hq e => by
  have := (N q hq).1
  rw [e, hf] at this; cases this⟩ F' (fun q hq => ?_)
 rcases List.mem_cons.mp hq with hq | hq
 ·exact N' q (hq ▸ hb)
 ·exact ⟨K _ _ (N q hq).1 (fun h => nomatch h), (N q hq).2⟩

end R1p
section R2p
noncomputable abbrev envR (K : Frag) (L : Addr) : Env := envOfC (Str.ofString "_law_run") (scopeAt K 738) L 738 (.ref 737)
structure TS where
 told : List Value
 nt : Nat
 new : Led
noncomputable abbrev loopP (n : Nat) (rows : List Row) (i : Nat) (c : TS) : Prop := (∀ p ∈ c.new, p.2.cls = .type "tuple") ∧ ToldsIn c.new c.told ((wnames n).take i) (rows.take i)
theorem told_end {g h' : Heap} {L' : Addr} {s : Shared} {m m' : Str → Option Value} {tk : Nat} {I tA rowsA nA : Addr} {o q1 oR oN : Obj} {rows : List Row} {n i nt : Nat} {nm : Str} {b9 m9 d9 : Int} {c : TS} {tl TT : Led}
  {x1 x2 x3 x4 x5 x6 x7 x8 x9 x10 x11 : Addr} {t1 t2 t3 t4 t5 t6 tn s1 s2 s3 s4 s5 s6 : Tok} (hT9 : c.new ++ tl = TT) (hP : loopP n rows i c) (ho : o.cls = .type "range_iterator") (hri : rows[i]? = some (b9, m9, d9)) (hn1 : (wnames n)[i]? = some nm)
  (hoR : oR.cls = .type "list") (hoN : oN.cls = .type "list") (l1 : (L' + 1) < I) (l2 : ∀ p ∈ tl, p.1 < I)
  (F : Fr g L' h' m')
  (N : News g L' h' ((x1, tup [.ref x9, .ref x4, .ref x2, .ref x6]) :: (x2, tup [.str "number" t1, .ref x3]) :: (x3, tup [.int m9 s1, .int 0 s2]) :: (x4, tup [.str "number" t2, .ref x5]) :: (x5, tup [.int b9 s3, .int 0 s4]) ::
   (x6, tup [.str "rel" t3, .str ">" t4, .ref x9, .ref x7]) :: (x7, tup [.str "number" t5, .ref x8]) :: (x8, tup [.int d9 s5, .int 0 s6]) :: (x9, tup [.str "ref" t6, .str nm tn, .ref x11, .ref x10, .none]) :: (x10, tup []) :: (x11, tup []) ::
   (I, o) :: (tA, listOf (c.told.toArray.push (.ref x1)) nt) :: (L' + 1, q1) :: (rowsA, oR) :: (nA, oN) :: TT))
  (hk : ∀ p ∈ ([("rows", .ref rowsA), ("told", .ref tA)] : List (Str × Value)), m' p.1 = some p.2) (hr : ∀ z, (∀ p ∈ ([("rows", .ref rowsA), ("told", .ref tA)] : List (Str × Value)), z ≠ p.1) → ([("spot" : Str), "ref", "bound"] : List Str).contains z = false → m' z = m z) :
  KfEnd g L' s I o (fun c : TS => (tA, listOf c.told.toArray c.nt) :: (L' + 1, q1) :: (rowsA, oR) :: (nA, oN) :: (c.new ++ tl)) (fun _ => [("rows", .ref rowsA), ("told", .ref tA)]) ["spot", "ref", "bound"] m (loopP n rows (i + 1)) { s with heap := h', toks := tk } := by
 simp only [List.push_toArray] at N
 refine kf_end ⟨c.told ++ [.ref x1], nt, (x1, tup [.ref x9, .ref x4, .ref x2, .ref x6]) :: (x2, tup [.str "number" t1, .ref x3]) :: (x3, tup [.int m9 s1, .int 0 s2]) :: (x4, tup [.str "number" t2, .ref x5]) :: (x5, tup [.int b9 s3, .int 0 s4]) ::
   (x6, tup [.str "rel" t3, .str ">" t4, .ref x9, .ref x7]) :: (x7, tup [.str "number" t5, .ref x8]) :: (x8, tup [.int d9 s5, .int 0 s6]) :: (x9, tup [.str "ref" t6, .str nm tn, .ref x11, .ref x10, .none]) :: (x10, tup []) :: (x11, tup []) :: c.new⟩ F N (by k_mem) ho ?_ ?_ hk hr ⟨?_, ?_⟩
 ·dsimp only [List.cons_append]
  rw [hT9]
  repeat (refine fc (by k_mem) ?_)
  intro p hp
  (repeat (first | exact hp | exact mKt hp | exact mKt (mKt hp) | exact mKt (mKt (mKt hp)) | refine' mK4 rfl ?_ | refine' mK1 rfl ?_))
 ·dsimp only [List.cons_append]
  refine fc (.inl (by simp)) (fc (.inr (Nat.ne_of_lt l1)) (fc (.inl (by rw [hoR]; simp)) (fc (.inl (by rw [hoN]; simp)) ?_)))
  repeat (refine fc (.inl (by simp)) ?_)
  intro p hp
  rcases List.mem_append.mp hp with hp | hp
  ·exact .inl (by rw [hP.1 p hp]; simp)
  ·exact .inr (Nat.ne_of_lt (l2 p hp))
 ·repeat (refine fc rfl ?_)
  exact hP.1
 ·have e1 : rows.take (i + 1) = rows.take i ++ [(b9, m9, d9)] := by simp [List.take_add_one, hri]
  have e2 : (wnames n).take (i + 1) = (wnames n).take i ++ [nm] := by simp [List.take_add_one, hn1]
  rw [e1, e2]
  refine ToldsIn.snoc ⟨x1, x9, x4, x2, x6, rfl, .head _, ⟨_, _, _, _, _, _, rfl, by k_mem⟩, ⟨_, x5, _, _, _, rfl, by k_mem, by k_mem⟩, ⟨_, x3, _, _, _, rfl, by k_mem, by k_mem⟩, ⟨_, _, _, _, _, rfl, by k_mem, ⟨_, _, _, _, _, _, rfl, by k_mem⟩, ⟨_, x8, _, _, _, rfl, by k_mem, by k_mem⟩⟩⟩ (hP.2.mono fun p hp => ?_)
  (repeat (first | exact hp | exact mKt hp | exact mKt (mKt hp) | exact mKt (mKt (mKt hp)) | refine' mK4 rfl ?_ | refine' mK1 rfl ?_))
theorem run_loop (w : World) {p : Program} {loose : List Str} {mean : ExcName → Option Value} {mg mb : Str → Option Value} {dp un : Nat} {gd : Option (List Code)} {cn : Str} {cs : Scope} {L a : Addr} {ccd : Value} {cl : List (Str × Addr)} {outer : List Env} {base g : Heap} {L' : Addr} {m : Str → Option Value} {s : Shared} {E : Value → Shared → Prop}
  {rowsA nA tA : Addr} {q1 : Obj} {rvs nvs : List Value} {nr nn nt : Nat} {tl : Led} (rows : List Row) (h3 : rows.length ≤ 3) (hrv : RowsIn tl rvs rows) (hnv : StrsAre nvs (wnames rows.length)) (hq1 : q1.data = .cell (some (.ref nA))) (hta : NeAll tA tl) (z1 : NeA tA rowsA) (z2 : NeA tA nA) (z3 : NeA tA (L' + 1))
  (B : Below (ktrTop dp un gd cn cs L a ccd cl outer) base (envX cn cs L a ccd cl :: outer) g) (X : Frag.In (Mine.hd.heap_1 w.params) g) (T : Top p loose mean mg mb g) (hdp : dp + 14 < recursionLimit) (hun : un + 250 < cLine)
  (hE : PassesOwn (model PR w) ((ktrTop dp un gd cn cs L a ccd cl outer).deeper (envR (Mine.hd.heap_1 w.params) L')) (envR (Mine.hd.heap_1 w.params) L') E)
  (F : Fr g L' s.heap m) (hk : ∀ p ∈ ([("rows", .ref rowsA), ("told", .ref tA)] : List (Str × Value)), m p.1 = some p.2)
  (N : News g L' s.heap ((tA, listOf #[] nt) :: (L' + 1, q1) :: (rowsA, listOf rvs.toArray nr) :: (nA, listOf nvs.toArray nn) :: tl)) :
  wpAny (model PR w) ((ktrTop dp un gd cn cs L a ccd cl outer).deeper (envR (Mine.hd.heap_1 w.params) L')) (exec (stmtAt (Mine.hd.heap_1 w.params) 738 2) (envR (Mine.hd.heap_1 w.params) L'))
   (fun fl s' => fl = .next ∧ ∃ h' tk m' told nt' new, s' = { s with heap := h', toks := tk } ∧ Fr g L' h' m' ∧ (∀ z, ([("spot" : Str), "ref", "bound"] : List Str).contains z = false → m' z = m z) ∧ News g L' h' ((tA, listOf (told : List Value).toArray nt') :: (L' + 1, q1) :: (rowsA, listOf rvs.toArray nr) :: (nA, listOf nvs.toArray nn) :: (new ++ tl)) ∧
    (∀ p ∈ new, p.2.cls = .type "tuple") ∧ ToldsIn new told (wnames rows.length) rows) E s := by
 refine uB ?_
 simp(disch:=k_dflt(
 refine iB ?_
 have F := ksw_fr (m₀ := m) (stored := []) hk (fun _ _ _ => rfl) F
 have hrl := hrv.length
 have hnl := hnv.length
 dsimp only [kstB] at F
 with_reducible refine' stmt_lit ?ho hE ?_
 case ho => k_is
 clear hE
 intro hE
 simp only [List.getD_eq_getElem?_getD, List.getElem?_cons_succ, List.getElem?_cons_zero, Option.getD_some]
 have hr3 : rvs.length = 0 ∨ rvs.length = 1 ∨ rvs.length = 2 ∨ rvs.length = 3 := by lia
 repeat' (first | ((fail_if_success (with_reducible show wpAny _ _ (pyIter (.ref _)) _ _ _)); first | keq_rows | keq_hits | ((k_here; (with_reducible show wpAny _ _ (call (Value.ref 411) _) _ _ _); k_dflt (refine' decimal_use ?k1 ?k2 ?k3 ?k4 ?k5 ?kK ?kd ?ku ?_; (case k1 => k_asm); (case k2 => k_asm); (case k4 => k_asm); (case k3 => k_asm); (case k5 => k_asm); (case kK => first | exact rfl | assumption); (case kd => ktr_room); (case ku => ktr_units); k_whole); (intros); (try dsimp only); (try k_sweep))) | ((fail_if_success (with_reducible show wpAny _ _ _ _ _ _)); (dsimp only [KfPost])) | ((k_here; (with_reducible show wpAny _ _ (call (Value.builtin "len") [Value.ref _]) _ _ _); k_dflt (refine' len_lst ?N ?hm ?hz ?_; (case N => k_asm); (case hm => k_mem); (case hz => lia); k_whole))) | ((k_here; (with_reducible show wpAny _ _ (subscriptTail _ _ (Value.ref _) (Value.int (Nat.cast _) _)) _ _ _); k_dflt (refine' list_at ?N ?hm ?hv ?hi ?_ ?hs; (case N => k_asm); (case hm => k_mem); (case hv => assumption); (case hi => omega); (case hs => with_unfolding_all rfl); k_whole))) | ((with_reducible show wpAny _ _ (exec (Stmt.For _ _ _ _ _) _) _ _ _); (k_here; (rename Fr _ _ _ _ => lF'9); (with_unfolding_all refine' For_turns lF'9 ?_; k_whole))) | ((k_here; (with_reducible show wpAny _ _ (newTuple _) _ _ _); k_dflt (refine' tupX ?F ?N ?_ ?z; (case F => k_asm); (case N => k_asm); (case z => kmk_size)); intros; (try k_sweep))) | (k_unfold; (try dsimp only)) | walk1 | (dsimp only; walk1) | (leave1; try dsimp only)) | fail "no")
 rename IsRange _ _ _ _ _ _ _ _ => rgX
 rename News _ _ _ _ => N8
 rename Fr _ _ _ _ => F8
 k_here
 refine' iter_rangeTurns (n := rvs.length) rfl F8 N8 rgX ?sm ?rn rfl ?_
 case sm => rcases hr3 with h | h | h | h <;> rw [h] <;> decide
 case rn => rcases hr3 with h | h | h | h <;> rw [h] <;> rfl
 intro I l1
 refine' items_for (m₀ := m) (σ := TS) (fun c => (tA, listOf c.told.toArray c.nt) :: (L' + 1, q1) :: (rowsA, listOf rvs.toArray nr) :: (nA, listOf nvs.toArray nn) :: (c.new ++ tl)) (fun _ => [("rows", .ref rowsA), ("told", .ref tA)]) ["spot", "ref", "bound"]
  (loopP rows.length rows) _ ⟨[], nt, []⟩ ?hk ?hr ?hp ?turn ?fin
 case hk =>
  exact fc rfl (fc rfl (List.forall_mem_nil _))
 case hr =>
  intro z h2 h3
  simp only [List.mem_cons, List.not_mem_nil, or_false, forall_eq_or_imp, forall_eq] at h2
  simp only [h2.1, h2.2, if_false]
  cases ([] : List Str).contains z <;> rfl
 case hp => exact ⟨(fun _ h => nomatch h), .nil⟩
 case turn =>
  intro i x c u v h tk o hx hv ⟨hP1, hP2⟩ ho F N
  have hi : i < rvs.length := by
   rcases Nat.lt_or_ge i rvs.length with h | h
   ·exact h
   ·rw [List.getElem?_eq_none (by simpa using h)] at hx; cases hx
  rw [List.getElem?_map, List.getElem?_range hi] at hx
  cases hx
  obtain ⟨ti, rfl⟩ := hv
  have hri : rows[i]? = some (rows[i]'(by lia)) := List.getElem?_eq_getElem _
  generalize hr9 : rows[i]'(by lia) = r at hri
  obtain ⟨b9, m9, d9⟩ := r
  refine ex4 (hrv.at hri) ?_
  intro ra t1 t2 t3 hX9
  with_reducible refine an2 hX9 ?_
  clear hX9
  intro hv1 hm1
  dsimp only at hm1
  have hwl : (wnames rows.length).length = rows.length := by simp only [wnames, List.length_take, List.length_cons, List.length_nil]; lia
  have hv2 : nvs[i]? = some (nvs[i]'(by rw [hnl, hwl]; lia)) := List.getElem?_eq_getElem _
  refine ex2 (strs_at hnv hv2) ?_
  intro nm tn hX9
  with_reducible refine an2 hX9 ?_
  clear hX9
  intro hn1 e9
  rw [e9] at hv2
  have hmr : (ra, tup [.int b9 t1, .int m9 t2, .int d9 t3]) ∈ c.new ++ tl := List.mem_append.mpr (.inr hm1)
  have hta' : NeAll tA (c.new ++ tl) := ⟨fun p hp => by
   rcases List.mem_append.mp hp with hp | hp
   ·exact news_ne N (.tail _ (.tail _ (.tail _ (.tail _ (.tail _ (List.mem_append.mpr (.inl hp))))))) (.tail _ (.head _)) (by rw [hP1 p hp]; simp)
   ·exact hta.all p hp⟩
  have p1 := hta'.all
  have hlz : c.told.toArray.size ≤ 10000 := by
   rw [List.size_toArray, hP2.length, List.length_take]; omega
  have e0 : (0 : Int) + (i : Int) * 1 = (i : Int) := by lia
  rw [e0]
  generalize hT9 : c.new ++ tl = TT at N hmr hta' p1
  dsimp only [kstB] at F
  (try k_fold)
  have hi62 : i < 2 ^ 62 := by lia
  have i1 : NeA tA I := ⟨Nat.ne_of_lt (l1 _ (.head _))⟩
  repeat' (first | keq_rows | keq_hits | ((k_here; (with_reducible show wpAny _ _ (call (Value.ref 411) _) _ _ _); k_dflt (refine' decimal_use ?k1 ?k2 ?k3 ?k4 ?k5 ?kK ?kd ?ku ?_; (case k1 => k_asm); (case k2 => k_asm); (case k4 => k_asm); (case k3 => k_asm); (case k5 => k_asm); (case kK => first | exact rfl | assumption); (case kd => ktr_room); (case ku => ktr_units); k_whole); (intros); (try dsimp only); (try k_sweep))) | ((fail_if_success (with_reducible show wpAny _ _ _ _ _ _)); (dsimp only [KfPost])) | ((k_here; (with_reducible show wpAny _ _ (call (Value.builtin "len") [Value.ref _]) _ _ _); k_dflt (refine' len_lst ?N ?hm ?hz ?_; (case N => k_asm); (case hm => k_mem); (case hz => lia); k_whole))) | ((k_here; (with_reducible show wpAny _ _ (subscriptTail _ _ (Value.ref _) (Value.int (Nat.cast _) _)) _ _ _); k_dflt (refine' list_at ?N ?hm ?hv ?hi ?_ ?hs; (case N => k_asm); (case hm => k_mem); (case hv => assumption); (case hi => omega); (case hs => with_unfolding_all rfl); k_whole))) | ((with_reducible show wpAny _ _ (exec (Stmt.For _ _ _ _ _) _) _ _ _); (k_here; (rename Fr _ _ _ _ => lF'9); (with_unfolding_all refine' For_turns lF'9 ?_; k_whole))) | ((k_here; (with_reducible show wpAny _ _ (newTuple _) _ _ _); k_dflt (refine' tupX ?F ?N ?_ ?z; (case F => k_asm); (case N => k_asm); (case z => kmk_size)); intros; (try k_sweep))) | (k_unfold; (try dsimp only)) | (k_end; wrow_close) | walk1 | (dsimp only; walk1) | (leave1; try dsimp only) | fail "no")
  rename News _ _ _ _ => N8
  refine' told_end hT9 ⟨hP1, hP2⟩ ho hri hn1 rfl rfl ?l1 ?l2 ?F N8 ?hk ?hr
  case l1 => exact l1 (L' + 1, q1) (.tail _ (.head _))
  case l2 => exact fun p hp => l1 p (.tail _ (.tail _ (.tail _ (.tail _ hp))))
  case F => k_asm
  case hk =>
   exact fc (by with_unfolding_all exact rfl) (fc (by with_unfolding_all exact rfl) (List.forall_mem_nil _))
  case hr => ((try dsimp +zetaDelta only); ksw_same)
 case fin =>
  rintro c u h tk ⟨hP1, hP2⟩ F N
  have hxl : ((List.range rvs.length).map fun (i : Nat) => Itm.tok (fun t => .int (0 + (i : Int) * 1) t)).length = rows.length := by rw [List.length_map, List.length_range, hrl]
  have hwl : (wnames rows.length).length ≤ rows.length := by simp only [wnames, List.length_take]; omega
  rw [hxl, List.take_of_length_le hwl, List.take_length] at hP2
  refine ⟨rfl, exi6 h tk _ c.told c.nt c.new ⟨rfl, F, fun z hz => ?_, N, hP1, hP2⟩⟩
  exact kstB_eq hk fun _ => by simp only [hz, Bool.false_eq_true, if_false]
 ))only[↓bB]

end R2p
section R3p
theorem vary_use {w : World} {after : Bool} {d : DAt} {R g : Addr} {vs : List Value} {rows : List Row} {os ps : Array Value} {no np : Nat} {tl news rest : Led}
  {p : Program} {loose : List Str} {mean : ExcName → Option Value} {mg mb : Str → Option Value} {dp un : Nat} {gd : Option (List Code)} {cn : Str} {cs : Scope} {a : Addr} {ccd : Value} {cl : List (Str × Addr)} {outer : List Env} {A₀ : Around} {base h₀ : Heap} {L : Addr} {m : Str → Option Value} {s : Shared}
  {Q E : Value → Shared → Prop} {f : Addr} (hf : (if after then 319 else 312) = f) (C : VaryC w after) (St : DSt tl os ps [] []) (hne : NeA d.oA d.pA) (hB : BodyIn tl g) (hT : ToldsIn tl vs (wnames rows.length) rows) (h1 : 1 ≤ rows.length) (h3 : rows.length ≤ 3)
  (B : Below A₀ base outer h₀) (F : Fr h₀ L s.heap m) (X : Frag.In (Mine.hd.heap_1 w.params) h₀) (N : News h₀ L s.heap news) (T : Top p loose mean mg mb h₀) (hk : cs.kind = .function) (hd : dp + 8 < recursionLimit) (hu : un + 96 < cLine)
  (m1 : (d.D, instObj 209 d.dx) ∈ news) (m2 : (d.dx, dictOf (draftD d.k d.pr (.ref d.oA) (.ref d.pA) d.sl d.hd) 5) ∈ news) (m3 : (d.oA, listOf os no) ∈ news) (m4 : (d.pA, listOf ps np) ∈ news) (mR : (R, tup vs) ∈ news) (mt : ∀ p ∈ tl, p ∈ news)
  (hr : ∀ p ∈ rest, p ∈ news ∧ p.1 ≠ d.oA ∧ p.1 ≠ d.pA)
  (h : ∀ os' ps' no' np' tl' aops pls h' tk', Fr h₀ L h' m → News h₀ L h' (d.led os' ps' no' np' (tl' ++ rest)) → DSt tl' os' ps' aops pls → VaryOk after tl' rows aops pls → (∀ p ∈ tl, p ∈ tl') → Q .none { s with heap := h', toks := tk' }) :
  wpAny (model PR w) (ktrTop dp un gd cn cs L a ccd cl outer) (call (.ref f) [.ref d.D, .ref g, .ref R]) Q E s := by
 subst hf
 have hneed : ∀ p ∈ d.led os ps no np ((R, tup vs) :: tl), p ∈ news := by
  intro p hp
  simp only [DAt.led, dLed, List.mem_cons] at hp
  rcases hp with hp | hp | hp | hp | hp | hp
  ·rw [hp]; exact m1
  ·rw [hp]; exact m2
  ·rw [hp]; exact m3
  ·rw [hp]; exact m4
  ·rw [hp]; exact mR
  ·exact mt p hp
 have hs : ∀ p ∈ tl, p ∈ (R, tup vs) :: tl := fun p hp => .tail _ hp
 have hB' : BodyIn ((R, tup vs) :: tl) g := by
  obtain ⟨b, s1, s2, t, t1, t2, x1, x2, g1, g2, g3, g4⟩ := hB
  exact ⟨b, s1, s2, t, t1, t2, x1, x2, hs _ g1, hs _ g2, hs _ g3, hs _ g4⟩
 refine C d R g vs rows os ps no np ((R, tup vs) :: tl) ⟨fc rfl St.kinds, St.ops.mono hs, St.pint, St.small⟩ hne (.head _) hB' (hT.mono hs) h1 h3
  p loose mean mg mb dp un gd cn cs a ccd cl outer A₀ base h₀ L m s Q E B F X (fun p hp => N p (hneed p hp)) T hk hd hu ?_
 rintro r out h' tk' F' N' K ⟨rfl, os', ps', no', np', tl', aops, pls, St', ok, hs', ho⟩
 refine h os' ps' no' np' tl' aops pls h' tk' F' (news_back (rest := d.led os' ps' no' np' (tl' ++ rest)) N hneed N' K fun q hq => ?_) St' ok (fun p hp => hs' p (hs p hp))
 have hin : ∀ q ∈ d.led os' ps' no' np' tl', q ∈ out := ho
 simp only [DAt.led, dLed, List.mem_cons, List.mem_append] at hq hin
 rcases hq with hq | hq | hq | hq | hq | hq
 ·exact .inl (hin q (.inl hq))
 ·exact .inl (hin q (.inr (.inl hq)))
 ·exact .inl (hin q (.inr (.inr (.inl hq))))
 ·exact .inl (hin q (.inr (.inr (.inr (.inl hq)))))
 ·exact .inl (hin q (.inr (.inr (.inr (.inr hq)))))
 ·refine an3 (hr q hq) ?_
  intro ha hb hc
  refine .inr ⟨ha, fun hn => ?_⟩
  simp only [DAt.led, dLed, List.mem_cons] at hn
  rcases hn with hn | hn | hn | hn | hn | hn
  ·exact hin q (.inl hn)
  ·exact hin q (.inr (.inl hn))
  ·exact absurd (by rw [hn]) hb
  ·exact absurd (by rw [hn]) hc
  ·exact hin q (.inr (.inr (.inr (.inr (hs' q (by rw [hn]; exact .head _))))))
  ·exact hin q (.inr (.inr (.inr (.inr (hs' q (.tail _ hn))))))
theorem rest_of {oA pA : Addr} {rest news : Led} (n1 : NeAll oA rest) (n2 : NeAll pA rest) (sub : ∀ p ∈ rest, p ∈ news) : ∀ p ∈ rest, p ∈ news ∧ p.1 ≠ oA ∧ p.1 ≠ pA := fun p hp => ⟨sub p hp, n1.all p hp, n2.all p hp⟩
noncomputable def IfPost (g : Heap) (L' : Addr) (s : Shared) (m : Str → Option Value) (d : DAt) (after : Bool) (rows : List Row) (rest tl : Led) (fl : Flow) (s' : Shared) : Prop :=
 fl = .next ∧ ∃ h' tk os' ps' no' np' tl' aops pls, s' = { s with heap := h', toks := tk } ∧ Fr g L' h' m ∧ News g L' h' (d.led os' ps' no' np' (tl' ++ rest)) ∧ DSt tl' os' ps' aops pls ∧ VaryOk after tl' rows aops pls ∧ (∀ p ∈ tl, p ∈ tl')
theorem run_if (w : World) {p : Program} {loose : List Str} {mean : ExcName → Option Value} {mg mb : Str → Option Value} {dp un : Nat} {gd : Option (List Code)} {cn : Str} {cs : Scope} {L a : Addr} {ccd : Value} {cl : List (Str × Addr)} {outer : List Env} {base g : Heap} {L' : Addr} {m : Str → Option Value} {s : Shared} {E : Value → Shared → Prop}
  (after : Bool) {tA bA : Addr} {d : DAt} {told : List Value} {nt no np : Nat} {os ps : Array Value} {tl TT : Led} (rows : List Row) (h1 : 1 ≤ rows.length) (h3 : rows.length ≤ 3) (hT : ToldsIn tl told (wnames rows.length) rows) (hB : BodyIn tl bA) (St : DSt tl os ps [] []) (hne : NeA d.oA d.pA) (sub : ∀ p ∈ tl, p ∈ TT) (n1 : NeAll d.oA TT) (n2 : NeAll d.pA TT)
  (z1 : NeA tA d.oA) (z2 : NeA tA d.pA)
  (B : Below (ktrTop dp un gd cn cs L a ccd cl outer) base (envX cn cs L a ccd cl :: outer) g) (X : Frag.In (Mine.hd.heap_1 w.params) g) (T : Top p loose mean mg mb g) (hdp : dp + 14 < recursionLimit) (hun : un + 250 < cLine)
  (hE : PassesOwn (model PR w) ((ktrTop dp un gd cn cs L a ccd cl outer).deeper (envR (Mine.hd.heap_1 w.params) L')) (envR (Mine.hd.heap_1 w.params) L') E)
  (F : Fr g L' s.heap m) (hk : ∀ p ∈ ([("is_after", .bool after), ("draft", .ref d.D), ("told", .ref tA), ("body", .ref bA)] : List (Str × Value)), m p.1 = some p.2)
  (N : News g L' s.heap ((tA, listOf told.toArray nt) :: d.led os ps no np TT)) :
  wpAny (model PR w) ((ktrTop dp un gd cn cs L a ccd cl outer).deeper (envR (Mine.hd.heap_1 w.params) L')) (exec (stmtAt (Mine.hd.heap_1 w.params) 738 4) (envR (Mine.hd.heap_1 w.params) L'))
   (IfPost g L' s m d after rows ((tA, listOf told.toArray nt) :: TT) tl) E s := by
 refine uB ?_
 simp(disch:=k_dflt(
 refine iB ?_
 have F0 := F
 replace F := ksw_fr (m₀ := m) (stored := []) hk (fun _ _ _ => rfl) F
 have em : kstB (fun z => if ([] : List Str).contains z = true then m z else m z) ([("is_after", .bool after), ("draft", .ref d.D), ("told", .ref tA), ("body", .ref bA)] : List (Str × Value)) = m := by
  funext z
  exact kstB_eq hk fun _ => by cases ([] : List Str).contains z <;> rfl
 have hlz : told.length ≤ 3 := by rw [hT.length]; omega
 dsimp only [DAt.led, dLed] at N
 clear F0
 replace n1 : NeAll d.oA ((tA, listOf told.toArray nt) :: TT) := ⟨fc z1.ne n1.all⟩
 replace n2 : NeAll d.pA ((tA, listOf told.toArray nt) :: TT) := ⟨fc z2.ne n2.all⟩
 dsimp only [kstB] at F em
 with_reducible refine' stmt_lit ?ho hE ?_
 case ho => k_is
 clear hE
 intro hE
 simp only [List.getD_eq_getElem?_getD, List.getElem?_cons_succ, List.getElem?_cons_zero, Option.getD_some]
 cases after
 ·repeat' (first | keq_rows | ((k_here; (with_reducible show wpAny _ _ (call (Value.ref 411) _) _ _ _); k_dflt (refine' decimal_use ?k1 ?k2 ?k3 ?k4 ?k5 ?kK ?kd ?ku ?_; (case k1 => k_asm); (case k2 => k_asm); (case k4 => k_asm); (case k3 => k_asm); (case k5 => k_asm); (case kK => first | exact rfl | assumption); (case kd => ktr_room); (case ku => ktr_units); k_whole); (intros); (try dsimp only); (try k_sweep))) | ((with_reducible show wpAny _ _ (call (Value.ref _) _) _ _ _); (k_here; k_dflt (refine' deed_use ?D ?hW ?hnm ?hl ?k1 ?k2 ?k3 ?k4 ?k5 ?kK ?kd ?ku ?hn ?hm ?hne ?hnl ?U ?_; (case D => assumption); (case k1 => k_asm); (case k2 => k_asm); (case k4 => k_asm); (case k3 => k_asm); (case k5 => k_asm); (case kK => first | exact rfl | assumption); (case kd => ktr_room); (case ku => ktr_units); (case hn => (intro p hp; (repeat (first | exact hp | apply List.Mem.tail | (refine' kd_use ?_ (by assumption)))))); (case hW => assumption); (case hnm => assumption); (case hl => assumption); (case hm => k_mem); (case hne => assumption); (case hnl => assumption); (case U => k_updF); k_whole); (intro t'9 a'9 its'9 n'9 nl'9 h'9 tk'9 hi'9 ha'9 F'9 N'9); (try dsimp only at N'9); (try dsimp only); (try k_sweep))) | ((k_here; (with_reducible show wpAny _ _ (call (Value.ref 312) _) _ _ _); k_dflt (refine' vary_use (after := false) rfl (vary_c _ false) ?St ?hne ?hB ?hT ?h1 ?h3 ?k1 ?k2 ?k3 ?k4 ?k5 ?kK ?kd ?ku ?m1 ?m2 ?m3 ?m4 ?mR ?mt ?hr ?_; (case St => with_reducible assumption); (case hne => assumption); (case hB => assumption); (case hT => assumption); (case h1 => assumption); (case h3 => assumption); (case k1 => k_asm); (case k2 => k_asm); (case k4 => k_asm); (case k3 => k_asm); (case k5 => k_asm); (case kK => first | exact rfl | assumption); (case kd => ktr_room); (case ku => ktr_units); (case m1 => k_mem); (case m2 => k_mem); (case m3 => k_mem); (case m4 => k_mem); (case mR => k_mem); (case hr => refine' rest_of ?r1 ?r2 ?r3; (case r1 => assumption); (case r2 => assumption); (case r3 => (first | ((repeat (first | with_reducible exact sid | exact List.forall_mem_nil _ | with_reducible refine sc ?_ | with_reducible refine sk ?_)); done) | ((repeat (refine fc (by k_mem) ?_)); (repeat (first | exact sid | refine' sK4 rfl ?_ | refine' sK1 rfl ?_)))))); (case mt => (intro p hp; (repeat (first | exact (by assumption : ∀ q ∈ _, q ∈ _) p hp | apply List.Mem.tail)))); k_whole); (intro os'9 ps'9 no'9 np'9 tl'9 ao'9 pl'9 h'9 tk'9 F'9 N'9 St'9 ok'9 sb'9); (try dsimp only [DAt.led, dLed] at N'9); (try dsimp only); (try k_sweep))) | ((k_here; (with_reducible show wpAny _ _ (call (Value.ref 319) _) _ _ _); k_dflt (refine' vary_use (after := true) rfl (vary_c _ true) ?St ?hne ?hB ?hT ?h1 ?h3 ?k1 ?k2 ?k3 ?k4 ?k5 ?kK ?kd ?ku ?m1 ?m2 ?m3 ?m4 ?mR ?mt ?hr ?_; (case St => with_reducible assumption); (case hne => assumption); (case hB => assumption); (case hT => assumption); (case h1 => assumption); (case h3 => assumption); (case k1 => k_asm); (case k2 => k_asm); (case k4 => k_asm); (case k3 => k_asm); (case k5 => k_asm); (case kK => first | exact rfl | assumption); (case kd => ktr_room); (case ku => ktr_units); (case m1 => k_mem); (case m2 => k_mem); (case m3 => k_mem); (case m4 => k_mem); (case mR => k_mem); (case hr => refine' rest_of ?r1 ?r2 ?r3; (case r1 => assumption); (case r2 => assumption); (case r3 => (first | ((repeat (first | with_reducible exact sid | exact List.forall_mem_nil _ | with_reducible refine sc ?_ | with_reducible refine sk ?_)); done) | ((repeat (refine fc (by k_mem) ?_)); (repeat (first | exact sid | refine' sK4 rfl ?_ | refine' sK1 rfl ?_)))))); (case mt => (intro p hp; (repeat (first | exact (by assumption : ∀ q ∈ _, q ∈ _) p hp | apply List.Mem.tail)))); k_whole); (intro os'9 ps'9 no'9 np'9 tl'9 ao'9 pl'9 h'9 tk'9 F'9 N'9 St'9 ok'9 sb'9); (try dsimp only [DAt.led, dLed] at N'9); (try dsimp only); (try k_sweep))) | (k_unfold; (try dsimp only)) | (k_end; wrow_close) | walk1 | (dsimp only; walk1) | (leave1; try dsimp only) | fail "no")
  rename Fr _ _ _ _ => F8
  rename News _ _ _ _ => N8
  rename DSt _ _ _ _ _ => St8
  rename VaryOk _ _ _ _ _ => ok8
  rename ∀ p ∈ tl, p ∈ _ => sb8
  rw [em] at F8
  exact ⟨rfl, exi9 _ _ _ _ _ _ _ _ _ ⟨rfl, F8, N8, St8, ok8, sb8⟩⟩
 ·repeat' (first | keq_rows | ((k_here; (with_reducible show wpAny _ _ (call (Value.ref 411) _) _ _ _); k_dflt (refine' decimal_use ?k1 ?k2 ?k3 ?k4 ?k5 ?kK ?kd ?ku ?_; (case k1 => k_asm); (case k2 => k_asm); (case k4 => k_asm); (case k3 => k_asm); (case k5 => k_asm); (case kK => first | exact rfl | assumption); (case kd => ktr_room); (case ku => ktr_units); k_whole); (intros); (try dsimp only); (try k_sweep))) | ((with_reducible show wpAny _ _ (call (Value.ref _) _) _ _ _); (k_here; k_dflt (refine' deed_use ?D ?hW ?hnm ?hl ?k1 ?k2 ?k3 ?k4 ?k5 ?kK ?kd ?ku ?hn ?hm ?hne ?hnl ?U ?_; (case D => assumption); (case k1 => k_asm); (case k2 => k_asm); (case k4 => k_asm); (case k3 => k_asm); (case k5 => k_asm); (case kK => first | exact rfl | assumption); (case kd => ktr_room); (case ku => ktr_units); (case hn => (intro p hp; (repeat (first | exact hp | apply List.Mem.tail | (refine' kd_use ?_ (by assumption)))))); (case hW => assumption); (case hnm => assumption); (case hl => assumption); (case hm => k_mem); (case hne => assumption); (case hnl => assumption); (case U => k_updF); k_whole); (intro t'9 a'9 its'9 n'9 nl'9 h'9 tk'9 hi'9 ha'9 F'9 N'9); (try dsimp only at N'9); (try dsimp only); (try k_sweep))) | ((k_here; (with_reducible show wpAny _ _ (call (Value.ref 312) _) _ _ _); k_dflt (refine' vary_use (after := false) rfl (vary_c _ false) ?St ?hne ?hB ?hT ?h1 ?h3 ?k1 ?k2 ?k3 ?k4 ?k5 ?kK ?kd ?ku ?m1 ?m2 ?m3 ?m4 ?mR ?mt ?hr ?_; (case St => with_reducible assumption); (case hne => assumption); (case hB => assumption); (case hT => assumption); (case h1 => assumption); (case h3 => assumption); (case k1 => k_asm); (case k2 => k_asm); (case k4 => k_asm); (case k3 => k_asm); (case k5 => k_asm); (case kK => first | exact rfl | assumption); (case kd => ktr_room); (case ku => ktr_units); (case m1 => k_mem); (case m2 => k_mem); (case m3 => k_mem); (case m4 => k_mem); (case mR => k_mem); (case hr => refine' rest_of ?r1 ?r2 ?r3; (case r1 => assumption); (case r2 => assumption); (case r3 => (first | ((repeat (first | with_reducible exact sid | exact List.forall_mem_nil _ | with_reducible refine sc ?_ | with_reducible refine sk ?_)); done) | ((repeat (refine fc (by k_mem) ?_)); (repeat (first | exact sid | refine' sK4 rfl ?_ | refine' sK1 rfl ?_)))))); (case mt => (intro p hp; (repeat (first | exact (by assumption : ∀ q ∈ _, q ∈ _) p hp | apply List.Mem.tail)))); k_whole); (intro os'9 ps'9 no'9 np'9 tl'9 ao'9 pl'9 h'9 tk'9 F'9 N'9 St'9 ok'9 sb'9); (try dsimp only [DAt.led, dLed] at N'9); (try dsimp only); (try k_sweep))) | ((k_here; (with_reducible show wpAny _ _ (call (Value.ref 319) _) _ _ _); k_dflt (refine' vary_use (after := true) rfl (vary_c _ true) ?St ?hne ?hB ?hT ?h1 ?h3 ?k1 ?k2 ?k3 ?k4 ?k5 ?kK ?kd ?ku ?m1 ?m2 ?m3 ?m4 ?mR ?mt ?hr ?_; (case St => with_reducible assumption); (case hne => assumption); (case hB => assumption); (case hT => assumption); (case h1 => assumption); (case h3 => assumption); (case k1 => k_asm); (case k2 => k_asm); (case k4 => k_asm); (case k3 => k_asm); (case k5 => k_asm); (case kK => first | exact rfl | assumption); (case kd => ktr_room); (case ku => ktr_units); (case m1 => k_mem); (case m2 => k_mem); (case m3 => k_mem); (case m4 => k_mem); (case mR => k_mem); (case hr => refine' rest_of ?r1 ?r2 ?r3; (case r1 => assumption); (case r2 => assumption); (case r3 => (first | ((repeat (first | with_reducible exact sid | exact List.forall_mem_nil _ | with_reducible refine sc ?_ | with_reducible refine sk ?_)); done) | ((repeat (refine fc (by k_mem) ?_)); (repeat (first | exact sid | refine' sK4 rfl ?_ | refine' sK1 rfl ?_)))))); (case mt => (intro p hp; (repeat (first | exact (by assumption : ∀ q ∈ _, q ∈ _) p hp | apply List.Mem.tail)))); k_whole); (intro os'9 ps'9 no'9 np'9 tl'9 ao'9 pl'9 h'9 tk'9 F'9 N'9 St'9 ok'9 sb'9); (try dsimp only [DAt.led, dLed] at N'9); (try dsimp only); (try k_sweep))) | (k_unfold; (try dsimp only)) | (k_end; wrow_close) | walk1 | (dsimp only; walk1) | (leave1; try dsimp only) | fail "no")
  rename Fr _ _ _ _ => F8
  rename News _ _ _ _ => N8
  rename DSt _ _ _ _ _ => St8
  rename VaryOk _ _ _ _ _ => ok8
  rename ∀ p ∈ tl, p ∈ _ => sb8
  rw [em] at F8
  exact ⟨rfl, exi9 _ _ _ _ _ _ _ _ _ ⟨rfl, F8, N8, St8, ok8, sb8⟩⟩
 ))only[↓bB]

end R3p
section R4p
theorem dspec_useR {w : World} {f : Addr} {dd uu : Nat} {vs : List Value} {d : DAt} {ext : Led} {aops aops' : List AOp} {pls pls' : List Int} {rv : Value → Prop} {os ps : Array Value} {no np : Nat} {tl news rest : Led}
  {p : Program} {loose : List Str} {mean : ExcName → Option Value} {mg mb : Str → Option Value} {dp un : Nat} {gd : Option (List Code)} {cn : Str} {cs : Scope} {a : Addr} {ccd : Value} {cl : List (Str × Addr)} {outer : List Env} {A₀ : Around} {base h₀ : Heap} {L : Addr} {m : Str → Option Value} {s : Shared}
  {Q E : Value → Shared → Prop} (C : DSpec w f dd uu vs d ext aops pls aops' pls' rv) (St : DSt tl os ps aops pls) (hne : NeA d.oA d.pA)
  (B : Below A₀ base outer h₀) (F : Fr h₀ L s.heap m) (X : Frag.In (Mine.hd.heap_1 w.params) h₀) (N : News h₀ L s.heap news) (T : Top p loose mean mg mb h₀) (hk : cs.kind = .function) (hd : dp + dd < recursionLimit) (hu : un + uu < cLine)
  (m1 : (d.D, instObj 209 d.dx) ∈ news) (m2 : (d.dx, dictOf (draftD d.k d.pr (.ref d.oA) (.ref d.pA) d.sl d.hd) 5) ∈ news) (m3 : (d.oA, listOf os no) ∈ news) (m4 : (d.pA, listOf ps np) ∈ news) (me : ∀ p ∈ ext, p ∈ news) (mt : ∀ p ∈ tl, p ∈ news)
  (hr : ∀ p ∈ rest, p ∈ news ∧ p.1 ≠ d.oA ∧ p.1 ≠ d.pA)
  (h : ∀ r os' ps' no' np' tl' h' tk', rv r → Fr h₀ L h' m → News h₀ L h' (d.led os' ps' no' np' (tl' ++ rest)) → DSt tl' os' ps' aops' pls' → (∀ p ∈ tl, p ∈ tl') → Q r { s with heap := h', toks := tk' }) :
  wpAny (model PR w) (ktrTop dp un gd cn cs L a ccd cl outer) (call (.ref f) vs) Q E s := by
 have hneed : ∀ p ∈ d.led os ps no np (ext ++ tl), p ∈ news := by
  intro p hp
  simp only [DAt.led, dLed, List.mem_cons] at hp
  rcases hp with hp | hp | hp | hp | hp
  ·rw [hp]; exact m1
  ·rw [hp]; exact m2
  ·rw [hp]; exact m3
  ·rw [hp]; exact m4
  ·exact (List.mem_append.mp hp).elim (me p) (mt p)
 refine C os ps no np tl St hne p loose mean mg mb dp un gd cn cs a ccd cl outer A₀ base h₀ L m s Q E B F X (fun p hp => N p (hneed p hp)) T hk hd hu ?_
 rintro r out h' tk' F' N' K ⟨hrv, os', ps', no', np', tl', St', hs', ho⟩
 refine h r os' ps' no' np' tl' h' tk' hrv F' (news_back (rest := d.led os' ps' no' np' (tl' ++ rest)) N hneed N' K fun q hq => ?_) St' (fun p hp => hs' p (List.mem_append.mpr (.inr hp)))
 have hin : ∀ q ∈ d.led os' ps' no' np' tl', q ∈ out := ho
 simp only [DAt.led, dLed, List.mem_cons, List.mem_append] at hq hin
 rcases hq with hq | hq | hq | hq | hq | hq
 ·exact .inl (hin q (.inl hq))
 ·exact .inl (hin q (.inr (.inl hq)))
 ·exact .inl (hin q (.inr (.inr (.inl hq))))
 ·exact .inl (hin q (.inr (.inr (.inr (.inl hq)))))
 ·exact .inl (hin q (.inr (.inr (.inr (.inr hq)))))
 ·refine an3 (hr q hq) ?_
  intro ha hb hc
  refine .inr ⟨ha, fun hn => ?_⟩
  simp only [DAt.led, dLed, List.mem_cons] at hn
  rcases hn with hn | hn | hn | hn | hn
  ·exact hin q (.inl hn)
  ·exact hin q (.inr (.inl hn))
  ·exact absurd (by rw [hn]) hb
  ·exact absurd (by rw [hn]) hc
  ·exact hin q (.inr (.inr (.inr (.inr (hs' q hn)))))
noncomputable def StopPost (g : Heap) (L' : Addr) (s : Shared) (m : Str → Option Value) (d : DAt) (aops : List AOp) (pls : List Int) (TT tl : Led) (fl : Flow) (s' : Shared) : Prop :=
 fl = .next ∧ ∃ h' tk os' ps' no' np' tl', s' = { s with heap := h', toks := tk } ∧ Fr g L' h' m ∧ News g L' h' (d.led os' ps' no' np' (tl' ++ TT)) ∧ DSt tl' os' ps' aops pls ∧ (∀ p ∈ tl, p ∈ tl')
theorem run_stop (w : World) {p : Program} {loose : List Str} {mean : ExcName → Option Value} {mg mb : Str → Option Value} {dp un : Nat} {gd : Option (List Code)} {cn : Str} {cs : Scope} {L a : Addr} {ccd : Value} {cl : List (Str × Addr)} {outer : List Env} {base g : Heap} {L' : Addr} {m : Str → Option Value} {s : Shared} {E : Value → Shared → Prop}
  {d : DAt} {no np : Nat} {os ps : Array Value} {tl TT : Led} {aops : List AOp} {pls : List Int} (kz : aops.length + pls.length < 1000) (St : DSt tl os ps aops pls) (hne : NeA d.oA d.pA) (sub : ∀ p ∈ tl, p ∈ TT) (n1 : NeAll d.oA TT) (n2 : NeAll d.pA TT)
  (B : Below (ktrTop dp un gd cn cs L a ccd cl outer) base (envX cn cs L a ccd cl :: outer) g) (X : Frag.In (Mine.hd.heap_1 w.params) g) (T : Top p loose mean mg mb g) (hdp : dp + 14 < recursionLimit) (hun : un + 250 < cLine)
  (hE : PassesOwn (model PR w) ((ktrTop dp un gd cn cs L a ccd cl outer).deeper (envR (Mine.hd.heap_1 w.params) L')) (envR (Mine.hd.heap_1 w.params) L') E)
  (F : Fr g L' s.heap m) (hk : ∀ p ∈ ([("draft", .ref d.D)] : List (Str × Value)), m p.1 = some p.2)
  (N : News g L' s.heap (d.led os ps no np TT)) :
  wpAny (model PR w) ((ktrTop dp un gd cn cs L a ccd cl outer).deeper (envR (Mine.hd.heap_1 w.params) L')) (exec (stmtAt (Mine.hd.heap_1 w.params) 738 5) (envR (Mine.hd.heap_1 w.params) L'))
   (StopPost g L' s m d (aops ++ [.stop "end"]) pls TT tl) E s := by
 refine uB ?_
 simp(disch:=k_dflt(
 refine iB ?_
 replace F := ksw_fr (m₀ := m) (stored := []) hk (fun _ _ _ => rfl) F
 have em : kstB (fun z => if ([] : List Str).contains z = true then m z else m z) ([("draft", .ref d.D)] : List (Str × Value)) = m := by
  funext z
  exact kstB_eq hk fun _ => by cases ([] : List Str).contains z <;> rfl
 dsimp only [DAt.led, dLed] at N
 dsimp only [kstB] at F em
 with_reducible refine' stmt_lit ?ho hE ?_
 case ho => k_is
 clear hE
 intro hE
 simp only [List.getD_eq_getElem?_getD, List.getElem?_cons_succ, List.getElem?_cons_zero, Option.getD_some]
 repeat' (first | keq_rows | ((k_here; (with_reducible show wpAny _ _ (call (Value.ref 411) _) _ _ _); k_dflt (refine' decimal_use ?k1 ?k2 ?k3 ?k4 ?k5 ?kK ?kd ?ku ?_; (case k1 => k_asm); (case k2 => k_asm); (case k4 => k_asm); (case k3 => k_asm); (case k5 => k_asm); (case kK => first | exact rfl | assumption); (case kd => ktr_room); (case ku => ktr_units); k_whole); (intros); (try dsimp only); (try k_sweep))) | ((k_here; (with_reducible show wpAny _ _ (call (Value.ref 187) _) _ _ _); k_dflt (refine' dspec_useR (put_stop _ _ _ _ ?kz) ?St ?hne ?k1 ?k2 ?k3 ?k4 ?k5 ?kK ?kd ?ku ?m1 ?m2 ?m3 ?m4 ?me ?mt ?hr ?_; (case St => with_reducible assumption); (case hne => assumption); (case k1 => k_asm); (case k2 => k_asm); (case k4 => k_asm); (case k3 => k_asm); (case k5 => k_asm); (case kK => first | exact rfl | assumption); (case kd => ktr_room); (case ku => ktr_units); (case m1 => k_mem); (case m2 => k_mem); (case m3 => k_mem); (case m4 => k_mem); (case me => exact fc (by k_mem) (List.forall_mem_nil _)); (case kz => assumption); (case hr => refine' rest_of ?r1 ?r2 ?r3; (case r1 => assumption); (case r2 => assumption); (case r3 => (first | ((repeat (first | with_reducible exact sid | exact List.forall_mem_nil _ | with_reducible refine sc ?_ | with_reducible refine sk ?_)); done) | ((repeat (refine fc (by k_mem) ?_)); (repeat (first | exact sid | refine' sK4 rfl ?_ | refine' sK1 rfl ?_)))))); (case mt => (intro p hp; (repeat (first | exact (by assumption : ∀ q ∈ _, q ∈ _) p hp | apply List.Mem.tail)))); k_whole); (intro r'9 os'9 ps'9 no'9 np'9 tl'9 h'9 tk'9 hr'9 F'9 N'9 St'9 sb'9); (subst hr'9); (try dsimp only [DAt.led, dLed] at N'9); (try dsimp only); (try k_sweep))) | (k_unfold; (try dsimp only)) | (k_end; wrow_close) | walk1 | (dsimp only; walk1) | (leave1; try dsimp only) | fail "no")
 rename Fr _ _ _ _ => F8
 rename News _ _ _ _ => N8
 rename DSt _ _ _ _ _ => St8
 rename ∀ p ∈ tl, p ∈ _ => sb8
 rw [em] at F8
 exact ⟨rfl, exi7 _ _ _ _ _ _ _ ⟨rfl, F8, N8, St8, sb8⟩⟩
 ))only[↓bB]

end R4p
section R5ap
theorem codeAmong_other {pos q : Pos} {c : Value} (l : List Value) (h : TriplesOk l) (hq : pos.line ≠ q.line ∨ pos.col ≠ q.col) : codeAmong q (l ++ [rawInt pos.line, rawInt pos.col, c]) = codeAmong q l := by
 fun_induction TriplesOk l with
 | case1 =>
  simp only [List.nil_append, codeAmong, rawInt]
  rw [if_neg]
  simp only [Bool.and_eq_true, beq_iff_eq, not_and]
  intro e1 e2
  rcases hq with hq | hq
  ·exact hq (by exact_mod_cast e1)
  ·exact hq (by exact_mod_cast e2)
 | case2 a t b u x rest ih =>
  simp only [List.cons_append, codeAmong]
  rw [ih h]
 | case3 l h1 h2 => exact h.elim
section
variable {M : Model} {A : Around} {E : Value → Shared → Prop} {s : Shared} {h₀ : Heap} {L c P : Addr} {m mg mb : Str → Option Value} {env : Env} {news tl : Led} {g : Obj → Led}
 {p : Program} {loose : List Str} {mean : ExcName → Option Value} {name qual : Str} {params : Arguments} {body : Expr} {scope : Scope} {tab : Array Value} {pos : Pos} {firstLine : Nat} {clos : List (Str × Addr)}
theorem lam_make2 {Q : Value → Shared → Prop} (F : Fr h₀ L s.heap m) (N : News h₀ L s.heap news) (T : Top p loose mean mg mb h₀) (C : CodeHd h₀ c P) (hge : env.globals = mainGlobals) (hcd : env.code = .ref c) (U : UpdF P (tabObj tab) news g) (LT : LamTab pos qual tab tl) (hs : ∀ q ∈ tl, q ∈ news)
  (hcl : closureFor scope env = pure clos)
  (h : ∀ (f c' : Addr) (oc : Obj) (vs : Array Value) (t : Tok) (ctv : Value) (tab' : Array Value), let nn : Led := (f, kla_obj name qual params body scope clos ((mg "__name__").getD .none) c' ctv) :: (c', oc) :: g (tabObj tab'); ∀ (h' : Heap) (tk : Tok), Fr h₀ L h' m → News h₀ L h' nn →
   oc.data = .fields vs → vs[1]? = some (.str qual t) → codeAmong pos tab'.toList = some (.ref c') → TriplesOk tab'.toList → NeAll f news → (∀ X o, (X, o) ∈ news → (∀ q ∈ tl, q.1 ≠ X) → @Ne Nat c' X) → (∀ q : Pos, (pos.line ≠ q.line ∨ pos.col ≠ q.col) → codeAmong q tab'.toList = codeAmong q tab.toList) → Q (.ref f) { s with heap := h', toks := tk }) :
  wpAny M A (makeFunction name qual params (.expr body) scope env [] [] [] pos firstLine) Q E s := by
 with_reducible refine ex2 U.split ?_
 intro own rest hX9
 with_reducible refine an4 hX9 ?_
 clear hX9
 intro hR9
 subst hR9
 intro hgr h1 h2
 have hmem : (P, tabObj tab) ∈ own ++ (P, tabObj tab) :: rest := List.mem_append_right _ (.head _)
 have hm := N (P, tabObj tab) hmem
 have hgs := T.g.keeps F.keep
 with_reducible refine ex2 T.bmain ?_
 intro bm ob hX9
 with_reducible refine an6 hX9 ?_
 clear hX9
 intro b1 b2 b3 b4 b5 b6
 have hgP : mainGlobals ≠ P := fun q => by
  obtain ⟨o, es, ep, e, hd, _⟩ := hgs
  rw [q, hm.1] at e; cases e; cases hd
 have hbP : bm ≠ P := fun q => by
  have e := F.keep _ _ b3
  rw [q, hm.1] at e; cases e; cases b4
 have hbG : bm ≠ mainGlobals := fun q => by
  obtain ⟨o, es, ep, e, hd, _⟩ := T.g
  rw [q, e] at b3; cases b3; rw [hd] at b6; cases b6
 have BA : s.heap.BuiltinsAt mg P := ⟨bm, ob, b1, b2, hbG, hbP, F.keep _ _ b3, b4, b5, b6⟩
 have hLs : L < s.heap.objs.size := F.ns.lt
 rcases LT.hit with hn | ⟨c', oc, vs, t, hf, hc', hd, hv⟩
 ·refine kla_makeFunction (mg := mg) hcl hge hgs hcd (C.keeps F.keep) hm.1 LT.ok hn hgP BA fun c' ctv h' tk hx hle hlt hrec htb => ?_
  obtain ⟨c₂, oc, vs, t, e2, hoc, hd, hv⟩ := hrec
  cases e2
  have hLc : L < c' := Nat.lt_of_lt_of_le hLs hle
  have old : ∀ b o, h₀.get? b = some o → h'.get? b = some o := fun b o e => hx b o (fun q => by rw [q, hm.2.2] at e; cases e) (F.keep b o e)
  have fresh : ∀ b, L < b → h₀.get? b = none := fun b hb => Heap.get?_none_of_le (Nat.le_trans F.above (Nat.le_of_lt hb))
  refine h h'.objs.size c' oc vs t ctv (tab ++ #[rawInt pos.line, rawInt pos.col, .ref c']) _ tk ⟨(F.ns.extBut hx hm.2.1.symm).push _, fun b o e => Heap.get?_push_of_some _ (old b o e), F.above⟩ (fun q hq => ?_) hd hv ?_ ?_ ⟨fun q hq => ?_⟩ (fun X o hX _ => ?_) (fun q hq => ?_)
  ·rcases List.mem_cons.mp hq with rfl | hq
   ·exact ⟨Heap.get?_push_size _ rfl, Nat.ne_of_gt (Nat.lt_trans hLc hlt), fresh _ (Nat.lt_trans hLc hlt)⟩
   ·rcases List.mem_cons.mp hq with rfl | hq
    ·exact ⟨Heap.get?_push_of_some _ hoc, Nat.ne_of_gt hLc, fresh _ hLc⟩
    ·rw [hgr] at hq
     rcases List.mem_append.mp hq with hq | hq
     ·have n := N q (List.mem_append_left _ hq)
      exact ⟨Heap.get?_push_of_some _ (hx _ _ (h1 q hq) n.1), n.2⟩
     ·rcases List.mem_cons.mp hq with rfl | hq
      ·exact ⟨Heap.get?_push_of_some _ htb, hm.2⟩
      ·have n := N q (List.mem_append_right _ (.tail _ hq))
       exact ⟨Heap.get?_push_of_some _ (hx _ _ (h2 q hq) n.1), n.2⟩
  ·rw [Array.toList_append]; exact codeAmong_snoc _ LT.ok hn
  ·rw [Array.toList_append]; exact TriplesOk_snoc _ _ _ _ LT.ok
  ·exact Nat.ne_of_lt (Nat.lt_of_lt_of_le (Heap.lt_size (N q hq).1) (Nat.le_trans hle (Nat.le_of_lt hlt)))
  ·exact Nat.ne_of_gt (Nat.lt_of_lt_of_le (Heap.lt_size (N _ hX).1) hle)
  ·rw [Array.toList_append]; exact codeAmong_other _ LT.ok hq
 ·refine kla_makeFunctionHit (mg := mg) hcl hge hgs hcd (C.keeps F.keep) hm.1 LT.ok hf BA fun ctv h' tk hk hsz => ?_
  have hLs' : L < h'.objs.size := Nat.lt_of_lt_of_le hLs hsz
  have fresh : ∀ b, L < b → h₀.get? b = none := fun b hb => Heap.get?_none_of_le (Nat.le_trans F.above (Nat.le_of_lt hb))
  have all : ∀ q ∈ own ++ (P, tabObj tab) :: rest, (h'.push (kla_obj name qual params body scope clos ((mg "__name__").getD .none) c' ctv)).get? q.1 = some q.2 ∧ q.1 ≠ L ∧ h₀.get? q.1 = none := fun q hq => ⟨Heap.get?_push_of_some _ (hk _ _ (N q hq).1), (N q hq).2⟩
  refine h h'.objs.size c' oc vs t ctv tab _ tk ⟨(F.ns.keeps hk).push _, fun b o e => Heap.get?_push_of_some _ (hk b o (F.keep b o e)), F.above⟩ (fun q hq => ?_) hd hv hf LT.ok ⟨fun q hq => Nat.ne_of_lt (Nat.lt_of_lt_of_le (Heap.lt_size (N q hq).1) hsz)⟩ (fun X o _ hX => hX _ hc') (fun _ _ => rfl)
  rcases List.mem_cons.mp hq with rfl | hq
  ·exact ⟨Heap.get?_push_size _ rfl, Nat.ne_of_gt hLs', fresh _ hLs'⟩
  ·rcases List.mem_cons.mp hq with rfl | hq
   ·exact all _ (hs _ hc')
   ·rw [hgr] at hq
    exact all q hq
end
section
variable {prog : Program} {w : World} {A A₀ : Around} {s : Shared} {K : Frag} {L : Addr} {h₀ base : Heap} {m mg mb : Str → Option Value} {news : List (Addr × Obj)} {p : Program} {loose : List Str} {mean : ExcName → Option Value}
theorem kla_codeS {env : Env} {outer : List Env} {R : Result → Shared → Prop} {name qual : Str} {params : Arguments} {body : Expr} {scope : Scope} {cl : List (Str × Addr)} {pm ctv : Value} {c' : Addr} {f : Addr} {args : Args} {binds : List (Str × Value)}
  (B : Below A₀ base outer h₀) (F : Fr h₀ L s.heap m) (X₀ : K.In h₀) (N : News h₀ L s.heap news) (T : Top p loose mean mg mb h₀) (hA : A.frames = some (env :: outer)) (hf : env.frame = some L) (hke : env.scope.kind = .function)
  (ho : (f, kla_obj name qual params body scope cl pm c' ctv) ∈ news) (hcd : s.heap.CodeRec (.ref c') qual) (hroom : A.depth < recursionLimit)
  (hbind : bindArgs (kla_fn name qual params body scope cl pm (.ref c') ctv) args = pure binds) (hloc : ∀ y ∈ binds, scope.names.lookup y.1 = some .local)
  (h : ∀ g L' h₁, Fr h₀ L g m → Fr g L' h₁ (fun y => binds.reverse.lookup y) → News g L' h₁ news → Below A base (env :: outer) g → K.In g → Top p loose mean mg mb g → GSub s.heap g (news.map (·.1)) →
   wpAny (model prog w) (A.deeper (envX qual scope L' f (.ref c') cl)) (eval body (envX qual scope L' f (.ref c') cl))
    (fun v s' => LeaveK h₀ L m g (fun r s'' => Keep s.heap s''.heap (news.map (·.1)) → R r s'') v s')
    (fun e s' => wpAny (model prog w) (A.deeper (envX qual scope L' f (.ref c') cl)) (leaving (envX qual scope L' f (.ref c') cl) e) (fun _ s'' => R (.error e) s'') (fun e' s'' => R (.error e') s'') s')
    { s with heap := h₁, toks := s.toks + binds.length })
  (hco : scope.isCoroutine = false) (hgen : scope.isGenerator = false) (hk : scope.kind = .function)
  (hcell : ∀ x ∈ scope.names, x.2 ≠ .cell) : codeAny (model prog w) A (.call (.ref f) args) R s := by
 refine an4 (groundX (R := R) B F N hA hf hke) ?_
 intro FG BG st lv
 have G : GSub s.heap (hideAll s.heap (news.map (·.1))) (news.map (·.1)) := fun b o e n => hideAll_get _ e n
 refine kla_callFunE hroom (N _ ho).1 rfl hco hgen rfl hcd ?_
 rw [hbind]
 refine wpAny_pure (wpAny_newFunctionEnv hcell hloc (fun h₁ hns hsb => ⟨((T.nolimit).keeps F.keep).fresh _ hsb, ?_⟩) hk)
 show codeAny _ _ (.expr body (envX qual scope s.heap.objs.size f (.ref c') cl)) _ _
 have hk₁ : ∀ b o, s.heap.get? b = some o → h₁.get? b = some o := fun b o e => hsb.extBut b o (Nat.ne_of_lt (Heap.lt_size e)) (Heap.get?_push_of_some _ e)
 exact kla_codeExpr (wpAny_mono (h _ s.heap.objs.size h₁ FG ⟨hns, fun b o e => hk₁ b o (of_hideAll _ e), Nat.le_of_eq (hideAll_size _ _)⟩
  (fun p hp => ⟨hk₁ _ _ (N p hp).1, Nat.ne_of_lt (Heap.lt_size (N p hp).1), hideAll_none _ (List.mem_map_of_mem hp)⟩) BG (X₀.keeps st) (T.keeps st) G) (fun v s' hl => lv _ _ (leave_keep G hl)) fun _ _ y => y)
end
end R5ap
section R7ap
theorem Ctr.frame {w : World} {f : Addr} {dd uu : Nat} {vs : List Value} {need need' : Led} {Post' : Heap → Value → Heap → Led → Prop} (h : Ctr w f dd uu vs need' Post') (hs : ∀ p ∈ need', p ∈ need) :
  Ctr w f dd uu vs need (fun H r H' out => ∃ out', Post' H r H' out' ∧ (∀ p ∈ out', p ∈ out) ∧ (∀ p ∈ need, p ∉ need' → p ∈ out)) := by
 intro p loose mean mg mb dp un gd cn cs a ccd cl outer A₀ base h₀ L m s Q E B F X N T hk hd hu hret
 refine h p loose mean mg mb dp un gd cn cs a ccd cl outer A₀ base h₀ L m s Q E B F X (fun q hq => N q (hs q hq)) T hk hd hu ?_
 intro r out' h' tk' F' N' K hP
 refine hret r (out' ++ need.filter fun p => decide (p.1 ∉ need'.map (·.1))) h' tk' F' (fun q hq => ?_) (fun b o e n => K b o e fun q => n ?_) ⟨out', hP, fun q hq => List.mem_append.mpr (.inl hq), fun q hq hn => ?_⟩
 ·rcases List.mem_append.mp hq with hq | hq
  ·exact N' q hq
  ·rw [List.mem_filter, decide_eq_true_eq] at hq
   exact ⟨K _ _ (N q hq.1).1 hq.2, (N q hq.1).2⟩
 ·refine ea1_2 (List.mem_map.mp q) ?_
  intro x hx e
  exact List.mem_map.mpr ⟨x, hs x hx, e⟩
 ·refine List.mem_append.mpr (.inr (List.mem_filter.mpr ⟨hq, decide_eq_true ?_⟩))
  intro hm
  refine ea1_2 (List.mem_map.mp hm) ?_
  intro x hx e
  have e1 := (N x (hs x hx)).1
  have e2 := (N q hq).1
  rw [e, e2] at e1
  exact hn ((Prod.ext e (Option.some.inj e1).symm : x = q) ▸ hx)
theorem deeds_of {w : World} {names : List Str} {fDo fTest fNum fPut Wa lgA : Addr} {tl nd tn pn : Led} (nW : NeAll Wa tl) (nL : NeAll lgA tl) (sd : ∀ p ∈ nd, p ∈ tl) (stn : ∀ p ∈ tn, p ∈ tl) (spn : ∀ p ∈ pn, p ∈ tl)
  (num : ∀ (ea xa : Addr) (t : Tok), Ctr w fNum 4 60 [.ref ea] ((ea, tup [.str "number" t, .ref xa]) :: nd) (fun _ r _ out => r = .ref xa ∧ ∀ p ∈ (ea, tup [.str "number" t, .ref xa]) :: nd, p ∈ out))
  (test : ∀ (ca ra ea xa : Addr) (name : Str) (b x : Int) (oW : Obj) (W : Wheels) (t1 t2 t3 t4 t5 t6 t7 : Tok) (e1 e2 e3 : Value), WhAt w oW W → W.lookup name = some x →
   Ctr w fTest 4 60 [.ref ca] ((Wa, oW) :: (ca, tup [.str "rel" t1, .str ">" t2, .ref ra, .ref ea]) :: (ra, tup [.str "ref" t3, .str name t4, e1, e2, e3]) :: (ea, tup [.str "number" t5, .ref xa]) :: (xa, tup [.int b t6, .int 0 t7]) :: tn)
    (fun _ r _ out => r = .bool (decide (b < x)) ∧ ∀ p ∈ (Wa, oW) :: (ca, tup [.str "rel" t1, .str ">" t2, .ref ra, .ref ea]) :: (ra, tup [.str "ref" t3, .str name t4, e1, e2, e3]) :: (ea, tup [.str "number" t5, .ref xa]) :: (xa, tup [.int b t6, .int 0 t7]) :: tn, p ∈ out))
  (put : ∀ (ba c ra xa : Addr) (name way : Str) (u x : Int) (t1 t2 t3 t4 t5 : Tok) (oW : Obj) (W : Wheels) (e1 e2 e3 : Value), (way = "+" ∨ way = "=") → WhAt w oW W → W.length ≤ 1000 → W.lookup name = some x →
   Ctr w fPut 6 100 [.ref ba, .ref xa] ((Wa, oW) :: (ba, tup [.ref c]) :: (c, tup [.ref ra, .bool false, .str way t1]) :: (ra, tup [.str "ref" t2, .str name t3, e1, e2, e3]) :: (xa, tup [.int u t4, .int 0 t5]) :: pn)
    (fun _ r _ out => r = .bool false ∧ (∃ oW', WhAt w oW' (setW W name (u + (if way = "+" then x else 0))) ∧ (Wa, oW') ∈ out) ∧ ∀ p ∈ (ba, tup [.ref c]) :: (c, tup [.ref ra, .bool false, .str way t1]) :: (ra, tup [.str "ref" t2, .str name t3, e1, e2, e3]) :: (xa, tup [.int u t4, .int 0 t5]) :: pn, p ∈ out))
  {dn : Led} (sdn : ∀ p ∈ dn, p ∈ tl)
  (deed : ∀ (st : Value) (oW : Obj) (W : Wheels) (lg : List Value) (nl : Nat), WhAt w oW W → (∀ n ∈ names, (W.lookup n).isSome = true) → lg.length ≤ 10000 →
   Ctr w fDo 6 100 [st] ((Wa, oW) :: (lgA, listOf lg.toArray nl) :: dn) (fun H r _ out => (∃ t, r = .str "" t) ∧ (∃ a its n nl', H.get? a = none ∧ IntsAre its (names.map fun n => (W.lookup n).getD 0) ∧ (a, listOf (its : List Value).toArray n) ∈ out ∧ (lgA, listOf (lg ++ [Value.ref a]).toArray nl') ∈ out) ∧ (Wa, oW) ∈ out ∧ ∀ p ∈ dn, p ∈ out)) :
  DeedsOk w names fDo fTest fNum fPut Wa lgA tl where
 num := by
  rintro e u ⟨ea, xa, t, tu, tz, rfl, h1, h2⟩
  refine ((num ea xa t).frame (need := tl) (fc h1 sd)).sub (fun _ h => h) ?_
  rintro H r H' out ⟨out', ⟨rfl, ho⟩, hs, hk⟩
  refine ⟨⟨xa, tu, tz, rfl, h2⟩, fun p hp => ?_⟩
  by_cases hq : p ∈ (ea, tup [.str "number" t, .ref xa]) :: nd
  ·exact hs p (ho p hq)
  ·exact hk p hp hq
 test := by
  intro c name b x oW W hc9 hW hx
  (refine absG ?_; intro G9 kG9)
  obtain ⟨ca, t1, t2, r, e, e9, h1, ⟨ra, t3, t4, e1, e2, e3, f9, h2⟩, ⟨ea, xa, t5, t6, t7, g9, h3, h4⟩⟩ := hc9
  subst e9 f9 g9
  (refine kG9 ?_; clear kG9)
  refine ((test ca ra ea xa name b x oW W t1 t2 t3 t4 t5 t6 t7 e1 e2 e3 hW hx).frame (need := (Wa, oW) :: tl) (fc (.head _) (fc (.tail _ h1) (fc (.tail _ h2) (fc (.tail _ h3) (fc (.tail _ h4) (fun p hp => .tail _ (stn p hp)))))))).sub (fun _ h => h) ?_
  rintro H r H' out ⟨out', ⟨rfl, ho⟩, hs, hk⟩
  have key : ∀ p ∈ (Wa, oW) :: tl, p ∈ out := fun p hp => by
   by_cases hq : p ∈ (Wa, oW) :: (ca, tup [.str "rel" t1, .str ">" t2, .ref ra, .ref ea]) :: (ra, tup [.str "ref" t3, .str name t4, e1, e2, e3]) :: (ea, tup [.str "number" t5, .ref xa]) :: (xa, tup [.int b t6, .int 0 t7]) :: tn
   ·exact hs p (ho p hq)
   ·exact hk p hp hq
  exact ⟨rfl, key _ (.head _), fun p hp => key p (.tail _ hp)⟩
 put := by
  intro v xa name way u x tu tz oW W hc9 hw hxa hW hl hx
  (refine absG ?_; intro G9 kG9)
  obtain ⟨ba, c, r, t1, e9, h1, h2, ⟨ra, t2, t3, e1, e2, e3, f9, h3⟩⟩ := hc9
  subst e9 f9
  (refine kG9 ?_; clear kG9)
  refine ((put ba c ra xa name way u x t1 t2 t3 tu tz oW W e1 e2 e3 hw hW hl hx).frame (need := (Wa, oW) :: tl) (fc (.head _) (fc (.tail _ h1) (fc (.tail _ h2) (fc (.tail _ h3) (fc (.tail _ hxa) (fun p hp => .tail _ (spn p hp)))))))).sub (fun _ h => h) ?_
  rintro H r H' out ⟨out', ⟨rfl, ⟨oW', hW', hWo⟩, ho⟩, hs, hk⟩
  refine ⟨rfl, ⟨oW', hW', hs _ hWo⟩, fun p hp => ?_⟩
  by_cases hq : p ∈ (ba, tup [.ref c]) :: (c, tup [.ref ra, .bool false, .str way t1]) :: (ra, tup [.str "ref" t2, .str name t3, e1, e2, e3]) :: (xa, tup [.int u tu, .int 0 tz]) :: pn
  ·exact hs p (ho p hq)
  ·exact hk p (.tail _ hp) (fun h => (List.mem_cons.mp h).elim (fun e => nW.all p hp (by rw [e])) hq)
 deed := by
  intro st oW W lg nl hW hn hl
  obtain ⟨lg⟩ := lg
  refine ((deed st oW W lg nl hW hn (by simpa using hl)).frame (need := (Wa, oW) :: (lgA, listOf ⟨lg⟩ nl) :: tl) (fc (.head _) (fc (.tail _ (.head _)) (fun p hp => .tail _ (.tail _ (sdn p hp)))))).sub (fun _ h => h) ?_
  intro H r H' out hc9
  (refine absG ?_; intro G9 kG9)
  obtain ⟨out', ⟨hr, ⟨a, its, n, nl', ha, hi, h1, h2⟩, h3, ho⟩, hs, hk⟩ := hc9
  (refine kG9 ?_; clear kG9)
  refine ⟨hr, ⟨a, its, n, nl', ha, hi, hs _ h1, hs _ (by simpa using h2)⟩, hs _ h3, fun p hp => ?_⟩
  by_cases hq : p ∈ (Wa, oW) :: (lgA, listOf ⟨lg⟩ nl) :: dn
  ·rcases List.mem_cons.mp hq with e | hq
   ·exact absurd (by rw [e]) (nW.all p hp)
   ·rcases List.mem_cons.mp hq with e | hq
    ·exact absurd (by rw [e]) (nL.all p hp)
    ·exact hs p (ho p hq)
  ·exact hk p (.tail _ (.tail _ hp)) hq
section
variable {w : World} {p : Program} {loose : List Str} {mean : ExcName → Option Value} {mg mb : Str → Option Value} {dp un : Nat} {gd : Option (List Code)} {cn : Str} {cs : Scope} {a : Addr} {ccd : Value} {cl : List (Str × Addr)} {outer : List Env} {A₀ : Around} {base h₀ : Heap} {L : Addr} {m : Str → Option Value} {s : Shared}
 {Q E : Value → Shared → Prop} {news rest tl : Led}
theorem finished_use {D dx oA pA hA : Addr} {k : DK5} {pr sl : Value} {os ps : List Value} {no np nh : Nat} {tab : Array Value} {aops : List AOp} {pls : List Int} (hops : OpsIn tl os aops) (hps : IntsAre ps pls) (hne : NeA oA pA) (LT : LamTab posF qualF tab tl) (hlen : os.length ≤ 1000) (hlab : ∀ o ∈ aops, labOk pls.length o) (hpl : pls.length ≤ 1000) (n203 : NeAll 203 tl)
  (C : CodeHd base 205 203) (B : Below A₀ base outer h₀) (F : Fr h₀ L s.heap m) (X : Frag.In (Mine.hd.heap_1 w.params) h₀) (N : News h₀ L s.heap news) (T : Top p loose mean mg mb h₀) (hk : cs.kind = .function) (hd : dp + 8 < recursionLimit) (hu : un + 96 < cLine)
  (hn : ∀ p ∈ (D, instObj 209 dx) :: (dx, dictOf (draftD k pr (.ref oA) (.ref pA) sl (.ref hA)) 5) :: (oA, listOf os.toArray no) :: (pA, listOf ps.toArray np) :: (hA, listOf #[] nh) :: (203, tabObj tab) :: tl, p ∈ news)
  (hr : ∀ p ∈ rest, p ∈ news ∧ p.1 ≠ 203)
  (h : ∀ Cd cx Tp Bg c1 c2 tc1 tc2 vs tab' tl' h' tk', Fr h₀ L h' m → News h₀ L h' ((Cd, instObj 138 cx) :: (cx, dictOf [⟨c1, .str "ops" tc1, .ref Tp⟩, ⟨c2, .str "begins" tc2, .ref Bg⟩] 2) :: (Tp, tup vs) :: (203, tabObj tab') :: (tl' ++ rest)) → NeAll cx news → OpsIn tl' vs (aops.map (relab pls)) → LamTab posF qualF tab' tl' → NeAll 203 tl' → (∀ p ∈ tl, p ∈ tl') → Q (.ref Cd) { s with heap := h', toks := tk' }) :
  wpAny (model PR w) (ktrTop dp un gd cn cs L a ccd cl outer) (call (.ref 206) [.ref D]) Q E s := by
 refine finished_c w hops hps hne LT hlen hlab hpl n203 p loose mean mg mb dp un gd cn cs a ccd cl outer A₀ base h₀ L m s Q E C B F X (fun q hq => N q (hn q hq)) T hk hd hu ?_
 intro r out h' tk' F' N' K hK9
 with_reducible refine ex11 hK9 ?_
 clear hK9
 intro Cd cx Tp Bg c1 c2 tc1 tc2 vs tab' tl' hX9
 with_reducible refine an10 hX9 ?_
 clear hX9
 intro hR9
 subst hR9
 intro f2 m1 m2 m3 mo LT' n203' hs' ho
 have fr : ∀ {b : Addr}, s.heap.get? b = none → NeAll b news := fun hb => ⟨fun q hq e => by
  have := (N q hq).1
  rw [e, hb] at this; cases this⟩
 refine h Cd cx Tp Bg c1 c2 tc1 tc2 vs tab' tl' h' tk' F' (news_back (rest := _) N hn N' K fun q hq => ?_) (fr f2) mo LT' n203' hs'
 simp only [List.mem_cons, List.mem_append] at hq
 rcases hq with hq | hq | hq | hq | hq | hq
 ·exact .inl (hq ▸ m1)
 ·exact .inl (hq ▸ m2)
 ·exact .inl (hq ▸ m3)
 ·exact .inl (ho q (by rw [hq]; exact .tail _ (.tail _ (.tail _ (.tail _ (.tail _ (.head _)))))))
 ·exact .inl (ho q (.tail _ (.tail _ (.tail _ (.tail _ (.tail _ (.tail _ hq)))))))
 ·obtain ⟨ha, hb⟩ := hr q hq
  refine .inr ⟨ha, fun hn' => ?_⟩
  simp only [List.mem_cons] at hn'
  rcases hn' with e | e | e | e | e | e | e
  ·exact ho q (by rw [e]; exact .head _)
  ·exact ho q (by rw [e]; exact .tail _ (.head _))
  ·exact ho q (by rw [e]; exact .tail _ (.tail _ (.head _)))
  ·exact ho q (by rw [e]; exact .tail _ (.tail _ (.tail _ (.head _))))
  ·exact ho q (by rw [e]; exact .tail _ (.tail _ (.tail _ (.tail _ (.head _)))))
  ·exact absurd (by rw [e]) hb
  ·exact ho q (.tail _ (.tail _ (.tail _ (.tail _ (.tail _ (.tail _ (hs' q e)))))))
theorem run_use {args : List Value} {fin : AM} {Wa lgA : Addr} {oW : Obj} {nl : Nat}
  (C : Ctr w 657 8 128 args ((Wa, oW) :: (lgA, listOf #[] nl) :: tl) (fun _ r _ out => (∃ t, r = .str fin.word t) ∧ ∃ oW' lg' nl' tl', WhAt w oW' fin.W ∧ LogIn tl' lg' fin.log ∧ (∀ p ∈ (Wa, oW') :: (lgA, listOf (lg' : List Value).toArray nl') :: tl', p ∈ out) ∧ ∀ p ∈ tl, p ∈ tl'))
  (B : Below A₀ base outer h₀) (F : Fr h₀ L s.heap m) (X : Frag.In (Mine.hd.heap_1 w.params) h₀) (N : News h₀ L s.heap news) (T : Top p loose mean mg mb h₀) (hk : cs.kind = .function) (hd : dp + 8 < recursionLimit) (hu : un + 128 < cLine)
  (hn : ∀ p ∈ (Wa, oW) :: (lgA, listOf #[] nl) :: tl, p ∈ news) (hr : ∀ p ∈ rest, p ∈ news ∧ p.1 ≠ Wa ∧ p.1 ≠ lgA)
  (h : ∀ t oW' lg' nl' tl' h' tk', Fr h₀ L h' m → News h₀ L h' ((Wa, oW') :: (lgA, listOf (lg' : List Value).toArray nl') :: (tl' ++ rest)) → WhAt w oW' fin.W → LogIn tl' lg' fin.log → (∀ p ∈ tl, p ∈ tl') → Q (.str fin.word t) { s with heap := h', toks := tk' }) :
  wpAny (model PR w) (ktrTop dp un gd cn cs L a ccd cl outer) (call (.ref 657) args) Q E s := by
 refine C p loose mean mg mb dp un gd cn cs a ccd cl outer A₀ base h₀ L m s Q E B F X (fun q hq => N q (hn q hq)) T hk hd hu ?_
 rintro r out h' tk' F' N' K ⟨⟨t, rfl⟩, oW', lg', nl', tl', hW', hL', ho, hs'⟩
 refine h t oW' lg' nl' tl' h' tk' F' (news_back (rest := _) N hn N' K fun q hq => ?_) hW' hL' hs'
 simp only [List.mem_cons, List.mem_append] at hq
 rcases hq with hq | hq | hq | hq
 ·exact .inl (ho q (by rw [hq]; exact .head _))
 ·exact .inl (ho q (by rw [hq]; exact .tail _ (.head _)))
 ·exact .inl (ho q (.tail _ (.tail _ hq)))
 ·refine an3 (hr q hq) ?_
  intro ha hb hc
  refine .inr ⟨ha, fun hn' => ?_⟩
  simp only [List.mem_cons] at hn'
  rcases hn' with e | e | e
  ·exact absurd (by rw [e]) hb
  ·exact absurd (by rw [e]) hc
  ·exact ho q (.tail _ (.tail _ (hs' q e)))
end
theorem OpsIn.tups {tl tl' : Led} (hs : ∀ p ∈ tl, p.2.cls = .type "tuple" → p ∈ tl') {vs : List Value} {os : List AOp} (h : OpsIn tl vs os) : OpsIn tl' vs os := by
 induction h with
 | nil => exact .nil
 | cons a _ ih =>
  refine .cons ?_ ih
  cases a with
  | push a => exact .push (hs _ a rfl)
  | put a b c => exact .put (hs _ a rfl) (hs _ b rfl) (hs _ c rfl)
  | test a => exact .test (hs _ a rfl)
  | jump a => exact .jump (hs _ a rfl)
  | deed a => exact .deed (hs _ a rfl)
  | stop a => exact .stop (hs _ a rfl)
theorem rest1 {x : Addr} {rest news : Led} (h : ∀ p ∈ rest, p ∈ news) (h' : ∀ p ∈ rest, p.1 ≠ x) : ∀ p ∈ rest, p ∈ news ∧ p.1 ≠ x := fun p hp => ⟨h p hp, h' p hp⟩
theorem LogIn.lists {tl tl' : Led} (hs : ∀ p ∈ tl, p.2.cls = .type "list" → p ∈ tl') {vs : List Value} {ls : List (List Int)} (h : LogIn tl vs ls) : LogIn tl' vs ls := by
 induction h with
 | nil => exact .nil
 | cons a b _ ih => exact .cons (hs _ a rfl) b ih
theorem LamTab.to {pos : Pos} {qual : Str} {tab : Array Value} {tl tl' : Led} (h : LamTab pos qual tab tl) (hs : ∀ p ∈ tl, (∃ vs, p.2.data = .fields vs ∧ ∃ t, vs[1]? = some (.str qual t)) → p ∈ tl') : LamTab pos qual tab tl' :=
 ⟨h.ok, h.hit.imp id fun ⟨c', oc, vs, t, h1, h2, h3, h4⟩ => ⟨c', oc, vs, t, h1, hs _ h2 ⟨vs, h3, t, h4⟩, h3, h4⟩⟩
theorem wh_data {w : World} {o : Obj} {W : Wheels} (h : WhAt w o W) : ∃ es ep, o.data = .dict es ep := by
 obtain ⟨_, ⟨es, ep, _, h, _⟩, _⟩ := h
 exact exi2 es ep h

end R7ap
section R7p
theorem run_ret (w : World) {p : Program} {loose : List Str} {mean : ExcName → Option Value} {mg mb : Str → Option Value} {dp un : Nat} {gd : Option (List Code)} {cn : Str} {cs : Scope} {L a : Addr} {ccd : Value} {cl : List (Str × Addr)} {outer : List Env} {base g : Heap} {L' : Addr} {m : Str → Option Value} {s : Shared} {E : Value → Shared → Prop} {Q : Flow → Shared → Prop}
  {D dx oA pA hA nA Wa lgA Dp px fDo fTest fNum fPut : Addr} {oW : Obj} {ng : Nat} {k : DK5} {pr sl : Value} {os ps nvs : List Value} {no np nh nn : Nat} {tabF : Array Value} {q1 q2 q3 : Obj} {TT tlD : Led} {aops : List AOp} {pls : List Int} {e1 e2 e3 e4 : Int} {te1 te2 te3 te4 : Tok} {fd1 fd2 fd3 fd4 : FuncData} (names : List Str) (prog : List COp) {nst : Nat} {fin : AM} {W0 : Wheels}
  (hq1 : q1.data = .cell (some (.ref nA))) (hq2 : q2.data = .cell (some (.ref lgA))) (hq3 : q3.data = .cell (some (.ref Wa))) (hW : WhAt w oW W0) (lo : (Wa == sysModules) = false) (hnA : (nA, listOf nvs.toArray nn) ∈ TT) (hnv : StrsAre nvs names) (hnl : names.length ≤ 3)
  (hops : OpsIn tlD os aops) (hps : IntsAre ps pls) (hne : NeA oA pA) (sub : ∀ p ∈ tlD, p ∈ TT) (kin : ∀ p ∈ tlD, p.2.cls = .type "tuple") (LTF : LamTab posF qualF tabF TT) (hlen : os.length ≤ 1000) (hlab : ∀ o ∈ aops, labOk pls.length o) (hpl : pls.length ≤ 1000) (hacs : ACs tlD (aops.map (relab pls)) prog) (hways : ways prog) (hpr : prog.length ≤ 1000)
  (hdeeds : ∀ tl, NeAll Wa tl → NeAll lgA tl → (∀ p ∈ (fDo, fnO fd1) :: (fTest, fnO fd2) :: (fNum, fnO fd3) :: (fPut, fnO fd4) :: (L' + 1, q1) :: (L' + 2, q2) :: (L' + 3, q3) :: TT, p ∈ tl) → DeedsOk w names fDo fTest fNum fPut Wa lgA tl)
  (hWn : W0.length ≤ 1000) (hnm : ∀ n ∈ names, (W0.lookup n).isSome = true) (hr : Runs names prog nst ⟨0, none, W0, [], ""⟩ fin) (hst : nst ≤ 6000) (hfw : fin.W.length ≤ 1000) (hfn : ∀ n ∈ names, (fin.W.lookup n).isSome = true) (hfl : fin.log.length ≤ 10000)
  (n203 : NeAll 203 TT)
  (cW : NeAll Wa ((Dp, instObj 31 px) :: (px, dictOf [⟨e1, .str "do" te1, .ref fDo⟩, ⟨e2, .str "test" te2, .ref fTest⟩, ⟨e3, .str "number" te3, .ref fNum⟩, ⟨e4, .str "put" te4, .ref fPut⟩] 4) :: (fDo, fnO fd1) :: (fTest, fnO fd2) :: (fNum, fnO fd3) :: (fPut, fnO fd4) :: (L' + 1, q1) :: (L' + 2, q2) :: (L' + 3, q3) :: (203, tabObj tabF) :: TT))
  (cL : NeAll lgA ((Wa, oW) :: (Dp, instObj 31 px) :: (px, dictOf [⟨e1, .str "do" te1, .ref fDo⟩, ⟨e2, .str "test" te2, .ref fTest⟩, ⟨e3, .str "number" te3, .ref fNum⟩, ⟨e4, .str "put" te4, .ref fPut⟩] 4) :: (fDo, fnO fd1) :: (fTest, fnO fd2) :: (fNum, fnO fd3) :: (fPut, fnO fd4) :: (L' + 1, q1) :: (L' + 2, q2) :: (L' + 3, q3) :: (203, tabObj tabF) :: TT))
  (x203 : NeAll 203 ((Dp, instObj 31 px) :: (px, dictOf [⟨e1, .str "do" te1, .ref fDo⟩, ⟨e2, .str "test" te2, .ref fTest⟩, ⟨e3, .str "number" te3, .ref fNum⟩, ⟨e4, .str "put" te4, .ref fPut⟩] 4) :: (fDo, fnO fd1) :: (fTest, fnO fd2) :: (fNum, fnO fd3) :: (fPut, fnO fd4) :: (L' + 1, q1) :: (L' + 2, q2) :: (L' + 3, q3) :: TT))
  (hret : ∀ Rt tw lg9 nl9 Dl ys nD tabF' h' tk' m' out tx, Fr g L' h' m' → News g L' h' out → (Rt, tup [.str fin.word tw, .ref lgA, .ref Dl]) ∈ out → (lgA, listOf (lg9 : List Value).toArray nl9) ∈ out → (Dl, listOf (ys : List Value).toArray nD) ∈ out → IntsAre ys (names.map fun n => (fin.W.lookup n).getD 0) → LogIn tx lg9 fin.log → LamTab posF qualF tabF' tx → NeAll 203 tx → (203, tabObj tabF') ∈ out → (∀ p ∈ tx, p ∈ out) → (∀ p ∈ TT, p ∈ tx) → Q (.ret (.ref Rt)) { s with heap := h', toks := tk' })
  (B : Below (ktrTop dp un gd cn cs L a ccd cl outer) base (envX cn cs L a ccd cl :: outer) g) (X : Frag.In (Mine.hd.heap_1 w.params) g) (T : Top p loose mean mg mb g) (hdp : dp + 14 < recursionLimit) (hun : un + 250 < cLine)
  (C1 : CodeHd base 205 203) (C2 : CodeHd base 737 735)
  (hE : PassesOwn (model PR w) ((ktrTop dp un gd cn cs L a ccd cl outer).deeper (envR (Mine.hd.heap_1 w.params) L')) (envR (Mine.hd.heap_1 w.params) L') E)
  (F : Fr g L' s.heap m) (hk : ∀ p ∈ ([("draft", .ref D), ("deeds", .ref Dp)] : List (Str × Value)), m p.1 = some p.2)
  (N : News g L' s.heap ((Dp, instObj 31 px) :: (px, dictOf [⟨e1, .str "do" te1, .ref fDo⟩, ⟨e2, .str "test" te2, .ref fTest⟩, ⟨e3, .str "number" te3, .ref fNum⟩, ⟨e4, .str "put" te4, .ref fPut⟩] 4) :: (fDo, fnO fd1) :: (fTest, fnO fd2) :: (fNum, fnO fd3) :: (fPut, fnO fd4) :: (lgA, listOf #[] ng) :: (Wa, oW) :: (L' + 1, q1) :: (L' + 2, q2) :: (L' + 3, q3) :: (203, tabObj tabF) :: (D, instObj 209 dx) :: (dx, dictOf (draftD k pr (.ref oA) (.ref pA) sl (.ref hA)) 5) :: (oA, listOf os.toArray no) :: (pA, listOf ps.toArray np) :: (hA, listOf #[] nh) :: TT)) :
  wpAny (model PR w) ((ktrTop dp un gd cn cs L a ccd cl outer).deeper (envR (Mine.hd.heap_1 w.params) L')) (exec (stmtAt (Mine.hd.heap_1 w.params) 738 10) (envR (Mine.hd.heap_1 w.params) L')) Q E s := by
 refine uB ?_
 simp(disch:=k_dflt(
 refine iB ?_
 replace F := ksw_fr (m₀ := m) (stored := []) hk (fun _ _ _ => rfl) F
 dsimp only [kstB] at F
 with_reducible refine' stmt_lit ?ho hE ?_
 case ho => k_is
 clear hE
 intro hE
 simp only [List.getD_eq_getElem?_getD, List.getElem?_cons_succ, List.getElem?_cons_zero, Option.getD_some]
 repeat' (first | ((fail_if_success (with_reducible show wpAny _ _ (call (Prod.fst (Value.ref 206, _)) _) _ _ _)); first | keq_rows | keq_hits | ((k_here; (with_reducible show wpAny _ _ (eval (Expr.Name _ _) (compEnvC _ _ _ _)) _ _ _); k_dflt (first   | (refine' LCgL.ld_own ?N ?hm ?hC ?hx ?_; (case N => k_asm); (case hm => k_mem); (case hC => assumption); (case hx => assumption))   | (refine' nameCC ?N ?hc ?hm ?hd ?_; (case N => k_asm); (case hc => exact rfl); (case hm => k_mem); (case hd => assumption); k_whole)   | (refine' LCgL.ld_global ?F ?X ?T ?e ?_; (case F => k_asm); (case X => k_asm); (case T => k_asm); (case e => k_is))))) | ((k_here; (with_reducible show wpAny _ _ (subscriptTail _ _ (Value.ref _) (Value.str _ _)) _ _ _); k_dflt (refine' wh_get ?N ?hm ?hW ?lo ?hx ?_ ?hs ?hg; (case N => k_asm); (case hm => k_mem); (case hW => assumption); (case lo => assumption); (case hx => assumption); (case hs => with_unfolding_all rfl); (case hg => (intros; with_unfolding_all rfl)); k_whole); intros)) | (k_unfold; (try dsimp only)) | (k_end; wrow_close) | walk1 | (dsimp only; walk1) | (leave1; try dsimp only)) | fail "no")
 dsimp only [List.cons_append, List.nil_append]
 have p203 : ∀ p ∈ TT, p.1 ≠ 203 := n203.all
 k_dflt (refine' finished_use (tl := TT) (rest := ((Dp, instObj 31 px) :: (px, dictOf [⟨e1, .str "do" te1, .ref fDo⟩, ⟨e2, .str "test" te2, .ref fTest⟩, ⟨e3, .str "number" te3, .ref fNum⟩, ⟨e4, .str "put" te4, .ref fPut⟩] 4) :: (fDo, fnO fd1) :: (fTest, fnO fd2) :: (fNum, fnO fd3) :: (fPut, fnO fd4) :: (lgA, listOf #[] ng) :: (Wa, oW) :: (L' + 1, q1) :: (L' + 2, q2) :: (L' + 3, q3) :: TT)) (hops.mono sub) hps hne LTF hlen hlab hpl n203 C1 ?B ?F ?X ?N ?T ?kK ?kd ?ku ?hn ?hr ?_)
 case B => k_asm
 case F => k_asm
 case X => k_asm
 case N => k_asm
 case T => k_asm
 case kK => exact rfl
 case kd => ktr_room
 case ku => ktr_units
 case hn => (first | ((repeat (first | with_reducible exact sid | exact List.forall_mem_nil _ | with_reducible refine sc ?_ | with_reducible refine sk ?_)); done) | ((repeat (refine fc (by k_mem) ?_)); (repeat (first | exact sid | refine' sK4 rfl ?_ | refine' sK1 rfl ?_))))
 case hr =>
  refine rest1 ?_ ?_
  ·(first | ((repeat (first | with_reducible exact sid | exact List.forall_mem_nil _ | with_reducible refine sc ?_ | with_reducible refine sk ?_)); done) | ((repeat (refine fc (by k_mem) ?_)); (repeat (first | exact sid | refine' sK4 rfl ?_ | refine' sK1 rfl ?_))))
  ·(repeat (refine fc (by k_ne) ?_)); exact p203
 intro Cd cx Tp Bg c1 c2 tc1 tc2 vs tabF' tl' h9 tk9 F9 N9 ncx hops9 LTF9 n2039 sub9
 clear N F
 have hX8 : ∃ tlO : Led, (∀ p ∈ tl', p.1 ≠ Wa → p.1 ≠ lgA → p ∈ tlO) ∧ (∀ p ∈ tlO, p ∈ tl' ∧ p.1 ≠ Wa ∧ p.1 ≠ lgA) :=
  ⟨tl'.filter fun p => decide (p.1 ≠ Wa ∧ p.1 ≠ lgA), fun p hp h1 h2 => List.mem_filter.mpr ⟨hp, decide_eq_true ⟨h1, h2⟩⟩, fun p hp => ⟨(List.mem_filter.mp hp).1, of_decide_eq_true (List.mem_filter.mp hp).2⟩⟩
 with_reducible refine ea1_2 hX8 ?_
 clear hX8
 intro tlO hO1 hO2
 have hWc := wh_cls hW
 have inT : ∀ p ∈ tl', p ∈ (Cd, instObj 138 cx) :: (cx, dictOf [⟨c1, .str "ops" tc1, .ref Tp⟩, ⟨c2, .str "begins" tc2, .ref Bg⟩] 2) :: (Tp, tup vs) :: (203, tabObj tabF') :: (tl' ++ ((Dp, instObj 31 px) :: (px, dictOf [⟨e1, .str "do" te1, .ref fDo⟩, ⟨e2, .str "test" te2, .ref fTest⟩, ⟨e3, .str "number" te3, .ref fNum⟩, ⟨e4, .str "put" te4, .ref fPut⟩] 4) :: (fDo, fnO fd1) :: (fTest, fnO fd2) :: (fNum, fnO fd3) :: (fPut, fnO fd4) :: (lgA, listOf #[] ng) :: (Wa, oW) :: (L' + 1, q1) :: (L' + 2, q2) :: (L' + 3, q3) :: TT)) := fun p hp => .tail _ (.tail _ (.tail _ (.tail _ (List.mem_append.mpr (.inl hp)))))
 have inW : (Wa, oW) ∈ (Cd, instObj 138 cx) :: (cx, dictOf [⟨c1, .str "ops" tc1, .ref Tp⟩, ⟨c2, .str "begins" tc2, .ref Bg⟩] 2) :: (Tp, tup vs) :: (203, tabObj tabF') :: (tl' ++ ((Dp, instObj 31 px) :: (px, dictOf [⟨e1, .str "do" te1, .ref fDo⟩, ⟨e2, .str "test" te2, .ref fTest⟩, ⟨e3, .str "number" te3, .ref fNum⟩, ⟨e4, .str "put" te4, .ref fPut⟩] 4) :: (fDo, fnO fd1) :: (fTest, fnO fd2) :: (fNum, fnO fd3) :: (fPut, fnO fd4) :: (lgA, listOf #[] ng) :: (Wa, oW) :: (L' + 1, q1) :: (L' + 2, q2) :: (L' + 3, q3) :: TT)) := .tail _ (.tail _ (.tail _ (.tail _ (List.mem_append.mpr (.inr (by k_mem))))))
 have inL : (lgA, listOf #[] ng) ∈ (Cd, instObj 138 cx) :: (cx, dictOf [⟨c1, .str "ops" tc1, .ref Tp⟩, ⟨c2, .str "begins" tc2, .ref Bg⟩] 2) :: (Tp, tup vs) :: (203, tabObj tabF') :: (tl' ++ ((Dp, instObj 31 px) :: (px, dictOf [⟨e1, .str "do" te1, .ref fDo⟩, ⟨e2, .str "test" te2, .ref fTest⟩, ⟨e3, .str "number" te3, .ref fNum⟩, ⟨e4, .str "put" te4, .ref fPut⟩] 4) :: (fDo, fnO fd1) :: (fTest, fnO fd2) :: (fNum, fnO fd3) :: (fPut, fnO fd4) :: (lgA, listOf #[] ng) :: (Wa, oW) :: (L' + 1, q1) :: (L' + 2, q2) :: (L' + 3, q3) :: TT)) := .tail _ (.tail _ (.tail _ (.tail _ (List.mem_append.mpr (.inr (by k_mem))))))
 have inR : ∀ p ∈ ((Dp, instObj 31 px) :: (px, dictOf [⟨e1, .str "do" te1, .ref fDo⟩, ⟨e2, .str "test" te2, .ref fTest⟩, ⟨e3, .str "number" te3, .ref fNum⟩, ⟨e4, .str "put" te4, .ref fPut⟩] 4) :: (fDo, fnO fd1) :: (fTest, fnO fd2) :: (fNum, fnO fd3) :: (fPut, fnO fd4) :: (lgA, listOf #[] ng) :: (Wa, oW) :: (L' + 1, q1) :: (L' + 2, q2) :: (L' + 3, q3) :: TT), p ∈ (Cd, instObj 138 cx) :: (cx, dictOf [⟨c1, .str "ops" tc1, .ref Tp⟩, ⟨c2, .str "begins" tc2, .ref Bg⟩] 2) :: (Tp, tup vs) :: (203, tabObj tabF') :: (tl' ++ ((Dp, instObj 31 px) :: (px, dictOf [⟨e1, .str "do" te1, .ref fDo⟩, ⟨e2, .str "test" te2, .ref fTest⟩, ⟨e3, .str "number" te3, .ref fNum⟩, ⟨e4, .str "put" te4, .ref fPut⟩] 4) :: (fDo, fnO fd1) :: (fTest, fnO fd2) :: (fNum, fnO fd3) :: (fPut, fnO fd4) :: (lgA, listOf #[] ng) :: (Wa, oW) :: (L' + 1, q1) :: (L' + 2, q2) :: (L' + 3, q3) :: TT)) := fun p hp => .tail _ (.tail _ (.tail _ (.tail _ (List.mem_append.mpr (.inr hp)))))
 have tupO : ∀ p ∈ tl', p.2.cls = .type "tuple" → p ∈ tlO := fun p hp hc => hO1 p hp (news_ne N9 (inT p hp) inW (by rw [hc, hWc]; simp)) (news_ne N9 (inT p hp) inL (by rw [hc]; simp))
 have nWR : NeAll Wa ((Cd, instObj 138 cx) :: (cx, dictOf [⟨c1, .str "ops" tc1, .ref Tp⟩, ⟨c2, .str "begins" tc2, .ref Bg⟩] 2) :: (Tp, tup vs) :: (Dp, instObj 31 px) :: (px, dictOf [⟨e1, .str "do" te1, .ref fDo⟩, ⟨e2, .str "test" te2, .ref fTest⟩, ⟨e3, .str "number" te3, .ref fNum⟩, ⟨e4, .str "put" te4, .ref fPut⟩] 4) :: (fDo, fnO fd1) :: (fTest, fnO fd2) :: (fNum, fnO fd3) :: (fPut, fnO fd4) :: (L' + 1, q1) :: (L' + 2, q2) :: (L' + 3, q3) :: (tlO ++ TT)) := ⟨fc (news_ne N9 (.head _) inW (by rw [hWc]; simp)) (fc (fun e => ncx.all (Wa, oW) (by k_mem) e.symm) (fc (news_ne N9 (.tail _ (.tail _ (.head _))) inW (by rw [hWc]; simp)) (by
  (repeat (refine fc (cW.all _ (by k_mem)) ?_))
  intro p hp
  rcases List.mem_append.mp hp with hp | hp
  ·exact (hO2 p hp).2.1
  ·exact cW.all p (by (repeat (first | exact hp | exact mKt hp | exact mKt (mKt hp) | exact mKt (mKt (mKt hp)) | refine' mK4 rfl ?_ | refine' mK1 rfl ?_))))))⟩
 have nLR : NeAll lgA ((Cd, instObj 138 cx) :: (cx, dictOf [⟨c1, .str "ops" tc1, .ref Tp⟩, ⟨c2, .str "begins" tc2, .ref Bg⟩] 2) :: (Tp, tup vs) :: (Dp, instObj 31 px) :: (px, dictOf [⟨e1, .str "do" te1, .ref fDo⟩, ⟨e2, .str "test" te2, .ref fTest⟩, ⟨e3, .str "number" te3, .ref fNum⟩, ⟨e4, .str "put" te4, .ref fPut⟩] 4) :: (fDo, fnO fd1) :: (fTest, fnO fd2) :: (fNum, fnO fd3) :: (fPut, fnO fd4) :: (L' + 1, q1) :: (L' + 2, q2) :: (L' + 3, q3) :: (tlO ++ TT)) := ⟨fc (news_ne N9 (.head _) inL (by simp)) (fc (news_ne N9 (.tail _ (.head _)) inL (by simp)) (fc (news_ne N9 (.tail _ (.tail _ (.head _))) inL (by simp)) (by
  (repeat (refine fc (cL.all _ (by k_mem)) ?_))
  intro p hp
  rcases List.mem_append.mp hp with hp | hp
  ·exact (hO2 p hp).2.2
  ·exact cL.all p (by (repeat (first | exact hp | exact mKt hp | exact mKt (mKt hp) | exact mKt (mKt (mKt hp)) | refine' mK4 rfl ?_ | refine' mK1 rfl ?_))))))⟩
 have subR : ∀ p ∈ tlD, p ∈ ((Cd, instObj 138 cx) :: (cx, dictOf [⟨c1, .str "ops" tc1, .ref Tp⟩, ⟨c2, .str "begins" tc2, .ref Bg⟩] 2) :: (Tp, tup vs) :: (Dp, instObj 31 px) :: (px, dictOf [⟨e1, .str "do" te1, .ref fDo⟩, ⟨e2, .str "test" te2, .ref fTest⟩, ⟨e3, .str "number" te3, .ref fNum⟩, ⟨e4, .str "put" te4, .ref fPut⟩] 4) :: (fDo, fnO fd1) :: (fTest, fnO fd2) :: (fNum, fnO fd3) :: (fPut, fnO fd4) :: (L' + 1, q1) :: (L' + 2, q2) :: (L' + 3, q3) :: (tlO ++ TT)) := fun p hp => List.mem_append.mpr (.inr (sub p hp) : p ∈ tlO ∨ p ∈ TT) |> fun h => by (repeat (first | exact h | exact mKt h | exact mKt (mKt h) | exact mKt (mKt (mKt h)) | refine' mK4 rfl ?_ | refine' mK1 rfl ?_))
 have cops : COpsIn ((Cd, instObj 138 cx) :: (cx, dictOf [⟨c1, .str "ops" tc1, .ref Tp⟩, ⟨c2, .str "begins" tc2, .ref Bg⟩] 2) :: (Tp, tup vs) :: (Dp, instObj 31 px) :: (px, dictOf [⟨e1, .str "do" te1, .ref fDo⟩, ⟨e2, .str "test" te2, .ref fTest⟩, ⟨e3, .str "number" te3, .ref fNum⟩, ⟨e4, .str "put" te4, .ref fPut⟩] 4) :: (fDo, fnO fd1) :: (fTest, fnO fd2) :: (fNum, fnO fd3) :: (fPut, fnO fd4) :: (L' + 1, q1) :: (L' + 2, q2) :: (L' + 3, q3) :: (tlO ++ TT)) vs prog := (hacs.mono subR).ops (hops9.tups fun p hp hc => by
  have h : p ∈ tlO ++ TT := List.mem_append.mpr (.inl (tupO p hp hc))
  (repeat (first | exact h | exact mKt h | exact mKt (mKt h) | exact mKt (mKt (mKt h)) | refine' mK4 rfl ?_ | refine' mK1 rfl ?_)))
 have dok := hdeeds ((Cd, instObj 138 cx) :: (cx, dictOf [⟨c1, .str "ops" tc1, .ref Tp⟩, ⟨c2, .str "begins" tc2, .ref Bg⟩] 2) :: (Tp, tup vs) :: (Dp, instObj 31 px) :: (px, dictOf [⟨e1, .str "do" te1, .ref fDo⟩, ⟨e2, .str "test" te2, .ref fTest⟩, ⟨e3, .str "number" te3, .ref fNum⟩, ⟨e4, .str "put" te4, .ref fPut⟩] 4) :: (fDo, fnO fd1) :: (fTest, fnO fd2) :: (fNum, fnO fd3) :: (fPut, fnO fd4) :: (L' + 1, q1) :: (L' + 2, q2) :: (L' + 3, q3) :: (tlO ++ TT)) nWR nLR (by
  (repeat (refine fc (by k_mem) ?_))
  intro p hp
  have h : p ∈ tlO ++ TT := List.mem_append.mpr (.inr hp)
  (repeat (first | exact h | exact mKt h | exact mKt (mKt h) | exact mKt (mKt (mKt h)) | refine' mK4 rfl ?_ | refine' mK1 rfl ?_)))
 have hWl : NeA Wa lgA := ⟨cL.all (Wa, oW) (.head _)⟩
 have N7 : News g L' h9 ((Cd, instObj 138 cx) :: (cx, dictOf [⟨c1, .str "ops" tc1, .ref Tp⟩, ⟨c2, .str "begins" tc2, .ref Bg⟩] 2) :: (Tp, tup vs) :: (203, tabObj tabF') :: (Dp, instObj 31 px) :: (px, dictOf [⟨e1, .str "do" te1, .ref fDo⟩, ⟨e2, .str "test" te2, .ref fTest⟩, ⟨e3, .str "number" te3, .ref fNum⟩, ⟨e4, .str "put" te4, .ref fPut⟩] 4) :: (fDo, fnO fd1) :: (fTest, fnO fd2) :: (fNum, fnO fd3) :: (fPut, fnO fd4) :: (lgA, listOf #[] ng) :: (Wa, oW) :: (L' + 1, q1) :: (L' + 2, q2) :: (L' + 3, q3) :: (tl' ++ TT)) := fun p hp => N9 p (by
  revert p
  refine fc (.head _) (fc (.tail _ (.head _)) (fc (.tail _ (.tail _ (.head _))) (fc (.tail _ (.tail _ (.tail _ (.head _)))) ?_)))
  (repeat (refine fc (inR _ (by k_mem)) ?_))
  intro p hp
  rcases List.mem_append.mp hp with hp | hp
  ·exact inT p hp
  ·exact inR p (by (repeat (first | exact hp | exact mKt hp | exact mKt (mKt hp) | exact mKt (mKt (mKt hp)) | refine' mK4 rfl ?_ | refine' mK1 rfl ?_))))
 have LTO : LamTab posF qualF tabF' tlO := LTF9.to fun p hp ⟨vs', hd, _⟩ => hO1 p hp
  (fun e => by
   refine ex2 (wh_data hW) ?_
   intro es ep hd'
   have e1 := (N9 p (inT p hp)).1
   have e2 := (N9 _ inW).1
   rw [e, e2] at e1
   rw [← Option.some.inj e1, hd'] at hd; cases hd)
  (fun e => by
   have e1 := (N9 p (inT p hp)).1
   have e2 := (N9 _ inL).1
   rw [e, e2] at e1
   rw [← Option.some.inj e1] at hd; cases hd)
 clear N9
 have CC := fun tli => run_code_c w names prog nst ⟨0, none, W0, [], ""⟩ fin (tl := ((Cd, instObj 138 cx) :: (cx, dictOf [⟨c1, .str "ops" tc1, .ref Tp⟩, ⟨c2, .str "begins" tc2, .ref Bg⟩] 2) :: (Tp, tup vs) :: (Dp, instObj 31 px) :: (px, dictOf [⟨e1, .str "do" te1, .ref fDo⟩, ⟨e2, .str "test" te2, .ref fTest⟩, ⟨e3, .str "number" te3, .ref fNum⟩, ⟨e4, .str "put" te4, .ref fPut⟩] 4) :: (fDo, fnO fd1) :: (fTest, fnO fd2) :: (fNum, fnO fd3) :: (fPut, fnO fd4) :: (L' + 1, q1) :: (L' + 2, q2) :: (L' + 3, q3) :: (tlO ++ TT))) (Cd := Cd) (cx := cx) (T := Tp) (Bg := Bg) (Dp := Dp) (px := px) (tli := tli) (nl := ng) (by k_mem) (by k_mem) (by k_mem) cops hways (by k_mem) (by k_mem) (by k_mem) (by k_mem) (by k_mem) (by k_mem) dok nWR nLR hWl lo hW hWn hnm hpr rfl rfl rfl rfl hr hst
 repeat' (first | ((fail_if_success (with_reducible show wpAny _ _ (call (Value.ref 657) _) _ _ _)); first | keq_rows | keq_hits | ((k_here; (with_reducible show wpAny _ _ (eval (Expr.Name _ _) (compEnvC _ _ _ _)) _ _ _); k_dflt (first   | (refine' LCgL.ld_own ?N ?hm ?hC ?hx ?_; (case N => k_asm); (case hm => k_mem); (case hC => assumption); (case hx => assumption))   | (refine' nameCC ?N ?hc ?hm ?hd ?_; (case N => k_asm); (case hc => exact rfl); (case hm => k_mem); (case hd => assumption); k_whole)   | (refine' LCgL.ld_global ?F ?X ?T ?e ?_; (case F => k_asm); (case X => k_asm); (case T => k_asm); (case e => k_is))))) | ((k_here; (with_reducible show wpAny _ _ (subscriptTail _ _ (Value.ref _) (Value.str _ _)) _ _ _); k_dflt (refine' wh_get ?N ?hm ?hW ?lo ?hx ?_ ?hs ?hg; (case N => k_asm); (case hm => k_mem); (case hW => assumption); (case lo => assumption); (case hx => assumption); (case hs => with_unfolding_all rfl); (case hg => (intros; with_unfolding_all rfl)); k_whole); intros)) | (k_unfold; (try dsimp only)) | (k_end; wrow_close) | walk1 | (dsimp only; walk1) | (leave1; try dsimp only)) | fail "no")
 rename News _ _ _ _ => N8
 rename Fr _ _ _ _ => F8
 have reg : ∀ p ∈ tlO ++ TT, p ∈ tl' ++ TT := fun p hp => (List.mem_append.mp hp).elim (fun h => List.mem_append.mpr (.inl (hO2 p h).1)) (fun h => List.mem_append.mpr (.inr h))
 k_dflt (refine' run_use (rest := ((L' + 1, q1) :: (L' + 2, q2) :: (L' + 3, q3) :: (203, tabObj tabF') :: (tlO ++ TT))) (CC _) ?B F8 ?X N8 ?T ?kK ?kd ?ku ?hn ?hr ?_)
 case B => k_asm
 case X => k_asm
 case T => k_asm
 case kK => exact rfl
 case kd => ktr_room
 case ku => ktr_units
 case hn =>
  (repeat (refine fc (by k_mem) ?_))
  intro p hp
  have h := reg p hp
  (repeat (first | exact h | exact mKt h | exact mKt (mKt h) | exact mKt (mKt (mKt h)) | refine' mK4 rfl ?_ | refine' mK1 rfl ?_))
 case hr =>
  refine rest_of ?_ ?_ ?_
  ·exact ⟨fc (cW.all _ (by k_mem)) (fc (cW.all _ (by k_mem)) (fc (cW.all _ (by k_mem)) (fc (cW.all (203, tabObj tabF) (by k_mem)) (fun p hp => nWR.all p (by (repeat (first | exact hp | exact mKt hp | exact mKt (mKt hp) | exact mKt (mKt (mKt hp)) | refine' mK4 rfl ?_ | refine' mK1 rfl ?_)))))))⟩
  ·exact ⟨fc (cL.all _ (by k_mem)) (fc (cL.all _ (by k_mem)) (fc (cL.all _ (by k_mem)) (fc (cL.all (203, tabObj tabF) (by k_mem)) (fun p hp => nLR.all p (by (repeat (first | exact hp | exact mKt hp | exact mKt (mKt hp) | exact mKt (mKt (mKt hp)) | refine' mK4 rfl ?_ | refine' mK1 rfl ?_)))))))⟩
  ·(repeat (refine fc (by k_mem) ?_))
   intro p hp
   have h := reg p hp
   (repeat (first | exact h | exact mKt h | exact mKt (mKt h) | exact mKt (mKt (mKt h)) | refine' mK4 rfl ?_ | refine' mK1 rfl ?_))
 intro tw oW9 lg9 nl9 tl9 h8 tk8 F9 N9 hW9 hL9 sub8
 clear N8 F8 CC
 have p1 : ∀ p ∈ tlO ++ TT, p ∈ (Wa, oW9) :: (lgA, listOf (lg9 : List Value).toArray nl9) :: (tl9 ++ ((L' + 1, q1) :: (L' + 2, q2) :: (L' + 3, q3) :: (203, tabObj tabF') :: (tlO ++ TT))) := fun p hp => .tail _ (.tail _ (List.mem_append.mpr (.inr (.tail _ (.tail _ (.tail _ (.tail _ hp)))))))
 have N7 : News g L' h8 ((Wa, oW9) :: (lgA, listOf (lg9 : List Value).toArray nl9) :: (L' + 1, q1) :: (L' + 2, q2) :: (L' + 3, q3) :: (203, tabObj tabF') :: (nA, listOf nvs.toArray nn) :: (tl9 ++ (tlO ++ TT))) := fun p hp => N9 p (by
  revert p
  refine fc (.head _) (fc (.tail _ (.head _)) (fc (.tail _ (.tail _ (List.mem_append.mpr (.inr (by k_mem))))) (fc (.tail _ (.tail _ (List.mem_append.mpr (.inr (by k_mem))))) (fc (.tail _ (.tail _ (List.mem_append.mpr (.inr (by k_mem))))) (fc (.tail _ (.tail _ (List.mem_append.mpr (.inr (by k_mem))))) (fc (p1 _ (List.mem_append.mpr (.inr hnA))) ?_))))))
  intro p hp
  rcases List.mem_append.mp hp with hp | hp
  ·exact .tail _ (.tail _ (List.mem_append.mpr (.inl hp)))
  ·exact p1 p hp)
 clear N9
 generalize hX9 : tl9 ++ (tlO ++ TT) = TX at N7
 repeat' (first | ((fail_if_success (with_reducible show wpAny _ _ (eval (.ListComp _ _ _ _) _) _ _ _)); first | keq_rows | keq_hits | ((k_here; (with_reducible show wpAny _ _ (eval (Expr.Name _ _) (compEnvC _ _ _ _)) _ _ _); k_dflt (first   | (refine' LCgL.ld_own ?N ?hm ?hC ?hx ?_; (case N => k_asm); (case hm => k_mem); (case hC => assumption); (case hx => assumption))   | (refine' nameCC ?N ?hc ?hm ?hd ?_; (case N => k_asm); (case hc => exact rfl); (case hm => k_mem); (case hd => assumption); k_whole)   | (refine' LCgL.ld_global ?F ?X ?T ?e ?_; (case F => k_asm); (case X => k_asm); (case T => k_asm); (case e => k_is))))) | ((k_here; (with_reducible show wpAny _ _ (subscriptTail _ _ (Value.ref _) (Value.str _ _)) _ _ _); k_dflt (refine' wh_get ?N ?hm ?hW ?lo ?hx ?_ ?hs ?hg; (case N => k_asm); (case hm => k_mem); (case hW => assumption); (case lo => assumption); (case hx => assumption); (case hs => with_unfolding_all rfl); (case hg => (intros; with_unfolding_all rfl)); k_whole); intros)) | (k_unfold; (try dsimp only)) | (k_end; wrow_close) | walk1 | (dsimp only; walk1) | (leave1; try dsimp only)) | fail "no")
 have hWc9 := wh_cls hW9
 have z1 : NeA Wa lgA := hWl
 k_here
 k_dflt (refine LCg.ListComp_U (F₀ := by k_asm) (by rfl) (by decide) (by rfl) (by decide) (by rfl) ?_)
 iterate 1 (first | (k_unfold; try dsimp only) | walk1 | (dsimp only; walk1))
 refine LCg.CompSrc.ledger (by rfl) (by k_asm) (by k_asm) (by k_mem) ?sz ?hc
 case sz => rw [List.size_toArray, sizeLine_eq, hnv.length]; lia
 case hc =>
  intro g''
  refine comp_induct (J := fun i ys news => IntsAre ys ((names.take i).map fun n => (fin.W.lookup n).getD 0) ∧ news = (Wa, oW9) :: (lgA, listOf (lg9 : List Value).toArray nl9) :: (L' + 1, q1) :: (L' + 2, q2) :: (L' + 3, q3) :: (203, tabObj tabF') :: (nA, listOf nvs.toArray nn) :: TX) ?step ?fin _ 0 [] _ (Nat.zero_add _) ?init
  case init => exact ⟨.nil, rfl⟩
  case step =>
   rintro i ys news hi ⟨hys, rfl⟩ v I oI C oC D' m₂ h tk E' hv' hC hx F N off ne
   have hv' : nvs[i]? = some v := by simpa using hv'
   refine ex2 (strs_at hnv hv') ?_
   intro n t hX9
   with_reducible refine an2 hX9 ?_
   clear hX9
   intro hn1 hR9
   subst hR9
   refine an3 (off3_all off) ?_
   intro n1 n2 n3
   refine an3 (ne3_all ne) ?_
   intro n4 n5 n6
   obtain ⟨x, hx1⟩ := Option.isSome_iff_exists.mp (hfn n (List.mem_of_getElem? hn1))
   repeat' (first | keq_rows | keq_hits | ((k_here; (with_reducible show wpAny _ _ (eval (Expr.Name _ _) (compEnvC _ _ _ _)) _ _ _); k_dflt (first   | (refine' LCgL.ld_own ?N ?hm ?hC ?hx ?_; (case N => k_asm); (case hm => k_mem); (case hC => assumption); (case hx => assumption))   | (refine' nameCC ?N ?hc ?hm ?hd ?_; (case N => k_asm); (case hc => exact rfl); (case hm => k_mem); (case hd => assumption); k_whole)   | (refine' LCgL.ld_global ?F ?X ?T ?e ?_; (case F => k_asm); (case X => k_asm); (case T => k_asm); (case e => k_is))))) | ((k_here; (with_reducible show wpAny _ _ (subscriptTail _ _ (Value.ref _) (Value.str _ _)) _ _ _); k_dflt (refine' wh_get ?N ?hm ?hW ?lo ?hx ?_ ?hs ?hg; (case N => k_asm); (case hm => k_mem); (case hW => assumption); (case lo => assumption); (case hx => assumption); (case hs => with_unfolding_all rfl); (case hg => (intros; with_unfolding_all rfl)); k_whole); intros)) | (k_unfold; (try dsimp only)) | (k_end; wrow_close) | walk1 | (dsimp only; walk1) | (leave1; try dsimp only) | fail "no")
   rename News _ _ _ _ => N8
   refine' compEnd_of ?F N8 off rfl ?S ?r
   case F => k_asm
   case S => exact .inr ⟨_, by k_mem, rfl, _, rfl⟩
   case r =>
    refine ⟨?_, rfl⟩
    have e : names.take (i + 1) = names.take i ++ [n] := by simp [List.take_add_one, hn1]
    rw [e, List.map_append]
    refine IntsAre.append hys ?_
    simp only [List.map_cons, List.map_nil, hx1, Option.getD_some]
    exact .cons _ _ .nil
  case fin =>
   rintro ys news ⟨hys, rfl⟩
   unfold LCg.FinE
   intro Dl h tk F N o1
   replace o1 := off1_all o1
   (try k_unmd)
   (try dsimp only)
   repeat' (first | keq_rows | keq_hits | ((k_here; (with_reducible show wpAny _ _ (eval (Expr.Name _ _) (compEnvC _ _ _ _)) _ _ _); k_dflt (first   | (refine' LCgL.ld_own ?N ?hm ?hC ?hx ?_; (case N => k_asm); (case hm => k_mem); (case hC => assumption); (case hx => assumption))   | (refine' nameCC ?N ?hc ?hm ?hd ?_; (case N => k_asm); (case hc => exact rfl); (case hm => k_mem); (case hd => assumption); k_whole)   | (refine' LCgL.ld_global ?F ?X ?T ?e ?_; (case F => k_asm); (case X => k_asm); (case T => k_asm); (case e => k_is))))) | ((k_here; (with_reducible show wpAny _ _ (subscriptTail _ _ (Value.ref _) (Value.str _ _)) _ _ _); k_dflt (refine' wh_get ?N ?hm ?hW ?lo ?hx ?_ ?hs ?hg; (case N => k_asm); (case hm => k_mem); (case hW => assumption); (case lo => assumption); (case hx => assumption); (case hs => with_unfolding_all rfl); (case hg => (intros; with_unfolding_all rfl)); k_whole); intros)) | (k_unfold; (try dsimp only)) | (k_end; wrow_close) | walk1 | (dsimp only; walk1) | (leave1; try dsimp only) | fail "no")
   rename News _ _ _ _ => N8
   rename Fr _ _ _ _ => F8
   have e9 : names.take nvs.toArray.size = names := by rw [List.size_toArray, hnv.length, List.take_length]
   rw [e9] at hys
   have inX : ∀ p ∈ TX, p ∈ (Wa, oW9) :: (lgA, listOf (lg9 : List Value).toArray nl9) :: (L' + 1, q1) :: (L' + 2, q2) :: (L' + 3, q3) :: (203, tabObj tabF') :: (nA, listOf nvs.toArray nn) :: TX := fun p hp => .tail _ (.tail _ (.tail _ (.tail _ (.tail _ (.tail _ (.tail _ hp))))))
   refine hret _ tw lg9 nl9 Dl ys _ tabF' _ _ _ _ ((tl9.filter fun p => decide (p.1 ≠ 203)) ++ (tlO ++ TT)) F8 N8 (by k_mem) (by k_mem) (by k_mem) hys (hL9.lists fun p hp hc => ?_) ?_ ⟨fun p hp => ?_⟩ (by k_mem) (fun p hp => ?_) (fun p hp => List.mem_append.mpr (.inr (List.mem_append.mpr (.inr hp))))
   ·refine List.mem_append.mpr (.inl (List.mem_filter.mpr ⟨hp, decide_eq_true ?_⟩))
    have m1 : p ∈ TX := hX9 ▸ List.mem_append.mpr (.inl hp)
    exact news_ne (q := (203, tabObj tabF')) N8 (by (repeat (first | exact m1 | exact mKt m1 | exact mKt (mKt m1) | exact mKt (mKt (mKt m1)) | refine' mK4 rfl ?_ | refine' mK1 rfl ?_))) (by k_mem) (by rw [hc]; simp)
   ·exact LTO.to fun p hp _ => List.mem_append.mpr (.inr (List.mem_append.mpr (.inl hp)))
   ·rcases List.mem_append.mp hp with hp | hp
    ·exact of_decide_eq_true (List.mem_filter.mp hp).2
    ·rcases List.mem_append.mp hp with hp | hp
     ·exact n2039.all p (hO2 p hp).1
     ·exact n203.all p hp
   ·have m1 : p ∈ TX := hX9 ▸ (List.mem_append.mp hp).elim (fun h => List.mem_append.mpr (.inl (List.mem_filter.mp h).1)) (fun h => List.mem_append.mpr (.inr h))
    (repeat (first | exact m1 | exact mKt m1 | exact mKt (mKt m1) | exact mKt (mKt (mKt m1)) | refine' mK4 rfl ?_ | refine' mK1 rfl ?_))
 ))only[↓bB]

end R7p
section R7bp
theorem news_one {h₀ h : Heap} {L : Addr} {l : Led} (N : News h₀ L h l) {a : Addr} {o : Obj} (hm : (a, o) ∈ l) : News h₀ L h [(a, o)] := fun p hp => N p (List.mem_singleton.mp hp ▸ hm)
theorem fresh_out {H g : Heap} {b : Addr} {need : Led} (G : GSub H g (need.map (·.1))) (hb : g.get? b = none) (hn : NeAll b need) : H.get? b = none := by
 cases e : H.get? b with
 | none => rfl
 | some o =>
  have := G b o e (fun q => by
   refine ea1_2 (List.mem_map.mp q) ?_
   intro p hp e'
   exact hn.all p hp e')
  rw [hb] at this; cases this
section
variable {w : World} {p : Program} {loose : List Str} {mean : ExcName → Option Value} {mg mb : Str → Option Value} {dp un : Nat} {gd : Option (List Code)} {cn : Str} {cs : Scope} {a : Addr} {ccd : Value} {cl : List (Str × Addr)} {outer : List Env} {A₀ : Around} {base h₀ : Heap} {L : Addr} {m : Str → Option Value} {s : Shared}
 {Q E : Value → Shared → Prop} {news : Led} {G : Obj → Led}
theorem law_put_use {Wa b c ra xa : Addr} {oW : Obj} {W : Wheels} {name way : Str} {u x : Int} {tu tz tx t tn : Tok} {e1 e2 e3 : Value} (hW : WhAt w oW W) (hl : W.length ≤ 1000) (hx : W.lookup name = some x) (hw : way = "+" ∨ way = "=") (lo : (Wa == sysModules) = false)
  (B : Below A₀ base outer h₀) (F : Fr h₀ L s.heap m) (X : Frag.In (Mine.hd.heap_1 w.params) h₀) (N : News h₀ L s.heap news) (T : Top p loose mean mg mb h₀) (hk : cs.kind = .function) (hd : dp + 2 < recursionLimit) (hu : un + 32 < cLine)
  (m1 : (b, tup [.ref c]) ∈ news) (m2 : (c, tup [.ref ra, .bool false, .str way tx]) ∈ news) (m3 : (ra, tup [.str "ref" t, .str name tn, e1, e2, e3]) ∈ news) (m4 : (xa, tup [.int u tu, .int 0 tz]) ∈ news) (U : UpdF Wa oW news G)
  (h : ∀ oW' h' tk', WhAt w oW' (setW W name (u + (if way = "+" then x else 0))) → Fr h₀ L h' m → News h₀ L h' (G oW') → Q (.bool false) { s with heap := h', toks := tk' }) :
  wpAny (model PR w) (ktrTop dp un gd cn cs L a ccd cl outer) (call (.ref 716) [.ref Wa, .ref b, .ref xa]) Q E s := by
 with_reducible refine ex2 U.split ?_
 intro pre post hX9
 with_reducible refine an4 hX9 ?_
 clear hX9
 intro hR9
 subst hR9
 intro hg h1 h2
 have hn' : ∀ q ∈ [(Wa, oW), (b, tup [.ref c]), (c, tup [.ref ra, .bool false, .str way tx]), (ra, tup [.str "ref" t, .str name tn, e1, e2, e3]), (xa, tup [.int u tu, .int 0 tz])], q ∈ pre ++ (Wa, oW) :: post := fc (List.mem_append.mpr (.inr (.head _))) (fc m1 (fc m2 (fc m3 (fc m4 (List.forall_mem_nil _)))))
 refine law_put_c w hW hl hx hw lo p loose mean mg mb dp un gd cn cs a ccd cl outer A₀ base h₀ L m s Q E B F X (fun q hq => N q (hn' q hq)) T hk hd hu ?_
 rintro r out h' tk' F' N' K ⟨rfl, ⟨oW', hW', ho'⟩, ho⟩
 refine h oW' h' tk' hW' F' (hg oW' ▸ news_back N hn' N' K fun q hq => ?_)
 have other : q.1 ≠ Wa → q ∈ pre ++ (Wa, oW) :: post → q ∈ out ∨ (q ∈ pre ++ (Wa, oW) :: post ∧ (q ∈ [(Wa, oW), (b, tup [.ref c]), (c, tup [.ref ra, .bool false, .str way tx]), (ra, tup [.str "ref" t, .str name tn, e1, e2, e3]), (xa, tup [.int u tu, .int 0 tz])] → q ∈ out)) := fun hne hq => .inr ⟨hq, fun h => (List.mem_cons.mp h).elim (fun e => absurd (by rw [e]) hne) (ho q)⟩
 rcases List.mem_append.mp hq with hq | hq
 ·exact other (h1 q hq) (List.mem_append.mpr (.inl hq))
 ·rcases List.mem_cons.mp hq with hq | hq
  ·exact .inl (hq ▸ ho')
  ·exact other (h2 q hq) (List.mem_append.mpr (.inr (.tail _ hq)))
theorem law_noted_use {Wa lgA nA : Addr} {oW : Obj} {W : Wheels} {names : List Str} {nv lg : List Value} {nl nn : Nat} (hW : WhAt w oW W) (hn : ∀ n ∈ names, (W.lookup n).isSome = true) (hv : StrsAre nv names) (hl : lg.length ≤ 10000) (hnl : names.length ≤ 1000) (lo : (Wa == sysModules) = false) (hne : NeA lgA nA)
  (B : Below A₀ base outer h₀) (F : Fr h₀ L s.heap m) (X : Frag.In (Mine.hd.heap_1 w.params) h₀) (N : News h₀ L s.heap news) (T : Top p loose mean mg mb h₀) (hk : cs.kind = .function) (hd : dp + 2 < recursionLimit) (hu : un + 32 < cLine)
  (m1 : (Wa, oW) ∈ news) (m3 : (nA, listOf nv.toArray nn) ∈ news) (U : UpdF lgA (listOf lg.toArray nl) news G)
  (h : ∀ t b its n nl' h' tk', h₀.get? b = none → NeAll b news → IntsAre its (names.map fun n => (W.lookup n).getD 0) → Fr h₀ L h' m → News h₀ L h' ((b, listOf (its : List Value).toArray n) :: G (listOf (lg ++ [Value.ref b]).toArray nl')) → Q (.str "" t) { s with heap := h', toks := tk' }) :
  wpAny (model PR w) (ktrTop dp un gd cn cs L a ccd cl outer) (call (.ref 721) [.ref Wa, .ref lgA, .ref nA]) Q E s := by
 with_reducible refine ex2 U.split ?_
 intro pre post hX9
 with_reducible refine an4 hX9 ?_
 clear hX9
 intro hR9
 subst hR9
 intro hg h1 h2
 have hml : (lgA, listOf lg.toArray nl) ∈ pre ++ (lgA, listOf lg.toArray nl) :: post := List.mem_append.mpr (.inr (.head _))
 have hn' : ∀ q ∈ [(Wa, oW), (lgA, listOf lg.toArray nl), (nA, listOf nv.toArray nn)], q ∈ pre ++ (lgA, listOf lg.toArray nl) :: post := fc m1 (fc hml (fc m3 (List.forall_mem_nil _)))
 refine law_noted_c w hW hn hv hl hnl lo hne p loose mean mg mb dp un gd cn cs a ccd cl outer A₀ base h₀ L m s Q E B F X (fun q hq => N q (hn' q hq)) T hk hd hu ?_
 rintro r out h' tk' F' N' K ⟨⟨t, rfl⟩, ⟨b, its, n, nl', hb, hi, hbo, hlo⟩, ho1, ho2⟩
 refine h t b its n nl' h' tk' (by
  cases e : h₀.get? b with
  | none => rfl
  | some o => rw [F.keep b o e] at hb; cases hb) ⟨fun q hq e => by
   have := (N q hq).1
   rw [e, hb] at this; cases this⟩ hi F' (fun q hq => ?_)
 rcases List.mem_cons.mp hq with hq | hq
 ·exact N' q (hq ▸ hbo)
 rw [hg] at hq
 refine news_back (rest := pre ++ (lgA, listOf (lg ++ [Value.ref b]).toArray nl') :: post) N hn' N' K (fun q hq => ?_) q hq
 have other : q.1 ≠ lgA → q ∈ pre ++ (lgA, listOf lg.toArray nl) :: post → q ∈ out ∨ (q ∈ pre ++ (lgA, listOf lg.toArray nl) :: post ∧ (q ∈ [(Wa, oW), (lgA, listOf lg.toArray nl), (nA, listOf nv.toArray nn)] → q ∈ out)) := fun hne hq => .inr ⟨hq, fun h => by
  rcases List.mem_cons.mp h with e | h
  ·exact e ▸ ho1
  ·rcases List.mem_cons.mp h with e | h
   ·exact absurd (by rw [e]) hne
   ·rw [List.mem_singleton.mp h]; exact ho2⟩
 rcases List.mem_append.mp hq with hq | hq
 ·exact other (h1 q hq) (List.mem_append.mpr (.inl hq))
 ·rcases List.mem_cons.mp hq with hq | hq
  ·exact .inl (hq ▸ hlo)
  ·exact other (h2 q hq) (List.mem_append.mpr (.inr (.tail _ hq)))
end
theorem exec_at {M : Model} {A : Around} {E : Value → Shared → Prop} {s : Shared} {Q : Flow → Shared → Prop} {K : Frag} {f : Addr} {oc : Value} {od : Option Addr} {osl : Array (Option Value)} {name qual nm : Str} {params : Arguments} {body : List Stmt} {scope sc : Scope} {st : Stmt} {dV kV doc pm cdv ct : Value} {an : Option Addr} {i : Nat} {L a : Addr} {cd : Value}
  (ho : K.lookup f = some ⟨oc, od, .func (fnOf name qual params body scope dV kV doc pm an cdv ct), osl⟩) (hs : body.getD i default = st) (hsc : scope = sc) (h : wpAny M (A.deeper (envOfC nm (scopeAt K f) L a cd)) (exec (stmtAt K f i) (envOfC nm (scopeAt K f) L a cd)) Q E s) :
  wpAny M (A.deeper (envOfC nm sc L a cd)) (exec st (envOfC nm sc L a cd)) Q E s := by
 have e1 : scopeAt K f = scope := by unfold scopeAt; rw [ho]
 have e2 : stmtAt K f i = body.getD i default := by unfold stmtAt; rw [ho]
 rw [e1, e2, hs, hsc] at h
 exact h
theorem LamTab.mono {pos : Pos} {qual : Str} {tab : Array Value} {tl tl' : Led} (h : LamTab pos qual tab tl) (hs : ∀ p ∈ tl, p ∈ tl') : LamTab pos qual tab tl' := h.to fun p hp _ => hs p hp
theorem triples_one {l : List Value} (h : TriplesOk l) {s : Str} {t : Tok} : l[1]? ≠ some (.str s t) := by
 intro e
 cases l with
 | nil => cases e
 | cons a l =>
 cases l with
 | nil => cases e
 | cons b l =>
 have e : b = .str s t := Option.some.inj e
 subst e
 cases a <;> cases l <;> exact (h : False).elim
theorem tab_off {h₀ h : Heap} {L P : Addr} {news : Led} {tb : Array Value} {p : Addr × Obj} (N : News h₀ L h news) (ok : TriplesOk tb.toList) (hP : (P, tabObj tb) ∈ news) (hp : p ∈ news) (hd : ∃ vs, p.2.data = .fields vs ∧ ∃ s t, vs[1]? = some (.str s t)) : p.1 ≠ P := by
 intro e
 obtain ⟨vs, hd, s, t, hv⟩ := hd
 have e1 := (N p hp).1
 have e2 := (N _ hP).1
 rw [e, e2] at e1
 rw [← Option.some.inj e1] at hd
 have : vs = tb := by cases hd; rfl
 subst this
 exact triples_one ok (by rw [Array.getElem?_toList]; exact hv)
end R7bp
section R6p
noncomputable abbrev posA : Pos := { line := 564, col := 10, endLine := 564, endCol := 57 }
noncomputable abbrev posB : Pos := { line := 565, col := 18, endLine := 565, endCol := 60 }
noncomputable abbrev posC : Pos := { line := 565, col := 67, endLine := 565, endCol := 93 }
noncomputable abbrev posD : Pos := { line := 565, col := 95, endLine := 565, endCol := 144 }
noncomputable abbrev qualR : Str := ("_law_run" : Str) ++ ".<locals>." ++ "<lambda>"
theorem run_tail8 (w : World) {p : Program} {loose : List Str} {mean : ExcName → Option Value} {mg mb : Str → Option Value} {dp un : Nat} {gd : Option (List Code)} {cn : Str} {cs : Scope} {L a : Addr} {ccd : Value} {cl : List (Str × Addr)} {outer : List Env} {base g : Heap} {L' : Addr} {m : Str → Option Value} {s : Shared} {E : Value → Shared → Prop} {Q : Flow → Shared → Prop}
  {D dx oA pA hA nA Wa lgA : Addr} {oW : Obj} {ng : Nat} {k : DK5} {pr sl : Value} {os ps nvs : List Value} {no np nh nn : Nat} {tabF tabR : Array Value} {q1 q2 q3 : Obj} {TT tlD : Led} {aops : List AOp} {pls : List Int} {nst : Nat} {fin : AM} (prog : List COp) (rows : List Row) (h1 : 1 ≤ rows.length) (h3 : rows.length ≤ 3)
  (hq1 : q1.data = .cell (some (.ref nA))) (hq2 : q2.data = .cell (some (.ref lgA))) (hq3 : q3.data = .cell (some (.ref Wa))) (hW : WhAt w oW (wls 77 77 77)) (lo : (Wa == sysModules) = false) (hnA : (nA, listOf nvs.toArray nn) ∈ TT) (hnv : StrsAre nvs (wnames rows.length))
  (hops : OpsIn tlD os aops) (hps : IntsAre ps pls) (hne : NeA oA pA) (sub : ∀ p ∈ tlD, p ∈ TT) (kin : ∀ p ∈ tlD, p.2.cls = .type "tuple") (hlen : os.length ≤ 1000) (hlab : ∀ o ∈ aops, labOk pls.length o) (hpl : pls.length ≤ 1000) (hacs : ACs tlD (aops.map (relab pls)) prog) (hways : ways prog) (hpr : prog.length ≤ 1000)
  (hr : Runs (wnames rows.length) prog nst ⟨0, none, wls 77 77 77, [], ""⟩ fin) (hst : nst ≤ 6000) (hfw : fin.W.length ≤ 1000) (hfn : ∀ n ∈ wnames rows.length, (fin.W.lookup n).isSome = true) (hfl : fin.log.length ≤ 10000)
  (hret : ∀ Rt tw lg9 nl9 Dl ys nD tabF' tabR' h' tk' m' out tx, Fr g L' h' m' → News g L' h' out → (Rt, tup [.str fin.word tw, .ref lgA, .ref Dl]) ∈ out → (lgA, listOf (lg9 : List Value).toArray nl9) ∈ out → (Dl, listOf (ys : List Value).toArray nD) ∈ out → IntsAre ys ((wnames rows.length).map fun n => (fin.W.lookup n).getD 0) → LogIn tx lg9 fin.log → LamTab posF qualF tabF' tx →
   LamTab posA qualR tabR' tx → LamTab posB qualR tabR' tx → LamTab posC qualR tabR' tx → LamTab posD qualR tabR' tx → NeAll 203 tx → NeAll 735 tx → (203, tabObj tabF') ∈ out → (735, tabObj tabR') ∈ out → (∀ p ∈ tx, p ∈ out) → (∀ p ∈ TT, p ∈ tx) → Q (.ret (.ref Rt)) { s with heap := h', toks := tk' })
  (LTA : LamTab posA qualR tabR TT) (LTB : LamTab posB qualR tabR TT) (LTC : LamTab posC qualR tabR TT) (LTD : LamTab posD qualR tabR TT) (LTF : LamTab posF qualF tabF TT)
  (n735 : NeAll 735 ((203, tabObj tabF) :: (D, instObj 209 dx) :: (dx, dictOf (draftD k pr (.ref oA) (.ref pA) sl (.ref hA)) 5) :: (oA, listOf os.toArray no) :: (pA, listOf ps.toArray np) :: (hA, listOf #[] nh) :: TT)) (n203 : NeAll 203 ((735, tabObj tabR) :: (D, instObj 209 dx) :: (dx, dictOf (draftD k pr (.ref oA) (.ref pA) sl (.ref hA)) 5) :: (oA, listOf os.toArray no) :: (pA, listOf ps.toArray np) :: (hA, listOf #[] nh) :: TT))
  (cW : NeAll Wa ((L' + 1, q1) :: (L' + 2, q2) :: (L' + 3, q3) :: (203, tabObj tabF) :: (735, tabObj tabR) :: (D, instObj 209 dx) :: (dx, dictOf (draftD k pr (.ref oA) (.ref pA) sl (.ref hA)) 5) :: (oA, listOf os.toArray no) :: (pA, listOf ps.toArray np) :: (hA, listOf #[] nh) :: TT))
  (cL : NeAll lgA ((Wa, oW) :: (L' + 1, q1) :: (L' + 2, q2) :: (L' + 3, q3) :: (203, tabObj tabF) :: (735, tabObj tabR) :: (D, instObj 209 dx) :: (dx, dictOf (draftD k pr (.ref oA) (.ref pA) sl (.ref hA)) 5) :: (oA, listOf os.toArray no) :: (pA, listOf ps.toArray np) :: (hA, listOf #[] nh) :: TT))
  (a735 : NeA (L' + 1) 735) (b735 : NeA (L' + 2) 735) (e735 : NeA (L' + 3) 735) (a203 : NeA (L' + 1) 203) (b203 : NeA (L' + 2) 203) (e203 : NeA (L' + 3) 203)
  (B : Below (ktrTop dp un gd cn cs L a ccd cl outer) base (envX cn cs L a ccd cl :: outer) g) (X : Frag.In (Mine.hd.heap_1 w.params) g) (T : Top p loose mean mg mb g) (hdp : dp + 14 < recursionLimit) (hun : un + 250 < cLine)
  (C1 : CodeHd base 205 203) (C2 : CodeHd base 737 735)
  (hE : PassesOwn (model PR w) ((ktrTop dp un gd cn cs L a ccd cl outer).deeper (envR (Mine.hd.heap_1 w.params) L')) (envR (Mine.hd.heap_1 w.params) L') E)
  (F : Fr g L' s.heap m) (hk : ∀ p ∈ ([("draft", .ref D)] : List (Str × Value)), m p.1 = some p.2)
  (N : News g L' s.heap ((lgA, listOf #[] ng) :: (Wa, oW) :: (L' + 1, q1) :: (L' + 2, q2) :: (L' + 3, q3) :: (203, tabObj tabF) :: (735, tabObj tabR) :: (D, instObj 209 dx) :: (dx, dictOf (draftD k pr (.ref oA) (.ref pA) sl (.ref hA)) 5) :: (oA, listOf os.toArray no) :: (pA, listOf ps.toArray np) :: (hA, listOf #[] nh) :: TT)) :
  wpAny (model PR w) ((ktrTop dp un gd cn cs L a ccd cl outer).deeper (envR (Mine.hd.heap_1 w.params) L')) (execs (bodyFrom (Mine.hd.heap_1 w.params) 738 8) (envR (Mine.hd.heap_1 w.params) L')) Q E s := by
 refine uB ?_
 simp(disch:=k_dflt(
 refine iB ?_
 have hE0 := hE
 replace F := ksw_fr (m₀ := m) (stored := []) hk (fun _ _ _ => rfl) F
 dsimp only [kstB] at F
 have p735 : ∀ p ∈ TT, p.1 ≠ 735 := fun p hp => n735.all p (by (repeat (first | exact hp | exact mKt hp | exact mKt (mKt hp) | exact mKt (mKt (mKt hp)) | refine' mK4 rfl ?_ | refine' mK1 rfl ?_)))
 have p203 : ∀ p ∈ TT, p.1 ≠ 203 := fun p hp => n203.all p (by (repeat (first | exact hp | exact mKt hp | exact mKt (mKt hp) | exact mKt (mKt (mKt hp)) | refine' mK4 rfl ?_ | refine' mK1 rfl ?_)))
 have pW : ∀ p ∈ TT, p.1 ≠ Wa := fun p hp => cW.all p (by (repeat (first | exact hp | exact mKt hp | exact mKt (mKt hp) | exact mKt (mKt (mKt hp)) | refine' mK4 rfl ?_ | refine' mK1 rfl ?_)))
 have pL : ∀ p ∈ TT, p.1 ≠ lgA := fun p hp => cL.all p (by (repeat (first | exact hp | exact mKt hp | exact mKt (mKt hp) | exact mKt (mKt (mKt hp)) | refine' mK4 rfl ?_ | refine' mK1 rfl ?_)))
 with_reducible refine' body_lit ?ho hE ?_
 case ho => k_is
 clear hE
 intro hE
 simp only [List.drop_succ_cons, List.drop_zero]
 iterate 2 (first | (k_unfold; try dsimp only) | walk1 | (dsimp only; walk1))
 k_here
 (with_reducible refine' kla_eval ?d0 ?_)
 case d0 => exact rfl
 with_reducible (refine' lam_make2 ?F ?N ?T ?C ?hge ?hcd ?U ?LT ?hs ?hcl ?_)
 case F => k_asm
 case N => k_asm
 case T => k_asm
 case hge => exact rfl
 case hcd => exact rfl
 case C => kn_code
 case U => k_updF
 case LT => exact LTA
 case hs => (repeat (first | exact sid | refine' sK4 rfl ?_ | refine' sK1 rfl ?_))
 case hcl => exact rfl
 intro f1 ca1 oa1 va1 ta1 ct1 tb1 nn1 hh1 tk1 FF1 NN1 da1 db1 dc1 dd1 na1 nb1 ne1
 (try dsimp only at NN1)
 have g7351 : NeA ca1 735 := ⟨nb1 735 (tabObj tabR) (by k_mem) p735⟩
 have g2031 : NeA ca1 203 := ⟨nb1 203 (tabObj tabF) (by k_mem) p203⟩
 have gW1 : NeA ca1 Wa := ⟨nb1 Wa oW (by k_mem) pW⟩
 have gL1 : NeA ca1 lgA := ⟨nb1 lgA (listOf #[] ng) (by k_mem) pL⟩
 (try k_sweep)
 have LTB1 : LamTab posB qualR tb1 TT := ⟨dd1, by rw [ne1 posB (by decide)]; exact LTB.hit⟩
 have LTC1 : LamTab posC qualR tb1 TT := ⟨dd1, by rw [ne1 posC (by decide)]; exact LTC.hit⟩
 have LTD1 : LamTab posD qualR tb1 TT := ⟨dd1, by rw [ne1 posD (by decide)]; exact LTD.hit⟩
 repeat' (first | ((fail_if_success (with_reducible show wpAny _ _ (eval (.Lambda _ _ _ _) _) _ _ _)); first | keq_rows | ((k_here; (with_reducible show wpAny _ _ (subscriptTail _ _ (Value.ref _) (Value.str _ _)) _ _ _); k_dflt (refine' wh_get ?N ?hm ?hW ?lo ?hx ?_ ?hs ?hg; (case N => k_asm); (case hm => k_mem); (case hW => assumption); (case lo => assumption); (case hx => assumption); (case hs => with_unfolding_all rfl); (case hg => (intros; with_unfolding_all rfl)); k_whole); intros)) | ((with_reducible show wpAny _ _ (setAttr (Value.ref _) _ _) _ _ _); (k_here; k_dflt (refine' setX ?k1 ?k2 ?k3 ?k4 ?k5 ?k6 ?k7 ?k8 ?k9 ?k10 ?k11 ?k12 ?k13 ?_; (case k1 => k_asm); (case k2 => k_asm); (case k3 => k_asm); (case k4 => k_inst); (case k5 => exact rfl); (case k6 => k_is); (case k7 => k_is); (case k8 => k_is); (case k9 => k_is); (case k10 => k_get); (case k11 => k_put); (case k12 => k_upd); (case k13 => exact Nat.le_of_ble_eq_true rfl); k_whole); intros; (try k_sweep))) | (k_unfold; (try dsimp only)) | (k_end; wrow_close) | walk1 | (dsimp only; walk1) | (leave1; try dsimp only)) | fail "no")
 k_here
 (with_reducible refine' kla_eval ?d0 ?_)
 case d0 => exact rfl
 with_reducible (refine' lam_make2 ?F ?N ?T ?C ?hge ?hcd ?U ?LT ?hs ?hcl ?_)
 case F => k_asm
 case N => k_asm
 case T => k_asm
 case hge => exact rfl
 case hcd => exact rfl
 case C => kn_code
 case U => k_updF
 case LT => exact LTB1
 case hs => (repeat (first | exact sid | refine' sK4 rfl ?_ | refine' sK1 rfl ?_))
 case hcl => exact rfl
 intro f2 ca2 oa2 va2 ta2 ct2 tb2 nn2 hh2 tk2 FF2 NN2 da2 db2 dc2 dd2 na2 nb2 ne2
 (try dsimp only at NN2)
 have g7352 : NeA ca2 735 := ⟨nb2 735 (tabObj tb1) (by k_mem) p735⟩
 have g2032 : NeA ca2 203 := ⟨nb2 203 (tabObj tabF) (by k_mem) p203⟩
 have gW2 : NeA ca2 Wa := ⟨nb2 Wa oW (by k_mem) pW⟩
 have gL2 : NeA ca2 lgA := ⟨nb2 lgA (listOf #[] ng) (by k_mem) pL⟩
 (try k_sweep)
 have LTC2 : LamTab posC qualR tb2 TT := ⟨dd2, by rw [ne2 posC (by decide)]; exact LTC1.hit⟩
 have LTD2 : LamTab posD qualR tb2 TT := ⟨dd2, by rw [ne2 posD (by decide)]; exact LTD1.hit⟩
 repeat' (first | ((fail_if_success (with_reducible show wpAny _ _ (eval (.Lambda _ _ _ _) _) _ _ _)); first | keq_rows | ((k_here; (with_reducible show wpAny _ _ (subscriptTail _ _ (Value.ref _) (Value.str _ _)) _ _ _); k_dflt (refine' wh_get ?N ?hm ?hW ?lo ?hx ?_ ?hs ?hg; (case N => k_asm); (case hm => k_mem); (case hW => assumption); (case lo => assumption); (case hx => assumption); (case hs => with_unfolding_all rfl); (case hg => (intros; with_unfolding_all rfl)); k_whole); intros)) | ((with_reducible show wpAny _ _ (setAttr (Value.ref _) _ _) _ _ _); (k_here; k_dflt (refine' setX ?k1 ?k2 ?k3 ?k4 ?k5 ?k6 ?k7 ?k8 ?k9 ?k10 ?k11 ?k12 ?k13 ?_; (case k1 => k_asm); (case k2 => k_asm); (case k3 => k_asm); (case k4 => k_inst); (case k5 => exact rfl); (case k6 => k_is); (case k7 => k_is); (case k8 => k_is); (case k9 => k_is); (case k10 => k_get); (case k11 => k_put); (case k12 => k_upd); (case k13 => exact Nat.le_of_ble_eq_true rfl); k_whole); intros; (try k_sweep))) | (k_unfold; (try dsimp only)) | (k_end; wrow_close) | walk1 | (dsimp only; walk1) | (leave1; try dsimp only)) | fail "no")
 k_here
 (with_reducible refine' kla_eval ?d0 ?_)
 case d0 => exact rfl
 with_reducible (refine' lam_make2 ?F ?N ?T ?C ?hge ?hcd ?U ?LT ?hs ?hcl ?_)
 case F => k_asm
 case N => k_asm
 case T => k_asm
 case hge => exact rfl
 case hcd => exact rfl
 case C => kn_code
 case U => k_updF
 case LT => exact LTC2
 case hs => (repeat (first | exact sid | refine' sK4 rfl ?_ | refine' sK1 rfl ?_))
 case hcl => exact rfl
 intro f3 ca3 oa3 va3 ta3 ct3 tb3 nn3 hh3 tk3 FF3 NN3 da3 db3 dc3 dd3 na3 nb3 ne3
 (try dsimp only at NN3)
 have g7353 : NeA ca3 735 := ⟨nb3 735 (tabObj tb2) (by k_mem) p735⟩
 have g2033 : NeA ca3 203 := ⟨nb3 203 (tabObj tabF) (by k_mem) p203⟩
 have gW3 : NeA ca3 Wa := ⟨nb3 Wa oW (by k_mem) pW⟩
 have gL3 : NeA ca3 lgA := ⟨nb3 lgA (listOf #[] ng) (by k_mem) pL⟩
 (try k_sweep)
 have LTD3 : LamTab posD qualR tb3 TT := ⟨dd3, by rw [ne3 posD (by decide)]; exact LTD2.hit⟩
 repeat' (first | ((fail_if_success (with_reducible show wpAny _ _ (eval (.Lambda _ _ _ _) _) _ _ _)); first | keq_rows | ((k_here; (with_reducible show wpAny _ _ (subscriptTail _ _ (Value.ref _) (Value.str _ _)) _ _ _); k_dflt (refine' wh_get ?N ?hm ?hW ?lo ?hx ?_ ?hs ?hg; (case N => k_asm); (case hm => k_mem); (case hW => assumption); (case lo => assumption); (case hx => assumption); (case hs => with_unfolding_all rfl); (case hg => (intros; with_unfolding_all rfl)); k_whole); intros)) | ((with_reducible show wpAny _ _ (setAttr (Value.ref _) _ _) _ _ _); (k_here; k_dflt (refine' setX ?k1 ?k2 ?k3 ?k4 ?k5 ?k6 ?k7 ?k8 ?k9 ?k10 ?k11 ?k12 ?k13 ?_; (case k1 => k_asm); (case k2 => k_asm); (case k3 => k_asm); (case k4 => k_inst); (case k5 => exact rfl); (case k6 => k_is); (case k7 => k_is); (case k8 => k_is); (case k9 => k_is); (case k10 => k_get); (case k11 => k_put); (case k12 => k_upd); (case k13 => exact Nat.le_of_ble_eq_true rfl); k_whole); intros; (try k_sweep))) | (k_unfold; (try dsimp only)) | (k_end; wrow_close) | walk1 | (dsimp only; walk1) | (leave1; try dsimp only)) | fail "no")
 k_here
 (with_reducible refine' kla_eval ?d0 ?_)
 case d0 => exact rfl
 with_reducible (refine' lam_make2 ?F ?N ?T ?C ?hge ?hcd ?U ?LT ?hs ?hcl ?_)
 case F => k_asm
 case N => k_asm
 case T => k_asm
 case hge => exact rfl
 case hcd => exact rfl
 case C => kn_code
 case U => k_updF
 case LT => exact LTD3
 case hs => (repeat (first | exact sid | refine' sK4 rfl ?_ | refine' sK1 rfl ?_))
 case hcl => exact rfl
 intro f4 ca4 oa4 va4 ta4 ct4 tb4 nn4 hh4 tk4 FF4 NN4 da4 db4 dc4 dd4 na4 nb4 ne4
 (try dsimp only at NN4)
 have g7354 : NeA ca4 735 := ⟨nb4 735 (tabObj tb3) (by k_mem) p735⟩
 have g2034 : NeA ca4 203 := ⟨nb4 203 (tabObj tabF) (by k_mem) p203⟩
 have gW4 : NeA ca4 Wa := ⟨nb4 Wa oW (by k_mem) pW⟩
 have gL4 : NeA ca4 lgA := ⟨nb4 lgA (listOf #[] ng) (by k_mem) pL⟩
 (try k_sweep)
 repeat' (first | ((fail_if_success (with_reducible show wpAny _ _ (exec (.Return _ _) _) _ _ _)); first | keq_rows | ((k_here; (with_reducible show wpAny _ _ (subscriptTail _ _ (Value.ref _) (Value.str _ _)) _ _ _); k_dflt (refine' wh_get ?N ?hm ?hW ?lo ?hx ?_ ?hs ?hg; (case N => k_asm); (case hm => k_mem); (case hW => assumption); (case lo => assumption); (case hx => assumption); (case hs => with_unfolding_all rfl); (case hg => (intros; with_unfolding_all rfl)); k_whole); intros)) | ((with_reducible show wpAny _ _ (setAttr (Value.ref _) _ _) _ _ _); (k_here; k_dflt (refine' setX ?k1 ?k2 ?k3 ?k4 ?k5 ?k6 ?k7 ?k8 ?k9 ?k10 ?k11 ?k12 ?k13 ?_; (case k1 => k_asm); (case k2 => k_asm); (case k3 => k_asm); (case k4 => k_inst); (case k5 => exact rfl); (case k6 => k_is); (case k7 => k_is); (case k8 => k_is); (case k9 => k_is); (case k10 => k_get); (case k11 => k_put); (case k12 => k_upd); (case k13 => exact Nat.le_of_ble_eq_true rfl); k_whole); intros; (try k_sweep))) | (k_unfold; (try dsimp only)) | (k_end; wrow_close) | walk1 | (dsimp only; walk1) | (leave1; try dsimp only)) | fail "no")
 rename News _ _ _ _ => N9
 rename Fr _ _ _ _ => F9
 rename Heap => hc9
 have hWc := wh_cls hW
 have cnum : ∃ fd, News g L' hc9 [(f3, fnO fd)] ∧ ∀ (ea xa : Addr) (t : Tok), Ctr w f3 4 60 [.ref ea] ((ea, tup [.str "number" t, .ref xa]) :: [(f3, fnO fd), (ca3, oa3)]) (fun _ r _ out => r = .ref xa ∧ ∀ p ∈ (ea, tup [.str "number" t, .ref xa]) :: [(f3, fnO fd), (ca3, oa3)], p ∈ out) := by
  refine ⟨_, news_one N9 (by k_mem), ?_⟩
  clear N9 F9 hE
  intro ea xa t
  unfold Ctr
  intro p loose mean mg mb dp un gd cn cs a ccd cl outer A₀ base h₀ L m s Q E B F X N T hk hdp hun hret
  refine wpAny_call ?_
  k_dflt (refine' kla_codeS ?k1 ?k2 ?k3 ?k4 ?k5 ?kA ?kF ?kK ?k6 ?k7 ?k8 ?k9 ?kB ?_ ?c2 ?c3 ?c4 ?c5; (case kA => exact rfl); (case kF => exact rfl); (case kK => assumption); (case k1 => k_asm); (case k2 => k_asm); (case k3 => k_asm); (case k4 => k_asm); (case k5 => k_asm); (case k6 => k_mem); (case k7 => exact codeRec_news (by k_asm) (by k_mem) (by assumption) (by assumption)); (case k8 => ktr_room); (case k9 => exact rfl); (case c5 => decide); (case kB => exact locs rfl); (case c2 => exact rfl); (case c3 => exact rfl); (case c4 => exact rfl); k_whole; intro g' L' h' FG' F' N' B' X' T' GS'; (try dsimp only); (try k_fold))
  repeat' (first | keq_rows | ((k_here; (with_reducible show wpAny _ _ (subscriptTail _ _ (Value.ref _) (Value.str _ _)) _ _ _); k_dflt (refine' wh_get ?N ?hm ?hW ?lo ?hx ?_ ?hs ?hg; (case N => k_asm); (case hm => k_mem); (case hW => assumption); (case lo => assumption); (case hx => assumption); (case hs => with_unfolding_all rfl); (case hg => (intros; with_unfolding_all rfl)); k_whole); intros)) | ((with_reducible show wpAny _ _ (setAttr (Value.ref _) _ _) _ _ _); (k_here; k_dflt (refine' setX ?k1 ?k2 ?k3 ?k4 ?k5 ?k6 ?k7 ?k8 ?k9 ?k10 ?k11 ?k12 ?k13 ?_; (case k1 => k_asm); (case k2 => k_asm); (case k3 => k_asm); (case k4 => k_inst); (case k5 => exact rfl); (case k6 => k_is); (case k7 => k_is); (case k8 => k_is); (case k9 => k_is); (case k10 => k_get); (case k11 => k_put); (case k12 => k_upd); (case k13 => exact Nat.le_of_ble_eq_true rfl); k_whole); intros; (try k_sweep))) | (k_unfold; (try dsimp only)) | (k_end; wrow_close) | walk1 | (dsimp only; walk1) | (leave1; try dsimp only) | fail "no")
  refine' hret _ _ _ _ ?ra ?rb ?rc ?rd
  case ra => k_asm
  case rb => k_asm
  case rc => k_asm
  case rd => exact ⟨rfl, by (first | ((repeat (first | with_reducible exact sid | exact List.forall_mem_nil _ | with_reducible refine sc ?_ | with_reducible refine sk ?_)); done) | ((repeat (refine fc (by k_mem) ?_)); exact List.forall_mem_nil _))⟩
 obtain ⟨fd3, S3, num9⟩ := cnum
 have ctest : ∃ fd, News g L' hc9 [(f1, fnO fd)] ∧ ∀ (ca ra ea xa : Addr) (name : Str) (b x : Int) (oW : Obj) (W : Wheels) (t1 t2 t3 t4 t5 t6 t7 : Tok) (e1 e2 e3 : Value), WhAt w oW W → W.lookup name = some x →
   Ctr w f1 4 60 [.ref ca] ((Wa, oW) :: (ca, tup [.str "rel" t1, .str ">" t2, .ref ra, .ref ea]) :: (ra, tup [.str "ref" t3, .str name t4, e1, e2, e3]) :: (ea, tup [.str "number" t5, .ref xa]) :: (xa, tup [.int b t6, .int 0 t7]) :: [(f1, fnO fd), (ca1, oa1), (L' + 3, q3)])
    (fun _ r _ out => r = .bool (decide (b < x)) ∧ ∀ p ∈ (Wa, oW) :: (ca, tup [.str "rel" t1, .str ">" t2, .ref ra, .ref ea]) :: (ra, tup [.str "ref" t3, .str name t4, e1, e2, e3]) :: (ea, tup [.str "number" t5, .ref xa]) :: (xa, tup [.int b t6, .int 0 t7]) :: [(f1, fnO fd), (ca1, oa1), (L' + 3, q3)], p ∈ out) := by
  refine ⟨_, news_one N9 (by k_mem), ?_⟩
  clear N9 F9 hE
  intro ca ra ea xa name b x oW W t1 t2 t3 t4 t5 t6 t7 e1 e2 e3 hW hx
  unfold Ctr
  intro p loose mean mg mb dp un gd cn cs a ccd cl outer A₀ base h₀ L m s Q E B F X N T hk hdp hun hret
  refine wpAny_call ?_
  k_dflt (refine' kla_codeS ?k1 ?k2 ?k3 ?k4 ?k5 ?kA ?kF ?kK ?k6 ?k7 ?k8 ?k9 ?kB ?_ ?c2 ?c3 ?c4 ?c5; (case kA => exact rfl); (case kF => exact rfl); (case kK => assumption); (case k1 => k_asm); (case k2 => k_asm); (case k3 => k_asm); (case k4 => k_asm); (case k5 => k_asm); (case k6 => k_mem); (case k7 => exact codeRec_news (by k_asm) (by k_mem) (by assumption) (by assumption)); (case k8 => ktr_room); (case k9 => exact rfl); (case c5 => decide); (case kB => exact locs rfl); (case c2 => exact rfl); (case c3 => exact rfl); (case c4 => exact rfl); k_whole; intro g' L' h' FG' F' N' B' X' T' GS'; (try dsimp only); (try k_fold))
  repeat' (first | keq_rows | ((k_here; (with_reducible show wpAny _ _ (subscriptTail _ _ (Value.ref _) (Value.str _ _)) _ _ _); k_dflt (refine' wh_get ?N ?hm ?hW ?lo ?hx ?_ ?hs ?hg; (case N => k_asm); (case hm => k_mem); (case hW => assumption); (case lo => assumption); (case hx => assumption); (case hs => with_unfolding_all rfl); (case hg => (intros; with_unfolding_all rfl)); k_whole); intros)) | ((with_reducible show wpAny _ _ (setAttr (Value.ref _) _ _) _ _ _); (k_here; k_dflt (refine' setX ?k1 ?k2 ?k3 ?k4 ?k5 ?k6 ?k7 ?k8 ?k9 ?k10 ?k11 ?k12 ?k13 ?_; (case k1 => k_asm); (case k2 => k_asm); (case k3 => k_asm); (case k4 => k_inst); (case k5 => exact rfl); (case k6 => k_is); (case k7 => k_is); (case k8 => k_is); (case k9 => k_is); (case k10 => k_get); (case k11 => k_put); (case k12 => k_upd); (case k13 => exact Nat.le_of_ble_eq_true rfl); k_whole); intros; (try k_sweep))) | (k_unfold; (try dsimp only)) | (k_end; wrow_close) | walk1 | (dsimp only; walk1) | (leave1; try dsimp only) | fail "no")
  refine' hret _ _ _ _ ?ra ?rb ?rc ?rd
  case ra => k_asm
  case rb => k_asm
  case rc => k_asm
  case rd => exact ⟨rfl, by (first | ((repeat (first | with_reducible exact sid | exact List.forall_mem_nil _ | with_reducible refine sc ?_ | with_reducible refine sk ?_)); done) | ((repeat (refine fc (by k_mem) ?_)); exact List.forall_mem_nil _))⟩
 obtain ⟨fd1, S1, test9⟩ := ctest
 have cput : ∃ fd, News g L' hc9 [(f4, fnO fd)] ∧ ∀ (ba c ra xa : Addr) (name way : Str) (u x : Int) (t1 t2 t3 t4 t5 : Tok) (oW : Obj) (W : Wheels) (e1 e2 e3 : Value), (way = "+" ∨ way = "=") → WhAt w oW W → W.length ≤ 1000 → W.lookup name = some x →
   Ctr w f4 6 100 [.ref ba, .ref xa] ((Wa, oW) :: (ba, tup [.ref c]) :: (c, tup [.ref ra, .bool false, .str way t1]) :: (ra, tup [.str "ref" t2, .str name t3, e1, e2, e3]) :: (xa, tup [.int u t4, .int 0 t5]) :: [(f4, fnO fd), (ca4, oa4), (L' + 3, q3)])
    (fun _ r _ out => r = .bool false ∧ (∃ oW', WhAt w oW' (setW W name (u + (if way = "+" then x else 0))) ∧ (Wa, oW') ∈ out) ∧ ∀ p ∈ (ba, tup [.ref c]) :: (c, tup [.ref ra, .bool false, .str way t1]) :: (ra, tup [.str "ref" t2, .str name t3, e1, e2, e3]) :: (xa, tup [.int u t4, .int 0 t5]) :: [(f4, fnO fd), (ca4, oa4), (L' + 3, q3)], p ∈ out) := by
  refine ⟨_, news_one N9 (by k_mem), ?_⟩
  clear N9 F9 hE
  intro ba c ra xa name way u x t1 t2 t3 t4 t5 oW W e1 e2 e3 hway hW hWl hx
  unfold Ctr
  intro p loose mean mg mb dp un gd cn cs a ccd cl outer A₀ base h₀ L m s Q E B F X N T hk hdp hun hret
  have hc9 := wh_cls hW
  have z1 : NeA Wa ba := ⟨news_ne (p := (Wa, _)) (q := (ba, _)) N (by k_mem) (by k_mem) (by rw [hc9]; simp)⟩
  have z2 : NeA Wa c := ⟨news_ne (p := (Wa, _)) (q := (c, _)) N (by k_mem) (by k_mem) (by rw [hc9]; simp)⟩
  have z3 : NeA Wa ra := ⟨news_ne (p := (Wa, _)) (q := (ra, _)) N (by k_mem) (by k_mem) (by rw [hc9]; simp)⟩
  have z4 : NeA Wa xa := ⟨news_ne (p := (Wa, _)) (q := (xa, _)) N (by k_mem) (by k_mem) (by rw [hc9]; simp)⟩
  have z5 : NeA Wa f4 := ⟨news_ne (p := (Wa, _)) (q := (f4, _)) N (by k_mem) (by k_mem) (by rw [hc9]; simp)⟩
  refine wpAny_call ?_
  k_dflt (refine' kla_codeS ?k1 ?k2 ?k3 ?k4 ?k5 ?kA ?kF ?kK ?k6 ?k7 ?k8 ?k9 ?kB ?_ ?c2 ?c3 ?c4 ?c5; (case kA => exact rfl); (case kF => exact rfl); (case kK => assumption); (case k1 => k_asm); (case k2 => k_asm); (case k3 => k_asm); (case k4 => k_asm); (case k5 => k_asm); (case k6 => k_mem); (case k7 => exact codeRec_news (by k_asm) (by k_mem) (by assumption) (by assumption)); (case k8 => ktr_room); (case k9 => exact rfl); (case c5 => decide); (case kB => exact locs rfl); (case c2 => exact rfl); (case c3 => exact rfl); (case c4 => exact rfl); k_whole; intro g' L' h' FG' F' N' B' X' T' GS'; (try dsimp only); (try k_fold))
  repeat' (first | keq_rows | ((k_here; (with_reducible show wpAny _ _ (call (Value.ref 716) _) _ _ _); k_dflt (refine' law_put_use ?hW ?hl ?hx ?hw ?lo ?k1 ?k2 ?k3 ?k4 ?k5 ?kK ?kd ?ku ?m1 ?m2 ?m3 ?m4 ?U ?_; (case hW => assumption); (case hl => assumption); (case hx => assumption); (case hw => assumption); (case lo => assumption); (case k1 => k_asm); (case k2 => k_asm); (case k4 => k_asm); (case k3 => k_asm); (case k5 => k_asm); (case kK => first | exact rfl | assumption); (case kd => ktr_room); (case ku => ktr_units); (case m1 => k_mem); (case m2 => k_mem); (case m3 => k_mem); (case m4 => k_mem); (case U => k_updF); k_whole); (intros); (try dsimp only); (try k_sweep))) | ((k_here; (with_reducible show wpAny _ _ (subscriptTail _ _ (Value.ref _) (Value.str _ _)) _ _ _); k_dflt (refine' wh_get ?N ?hm ?hW ?lo ?hx ?_ ?hs ?hg; (case N => k_asm); (case hm => k_mem); (case hW => assumption); (case lo => assumption); (case hx => assumption); (case hs => with_unfolding_all rfl); (case hg => (intros; with_unfolding_all rfl)); k_whole); intros)) | ((with_reducible show wpAny _ _ (setAttr (Value.ref _) _ _) _ _ _); (k_here; k_dflt (refine' setX ?k1 ?k2 ?k3 ?k4 ?k5 ?k6 ?k7 ?k8 ?k9 ?k10 ?k11 ?k12 ?k13 ?_; (case k1 => k_asm); (case k2 => k_asm); (case k3 => k_asm); (case k4 => k_inst); (case k5 => exact rfl); (case k6 => k_is); (case k7 => k_is); (case k8 => k_is); (case k9 => k_is); (case k10 => k_get); (case k11 => k_put); (case k12 => k_upd); (case k13 => exact Nat.le_of_ble_eq_true rfl); k_whole); intros; (try k_sweep))) | (k_unfold; (try dsimp only)) | (k_end; wrow_close) | walk1 | (dsimp only; walk1) | (leave1; try dsimp only) | fail "no")
  rename WhAt _ _ _ => hW9
  refine' hret _ _ _ _ ?ra ?rb ?rc ?rd
  case ra => k_asm
  case rb => k_asm
  case rc => k_asm
  case rd => exact ⟨rfl, ⟨_, hW9, by k_mem⟩, by (first | ((repeat (first | with_reducible exact sid | exact List.forall_mem_nil _ | with_reducible refine sc ?_ | with_reducible refine sk ?_)); done) | ((repeat (refine fc (by k_mem) ?_)); exact List.forall_mem_nil _))⟩
 obtain ⟨fd4, S4, put9⟩ := cput
 have hnA' : NeA lgA nA := ⟨fun e => cL.all _ (by (repeat (first | exact hnA | exact mKt hnA | exact mKt (mKt hnA) | exact mKt (mKt (mKt hnA)) | refine' mK4 rfl ?_ | refine' mK1 rfl ?_))) e.symm⟩
 have hnl9 : (wnames rows.length).length ≤ 1000 := by simp only [wnames, List.length_take]; lia
 have cdeed : ∃ fd, News g L' hc9 [(f2, fnO fd)] ∧ ∀ (st : Value) (oW : Obj) (W : Wheels) (lg : List Value) (nl : Nat), WhAt w oW W → (∀ n ∈ wnames rows.length, (W.lookup n).isSome = true) → lg.length ≤ 10000 →
   Ctr w f2 6 100 [st] ((Wa, oW) :: (lgA, listOf lg.toArray nl) :: [(f2, fnO fd), (ca2, oa2), (L' + 1, q1), (L' + 2, q2), (L' + 3, q3), (nA, listOf nvs.toArray nn)]) (fun H r _ out => (∃ t, r = .str "" t) ∧ (∃ a its n nl', H.get? a = none ∧ IntsAre its ((wnames rows.length).map fun n => (W.lookup n).getD 0) ∧ (a, listOf (its : List Value).toArray n) ∈ out ∧ (lgA, listOf (lg ++ [Value.ref a]).toArray nl') ∈ out) ∧ (Wa, oW) ∈ out ∧ ∀ p ∈ [(f2, fnO fd), (ca2, oa2), (L' + 1, q1), (L' + 2, q2), (L' + 3, q3), (nA, listOf nvs.toArray nn)], p ∈ out) := by
  refine ⟨_, news_one N9 (by k_mem), ?_⟩
  clear N9 F9 hE
  intro st oW W lg nl hW hnm hl
  unfold Ctr
  intro p loose mean mg mb dp un gd cn cs a ccd cl outer A₀ base h₀ L m s Q E B F X N T hk hdp hun hret
  have z5 : NeA lgA f2 := ⟨news_ne (p := (lgA, _)) (q := (f2, _)) N (by k_mem) (by k_mem) (by simp)⟩
  refine wpAny_call ?_
  k_dflt (refine' kla_codeS ?k1 ?k2 ?k3 ?k4 ?k5 ?kA ?kF ?kK ?k6 ?k7 ?k8 ?k9 ?kB ?_ ?c2 ?c3 ?c4 ?c5; (case kA => exact rfl); (case kF => exact rfl); (case kK => assumption); (case k1 => k_asm); (case k2 => k_asm); (case k3 => k_asm); (case k4 => k_asm); (case k5 => k_asm); (case k6 => k_mem); (case k7 => exact codeRec_news (by k_asm) (by k_mem) (by assumption) (by assumption)); (case k8 => ktr_room); (case k9 => exact rfl); (case c5 => decide); (case kB => exact locs rfl); (case c2 => exact rfl); (case c3 => exact rfl); (case c4 => exact rfl); k_whole; intro g' L' h' FG' F' N' B' X' T' GS'; (try dsimp only); (try k_fold))
  repeat' (first | keq_rows | ((k_here; (with_reducible show wpAny _ _ (call (Value.ref 721) _) _ _ _); k_dflt (refine' law_noted_use ?hW ?hn ?hv ?hl ?hnl ?lo ?hne ?k1 ?k2 ?k3 ?k4 ?k5 ?kK ?kd ?ku ?m1 ?m3 ?U ?_; (case hW => assumption); (case hl => assumption); (case hn => assumption); (case hv => assumption); (case hnl => assumption); (case hne => assumption); (case lo => assumption); (case k1 => k_asm); (case k2 => k_asm); (case k4 => k_asm); (case k3 => k_asm); (case k5 => k_asm); (case kK => first | exact rfl | assumption); (case kd => ktr_room); (case ku => ktr_units); (case m1 => k_mem); (case m3 => k_mem); (case U => k_updF); k_whole); (intros); (try dsimp only); (try k_sweep))) | ((k_here; (with_reducible show wpAny _ _ (subscriptTail _ _ (Value.ref _) (Value.str _ _)) _ _ _); k_dflt (refine' wh_get ?N ?hm ?hW ?lo ?hx ?_ ?hs ?hg; (case N => k_asm); (case hm => k_mem); (case hW => assumption); (case lo => assumption); (case hx => assumption); (case hs => with_unfolding_all rfl); (case hg => (intros; with_unfolding_all rfl)); k_whole); intros)) | ((with_reducible show wpAny _ _ (setAttr (Value.ref _) _ _) _ _ _); (k_here; k_dflt (refine' setX ?k1 ?k2 ?k3 ?k4 ?k5 ?k6 ?k7 ?k8 ?k9 ?k10 ?k11 ?k12 ?k13 ?_; (case k1 => k_asm); (case k2 => k_asm); (case k3 => k_asm); (case k4 => k_inst); (case k5 => exact rfl); (case k6 => k_is); (case k7 => k_is); (case k8 => k_is); (case k9 => k_is); (case k10 => k_get); (case k11 => k_put); (case k12 => k_upd); (case k13 => exact Nat.le_of_ble_eq_true rfl); k_whole); intros; (try k_sweep))) | (k_unfold; (try dsimp only)) | (k_end; wrow_close) | walk1 | (dsimp only; walk1) | (leave1; try dsimp only) | fail "no")
  refine' hret _ _ _ _ ?ra ?rb ?rc ?rd
  case ra => k_asm
  case rb => k_asm
  case rc => k_asm
  case rd => exact ⟨⟨_, rfl⟩, ⟨_, _, _, _, fresh_out GS' (by assumption) (by assumption), by assumption, by k_mem, by k_mem⟩, by k_mem, by (first | ((repeat (first | with_reducible exact sid | exact List.forall_mem_nil _ | with_reducible refine sc ?_ | with_reducible refine sk ?_)); done) | ((repeat (refine fc (by k_mem) ?_)); exact List.forall_mem_nil _))⟩
 obtain ⟨fd2, S2, deed9⟩ := cdeed
 with_reducible refine' exec_at (K := Mine.hd.heap_1 w.params) (f := 738) (i := 10) ?ho ?hs ?hsc ?h
 case ho => k_is
 case hs => exact rfl
 case hsc => exact rfl
 have i1 := S1 _ (.head _)
 have i2 := S2 _ (.head _)
 have i3 := S3 _ (.head _)
 have i4 := S4 _ (.head _)
 have hWl : NeA Wa lgA := ⟨cL.all (Wa, oW) (.head _)⟩
 with_reducible (refine' run_ret w (TT := ((ca4, oa4) :: (ca3, oa3) :: (ca2, oa2) :: (ca1, oa1) :: (735, tabObj tb4) :: TT)) (tlD := tlD) (aops := aops) (pls := pls) (fd1 := fd2) (fd2 := fd1) (fd3 := fd3) (fd4 := fd4) (fDo := f2) (fTest := f1) (fNum := f3) (fPut := f4) (q1 := q1) (q2 := q2) (q3 := q3) (nA := nA) (Wa := Wa) (lgA := lgA) (tabF := tabF) (nn := nn) (wnames rows.length) prog hq1 hq2 hq3 hW lo ?hnA hnv ?hnl hops hps hne ?sub kin ?LTF hlen hlab hpl hacs hways hpr ?hd (by decide) ?hnm hr hst hfw hfn hfl ?n203 ?cW ?cL ?x203 ?hret ?B ?X ?T hdp hun C1 C2 hE0 ?F ?hk ?N)
 case B => k_asm
 case X => k_asm
 case T => k_asm
 case F => k_asm
 case N => exact fc (N9 _ (by k_mem)) (fc (N9 _ (by k_mem)) (fc i2 (fc i1 (fc i3 (fc i4 (fun p hp => N9 p (by
  revert p
  (repeat (refine fc (by k_mem) ?_))
  intro p hp
  (repeat (first | exact hp | exact mKt hp | exact mKt (mKt hp) | exact mKt (mKt (mKt hp)) | refine' mK4 rfl ?_ | refine' mK1 rfl ?_)))))))))
 case hnA => (repeat (first | exact hnA | exact mKt hnA | exact mKt (mKt hnA) | exact mKt (mKt (mKt hnA)) | refine' mK4 rfl ?_ | refine' mK1 rfl ?_))
 case hnl => simp only [wnames, List.length_take]; lia
 case sub => exact fun p hp => .tail _ (.tail _ (.tail _ (.tail _ (.tail _ (sub p hp)))))
 case LTF => exact LTF.mono fun p hp => .tail _ (.tail _ (.tail _ (.tail _ (.tail _ hp))))
 case hnm =>
  intro n hn
  have := List.mem_of_mem_take hn
  simp only [List.mem_cons, List.not_mem_nil, or_false] at this
  rcases this with rfl | rfl | rfl <;> rfl
 case n203 => exact ⟨fc g2034.ne (fc g2033.ne (fc g2032.ne (fc g2031.ne (fc (show @Ne Nat 735 203 by decide) p203))))⟩
 case cW => exact ⟨fc (by k_ne) (fc (by k_ne) (fc (by k_ne) (fc (by k_ne) (fc (by k_ne) (fc (by k_ne) (fc (cW.all _ (by k_mem)) (fc (cW.all _ (by k_mem)) (fc (cW.all _ (by k_mem)) (fc (cW.all _ (by k_mem)) (fc gW4.ne (fc gW3.ne (fc gW2.ne (fc gW1.ne (fc (cW.all (735, tabObj tabR) (by k_mem)) pW))))))))))))))⟩
 case cL => exact ⟨fc hWl.ne (fc (by k_ne) (fc (by k_ne) (fc (by k_ne) (fc (by k_ne) (fc (by k_ne) (fc (by k_ne) (fc (cL.all _ (by k_mem)) (fc (cL.all _ (by k_mem)) (fc (cL.all _ (by k_mem)) (fc (cL.all _ (by k_mem)) (fc gL4.ne (fc gL3.ne (fc gL2.ne (fc gL1.ne (fc (cL.all (735, tabObj tabR) (by k_mem)) pL)))))))))))))))⟩
 case x203 => exact ⟨fc (by k_ne) (fc (by k_ne) (fc (by k_ne) (fc (by k_ne) (fc (by k_ne) (fc (by k_ne) (fc a203.ne (fc b203.ne (fc e203.ne (fc g2034.ne (fc g2033.ne (fc g2032.ne (fc g2031.ne (fc (show @Ne Nat 735 203 by decide) p203)))))))))))))⟩
 case hk =>
  exact fc (by with_unfolding_all exact rfl) (fc (by with_unfolding_all exact rfl) (List.forall_mem_nil _))
 case hd =>
  intro tl nW nL hs
  refine deeds_of nW nL (nd := [(f3, fnO fd3), (ca3, oa3)]) (tn := [(f1, fnO fd1), (ca1, oa1), (L' + 3, q3)]) (pn := [(f4, fnO fd4), (ca4, oa4), (L' + 3, q3)]) (dn := [(f2, fnO fd2), (ca2, oa2), (L' + 1, q1), (L' + 2, q2), (L' + 3, q3), (nA, listOf nvs.toArray nn)]) ?_ ?_ ?_ num9 test9 put9 ?_ deed9
  ·exact fun p hp => hs p (by revert p; (first | ((repeat (first | with_reducible exact sid | exact List.forall_mem_nil _ | with_reducible refine sc ?_ | with_reducible refine sk ?_)); done) | ((repeat (refine fc (by k_mem) ?_)); exact List.forall_mem_nil _)))
  ·exact fun p hp => hs p (by revert p; (first | ((repeat (first | with_reducible exact sid | exact List.forall_mem_nil _ | with_reducible refine sc ?_ | with_reducible refine sk ?_)); done) | ((repeat (refine fc (by k_mem) ?_)); exact List.forall_mem_nil _)))
  ·exact fun p hp => hs p (by revert p; (first | ((repeat (first | with_reducible exact sid | exact List.forall_mem_nil _ | with_reducible refine sc ?_ | with_reducible refine sk ?_)); done) | ((repeat (refine fc (by k_mem) ?_)); exact List.forall_mem_nil _)))
  ·exact fun p hp => hs p (by revert p; (repeat (refine fc (by first | k_mem | (repeat (first | exact hnA | exact mKt hnA | exact mKt (mKt hnA) | exact mKt (mKt (mKt hnA)) | refine' mK4 rfl ?_ | refine' mK1 rfl ?_))) ?_)); exact List.forall_mem_nil _)
 case hret =>
  intro Rt tw lg9 nl9 Dl ys nD tabF' h' tk' m' out tx F8 N8 mR mL mD hi8 hL8 hLT8 n8 mF8 hx8 hT8
  have m735 : (735, tabObj tb4) ∈ out := hx8 _ (hT8 _ (by k_mem))
  have up : ∀ p ∈ tx, p.1 ≠ 735 → p ∈ tx.filter fun p => decide (p.1 ≠ 735) := fun p hp h => List.mem_filter.mpr ⟨hp, decide_eq_true h⟩
  have upc : ∀ {c : Addr} {o : Obj}, (c, o) ∈ ((ca4, oa4) :: (ca3, oa3) :: (ca2, oa2) :: (ca1, oa1) :: (735, tabObj tb4) :: TT) → NeA c 735 → (c, o) ∈ tx.filter fun p => decide (p.1 ≠ 735) := fun hm hn => up _ (hT8 _ hm) hn.ne
  refine hret Rt tw lg9 nl9 Dl ys nD tabF' tb4 h' tk' m' out (tx.filter fun p => decide (p.1 ≠ 735)) F8 N8 mR mL mD hi8 (hL8.lists fun p hp hc => up p hp (news_ne (q := (735, tabObj tb4)) N8 (hx8 p hp) m735 (by rw [hc]; simp))) (hLT8.to fun p hp ⟨vs, h1, t, h2⟩ => up p hp (tab_off N8 dd4 m735 (hx8 p hp) ⟨vs, h1, _, t, h2⟩))
   ⟨dd4, .inr ⟨ca1, oa1, va1, ta1, ?_, upc (by k_mem) g7351, da1, db1⟩⟩ ⟨dd4, .inr ⟨ca2, oa2, va2, ta2, ?_, upc (by k_mem) g7352, da2, db2⟩⟩ ⟨dd4, .inr ⟨ca3, oa3, va3, ta3, ?_, upc (by k_mem) g7353, da3, db3⟩⟩ ⟨dd4, .inr ⟨ca4, oa4, va4, ta4, dc4, upc (by k_mem) g7354, da4, db4⟩⟩
   ⟨fun p hp => n8.all p (List.mem_filter.mp hp).1⟩ ⟨fun p hp => of_decide_eq_true (List.mem_filter.mp hp).2⟩ mF8 m735 (fun p hp => hx8 p (List.mem_filter.mp hp).1) (fun p hp => up p (hT8 p (.tail _ (.tail _ (.tail _ (.tail _ (.tail _ hp)))))) (p735 p hp))
  ·rw [ne4 posA (by decide), ne3 posA (by decide), ne2 posA (by decide)]; exact dc1
  ·rw [ne4 posB (by decide), ne3 posB (by decide)]; exact dc2
  ·rw [ne4 posC (by decide)]; exact dc3
 ))only[↓bB]

end R6p
section R8p
theorem run_tail6 (w : World) {p : Program} {loose : List Str} {mean : ExcName → Option Value} {mg mb : Str → Option Value} {dp un : Nat} {gd : Option (List Code)} {cn : Str} {cs : Scope} {L a : Addr} {ccd : Value} {cl : List (Str × Addr)} {outer : List Env} {base g : Heap} {L' : Addr} {m : Str → Option Value} {s : Shared} {E : Value → Shared → Prop} {Q : Flow → Shared → Prop}
  {D dx oA pA hA nA : Addr} {k : DK5} {pr sl : Value} {os ps nvs : List Value} {no np nh nn : Nat} {tabF tabR : Array Value} {q1 q2 q3 : Obj} {TT tlD : Led} {aops : List AOp} {pls : List Int} {nst : Nat} {fin : AM} (prog : List COp) (rows : List Row) (h1 : 1 ≤ rows.length) (h3 : rows.length ≤ 3)
  (hq1 : q1.data = .cell (some (.ref nA))) (hq2 : q2.data = .cell none) (hq3 : q3.data = .cell none) (hnA : (nA, listOf nvs.toArray nn) ∈ TT) (hnv : StrsAre nvs (wnames rows.length))
  (hops : OpsIn tlD os aops) (hps : IntsAre ps pls) (hne : NeA oA pA) (sub : ∀ p ∈ tlD, p ∈ TT) (kin : ∀ p ∈ tlD, p.2.cls = .type "tuple") (hlen : os.length ≤ 1000) (hlab : ∀ o ∈ aops, labOk pls.length o) (hpl : pls.length ≤ 1000) (hacs : ACs tlD (aops.map (relab pls)) prog) (hways : ways prog) (hpr : prog.length ≤ 1000)
  (hr : Runs (wnames rows.length) prog nst ⟨0, none, wls 77 77 77, [], ""⟩ fin) (hst : nst ≤ 6000) (hfw : fin.W.length ≤ 1000) (hfn : ∀ n ∈ wnames rows.length, (fin.W.lookup n).isSome = true) (hfl : fin.log.length ≤ 10000)
  (hret : ∀ Rt tw lgA lg9 nl9 Dl ys nD tabF' tabR' h' tk' m' out tx, Fr g L' h' m' → News g L' h' out → (Rt, tup [.str fin.word tw, .ref lgA, .ref Dl]) ∈ out → (lgA, listOf (lg9 : List Value).toArray nl9) ∈ out → (Dl, listOf (ys : List Value).toArray nD) ∈ out → IntsAre ys ((wnames rows.length).map fun n => (fin.W.lookup n).getD 0) → LogIn tx lg9 fin.log → LamTab posF qualF tabF' tx →
   LamTab posA qualR tabR' tx → LamTab posB qualR tabR' tx → LamTab posC qualR tabR' tx → LamTab posD qualR tabR' tx → NeAll 203 tx → NeAll 735 tx → (203, tabObj tabF') ∈ out → (735, tabObj tabR') ∈ out → (∀ p ∈ tx, p ∈ out) → (∀ p ∈ TT, p ∈ tx) → Q (.ret (.ref Rt)) { s with heap := h', toks := tk' })
  (LTA : LamTab posA qualR tabR TT) (LTB : LamTab posB qualR tabR TT) (LTC : LamTab posC qualR tabR TT) (LTD : LamTab posD qualR tabR TT) (LTF : LamTab posF qualF tabF TT)
  (n735 : NeAll 735 ((203, tabObj tabF) :: (D, instObj 209 dx) :: (dx, dictOf (draftD k pr (.ref oA) (.ref pA) sl (.ref hA)) 5) :: (oA, listOf os.toArray no) :: (pA, listOf ps.toArray np) :: (hA, listOf #[] nh) :: TT)) (n203 : NeAll 203 ((735, tabObj tabR) :: (D, instObj 209 dx) :: (dx, dictOf (draftD k pr (.ref oA) (.ref pA) sl (.ref hA)) 5) :: (oA, listOf os.toArray no) :: (pA, listOf ps.toArray np) :: (hA, listOf #[] nh) :: TT))
  (c2 : NeAll (L' + 2) ((L' + 1, q1) :: (L' + 3, q3) :: (203, tabObj tabF) :: (735, tabObj tabR) :: (D, instObj 209 dx) :: (dx, dictOf (draftD k pr (.ref oA) (.ref pA) sl (.ref hA)) 5) :: (oA, listOf os.toArray no) :: (pA, listOf ps.toArray np) :: (hA, listOf #[] nh) :: TT))
  (c3 : NeAll (L' + 3) ((L' + 1, q1) :: (L' + 2, q2) :: (203, tabObj tabF) :: (735, tabObj tabR) :: (D, instObj 209 dx) :: (dx, dictOf (draftD k pr (.ref oA) (.ref pA) sl (.ref hA)) 5) :: (oA, listOf os.toArray no) :: (pA, listOf ps.toArray np) :: (hA, listOf #[] nh) :: TT))
  (a735 : NeA (L' + 1) 735) (a203 : NeA (L' + 1) 203)
  (B : Below (ktrTop dp un gd cn cs L a ccd cl outer) base (envX cn cs L a ccd cl :: outer) g) (X : Frag.In (Mine.hd.heap_1 w.params) g) (T : Top p loose mean mg mb g) (hdp : dp + 14 < recursionLimit) (hun : un + 250 < cLine)
  (C1 : CodeHd base 205 203) (C2 : CodeHd base 737 735)
  (hE : PassesOwn (model PR w) ((ktrTop dp un gd cn cs L a ccd cl outer).deeper (envR (Mine.hd.heap_1 w.params) L')) (envR (Mine.hd.heap_1 w.params) L') E)
  (F : Fr g L' s.heap m) (hk : ∀ p ∈ ([("draft", .ref D)] : List (Str × Value)), m p.1 = some p.2)
  (N : News g L' s.heap ((L' + 1, q1) :: (L' + 2, q2) :: (L' + 3, q3) :: (203, tabObj tabF) :: (735, tabObj tabR) :: (D, instObj 209 dx) :: (dx, dictOf (draftD k pr (.ref oA) (.ref pA) sl (.ref hA)) 5) :: (oA, listOf os.toArray no) :: (pA, listOf ps.toArray np) :: (hA, listOf #[] nh) :: TT)) :
  wpAny (model PR w) ((ktrTop dp un gd cn cs L a ccd cl outer).deeper (envR (Mine.hd.heap_1 w.params) L')) (execs (bodyFrom (Mine.hd.heap_1 w.params) 738 6) (envR (Mine.hd.heap_1 w.params) L')) Q E s := by
 refine uB ?_
 simp(disch:=k_dflt(
 refine iB ?_
 have hE0 := hE
 have hk0 := hk
 replace F := ksw_fr (m₀ := m) (stored := []) hk (fun _ _ _ => rfl) F
 dsimp only [kstB] at F
 have p735 : ∀ p ∈ TT, p.1 ≠ 735 := fun p hp => n735.all p (by (repeat (first | exact hp | exact mKt hp | exact mKt (mKt hp) | exact mKt (mKt (mKt hp)) | refine' mK4 rfl ?_ | refine' mK1 rfl ?_)))
 have p203 : ∀ p ∈ TT, p.1 ≠ 203 := fun p hp => n203.all p (by (repeat (first | exact hp | exact mKt hp | exact mKt (mKt hp) | exact mKt (mKt (mKt hp)) | refine' mK4 rfl ?_ | refine' mK1 rfl ?_)))
 have pc2 : ∀ p ∈ TT, p.1 ≠ L' + 2 := fun p hp => c2.all p (by (repeat (first | exact hp | exact mKt hp | exact mKt (mKt hp) | exact mKt (mKt (mKt hp)) | refine' mK4 rfl ?_ | refine' mK1 rfl ?_)))
 have pc3 : ∀ p ∈ TT, p.1 ≠ L' + 3 := fun p hp => c3.all p (by (repeat (first | exact hp | exact mKt hp | exact mKt (mKt hp) | exact mKt (mKt (mKt hp)) | refine' mK4 rfl ?_ | refine' mK1 rfl ?_)))
 with_reducible refine' body_lit ?ho hE ?_
 case ho => k_is
 clear hE
 intro hE
 simp only [List.drop_succ_cons, List.drop_zero]
 repeat' (first | ((fail_if_success (with_reducible show wpAny _ _ (execs ((.Assign _ (.Lambda _ _ _ _) _) :: _) _) _ _ _)); first | keq_rows | (k_unfold; (try dsimp only)) | (k_end; wrow_close) | walk1 | (dsimp only; walk1) | (leave1; try dsimp only)) | fail "no")
 rename News _ _ _ _ => N9
 rename Fr _ _ _ _ => F9
 rename Obj.IsDictOf _ _ _ => hd9
 rename (_ == sysModules) = false => lo9
 have hW9 : WhAt w _ (wls 77 77 77) := ⟨_, hd9, .cons (.int _ _) (.cons (.int _ _) (.cons (.int _ _) .nil))⟩
 with_reducible refine' execs_at (K := Mine.hd.heap_1 w.params) (f := 738) (i := 8) ?ho ?hs ?hsc ?h
 case ho => k_is
 case hs => exact rfl
 case hsc => exact rfl
 with_reducible (refine' run_tail8 w (TT := TT) (tlD := tlD) (aops := aops) (pls := pls) (nA := nA) (tabF := tabF) (tabR := tabR) (nn := nn) prog rows h1 h3 hq1 ?hq2 ?hq3 hW9 lo9 hnA hnv hops hps hne sub kin hlen hlab hpl hacs hways hpr hr hst hfw hfn hfl ?hret LTA LTB LTC LTD LTF n735 n203 ?cW ?cL a735 ?b735 ?e735 a203 ?b203 ?e203 ?B ?X ?T hdp hun C1 C2 hE0 F9 ?hk ?N)
 case B => k_asm
 case X => k_asm
 case T => k_asm
 case N => exact fun p hp => N9 p (by
  revert p
  (repeat (refine fc (by k_mem) ?_))
  intro p hp
  (repeat (first | exact hp | exact mKt hp | exact mKt (mKt hp) | exact mKt (mKt (mKt hp)) | refine' mK4 rfl ?_ | refine' mK1 rfl ?_)))
 case hq2 => assumption
 case hq3 => assumption
 case b735 => exact ⟨fun e => c2.all (735, tabObj tabR) (by k_mem) e.symm⟩
 case e735 => exact ⟨fun e => c3.all (735, tabObj tabR) (by k_mem) e.symm⟩
 case b203 => exact ⟨fun e => c2.all (203, tabObj tabF) (by k_mem) e.symm⟩
 case e203 => exact ⟨fun e => c3.all (203, tabObj tabF) (by k_mem) e.symm⟩
 case cW => exact ⟨by (repeat (refine fc (by k_ne) ?_)); k_all⟩
 case cL => exact ⟨by (repeat (refine fc (by k_ne) ?_)); k_all⟩
 case hk =>
  intro p hp
  simp only [List.mem_cons, List.not_mem_nil, or_false] at hp
  rcases hp with rfl
  with_unfolding_all exact rfl
 case hret => exact fun Rt tw lg9 nl9 Dl ys nD tabF' tabR' h' tk' m' out tx => hret Rt tw _ lg9 nl9 Dl ys nD tabF' tabR' h' tk' m' out tx
 ))only[↓bB]

end R8p
section R9ap
noncomputable def IsSeq (p : Addr × Obj) : Prop := ∃ vs n, p.2.data = .seq vs n
theorem isSeq_tup {a : Addr} {vs : List Value} : IsSeq (a, tup vs) := ⟨_, _, rfl⟩
section
variable {tl tl' : Led} (hs : ∀ p ∈ tl, IsSeq p → p ∈ tl')
include hs
theorem ExpIn.data {e : Value} {u : Int} (h : ExpIn tl e u) : ExpIn tl' e u := by
 obtain ⟨a, b, c, d, f, g, h1, h2⟩ := h
 exact ⟨a, b, c, d, f, g, hs _ h1 isSeq_tup, hs _ h2 isSeq_tup⟩
theorem RefIn.data {e : Value} {u : Str} (h : RefIn tl e u) : RefIn tl' e u := by
 obtain ⟨a, b, c, d, f, g, e1, h1⟩ := h
 exact ⟨a, b, c, d, f, g, e1, hs _ h1 isSeq_tup⟩
theorem CondIn.data {e : Value} {u : Str} {b : Int} (h : CondIn tl e u b) : CondIn tl' e u b := by
 obtain ⟨a, b, c, d, f, e1, h1, h2, h3⟩ := h
 exact ⟨a, b, c, d, f, e1, hs _ h1 isSeq_tup, h2.data hs, h3.data hs⟩
theorem AC.data {a : AOp} {c : COp} (h : AC tl a c) : AC tl' a c := by
 cases h with
 | push h => exact .push (h.data hs)
 | put h => exact .put (h.data hs)
 | test h => exact .test (h.data hs)
 | jump => exact .jump
 | deed => exact .deed
 | stop => exact .stop
theorem ACs.data {as : List AOp} {cs : List COp} (h : ACs tl as cs) : ACs tl' as cs := by
 induction h with
 | nil => exact .nil
 | cons a _ ih => exact .cons (a.data hs) ih
theorem OpsIn.data {vs : List Value} {os : List AOp} (h : OpsIn tl vs os) : OpsIn tl' vs os := by
 induction h with
 | nil => exact .nil
 | cons a _ ih =>
  refine .cons ?_ ih
  cases a with
  | push a => exact .push (hs _ a isSeq_tup)
  | put a b c => exact .put (hs _ a isSeq_tup) (hs _ b isSeq_tup) (hs _ c isSeq_tup)
  | test a => exact .test (hs _ a isSeq_tup)
  | jump a => exact .jump (hs _ a isSeq_tup)
  | deed a => exact .deed (hs _ a isSeq_tup)
  | stop a => exact .stop (hs _ a isSeq_tup)
end
noncomputable def wayOk : COp → Bool
 | .put _ w _ => decide (w = "+") || decide (w = "=")
 | _ => true
theorem ways_of {l : List COp} (h : l.all wayOk = true) : ways l := by
 intro o ho name way lb e
 subst e
 have := List.all_eq_true.mp h _ ho
 simpa [wayOk] using this
theorem cProg_ok (after : Bool) (rows : List Row) : ways (cProg after rows) ∧ (cProg after rows).length ≤ 1000 := by
 cases rows with
 | nil => exact ⟨ways_of rfl, Nat.zero_le _⟩
 | cons a rows =>
 obtain ⟨b0, m0, d0⟩ := a
 cases rows with
 | nil => cases after <;> exact ⟨ways_of rfl, Nat.le_of_ble_eq_true rfl⟩
 | cons a rows =>
 obtain ⟨b1, m1, d1⟩ := a
 cases rows with
 | nil => cases after <;> exact ⟨ways_of rfl, Nat.le_of_ble_eq_true rfl⟩
 | cons a rows =>
 obtain ⟨b2, m2, d2⟩ := a
 cases rows with
 | nil => cases after <;> exact ⟨ways_of rfl, Nat.le_of_ble_eq_true rfl⟩
 | cons a rows => exact ⟨ways_of rfl, Nat.zero_le _⟩
theorem off_data {h₀ h : Heap} {L : Addr} {news : Led} {p q : Addr × Obj} (N : News h₀ L h news) (hp : p ∈ news) (hq : q ∈ news) (hd : p.2.data ≠ q.2.data) : p.1 ≠ q.1 := by
 intro e
 have e1 := (N p hp).1
 have e2 := (N q hq).1
 rw [e, e2] at e1
 exact hd (by rw [Option.some.inj e1])

end R9ap
section R9p
noncomputable def CtrR (w : World) (f : Addr) (dd uu : Nat) (vs : List Value) (need : List (Addr × Obj)) (Post : Heap → Value → Heap → List (Addr × Obj) → Prop) : Prop :=
 ∀ (p : Program) (loose : List Str) (mean : ExcName → Option Value) (mg mb : Str → Option Value) (dp un : Nat) (gd : Option (List Code)) (cn : Str) (cs : Scope) (a : Addr) (ccd : Value) (cl : List (Str × Addr)) (outer : List Env) (A₀ : Around) (base h₀ : Heap) (L : Addr) (m : Str → Option Value) (s : Shared)
  (Q E : Value → Shared → Prop),
  CodeHd base 205 203 → CodeHd base 737 735 → Below A₀ base outer h₀ → Fr h₀ L s.heap m → Frag.In (Mine.hd.heap_1 w.params) h₀ → News h₀ L s.heap need → Top p loose mean mg mb h₀ → cs.kind = .function → dp + dd < recursionLimit → un + uu < cLine →
  (∀ r out h' tk', Fr h₀ L h' m → News h₀ L h' out → Keep s.heap h' (need.map (·.1)) → Post s.heap r h' out → Q r { s with heap := h', toks := tk' }) →
  wpAny (model PR w) (ktrTop dp un gd cn cs L a ccd cl outer) (call (.ref f) vs) Q E s
theorem RowsIn.mono {tl tl' : Led} {vs : List Value} {rs : List Row} (h : RowsIn tl vs rs) (hs : ∀ p ∈ tl, p ∈ tl') : RowsIn tl' vs rs := by
 induction h with
 | nil => exact .nil
 | cons a _ ih => exact .cons (hs _ a) ih
theorem NeAll.sub {d : Addr} {l l' : Led} (h : NeAll d l) (hs : ∀ p ∈ l', p ∈ l) : NeAll d l' := ⟨fun p hp => h.all p (hs p hp)⟩
theorem law_run_c (w : World) (after : Bool) {rowsA nA : Addr} {rvs nvs : List Value} {nr nn : Nat} {tabF tabR : Array Value} {tl : Led} (rows : List Row) (h1 : 1 ≤ rows.length) (h3 : rows.length ≤ 3) (hrv : RowsIn tl rvs rows) (hnv : StrsAre nvs (wnames rows.length))
  (n203 : NeAll 203 ((735, tabObj tabR) :: (rowsA, listOf rvs.toArray nr) :: (nA, listOf nvs.toArray nn) :: tl)) (n735 : NeAll 735 ((203, tabObj tabF) :: (rowsA, listOf rvs.toArray nr) :: (nA, listOf nvs.toArray nn) :: tl))
  (LTA : LamTab posA qualR tabR tl) (LTB : LamTab posB qualR tabR tl) (LTC : LamTab posC qualR tabR tl) (LTD : LamTab posD qualR tabR tl) (LTF : LamTab posF qualF tabF tl)
  {nst : Nat} {fin : AM} (hr : Runs (wnames rows.length) (cProg after rows) nst ⟨0, none, wls 77 77 77, [], ""⟩ fin) (hst : nst ≤ 6000) (hfw : fin.W.length ≤ 1000) (hfn : ∀ n ∈ wnames rows.length, (fin.W.lookup n).isSome = true) (hfl : fin.log.length ≤ 10000) :
  CtrR w 738 16 300 [.ref rowsA, .ref nA, .bool after] ((203, tabObj tabF) :: (735, tabObj tabR) :: (rowsA, listOf rvs.toArray nr) :: (nA, listOf nvs.toArray nn) :: tl)
   (fun _ r _ out => ∃ Rt tw lgA lg9 nl9 Dl ys nD tabF' tabR' tx, r = .ref Rt ∧ (Rt, tup [.str fin.word tw, .ref lgA, .ref Dl]) ∈ out ∧ (lgA, listOf (lg9 : List Value).toArray nl9) ∈ out ∧ (Dl, listOf (ys : List Value).toArray nD) ∈ out ∧ IntsAre ys ((wnames rows.length).map fun n => (fin.W.lookup n).getD 0) ∧ LogIn tx lg9 fin.log ∧ LamTab posF qualF tabF' tx ∧
    LamTab posA qualR tabR' tx ∧ LamTab posB qualR tabR' tx ∧ LamTab posC qualR tabR' tx ∧ LamTab posD qualR tabR' tx ∧ NeAll 203 tx ∧ NeAll 735 tx ∧ (203, tabObj tabF') ∈ out ∧ (735, tabObj tabR') ∈ out ∧ (∀ p ∈ tx, p ∈ out) ∧ (∀ p ∈ (rowsA, listOf rvs.toArray nr) :: (nA, listOf nvs.toArray nn) :: tl, p ∈ tx)) := by
 refine uB ?_
 simp(disch:=k_dflt(
 refine iB ?_
 unfold CtrR
 intro p loose mean mg mb dp un gd cn cs a ccd cl outer A₀ base h₀ L m s Q E C1 C2 B F X N T hk hdp hun hret
 have hrl := hrv.length
 have hnl := hnv.length
 have p203 : ∀ p ∈ tl, p.1 ≠ 203 := fun p hp => n203.all p (by (repeat (first | exact hp | exact mKt hp | exact mKt (mKt hp) | exact mKt (mKt (mKt hp)) | refine' mK4 rfl ?_ | refine' mK1 rfl ?_)))
 have p735 : ∀ p ∈ tl, p.1 ≠ 735 := fun p hp => n735.all p (by (repeat (first | exact hp | exact mKt hp | exact mKt (mKt hp) | exact mKt (mKt (mKt hp)) | refine' mK4 rfl ?_ | refine' mK1 rfl ?_)))
 refine wpAny_call ?_
 k_dflt (refine' code_defCG ?k1 ?k2 ?k3 ?k4 ?k5 ?kA ?kF ?kK ?k6 ?k7 ?k8 ?k9 ?kB ?kD ?_ ?c2 ?c3 ?c4; (case kA => exact rfl); (case kF => exact rfl); (case kK => assumption); (case k1 => k_asm); (case k2 => k_asm); (case k3 => k_asm); (case k4 => k_asm); (case k5 => k_asm); (case k6 => k_is); (case k7 => k_is); (case k8 => ktr_room); (case k9 => first | exact BindsTo.of_eq rfl | exact binds_K (by k_in) rfl (by k_is) rfl rfl rfl); (case kB => exact rfl); (case kD => decide +kernel); (case c2 => exact rfl); (case c3 => exact rfl); (case c4 => exact rfl); k_whole; intro g' L' h' tk' cells' FG' F' N' Y' B' X' T' l1 GS'; (try k_lt l1); k_cells Y'; (try simp only [List.cons_append, List.nil_append] at N'); (try dsimp only); (try k_fold))
 (refine letA ?_; intro aL)
 (refine letFr F' ?_; clear F'; intro mL F')
 (refine letNews N' ?_; clear N'; intro nL N')
 repeat' (first | ((fail_if_success (with_reducible show LCg.CompSrc _ _ _ _ _ _ _ _ _ _ _ _ _ _)); first | keq_rows | ((with_reducible show wpAny _ _ (eval (Expr.ListComp _ _ _ _) _) _ _ _); (k_here; k_dflt (refine LCg.ListComp_U (F₀ := by k_asm) (by rfl) (by decide) (by rfl) (by decide) (by rfl) ?_))) | ((with_reducible show wpAny _ _ (setAttr (Value.ref _) _ _) _ _ _); (k_here; k_dflt (refine' setX ?k1 ?k2 ?k3 ?k4 ?k5 ?k6 ?k7 ?k8 ?k9 ?k10 ?k11 ?k12 ?k13 ?_; (case k1 => k_asm); (case k2 => k_asm); (case k3 => k_asm); (case k4 => k_inst); (case k5 => exact rfl); (case k6 => k_is); (case k7 => k_is); (case k8 => k_is); (case k9 => k_is); (case k10 => k_get); (case k11 => k_put); (case k12 => k_upd); (case k13 => exact Nat.le_of_ble_eq_true rfl); k_whole); intros; (try k_sweep))) | ((k_here; (with_reducible show wpAny _ _ (newTuple _) _ _ _); k_dflt (refine' tupX ?F ?N ?_ ?z; (case F => k_asm); (case N => k_asm); (case z => kmk_size)); intros; (try k_sweep))) | (k_unfold; (try dsimp only)) | walk1 | (dsimp only; walk1) | (leave1; try dsimp only)) | fail "no")
 k_here
 refine LCg.CompSrc.ledger (its := #[]) (by rfl) (by k_asm) (by k_asm) (by k_mem) (Nat.zero_le _) ?_
 intro gc
 refine LCg.CompRest.zero ?_
 dsimp only [LCg.FinE]
 intro Dc hc tkc Fc Nc oc
 replace oc := off1_all oc
 (try simp only [List.nil_append, List.cons_append] at Nc)
 (try dsimp only)
 repeat' (first | ((fail_if_success (with_reducible show wpAny _ _ (exec (.For _ _ _ _ _) _) _ _ _)); first | keq_rows | ((with_reducible show wpAny _ _ (eval (Expr.ListComp _ _ _ _) _) _ _ _); (k_here; k_dflt (refine LCg.ListComp_U (F₀ := by k_asm) (by rfl) (by decide) (by rfl) (by decide) (by rfl) ?_))) | ((with_reducible show wpAny _ _ (setAttr (Value.ref _) _ _) _ _ _); (k_here; k_dflt (refine' setX ?k1 ?k2 ?k3 ?k4 ?k5 ?k6 ?k7 ?k8 ?k9 ?k10 ?k11 ?k12 ?k13 ?_; (case k1 => k_asm); (case k2 => k_asm); (case k3 => k_asm); (case k4 => k_inst); (case k5 => exact rfl); (case k6 => k_is); (case k7 => k_is); (case k8 => k_is); (case k9 => k_is); (case k10 => k_get); (case k11 => k_put); (case k12 => k_upd); (case k13 => exact Nat.le_of_ble_eq_true rfl); k_whole); intros; (try k_sweep))) | ((k_here; (with_reducible show wpAny _ _ (newTuple _) _ _ _); k_dflt (refine' tupX ?F ?N ?_ ?z; (case F => k_asm); (case N => k_asm); (case z => kmk_size)); intros; (try k_sweep))) | (k_unfold; (try dsimp only)) | walk1 | (dsimp only; walk1) | (leave1; try dsimp only)) | fail "no")
 rename News _ _ _ _ => N9
 rename Fr _ _ _ _ => F9
 rename Heap => hh
 have hX8 : ∃ (mF : Str → Option Value) (tA hA pA oA D dx : Addr) (dk : DK5) (pr sl : Value) (q1 q2 q3 : Obj), Fr g' L' hh mF ∧ (∀ p ∈ ([("rows", .ref rowsA), ("is_after", .bool after), ("draft", .ref D), ("told", .ref tA)] : List (Str × Value)), mF p.1 = some p.2) ∧
   News g' L' hh ((tA, listOf #[] 0) :: (D, instObj 209 dx) :: (dx, dictOf (draftD dk pr (.ref oA) (.ref pA) sl (.ref hA)) 5) :: (oA, listOf #[] 0) :: (pA, listOf #[] 0) :: (hA, listOf #[] 0) :: (L' + 1, q1) :: (L' + 2, q2) :: (L' + 3, q3) :: (203, tabObj tabF) :: (735, tabObj tabR) :: (rowsA, listOf rvs.toArray nr) :: (nA, listOf nvs.toArray nn) :: tl) ∧ q1.data = .cell (some (.ref nA)) ∧ q2.data = .cell none ∧ q3.data = .cell none ∧ NeAll tA ((D, instObj 209 dx) :: (dx, dictOf (draftD dk pr (.ref oA) (.ref pA) sl (.ref hA)) 5) :: (oA, listOf #[] 0) :: (pA, listOf #[] 0) :: (hA, listOf #[] 0) :: (L' + 1, q1) :: (L' + 2, q2) :: (L' + 3, q3) :: (203, tabObj tabF) :: (735, tabObj tabR) :: (rowsA, listOf rvs.toArray nr) :: (nA, listOf nvs.toArray nn) :: tl) ∧ NeAll oA ((tA, listOf #[] 0) :: (D, instObj 209 dx) :: (dx, dictOf (draftD dk pr (.ref oA) (.ref pA) sl (.ref hA)) 5) :: (pA, listOf #[] 0) :: (hA, listOf #[] 0) :: (L' + 1, q1) :: (L' + 2, q2) :: (L' + 3, q3) :: (203, tabObj tabF) :: (735, tabObj tabR) :: (rowsA, listOf rvs.toArray nr) :: (nA, listOf nvs.toArray nn) :: tl) ∧ NeAll pA ((tA, listOf #[] 0) :: (D, instObj 209 dx) :: (dx, dictOf (draftD dk pr (.ref oA) (.ref pA) sl (.ref hA)) 5) :: (oA, listOf #[] 0) :: (hA, listOf #[] 0) :: (L' + 1, q1) :: (L' + 2, q2) :: (L' + 3, q3) :: (203, tabObj tabF) :: (735, tabObj tabR) :: (rowsA, listOf rvs.toArray nr) :: (nA, listOf nvs.toArray nn) :: tl) ∧ NeAll (L' + 2) ((tA, listOf #[] 0) :: (D, instObj 209 dx) :: (dx, dictOf (draftD dk pr (.ref oA) (.ref pA) sl (.ref hA)) 5) :: (oA, listOf #[] 0) :: (pA, listOf #[] 0) :: (hA, listOf #[] 0) :: (L' + 1, q1) :: (L' + 3, q3) :: (203, tabObj tabF) :: (735, tabObj tabR) :: (rowsA, listOf rvs.toArray nr) :: (nA, listOf nvs.toArray nn) :: tl) ∧ NeAll (L' + 3) ((tA, listOf #[] 0) :: (D, instObj 209 dx) :: (dx, dictOf (draftD dk pr (.ref oA) (.ref pA) sl (.ref hA)) 5) :: (oA, listOf #[] 0) :: (pA, listOf #[] 0) :: (hA, listOf #[] 0) :: (L' + 1, q1) :: (L' + 2, q2) :: (203, tabObj tabF) :: (735, tabObj tabR) :: (rowsA, listOf rvs.toArray nr) :: (nA, listOf nvs.toArray nn) :: tl) ∧ NeA (L' + 1) 735 ∧ NeA (L' + 1) 203 ∧ NeAll 735 ((tA, listOf #[] 0) :: (D, instObj 209 dx) :: (dx, dictOf (draftD dk pr (.ref oA) (.ref pA) sl (.ref hA)) 5) :: (oA, listOf #[] 0) :: (pA, listOf #[] 0) :: (hA, listOf #[] 0) :: (L' + 1, q1) :: (L' + 2, q2) :: (L' + 3, q3) :: (203, tabObj tabF) :: (rowsA, listOf rvs.toArray nr) :: (nA, listOf nvs.toArray nn) :: tl) ∧ NeAll 203 ((tA, listOf #[] 0) :: (D, instObj 209 dx) :: (dx, dictOf (draftD dk pr (.ref oA) (.ref pA) sl (.ref hA)) 5) :: (oA, listOf #[] 0) :: (pA, listOf #[] 0) :: (hA, listOf #[] 0) :: (L' + 1, q1) :: (L' + 2, q2) :: (L' + 3, q3) :: (735, tabObj tabR) :: (rowsA, listOf rvs.toArray nr) :: (nA, listOf nvs.toArray nn) :: tl) := by
  refine' exi13 _ _ _ _ _ _ _ ⟨_, _, _, _, _, _, _, _, _, _⟩ _ _ _ _ _ ⟨F9, ?hm, fun p hp => N9 p ?hn, ?h1, ?h2, ?h3, ?nT, ?nO, ?nP, ?n2, ?n3, ?a7, ?a2, ?n7, ?n20⟩
  case hn =>
   revert p
   (repeat (refine fc (by k_mem) ?_))
   (repeat (first | exact sid | refine' sK4 rfl ?_ | refine' sK1 rfl ?_))
  case hm =>
   exact fc (by with_unfolding_all exact rfl) (fc (by with_unfolding_all exact rfl) (fc (by with_unfolding_all exact rfl) (fc (by with_unfolding_all exact rfl) (List.forall_mem_nil _))))
  case h1 => assumption
  case h2 => assumption
  case h3 => assumption
  case nT => exact ⟨by (repeat (refine fc (by k_ne) ?_)); k_all⟩
  case nO => exact ⟨by (repeat (refine fc (by k_ne) ?_)); k_all⟩
  case nP => exact ⟨by (repeat (refine fc (by k_ne) ?_)); k_all⟩
  case n2 => exact ⟨by (repeat (refine fc (by k_ne) ?_)); exact fun p hp => Nat.ne_of_lt (Nat.lt_trans (l1 p (by (repeat (first | exact hp | exact mKt hp | exact mKt (mKt hp) | exact mKt (mKt (mKt hp)) | refine' mK4 rfl ?_ | refine' mK1 rfl ?_)))) (by lia))⟩
  case n3 => exact ⟨by (repeat (refine fc (by k_ne) ?_)); exact fun p hp => Nat.ne_of_lt (Nat.lt_trans (l1 p (by (repeat (first | exact hp | exact mKt hp | exact mKt (mKt hp) | exact mKt (mKt (mKt hp)) | refine' mK4 rfl ?_ | refine' mK1 rfl ?_)))) (by lia))⟩
  case n7 => exact ⟨by (repeat (refine fc (by first | exact n735.at (by k_mem) | k_ne) ?_)); exact p735⟩
  case n20 => exact ⟨by (repeat (refine fc (by first | exact n203.at (by k_mem) | k_ne) ?_)); exact p203⟩
  case a7 => exact ⟨by k_ne⟩
  case a2 => exact ⟨by k_ne⟩
 with_reducible refine ex13 hX8 ?_
 clear hX8
 intro mF tA hA pA oA D dx dk pr sl q1 q2 q3 hX9
 with_reducible refine an15 hX9 ?_
 clear hX9
 intro FF hmF NN hq1 hq2 hq3 nT nO nP n2 n3 a735 a203 n7 n20
 clear N9 F9
 with_reducible refine' exec_at (K := Mine.hd.heap_1 w.params) (f := 738) (i := 2) ?ho1 ?hs1 ?hsc1 ?h1q
 case ho1 => k_is
 case hs1 => exact rfl
 case hsc1 => exact rfl
 with_reducible (refine' wpAny_mono (run_loop w (tA := tA) (rowsA := rowsA) (q1 := q1) (nt := 0) (nr := nr) (nn := nn) (tl := ((D, instObj 209 dx) :: (dx, dictOf (draftD dk pr (.ref oA) (.ref pA) sl (.ref hA)) 5) :: (oA, listOf #[] 0) :: (pA, listOf #[] 0) :: (hA, listOf #[] 0) :: (L' + 2, q2) :: (L' + 3, q3) :: (203, tabObj tabF) :: (735, tabObj tabR) :: tl)) rows h3 (hrv.mono ?sub) hnv hq1 ?hta ?z1 ?z2 ?z3 ?B ?X ?T (by ktr_room) (by ktr_units) ?hE FF ?hk ?N) ?_ (fun _ _ e => e))
 case B => k_asm
 case X => k_asm
 case T => k_asm
 case hE => passes_own
 case sub => exact fun p hp => (by (repeat (first | exact hp | exact mKt hp | exact mKt (mKt hp) | exact mKt (mKt (mKt hp)) | refine' mK4 rfl ?_ | refine' mK1 rfl ?_)))
 case hta => exact nT.sub (by (first | ((repeat (first | with_reducible exact sid | exact List.forall_mem_nil _ | with_reducible refine sc ?_ | with_reducible refine sk ?_)); done) | ((repeat (refine fc (by k_mem) ?_)); (repeat (first | exact sid | refine' sK4 rfl ?_ | refine' sK1 rfl ?_)))))
 case z1 => exact ⟨fun e => nT.all (rowsA, listOf rvs.toArray nr) (by k_mem) e.symm⟩
 case z2 => exact ⟨fun e => nT.all (nA, listOf nvs.toArray nn) (by k_mem) e.symm⟩
 case z3 => exact ⟨fun e => nT.all (L' + 1, q1) (by k_mem) e.symm⟩
 case N => exact fun p hp => NN p (by revert p; (first | ((repeat (first | with_reducible exact sid | exact List.forall_mem_nil _ | with_reducible refine sc ?_ | with_reducible refine sk ?_)); done) | ((repeat (refine fc (by k_mem) ?_)); (repeat (first | exact sid | refine' sK4 rfl ?_ | refine' sK1 rfl ?_)))))
 case hk => exact fc (hmF ("rows", .ref rowsA) (by k_mem)) (fc (hmF ("told", .ref tA) (by k_mem)) (List.forall_mem_nil _))
 intro fl s9 hK9
 refine an2 hK9 ?_
 clear hK9
 intro hR9 hX9
 subst hR9
 with_reducible refine ex6 hX9 ?_
 clear hX9
 intro h9 tk9 m9 told nt9 new hX9
 with_reducible refine an6 hX9 ?_
 clear hX9
 intro hR9
 subst hR9
 intro F9 hm9 N9 kin hT
 have hk9 : ∀ p ∈ ([("is_after", .bool after), ("draft", .ref D), ("told", .ref tA)] : List (Str × Value)), m9 p.1 = some p.2 := by
  exact fc ((hm9 ("is_after" : Str) (by decide)).trans (hmF ("is_after", .bool after) (by k_mem))) (fc ((hm9 ("draft" : Str) (by decide)).trans (hmF ("draft", .ref D) (by k_mem))) (fc ((hm9 ("told" : Str) (by decide)).trans (hmF ("told", .ref tA) (by k_mem))) (List.forall_mem_nil _)))
 replace F9 := ksw_fr (m₀ := m9) (stored := []) hk9 (fun _ _ _ => rfl) F9
 dsimp only [kstB] at F9
 have mP : ∀ p ∈ ((D, instObj 209 dx) :: (dx, dictOf (draftD dk pr (.ref oA) (.ref pA) sl (.ref hA)) 5) :: (oA, listOf #[] 0) :: (pA, listOf #[] 0) :: (hA, listOf #[] 0) :: (L' + 2, q2) :: (L' + 3, q3) :: (203, tabObj tabF) :: (735, tabObj tabR) :: tl), p ∈ ((tA, listOf told.toArray nt9) :: (L' + 1, q1) :: (rowsA, listOf rvs.toArray nr) :: (nA, listOf nvs.toArray nn) :: (new ++ ((D, instObj 209 dx) :: (dx, dictOf (draftD dk pr (.ref oA) (.ref pA) sl (.ref hA)) 5) :: (oA, listOf #[] 0) :: (pA, listOf #[] 0) :: (hA, listOf #[] 0) :: (L' + 2, q2) :: (L' + 3, q3) :: (203, tabObj tabF) :: (735, tabObj tabR) :: tl))) := fun p hp => .tail _ (.tail _ (.tail _ (.tail _ (List.mem_append.mpr (.inr hp)))))
 have mQ : ∀ p ∈ ((hA, listOf #[] 0) :: (L' + 1, q1) :: (L' + 2, q2) :: (L' + 3, q3) :: (203, tabObj tabF) :: (735, tabObj tabR) :: (rowsA, listOf rvs.toArray nr) :: (nA, listOf nvs.toArray nn) :: tl), p ∈ ((tA, listOf told.toArray nt9) :: (L' + 1, q1) :: (rowsA, listOf rvs.toArray nr) :: (nA, listOf nvs.toArray nn) :: (new ++ ((D, instObj 209 dx) :: (dx, dictOf (draftD dk pr (.ref oA) (.ref pA) sl (.ref hA)) 5) :: (oA, listOf #[] 0) :: (pA, listOf #[] 0) :: (hA, listOf #[] 0) :: (L' + 2, q2) :: (L' + 3, q3) :: (203, tabObj tabF) :: (735, tabObj tabR) :: tl))) := by
  (repeat (refine fc (by first | exact mP _ (by k_mem) | k_mem) ?_))
  exact fun p hp => mP p (by (repeat (first | exact hp | exact mKt hp | exact mKt (mKt hp) | exact mKt (mKt (mKt hp)) | refine' mK4 rfl ?_ | refine' mK1 rfl ?_)))
 have N8 : News g' L' h9 ((tA, listOf told.toArray nt9) :: (D, instObj 209 dx) :: (dx, dictOf (draftD dk pr (.ref oA) (.ref pA) sl (.ref hA)) 5) :: (oA, listOf #[] 0) :: (pA, listOf #[] 0) :: (new ++ ((hA, listOf #[] 0) :: (L' + 1, q1) :: (L' + 2, q2) :: (L' + 3, q3) :: (203, tabObj tabF) :: (735, tabObj tabR) :: (rowsA, listOf rvs.toArray nr) :: (nA, listOf nvs.toArray nn) :: tl))) := fun p hp => N9 p (by
  revert p
  (repeat (refine fc (by first | exact mP _ (by k_mem) | k_mem) ?_))
  intro p hp
  rcases List.mem_append.mp hp with hp | hp
  ·exact .tail _ (.tail _ (.tail _ (.tail _ (List.mem_append.mpr (.inl hp)))))
  ·exact mQ p hp)
 clear N9 NN FF
 generalize hTT9 : new ++ ((hA, listOf #[] 0) :: (L' + 1, q1) :: (L' + 2, q2) :: (L' + 3, q3) :: (203, tabObj tabF) :: (735, tabObj tabR) :: (rowsA, listOf rvs.toArray nr) :: (nA, listOf nvs.toArray nn) :: tl) = TT9 at N8
 (try dsimp only)
 repeat' (first | ((fail_if_success (with_reducible show wpAny _ _ (exec (.If _ _ _ _) _) _ _ _)); first | keq_rows | ((with_reducible show wpAny _ _ (eval (Expr.ListComp _ _ _ _) _) _ _ _); (k_here; k_dflt (refine LCg.ListComp_U (F₀ := by k_asm) (by rfl) (by decide) (by rfl) (by decide) (by rfl) ?_))) | ((with_reducible show wpAny _ _ (setAttr (Value.ref _) _ _) _ _ _); (k_here; k_dflt (refine' setX ?k1 ?k2 ?k3 ?k4 ?k5 ?k6 ?k7 ?k8 ?k9 ?k10 ?k11 ?k12 ?k13 ?_; (case k1 => k_asm); (case k2 => k_asm); (case k3 => k_asm); (case k4 => k_inst); (case k5 => exact rfl); (case k6 => k_is); (case k7 => k_is); (case k8 => k_is); (case k9 => k_is); (case k10 => k_get); (case k11 => k_put); (case k12 => k_upd); (case k13 => exact Nat.le_of_ble_eq_true rfl); k_whole); intros; (try k_sweep))) | ((k_here; (with_reducible show wpAny _ _ (newTuple _) _ _ _); k_dflt (refine' tupX ?F ?N ?_ ?z; (case F => k_asm); (case N => k_asm); (case z => kmk_size)); intros; (try k_sweep))) | (k_unfold; (try dsimp only)) | walk1 | (dsimp only; walk1) | (leave1; try dsimp only)) | fail "no")
 rename News _ _ _ _ => N9
 rename Fr _ _ _ _ => F9
 rename Heap => hh2
 have hX8 : ∃ (mF2 : Str → Option Value) (gA bA s2A e0A s1A : Addr) (tb1 tb2 tb3 : Tok), Fr g' L' hh2 mF2 ∧ (∀ p ∈ ([("is_after", .bool after), ("draft", .ref D), ("told", .ref tA), ("body", .ref gA)] : List (Str × Value)), mF2 p.1 = some p.2) ∧
   News g' L' hh2 ((gA, tup [.str "body" tb1, .ref bA]) :: (bA, tup [.ref s1A, .ref s2A]) :: (s2A, tup [.str "display" tb2, .ref e0A, .bool false]) :: (e0A, tup []) :: (s1A, tup [.str "continue" tb3]) :: (tA, listOf told.toArray nt9) :: (D, instObj 209 dx) :: (dx, dictOf (draftD dk pr (.ref oA) (.ref pA) sl (.ref hA)) 5) :: (oA, listOf #[] 0) :: (pA, listOf #[] 0) :: TT9) := by
  refine' exi9 _ _ _ _ _ _ _ _ _ ⟨F9, ?hm, N9⟩
  case hm =>
   exact fc (by with_unfolding_all exact rfl) (fc (by with_unfolding_all exact rfl) (fc (by with_unfolding_all exact rfl) (fc (by with_unfolding_all exact rfl) (List.forall_mem_nil _))))
 with_reducible refine ex9 hX8 ?_
 clear hX8
 intro mF2 gA bA s2A e0A s1A tb1 tb2 tb3 hX9
 with_reducible refine an3 hX9 ?_
 clear hX9
 intro F8 hm8 N8
 clear N9 F9
 subst hTT9
 have tlDk : ∀ p ∈ (gA, tup [.str "body" tb1, .ref bA]) :: (bA, tup [.ref s1A, .ref s2A]) :: (s2A, tup [.str "display" tb2, .ref e0A, .bool false]) :: (s1A, tup [.str "continue" tb3]) :: new, p.2.cls = .type "tuple" := fc rfl (fc rfl (fc rfl (fc rfl kin)))
 have inN : ∀ p ∈ new ++ ((hA, listOf #[] 0) :: (L' + 1, q1) :: (L' + 2, q2) :: (L' + 3, q3) :: (203, tabObj tabF) :: (735, tabObj tabR) :: (rowsA, listOf rvs.toArray nr) :: (nA, listOf nvs.toArray nn) :: tl), p ∈ ((gA, tup [.str "body" tb1, .ref bA]) :: (bA, tup [.ref s1A, .ref s2A]) :: (s2A, tup [.str "display" tb2, .ref e0A, .bool false]) :: (e0A, tup []) :: (s1A, tup [.str "continue" tb3]) :: (tA, listOf told.toArray nt9) :: (D, instObj 209 dx) :: (dx, dictOf (draftD dk pr (.ref oA) (.ref pA) sl (.ref hA)) 5) :: (oA, listOf #[] 0) :: (pA, listOf #[] 0) :: (new ++ ((hA, listOf #[] 0) :: (L' + 1, q1) :: (L' + 2, q2) :: (L' + 3, q3) :: (203, tabObj tabF) :: (735, tabObj tabR) :: (rowsA, listOf rvs.toArray nr) :: (nA, listOf nvs.toArray nn) :: tl))) := fun p hp => .tail _ (.tail _ (.tail _ (.tail _ (.tail _ (.tail _ (.tail _ (.tail _ (.tail _ (.tail _ hp)))))))))
 have inTT : ∀ p ∈ ((gA, tup [.str "body" tb1, .ref bA]) :: (bA, tup [.ref s1A, .ref s2A]) :: (s2A, tup [.str "display" tb2, .ref e0A, .bool false]) :: (e0A, tup []) :: (s1A, tup [.str "continue" tb3]) :: (new ++ ((hA, listOf #[] 0) :: (L' + 1, q1) :: (L' + 2, q2) :: (L' + 3, q3) :: (203, tabObj tabF) :: (735, tabObj tabR) :: (rowsA, listOf rvs.toArray nr) :: (nA, listOf nvs.toArray nn) :: tl))), p ∈ ((gA, tup [.str "body" tb1, .ref bA]) :: (bA, tup [.ref s1A, .ref s2A]) :: (s2A, tup [.str "display" tb2, .ref e0A, .bool false]) :: (e0A, tup []) :: (s1A, tup [.str "continue" tb3]) :: (tA, listOf told.toArray nt9) :: (D, instObj 209 dx) :: (dx, dictOf (draftD dk pr (.ref oA) (.ref pA) sl (.ref hA)) 5) :: (oA, listOf #[] 0) :: (pA, listOf #[] 0) :: (new ++ ((hA, listOf #[] 0) :: (L' + 1, q1) :: (L' + 2, q2) :: (L' + 3, q3) :: (203, tabObj tabF) :: (735, tabObj tabR) :: (rowsA, listOf rvs.toArray nr) :: (nA, listOf nvs.toArray nn) :: tl))) := by
  (repeat (refine fc (by k_mem) ?_))
  exact inN
 have ofO : ∀ p ∈ ((hA, listOf #[] 0) :: (L' + 1, q1) :: (L' + 2, q2) :: (L' + 3, q3) :: (203, tabObj tabF) :: (735, tabObj tabR) :: (rowsA, listOf rvs.toArray nr) :: (nA, listOf nvs.toArray nn) :: tl), p.1 ≠ oA := fun p hp => nO.all p (by
  revert p
  (repeat (refine fc (by k_mem) ?_))
  exact fun p hp => (by (repeat (first | exact hp | exact mKt hp | exact mKt (mKt hp) | exact mKt (mKt (mKt hp)) | refine' mK4 rfl ?_ | refine' mK1 rfl ?_))))
 have ofP : ∀ p ∈ ((hA, listOf #[] 0) :: (L' + 1, q1) :: (L' + 2, q2) :: (L' + 3, q3) :: (203, tabObj tabF) :: (735, tabObj tabR) :: (rowsA, listOf rvs.toArray nr) :: (nA, listOf nvs.toArray nn) :: tl), p.1 ≠ pA := fun p hp => nP.all p (by
  revert p
  (repeat (refine fc (by k_mem) ?_))
  exact fun p hp => (by (repeat (first | exact hp | exact mKt hp | exact mKt (mKt hp) | exact mKt (mKt (mKt hp)) | refine' mK4 rfl ?_ | refine' mK1 rfl ?_))))
 have tupO : ∀ p ∈ ((gA, tup [.str "body" tb1, .ref bA]) :: (bA, tup [.ref s1A, .ref s2A]) :: (s2A, tup [.str "display" tb2, .ref e0A, .bool false]) :: (e0A, tup []) :: (s1A, tup [.str "continue" tb3]) :: (tA, listOf told.toArray nt9) :: (D, instObj 209 dx) :: (dx, dictOf (draftD dk pr (.ref oA) (.ref pA) sl (.ref hA)) 5) :: (oA, listOf #[] 0) :: (pA, listOf #[] 0) :: (new ++ ((hA, listOf #[] 0) :: (L' + 1, q1) :: (L' + 2, q2) :: (L' + 3, q3) :: (203, tabObj tabF) :: (735, tabObj tabR) :: (rowsA, listOf rvs.toArray nr) :: (nA, listOf nvs.toArray nn) :: tl))), p.2.cls = .type "tuple" → p.1 ≠ oA := fun p hp hc => news_ne (q := (oA, listOf #[] 0)) N8 hp (by k_mem) (by rw [hc]; simp)
 have tupP : ∀ p ∈ ((gA, tup [.str "body" tb1, .ref bA]) :: (bA, tup [.ref s1A, .ref s2A]) :: (s2A, tup [.str "display" tb2, .ref e0A, .bool false]) :: (e0A, tup []) :: (s1A, tup [.str "continue" tb3]) :: (tA, listOf told.toArray nt9) :: (D, instObj 209 dx) :: (dx, dictOf (draftD dk pr (.ref oA) (.ref pA) sl (.ref hA)) 5) :: (oA, listOf #[] 0) :: (pA, listOf #[] 0) :: (new ++ ((hA, listOf #[] 0) :: (L' + 1, q1) :: (L' + 2, q2) :: (L' + 3, q3) :: (203, tabObj tabF) :: (735, tabObj tabR) :: (rowsA, listOf rvs.toArray nr) :: (nA, listOf nvs.toArray nn) :: tl))), p.2.cls = .type "tuple" → p.1 ≠ pA := fun p hp hc => news_ne (q := (pA, listOf #[] 0)) N8 hp (by k_mem) (by rw [hc]; simp)
 have m1 : NeAll oA ((gA, tup [.str "body" tb1, .ref bA]) :: (bA, tup [.ref s1A, .ref s2A]) :: (s2A, tup [.str "display" tb2, .ref e0A, .bool false]) :: (e0A, tup []) :: (s1A, tup [.str "continue" tb3]) :: (new ++ ((hA, listOf #[] 0) :: (L' + 1, q1) :: (L' + 2, q2) :: (L' + 3, q3) :: (203, tabObj tabF) :: (735, tabObj tabR) :: (rowsA, listOf rvs.toArray nr) :: (nA, listOf nvs.toArray nn) :: tl))) := ⟨by
  (repeat (refine fc (tupO _ (by k_mem) rfl) ?_))
  intro p hp
  rcases List.mem_append.mp hp with h | h
  ·exact tupO p (inN p hp) (kin p h)
  ·exact ofO p h⟩
 have m2 : NeAll pA ((gA, tup [.str "body" tb1, .ref bA]) :: (bA, tup [.ref s1A, .ref s2A]) :: (s2A, tup [.str "display" tb2, .ref e0A, .bool false]) :: (e0A, tup []) :: (s1A, tup [.str "continue" tb3]) :: (new ++ ((hA, listOf #[] 0) :: (L' + 1, q1) :: (L' + 2, q2) :: (L' + 3, q3) :: (203, tabObj tabF) :: (735, tabObj tabR) :: (rowsA, listOf rvs.toArray nr) :: (nA, listOf nvs.toArray nn) :: tl))) := ⟨by
  (repeat (refine fc (tupP _ (by k_mem) rfl) ?_))
  intro p hp
  rcases List.mem_append.mp hp with h | h
  ·exact tupP p (inN p hp) (kin p h)
  ·exact ofP p h⟩
 have za : NeA tA oA := ⟨nO.all (tA, listOf #[] 0) (by k_mem)⟩
 have zb : NeA tA pA := ⟨nP.all (tA, listOf #[] 0) (by k_mem)⟩
 have zc : NeA oA pA := ⟨nP.all (oA, listOf #[] 0) (by k_mem)⟩
 have subT : ∀ p ∈ ((gA, tup [.str "body" tb1, .ref bA]) :: (bA, tup [.ref s1A, .ref s2A]) :: (s2A, tup [.str "display" tb2, .ref e0A, .bool false]) :: (s1A, tup [.str "continue" tb3]) :: new), p ∈ ((gA, tup [.str "body" tb1, .ref bA]) :: (bA, tup [.ref s1A, .ref s2A]) :: (s2A, tup [.str "display" tb2, .ref e0A, .bool false]) :: (e0A, tup []) :: (s1A, tup [.str "continue" tb3]) :: (new ++ ((hA, listOf #[] 0) :: (L' + 1, q1) :: (L' + 2, q2) :: (L' + 3, q3) :: (203, tabObj tabF) :: (735, tabObj tabR) :: (rowsA, listOf rvs.toArray nr) :: (nA, listOf nvs.toArray nn) :: tl))) := by
  (repeat (refine fc (by k_mem) ?_))
  exact fun p hp => .tail _ (.tail _ (.tail _ (.tail _ (.tail _ (List.mem_append.mpr (.inl hp))))))
 with_reducible refine' exec_at (K := Mine.hd.heap_1 w.params) (f := 738) (i := 4) ?ho2 ?hs2 ?hsc2 ?h2q
 case ho2 => k_is
 case hs2 => exact rfl
 case hsc2 => exact rfl
 with_reducible (refine' wpAny_mono (run_if w after (tA := tA) (bA := gA) (d := (⟨D, dx, oA, pA, dk, pr, sl, .ref hA⟩ : DAt)) (told := told) (nt := nt9) (no := 0) (np := 0) (os := #[]) (ps := #[]) (tl := ((gA, tup [.str "body" tb1, .ref bA]) :: (bA, tup [.ref s1A, .ref s2A]) :: (s2A, tup [.str "display" tb2, .ref e0A, .bool false]) :: (s1A, tup [.str "continue" tb3]) :: new)) (TT := ((gA, tup [.str "body" tb1, .ref bA]) :: (bA, tup [.ref s1A, .ref s2A]) :: (s2A, tup [.str "display" tb2, .ref e0A, .bool false]) :: (e0A, tup []) :: (s1A, tup [.str "continue" tb3]) :: (new ++ ((hA, listOf #[] 0) :: (L' + 1, q1) :: (L' + 2, q2) :: (L' + 3, q3) :: (203, tabObj tabF) :: (735, tabObj tabR) :: (rowsA, listOf rvs.toArray nr) :: (nA, listOf nvs.toArray nn) :: tl)))) rows h1 h3 ?hT ?hB ⟨tlDk, .nil, .nil, by decide⟩ zc subT m1 m2 za zb ?B ?X ?T (by ktr_room) (by ktr_units) ?hE F8 ?hk ?N) ?_ (fun _ _ e => e))
 case B => k_asm
 case X => k_asm
 case T => k_asm
 case hE => passes_own
 case hT => exact hT.mono fun p hp => .tail _ (.tail _ (.tail _ (.tail _ hp)))
 case hB => exact ⟨bA, s1A, s2A, tb1, tb3, tb2, .ref e0A, .bool false, by k_mem, by k_mem, by k_mem, by k_mem⟩
 case hk => exact hm8
 case N => exact fun p hp => N8 p (by
  revert p
  (repeat (refine fc (by k_mem) ?_))
  exact inN)
 intro fl s10 hK9
 refine an2 hK9 ?_
 clear hK9
 intro hR9 hX9
 subst hR9
 with_reducible refine ex9 hX9 ?_
 clear hX9
 intro h10 tk10 os1 ps1 no1 np1 tl1 aops pls hX9
 with_reducible refine an6 hX9 ?_
 clear hX9
 intro hR9
 subst hR9
 intro F10 N10 St10 ok10 sb10
 clear N8 F8
 (try dsimp only)
 repeat' (first | ((fail_if_success (with_reducible show wpAny _ _ (exec (.Expr _ _) _) _ _ _)); first | keq_rows | ((with_reducible show wpAny _ _ (eval (Expr.ListComp _ _ _ _) _) _ _ _); (k_here; k_dflt (refine LCg.ListComp_U (F₀ := by k_asm) (by rfl) (by decide) (by rfl) (by decide) (by rfl) ?_))) | ((with_reducible show wpAny _ _ (setAttr (Value.ref _) _ _) _ _ _); (k_here; k_dflt (refine' setX ?k1 ?k2 ?k3 ?k4 ?k5 ?k6 ?k7 ?k8 ?k9 ?k10 ?k11 ?k12 ?k13 ?_; (case k1 => k_asm); (case k2 => k_asm); (case k3 => k_asm); (case k4 => k_inst); (case k5 => exact rfl); (case k6 => k_is); (case k7 => k_is); (case k8 => k_is); (case k9 => k_is); (case k10 => k_get); (case k11 => k_put); (case k12 => k_upd); (case k13 => exact Nat.le_of_ble_eq_true rfl); k_whole); intros; (try k_sweep))) | ((k_here; (with_reducible show wpAny _ _ (newTuple _) _ _ _); k_dflt (refine' tupX ?F ?N ?_ ?z; (case F => k_asm); (case N => k_asm); (case z => kmk_size)); intros; (try k_sweep))) | (k_unfold; (try dsimp only)) | walk1 | (dsimp only; walk1) | (leave1; try dsimp only)) | fail "no")
 have zd : (⟨D, dx, oA, pA, dk, pr, sl, .ref hA⟩ : DAt).oA = oA := rfl
 have n1' : NeAll oA (tl1 ++ ((tA, listOf told.toArray nt9) :: ((gA, tup [.str "body" tb1, .ref bA]) :: (bA, tup [.ref s1A, .ref s2A]) :: (s2A, tup [.str "display" tb2, .ref e0A, .bool false]) :: (e0A, tup []) :: (s1A, tup [.str "continue" tb3]) :: (new ++ ((hA, listOf #[] 0) :: (L' + 1, q1) :: (L' + 2, q2) :: (L' + 3, q3) :: (203, tabObj tabF) :: (735, tabObj tabR) :: (rowsA, listOf rvs.toArray nr) :: (nA, listOf nvs.toArray nn) :: tl))))) := ⟨fun p hp => by
  rcases List.mem_append.mp hp with h | h
  ·exact news_ne (q := (oA, listOf os1 no1)) N10 (.tail _ (.tail _ (.tail _ (.tail _ (List.mem_append.mpr (.inl h)))))) (.tail _ (.tail _ (.head _))) (by rw [St10.kinds p h]; show Value.type "tuple" ≠ Value.type "list"; simp)
  ·rcases List.mem_cons.mp h with h | h
   ·rw [h]; exact za.ne
   ·exact m1.all p h⟩
 have n2' : NeAll pA (tl1 ++ ((tA, listOf told.toArray nt9) :: ((gA, tup [.str "body" tb1, .ref bA]) :: (bA, tup [.ref s1A, .ref s2A]) :: (s2A, tup [.str "display" tb2, .ref e0A, .bool false]) :: (e0A, tup []) :: (s1A, tup [.str "continue" tb3]) :: (new ++ ((hA, listOf #[] 0) :: (L' + 1, q1) :: (L' + 2, q2) :: (L' + 3, q3) :: (203, tabObj tabF) :: (735, tabObj tabR) :: (rowsA, listOf rvs.toArray nr) :: (nA, listOf nvs.toArray nn) :: tl))))) := ⟨fun p hp => by
  rcases List.mem_append.mp hp with h | h
  ·exact news_ne (q := (pA, listOf ps1 np1)) N10 (.tail _ (.tail _ (.tail _ (.tail _ (List.mem_append.mpr (.inl h)))))) (.tail _ (.tail _ (.tail _ (.head _)))) (by rw [St10.kinds p h]; show Value.type "tuple" ≠ Value.type "list"; simp)
  ·rcases List.mem_cons.mp h with h | h
   ·rw [h]; exact zb.ne
   ·exact m2.all p h⟩
 with_reducible refine' exec_at (K := Mine.hd.heap_1 w.params) (f := 738) (i := 5) ?ho3 ?hs3 ?hsc3 ?h3q
 case ho3 => k_is
 case hs3 => exact rfl
 case hsc3 => exact rfl
 with_reducible (refine' wpAny_mono (run_stop w (d := (⟨D, dx, oA, pA, dk, pr, sl, .ref hA⟩ : DAt)) (no := no1) (np := np1) (os := os1) (ps := ps1) (tl := tl1) (TT := (tl1 ++ ((tA, listOf told.toArray nt9) :: ((gA, tup [.str "body" tb1, .ref bA]) :: (bA, tup [.ref s1A, .ref s2A]) :: (s2A, tup [.str "display" tb2, .ref e0A, .bool false]) :: (e0A, tup []) :: (s1A, tup [.str "continue" tb3]) :: (new ++ ((hA, listOf #[] 0) :: (L' + 1, q1) :: (L' + 2, q2) :: (L' + 3, q3) :: (203, tabObj tabF) :: (735, tabObj tabR) :: (rowsA, listOf rvs.toArray nr) :: (nA, listOf nvs.toArray nn) :: tl)))))) (aops := aops) (pls := pls) (Nat.lt_of_le_of_lt ok10.small (by decide)) St10 zc (fun p hp => List.mem_append.mpr (.inl hp)) n1' n2' ?B ?X ?T (by ktr_room) (by ktr_units) ?hE F10 ?hk N10) ?_ (fun _ _ e => e))
 case B => k_asm
 case X => k_asm
 case T => k_asm
 case hE => passes_own
 case hk => exact fc (hm8 ("draft", .ref D) (by k_mem)) (List.forall_mem_nil _)
 intro fl s11 hK9
 refine an2 hK9 ?_
 clear hK9
 intro hR9 hX9
 subst hR9
 with_reducible refine ex7 hX9 ?_
 clear hX9
 intro h11 tk11 os2 ps2 no2 np2 tl2 hX9
 with_reducible refine an5 hX9 ?_
 clear hX9
 intro hR9
 subst hR9
 intro F11 N11 St11 sb11
 clear N10 F10
 (try dsimp only)
 repeat' (first | ((fail_if_success (with_reducible show wpAny _ _ (execs _ _) _ _ _)); first | keq_rows | ((with_reducible show wpAny _ _ (eval (Expr.ListComp _ _ _ _) _) _ _ _); (k_here; k_dflt (refine LCg.ListComp_U (F₀ := by k_asm) (by rfl) (by decide) (by rfl) (by decide) (by rfl) ?_))) | ((with_reducible show wpAny _ _ (setAttr (Value.ref _) _ _) _ _ _); (k_here; k_dflt (refine' setX ?k1 ?k2 ?k3 ?k4 ?k5 ?k6 ?k7 ?k8 ?k9 ?k10 ?k11 ?k12 ?k13 ?_; (case k1 => k_asm); (case k2 => k_asm); (case k3 => k_asm); (case k4 => k_inst); (case k5 => exact rfl); (case k6 => k_is); (case k7 => k_is); (case k8 => k_is); (case k9 => k_is); (case k10 => k_get); (case k11 => k_put); (case k12 => k_upd); (case k13 => exact Nat.le_of_ble_eq_true rfl); k_whole); intros; (try k_sweep))) | ((k_here; (with_reducible show wpAny _ _ (newTuple _) _ _ _); k_dflt (refine' tupX ?F ?N ?_ ?z; (case F => k_asm); (case N => k_asm); (case z => kmk_size)); intros; (try k_sweep))) | (k_unfold; (try dsimp only)) | walk1 | (dsimp only; walk1) | (leave1; try dsimp only)) | fail "no")
 obtain ⟨osl⟩ := os2
 obtain ⟨psl⟩ := ps2
 have in2 : ∀ p ∈ ((hA, listOf #[] 0) :: (L' + 1, q1) :: (L' + 2, q2) :: (L' + 3, q3) :: (203, tabObj tabF) :: (735, tabObj tabR) :: (rowsA, listOf rvs.toArray nr) :: (nA, listOf nvs.toArray nn) :: tl), p ∈ ((D, instObj 209 dx) :: (dx, dictOf (draftD dk pr (.ref oA) (.ref pA) sl (.ref hA)) 5) :: (oA, listOf ⟨osl⟩ no2) :: (pA, listOf ⟨psl⟩ np2) :: (tl2 ++ (tl1 ++ ((tA, listOf told.toArray nt9) :: ((gA, tup [.str "body" tb1, .ref bA]) :: (bA, tup [.ref s1A, .ref s2A]) :: (s2A, tup [.str "display" tb2, .ref e0A, .bool false]) :: (e0A, tup []) :: (s1A, tup [.str "continue" tb3]) :: (new ++ ((hA, listOf #[] 0) :: (L' + 1, q1) :: (L' + 2, q2) :: (L' + 3, q3) :: (203, tabObj tabF) :: (735, tabObj tabR) :: (rowsA, listOf rvs.toArray nr) :: (nA, listOf nvs.toArray nn) :: tl))))))) := fun p hp => .tail _ (.tail _ (.tail _ (.tail _ (List.mem_append.mpr (.inr (List.mem_append.mpr (.inr (.tail _ (.tail _ (.tail _ (.tail _ (.tail _ (.tail _ (List.mem_append.mpr (.inr hp)))))))))))))))
 have inA : (tA, listOf told.toArray nt9) ∈ ((D, instObj 209 dx) :: (dx, dictOf (draftD dk pr (.ref oA) (.ref pA) sl (.ref hA)) 5) :: (oA, listOf ⟨osl⟩ no2) :: (pA, listOf ⟨psl⟩ np2) :: (tl2 ++ (tl1 ++ ((tA, listOf told.toArray nt9) :: ((gA, tup [.str "body" tb1, .ref bA]) :: (bA, tup [.ref s1A, .ref s2A]) :: (s2A, tup [.str "display" tb2, .ref e0A, .bool false]) :: (e0A, tup []) :: (s1A, tup [.str "continue" tb3]) :: (new ++ ((hA, listOf #[] 0) :: (L' + 1, q1) :: (L' + 2, q2) :: (L' + 3, q3) :: (203, tabObj tabF) :: (735, tabObj tabR) :: (rowsA, listOf rvs.toArray nr) :: (nA, listOf nvs.toArray nn) :: tl))))))) := .tail _ (.tail _ (.tail _ (.tail _ (List.mem_append.mpr (.inr (List.mem_append.mpr (.inr (.head _))))))))
 have in9 : ∀ p ∈ tl2, p ∈ ((D, instObj 209 dx) :: (dx, dictOf (draftD dk pr (.ref oA) (.ref pA) sl (.ref hA)) 5) :: (oA, listOf ⟨osl⟩ no2) :: (pA, listOf ⟨psl⟩ np2) :: (tl2 ++ (tl1 ++ ((tA, listOf told.toArray nt9) :: ((gA, tup [.str "body" tb1, .ref bA]) :: (bA, tup [.ref s1A, .ref s2A]) :: (s2A, tup [.str "display" tb2, .ref e0A, .bool false]) :: (e0A, tup []) :: (s1A, tup [.str "continue" tb3]) :: (new ++ ((hA, listOf #[] 0) :: (L' + 1, q1) :: (L' + 2, q2) :: (L' + 3, q3) :: (203, tabObj tabF) :: (735, tabObj tabR) :: (rowsA, listOf rvs.toArray nr) :: (nA, listOf nvs.toArray nn) :: tl))))))) := fun p hp => .tail _ (.tail _ (.tail _ (.tail _ (List.mem_append.mpr (.inl hp)))))
 have fil : ∀ p ∈ (tl2 ++ ((tA, listOf told.toArray nt9) :: (rowsA, listOf rvs.toArray nr) :: (nA, listOf nvs.toArray nn) :: tl)), p.1 ≠ 203 → p.1 ≠ 735 → p.1 ≠ L' + 2 → p.1 ≠ L' + 3 → p ∈ ((tl2 ++ ((tA, listOf told.toArray nt9) :: (rowsA, listOf rvs.toArray nr) :: (nA, listOf nvs.toArray nn) :: tl)).filter (fun p => decide (p.1 ≠ 203 ∧ p.1 ≠ 735 ∧ p.1 ≠ L' + 2 ∧ p.1 ≠ L' + 3))) := fun p hp a b c d => List.mem_filter.mpr ⟨hp, decide_eq_true ⟨a, b, c, d⟩⟩
 have filb : ∀ p ∈ ((tl2 ++ ((tA, listOf told.toArray nt9) :: (rowsA, listOf rvs.toArray nr) :: (nA, listOf nvs.toArray nn) :: tl)).filter (fun p => decide (p.1 ≠ 203 ∧ p.1 ≠ 735 ∧ p.1 ≠ L' + 2 ∧ p.1 ≠ L' + 3))), p.1 ≠ 203 ∧ p.1 ≠ 735 ∧ p.1 ≠ L' + 2 ∧ p.1 ≠ L' + 3 := fun p hp => of_decide_eq_true (List.mem_filter.mp hp).2
 have fila : ∀ p ∈ ((tl2 ++ ((tA, listOf told.toArray nt9) :: (rowsA, listOf rvs.toArray nr) :: (nA, listOf nvs.toArray nn) :: tl)).filter (fun p => decide (p.1 ≠ 203 ∧ p.1 ≠ 735 ∧ p.1 ≠ L' + 2 ∧ p.1 ≠ L' + 3))), p ∈ (tl2 ++ ((tA, listOf told.toArray nt9) :: (rowsA, listOf rvs.toArray nr) :: (nA, listOf nvs.toArray nn) :: tl)) := fun p hp => (List.mem_filter.mp hp).1
 have seqs : ∀ p ∈ tl2, IsSeq p → p ∈ tl2.filter (fun p => decide (p.1 ≠ 203 ∧ p.1 ≠ 735 ∧ p.1 ≠ L' + 2 ∧ p.1 ≠ L' + 3)) := by
  rintro p hp ⟨v9, n9, hd9⟩
  refine List.mem_filter.mpr ⟨hp, decide_eq_true ⟨?_, ?_, ?_, ?_⟩⟩
  ·exact off_data (q := (203, tabObj tabF)) N11 (in9 p hp) (in2 _ (by k_mem)) (by rw [hd9]; simp)
  ·exact off_data (q := (735, tabObj tabR)) N11 (in9 p hp) (in2 _ (by k_mem)) (by rw [hd9]; simp)
  ·exact off_data (q := (L' + 2, q2)) N11 (in9 p hp) (in2 _ (by k_mem)) (by rw [hd9, hq2]; simp)
  ·exact off_data (q := (L' + 3, q3)) N11 (in9 p hp) (in2 _ (by k_mem)) (by rw [hd9, hq3]; simp)
 have stl : ∀ p ∈ tl2.filter (fun p => decide (p.1 ≠ 203 ∧ p.1 ≠ 735 ∧ p.1 ≠ L' + 2 ∧ p.1 ≠ L' + 3)), p ∈ ((tl2 ++ ((tA, listOf told.toArray nt9) :: (rowsA, listOf rvs.toArray nr) :: (nA, listOf nvs.toArray nn) :: tl)).filter (fun p => decide (p.1 ≠ 203 ∧ p.1 ≠ 735 ∧ p.1 ≠ L' + 2 ∧ p.1 ≠ L' + 3))) := fun p hp => List.mem_filter.mpr ⟨List.mem_append.mpr (.inl (List.mem_filter.mp hp).1), (List.mem_filter.mp hp).2⟩
 have inn2 : ∀ p ∈ (rowsA, listOf rvs.toArray nr) :: (nA, listOf nvs.toArray nn) :: tl, p.1 ≠ L' + 2 := fun p hp => n2.all p (by (repeat (first | exact hp | exact mKt hp | exact mKt (mKt hp) | exact mKt (mKt (mKt hp)) | refine' mK4 rfl ?_ | refine' mK1 rfl ?_)))
 have inn3 : ∀ p ∈ (rowsA, listOf rvs.toArray nr) :: (nA, listOf nvs.toArray nn) :: tl, p.1 ≠ L' + 3 := fun p hp => n3.all p (by (repeat (first | exact hp | exact mKt hp | exact mKt (mKt hp) | exact mKt (mKt (mKt hp)) | refine' mK4 rfl ?_ | refine' mK1 rfl ?_)))
 have srow : ∀ p ∈ (rowsA, listOf rvs.toArray nr) :: (nA, listOf nvs.toArray nn) :: tl, p ∈ ((tl2 ++ ((tA, listOf told.toArray nt9) :: (rowsA, listOf rvs.toArray nr) :: (nA, listOf nvs.toArray nn) :: tl)).filter (fun p => decide (p.1 ≠ 203 ∧ p.1 ≠ 735 ∧ p.1 ≠ L' + 2 ∧ p.1 ≠ L' + 3))) := fun p hp => fil p (List.mem_append.mpr (.inr (.tail _ hp))) (n203.all p (.tail _ hp)) (n735.all p (.tail _ hp)) (inn2 p hp) (inn3 p hp)
 have stl' : ∀ p ∈ tl, p ∈ ((tl2 ++ ((tA, listOf told.toArray nt9) :: (rowsA, listOf rvs.toArray nr) :: (nA, listOf nvs.toArray nn) :: tl)).filter (fun p => decide (p.1 ≠ 203 ∧ p.1 ≠ 735 ∧ p.1 ≠ L' + 2 ∧ p.1 ≠ L' + 3))) := fun p hp => srow p (.tail _ (.tail _ hp))
 have hsm := St11.small
 have hol : osl.length = (aops ++ [AOp.stop "end"]).length := St11.ops.length
 with_reducible refine' execs_at (K := Mine.hd.heap_1 w.params) (f := 738) (i := 6) ?ho4 ?hs4 ?hsc4 ?h4q
 case ho4 => k_is
 case hs4 => exact rfl
 case hsc4 => exact rfl
 with_reducible (refine' run_tail6 w (TT := ((tl2 ++ ((tA, listOf told.toArray nt9) :: (rowsA, listOf rvs.toArray nr) :: (nA, listOf nvs.toArray nn) :: tl)).filter (fun p => decide (p.1 ≠ 203 ∧ p.1 ≠ 735 ∧ p.1 ≠ L' + 2 ∧ p.1 ≠ L' + 3)))) (tlD := tl2.filter (fun p => decide (p.1 ≠ 203 ∧ p.1 ≠ 735 ∧ p.1 ≠ L' + 2 ∧ p.1 ≠ L' + 3))) (aops := aops ++ [AOp.stop "end"]) (pls := pls) (os := osl) (ps := psl) (no := no2) (np := np2) (nh := 0) (nA := nA) (tabF := tabF) (tabR := tabR) (nn := nn) (cProg after rows) rows h1 h3 hq1 hq2 hq3 ?hnA hnv (St11.ops.data seqs) St11.pint zc stl ?kin ?hlen ok10.lab ?hpl ((ok10.acs.mono sb11).data seqs) (cProg_ok after rows).1 (cProg_ok after rows).2 hr hst hfw hfn hfl ?hret (LTA.mono stl') (LTB.mono stl') (LTC.mono stl') (LTD.mono stl') (LTF.mono stl') ?n735 ?n203 ?c2 ?c3 a735 a203 ?B ?X ?T (by ktr_room) (by ktr_units) C1 C2 ?hE F11 ?hk ?N)
 case B => k_asm
 case X => k_asm
 case T => k_asm
 case hE => passes_own
 case hk => exact fc (hm8 ("draft", .ref D) (by k_mem)) (List.forall_mem_nil _)
 case hnA => exact srow _ (.tail _ (.head _))
 case kin => exact fun p hp => St11.kinds p (List.mem_filter.mp hp).1
 case hlen => rw [hol]; lia
 case hpl => lia
 case n735 => exact ⟨fc (n7.all (203, tabObj tabF) (by k_mem)) (fc (n7.all (D, instObj 209 dx) (by k_mem)) (fc (n7.all (dx, dictOf (draftD dk pr (.ref oA) (.ref pA) sl (.ref hA)) 5) (by k_mem)) (fc (n7.all (oA, listOf #[] 0) (by k_mem)) (fc (n7.all (pA, listOf #[] 0) (by k_mem)) (fc (n7.all (hA, listOf #[] 0) (by k_mem)) (fun p hp => (filb p hp).2.1))))))⟩
 case n203 => exact ⟨fc (n20.all (735, tabObj tabR) (by k_mem)) (fc (n20.all (D, instObj 209 dx) (by k_mem)) (fc (n20.all (dx, dictOf (draftD dk pr (.ref oA) (.ref pA) sl (.ref hA)) 5) (by k_mem)) (fc (n20.all (oA, listOf #[] 0) (by k_mem)) (fc (n20.all (pA, listOf #[] 0) (by k_mem)) (fc (n20.all (hA, listOf #[] 0) (by k_mem)) (fun p hp => (filb p hp).1))))))⟩
 case c2 => exact ⟨fc (n2.all (L' + 1, q1) (by k_mem)) (fc (n2.all (L' + 3, q3) (by k_mem)) (fc (n2.all (203, tabObj tabF) (by k_mem)) (fc (n2.all (735, tabObj tabR) (by k_mem)) (fc (n2.all (D, instObj 209 dx) (by k_mem)) (fc (n2.all (dx, dictOf (draftD dk pr (.ref oA) (.ref pA) sl (.ref hA)) 5) (by k_mem)) (fc (n2.all (oA, listOf #[] 0) (by k_mem)) (fc (n2.all (pA, listOf #[] 0) (by k_mem)) (fc (n2.all (hA, listOf #[] 0) (by k_mem)) (fun p hp => (filb p hp).2.2.1)))))))))⟩
 case c3 => exact ⟨fc (n3.all (L' + 1, q1) (by k_mem)) (fc (n3.all (L' + 2, q2) (by k_mem)) (fc (n3.all (203, tabObj tabF) (by k_mem)) (fc (n3.all (735, tabObj tabR) (by k_mem)) (fc (n3.all (D, instObj 209 dx) (by k_mem)) (fc (n3.all (dx, dictOf (draftD dk pr (.ref oA) (.ref pA) sl (.ref hA)) 5) (by k_mem)) (fc (n3.all (oA, listOf #[] 0) (by k_mem)) (fc (n3.all (pA, listOf #[] 0) (by k_mem)) (fc (n3.all (hA, listOf #[] 0) (by k_mem)) (fun p hp => (filb p hp).2.2.2)))))))))⟩
 case N => exact fun p hp => N11 p (by
  revert p
  refine fc (in2 _ (by k_mem)) (fc (in2 _ (by k_mem)) (fc (in2 _ (by k_mem)) (fc (in2 _ (by k_mem)) (fc (in2 _ (by k_mem)) (fc (.head _) (fc (.tail _ (.head _)) (fc (.tail _ (.tail _ (.head _))) (fc (.tail _ (.tail _ (.tail _ (.head _)))) (fc (in2 _ (by k_mem)) ?_)))))))))
  intro p hp
  rcases List.mem_append.mp (fila p hp) with h | h
  ·exact in9 p h
  ·rcases List.mem_cons.mp h with h | h
   ·rw [h]; exact inA
   ·exact in2 p (.tail _ (.tail _ (.tail _ (.tail _ (.tail _ (.tail _ h)))))))
 case hret =>
  intro Rt tw lgA lg9 nl9 Dl ys nD tabF' tabR' h' tk' m' out tx FZ NZ mR mL mD hi hL hF hA' hB' hC' hD' hn203 hn735 m203 m735 hx hT'
  clear N11 F11
  (try dsimp only)
  repeat' (first | keq_rows | ((with_reducible show wpAny _ _ (eval (Expr.ListComp _ _ _ _) _) _ _ _); (k_here; k_dflt (refine LCg.ListComp_U (F₀ := by k_asm) (by rfl) (by decide) (by rfl) (by decide) (by rfl) ?_))) | ((with_reducible show wpAny _ _ (setAttr (Value.ref _) _ _) _ _ _); (k_here; k_dflt (refine' setX ?k1 ?k2 ?k3 ?k4 ?k5 ?k6 ?k7 ?k8 ?k9 ?k10 ?k11 ?k12 ?k13 ?_; (case k1 => k_asm); (case k2 => k_asm); (case k3 => k_asm); (case k4 => k_inst); (case k5 => exact rfl); (case k6 => k_is); (case k7 => k_is); (case k8 => k_is); (case k9 => k_is); (case k10 => k_get); (case k11 => k_put); (case k12 => k_upd); (case k13 => exact Nat.le_of_ble_eq_true rfl); k_whole); intros; (try k_sweep))) | ((k_here; (with_reducible show wpAny _ _ (newTuple _) _ _ _); k_dflt (refine' tupX ?F ?N ?_ ?z; (case F => k_asm); (case N => k_asm); (case z => kmk_size)); intros; (try k_sweep))) | (k_unfold; (try dsimp only)) | (k_end; wrow_close) | walk1 | (dsimp only; walk1) | (leave1; try dsimp only) | fail "no")
  rename News _ _ _ _ => NY
  refine' hret _ _ _ _ ?ra NY ?rc ?rd
  case ra => k_asm
  case rc => k_asm
  case rd => exact exi11 Rt tw lgA lg9 nl9 Dl ys nD tabF' tabR' tx ⟨rfl, mR, mL, mD, hi, hL, hF, hA', hB', hC', hD', hn203, hn735, m203, m735, hx, fun p hp => hT' p (srow p hp)⟩
 ))only[↓bB]

end R9p
end
section E0p
section
variable {prog : Program} {w : World} {A : Around} {E : Value → Shared → Prop} {s : Shared} {a b n : Int} {t u : Tok} {Q : Value → Shared → Prop}
theorem mod_op {H₀ : Heap} {g₀ d₀ o₀} {t₀ : Nat} (hn : 0 < n) (h : ∀ r : Int, 0 ≤ r → r < n → Q (.int r t₀) { heap := H₀, gens := g₀, drawn := d₀, toks := t₀ + 1, os := o₀ }) : wpAny (model prog w) A (binaryOp .Mod (.int a t) (.int n u)) Q E { heap := H₀, gens := g₀, drawn := d₀, toks := t₀, os := o₀ } :=
 mod_int' (by lia) (h _ (Int.fmod_nonneg_of_pos a hn) (Int.fmod_lt_of_pos a hn))
theorem pow_op {H₀ : Heap} {g₀ d₀ o₀} {t₀ : Nat} (hn : 0 ≤ n) (hn2 : n ≤ 1000000) (h0 : 0 ≤ a) (h1 : a < 2 ^ 64) (h : ∀ r : Int, 0 ≤ r → Q (.int r t₀) { heap := H₀, gens := g₀, drawn := d₀, toks := t₀ + 1, os := o₀ }) : wpAny (model prog w) A (binaryOp .Pow (.int a t) (.int n u)) Q E { heap := H₀, gens := g₀, drawn := d₀, toks := t₀, os := o₀ } :=
 pow_int_small hn hn2 (by lia) (h _ (Int.pow_nonneg h0))
theorem pow_1018 {H₀ : Heap} {g₀ d₀ o₀} {t₀ : Nat} (h : Q (.int 1000000000000000000 t₀) { heap := H₀, gens := g₀, drawn := d₀, toks := t₀ + 1, os := o₀ }) : wpAny (model prog w) A (binaryOp .Pow (.int 10 t) (.int 18 u)) Q E { heap := H₀, gens := g₀, drawn := d₀, toks := t₀, os := o₀ } :=
 pow_int_small (by decide) (by decide) (by decide) h
theorem mul_op {H₀ : Heap} {g₀ d₀ o₀} {t₀ : Nat} (h0 : 0 ≤ a) (h1 : a < 2 ^ 32) (h2 : 0 ≤ b) (h3 : b < 2 ^ 28) (h : ∀ r : Int, 0 ≤ r → r < 2 ^ 60 → Q (.int r t₀) { heap := H₀, gens := g₀, drawn := d₀, toks := t₀ + 1, os := o₀ }) : wpAny (model prog w) A (binaryOp .Mult (.int a t) (.int b u)) Q E { heap := H₀, gens := g₀, drawn := d₀, toks := t₀, os := o₀ } := by
 have e1 : 0 ≤ a * b := Int.mul_nonneg h0 h2
 have e2 : a * b < 2 ^ 60 := by
  have h4 : a * b ≤ a * 2 ^ 28 := Int.mul_le_mul_of_nonneg_left (by lia) h0
  lia
 exact mul_int (h _ e1 e2)
theorem mul_small {H₀ : Heap} {g₀ d₀ o₀} {t₀ : Nat} (h0 : 0 ≤ a) (h1 : a < 2 ^ 17) (h2 : 0 ≤ b) (h3 : b < 2 ^ 10) (h : ∀ r : Int, 0 ≤ r → r < 2 ^ 27 → Q (.int r t₀) { heap := H₀, gens := g₀, drawn := d₀, toks := t₀ + 1, os := o₀ }) : wpAny (model prog w) A (binaryOp .Mult (.int a t) (.int b u)) Q E { heap := H₀, gens := g₀, drawn := d₀, toks := t₀, os := o₀ } := by
 have e1 : 0 ≤ a * b := Int.mul_nonneg h0 h2
 have e2 : a * b < 2 ^ 27 := by
  have h4 : a * b ≤ a * 2 ^ 10 := Int.mul_le_mul_of_nonneg_left (by lia) h0
  lia
 exact mul_int (h _ e1 e2)
end
theorem ints_item {prog : Program} {w : World} {A : Around} {E : Value → Shared → Prop} {s : Shared} {h₀ : Heap} {L T : Addr} {news : Led} {vs : List Value} {is : List Int} {i : Int} {n : Nat} {u : Tok} {value slice : Expr} {Q : Value → Shared → Prop} (N : News h₀ L s.heap news) (hm : (T, listOf vs.toArray n) ∈ news) (hi : IntsAre vs is) (h0 : 0 ≤ i) (h1 : i < (vs.length : Int)) (hl : vs.length ≤ 1000) (h : ∀ x t, Q (.int x t) s)
  (hs : subscripted slice false (.ref T) (.int i u) = operate [.ref T, .int i u] (getItem (.ref T) (.int i u)) := by with_unfolding_all rfl) :
  wpAny (model prog w) A (subscriptTail value slice (.ref T) (.int i u)) Q E s := by
 have hL : s.heap.IsList T vs.toArray := News.isList N hm
 have hlt : i.toNat < vs.length := by lia
 have hv : vs[i.toNat]? = some (vs[i.toNat]'hlt) := List.getElem?_eq_getElem hlt
 have hX8 : ∃ x t, vs[i.toNat]'hlt = .int x t := by
  have key : ∀ {vs : List Value} {is : List Int}, IntsAre vs is → ∀ v ∈ vs, ∃ x t, v = .int x t := by
   intro vs is h
   induction h with
   | nil => intro v hv; cases hv
   | cons n t _ ih => intro v hv; rcases List.mem_cons.mp hv with e | hv; exact ⟨_, _, e⟩; exact ih v hv
  exact key hi _ (List.getElem_mem hlt)
 with_reducible refine ex2 hX8 ?_
 clear hX8
 intro x t hx
 rw [hx] at hv
 exact tail_any hL.typeIs slot_list_getitem.lookup (wpAny_getItem_list hL h0 (by lia) (by simpa using hv) (h x t)) hs

end E0p
section E3p
theorem nums_all : ∀ b ∈ ([-3, -2, -1, 0, 1, 2, 3] : List Int), ∀ m ∈ ([1, 2, 3] : List Int), ∀ k ∈ ([-1, 0, 1, 2] : List Int),
  Builtin.Range.small b (b + k + 1) m = true ∧ Builtin.Range.rangeSize b (b + k + 1) m = (((nums m (b + k) 4 b).length : Nat) : Int) ∧ rangeInts b m (nums m (b + k) 4 b).length = nums m (b + k) 4 b ∧ (nums m (b + k) 4 b).length ≤ 3 := by
 decide +kernel
theorem addSub (b d : Int) : b + (d - b) = d := by lia
theorem tab7 : ∀ n < 7, ((n : Nat) : Int) - 3 ∈ ([-3, -2, -1, 0, 1, 2, 3] : List Int) := by decide
theorem tab4 : ∀ n < 4, ((n : Nat) : Int) - 1 ∈ ([-1, 0, 1, 2] : List Int) := by decide
theorem tab3 : ∀ n < 3, ((n : Nat) : Int) + 1 ∈ ([1, 2, 3] : List Int) := by decide
theorem tabN : ∀ n < 4, n ∈ ([0, 1, 2, 3] : List Nat) := by decide
theorem memB {b : Int} (h0 : -3 ≤ b) (h1 : b ≤ 3) : b ∈ ([-3, -2, -1, 0, 1, 2, 3] : List Int) := by
 have e := tab7 (b + 3).toNat (by lia)
 rwa [show (((b + 3).toNat : Nat) : Int) - 3 = b by lia] at e
theorem memK {b : Int} (h0 : -1 ≤ b) (h1 : b ≤ 2) : b ∈ ([-1, 0, 1, 2] : List Int) := by
 have e := tab4 (b + 1).toNat (by lia)
 rwa [show (((b + 1).toNat : Nat) : Int) - 1 = b by lia] at e
theorem memM {b : Int} (h0 : 1 ≤ b) (h1 : b ≤ 3) : b ∈ ([1, 2, 3] : List Int) := by
 have e := tab3 (b - 1).toNat (by omega)
 rwa [show (((b - 1).toNat : Nat) : Int) + 1 = b by lia] at e
theorem nums_at {b m d : Int} (hm0 : 1 ≤ m) (hm1 : m ≤ 3) (hb0 : -3 ≤ b) (hb1 : b ≤ 3) (hd0 : b - 1 ≤ d) (hd1 : d ≤ b + 2) :
  Builtin.Range.small b (d + 1) m = true ∧ Builtin.Range.rangeSize b (d + 1) m = (((nums m d 4 b).length : Nat) : Int) ∧ rangeInts b m (nums m d 4 b).length = nums m d 4 b ∧ (nums m d 4 b).length ≤ 3 := by
 have hb := memB hb0 hb1
 have hm := memM hm0 hm1
 have hk := memK (b := d - b) (Int.le_sub_left_of_add_le hd0) (Int.sub_left_le_of_le_add hd1)
 have e : b + (d - b) = d := addSub b d
 have := nums_all b hb m hm (d - b) hk
 rw [e] at this
 exact this
theorem carried_ints {vs : List Value} : ∀ {is : List Int}, CarriedAll vs (is.map .int) → IntsAre vs is := fun h => by simpa using CarriedAll.intsOf h
theorem more_all : ∀ b ∈ ([-3, -2, -1, 0, 1, 2, 3] : List Int), ∀ m ∈ ([1, 2, 3] : List Int), ∀ k ∈ ([-1, 0, 1, 2] : List Int), ∀ c ∈ ([0, 1, 2, 3] : List Nat),
  (c ≤ (nums m (b + k) 4 b).length → ((b + (c : Int) * m ≤ b + k) ↔ c < (nums m (b + k) 4 b).length)) := by
 decide +kernel
theorem more_at {b m d : Int} (hm0 : 1 ≤ m) (hm1 : m ≤ 3) (hb0 : -3 ≤ b) (hb1 : b ≤ 3) (hd0 : b - 1 ≤ d) (hd1 : d ≤ b + 2) {c : Nat} (hc : c ≤ (nums m d 4 b).length) : (b + (c : Int) * m ≤ d) ↔ c < (nums m d 4 b).length := by
 have hb := memB hb0 hb1
 have hm := memM hm0 hm1
 have hk := memK (b := d - b) (Int.le_sub_left_of_add_le hd0) (Int.sub_left_le_of_le_add hd1)
 have h3 := (nums_at hm0 hm1 hb0 hb1 hd0 hd1).2.2.2
 have hc' := tabN c (Nat.lt_succ_of_le (Nat.le_trans hc h3))
 have e : b + (d - b) = d := addSub b d
 have := more_all b hb m hm (d - b) hk c hc'
 rw [e] at this
 exact this hc

end E3p
section E6p
theorem dat_ints {news : Led} {vs : List Value} {is : List Int} (h : IntsAre vs is) : DatAll news vs (is.map Dat.int) := by
 induction h with
 | nil => exact .nil
 | cons n t _ ih => exact .cons (.int _ _) ih
noncomputable abbrev rowD (l : List Int) : Dat := .list (l.map Dat.int)
theorem dat_log {news : Led} {vs : List Value} {ls : List (List Int)} (h : LogIn news vs ls) : DatAll news vs (ls.map rowD) := by
 induction h with
 | nil => exact .nil
 | cons a b _ ih => exact .cons (.list a (dat_ints b)) ih
theorem dat_ok (ls : List (List Int)) : ∀ d ∈ ls.map rowD, kqdOk 8 d = true := by
 intro d hd
 refine ea1_2 (List.mem_map.mp hd) ?_
 intro l _ hR9
 subst hR9
 simp [rowD, kqdOk]
theorem dint_inj {l k : List Int} (h : l.map Dat.int = k.map Dat.int) : l = k := by
 induction l generalizing k with
 | nil => cases k with
  | nil => rfl
  | cons _ _ => cases h
 | cons a r ih => cases k with
  | nil => cases h
  | cons b q =>
   simp only [List.map_cons, List.cons.injEq, Dat.int.injEq] at h
   rw [h.1, ih h.2]
section
variable {prog : Program} {w : World} {A : Around} {E : Value → Shared → Prop} {s : Shared} {h₀ : Heap} {L a b : Addr} {news n₁ n₂ : Led} {xs ys : List Value} {ka kb : Nat} {ls : List (List Int)} {Q : Value → Shared → Prop}
theorem logs_eq (N : News h₀ L s.heap news) (ma : (a, listOf xs.toArray ka) ∈ news) (Da : LogIn n₁ xs ls) (sa : ∀ p ∈ n₁, p ∈ news) (mb : (b, listOf ys.toArray kb) ∈ news) (Db : LogIn n₂ ys ls) (sb : ∀ p ∈ n₂, p ∈ news) (hu : A.units + 64 < cLine) (h : Q (.bool true) s) :
  wpAny (model prog w) A (compareOp .Eq (.ref a) (.ref b)) Q E s :=
 kqd_eq N ma rfl rfl (dat_log Da) sa mb rfl rfl (dat_log Db) sb (dat_ok _) (dat_ok _) hu (by simpa using h)
theorem logs_ne (N : News h₀ L s.heap news) (ma : (a, listOf xs.toArray ka) ∈ news) (Da : LogIn n₁ xs ls) (sa : ∀ p ∈ n₁, p ∈ news) (mb : (b, listOf ys.toArray kb) ∈ news) (Db : LogIn n₂ ys ls) (sb : ∀ p ∈ n₂, p ∈ news) (hu : A.units + 64 < cLine) (h : Q (.bool false) s) :
  wpAny (model prog w) A (compareOp .NotEq (.ref a) (.ref b)) Q E s :=
 kqd_ne N ma rfl rfl (dat_log Da) sa mb rfl rfl (dat_log Db) sb (dat_ok _) (dat_ok _) hu (by simpa using h)
end

end E6p
section E7p
theorem beyond_all : ∀ b ∈ ([-3, -2, -1, 0, 1, 2, 3] : List Int), ∀ m ∈ ([1, 2, 3] : List Int), ∀ k ∈ ([-1, 0, 1, 2] : List Int),
  beyond m (b + k) 4 b = b + ((nums m (b + k) 4 b).length : Int) * m ∧ afts m (b + k) 4 b = (List.range (1 + (nums m (b + k) 4 b).length)).map (fun (t : Nat) => b + (t : Int) * m) ∧ (afts m (b + k) 4 b).getLast? = some (beyond m (b + k) 4 b) := by
 decide +kernel
theorem beyond_at {b m d : Int} (hm0 : 1 ≤ m) (hm1 : m ≤ 3) (hb0 : -3 ≤ b) (hb1 : b ≤ 3) (hd0 : b - 1 ≤ d) (hd1 : d ≤ b + 2) :
  beyond m d 4 b = b + ((nums m d 4 b).length : Int) * m ∧ afts m d 4 b = (List.range (1 + (nums m d 4 b).length)).map (fun (t : Nat) => b + (t : Int) * m) ∧ (afts m d 4 b).getLast? = some (beyond m d 4 b) := by
 have hb : b ∈ ([-3, -2, -1, 0, 1, 2, 3] : List Int) := by simp only [List.mem_cons, List.not_mem_nil, or_false]; lia
 have hm : m ∈ ([1, 2, 3] : List Int) := by simp only [List.mem_cons, List.not_mem_nil, or_false]; lia
 have hk : d - b ∈ ([-1, 0, 1, 2] : List Int) := by simp only [List.mem_cons, List.not_mem_nil, or_false]; lia
 have e : b + (d - b) = d := by lia
 have := beyond_all b hb m hm (d - b) hk
 rw [e] at this
 exact this
noncomputable def odo (wheels : List (List Int)) : List (List Int) := wheels.foldl (fun found numbers => found.flatMap fun row => numbers.map fun n => row ++ [n]) [[]]
theorem odo1 (a : List Int) : odo [a] = a.flatMap fun x => [[x]] := by
 simp [odo, List.map_eq_flatMap]
theorem odo2 (a b : List Int) : odo [a, b] = a.flatMap fun x => b.flatMap fun y => [[x, y]] := by
 simp [odo, List.map_eq_flatMap, List.flatMap_assoc]
theorem odo3 (a b c : List Int) : odo [a, b, c] = a.flatMap fun x => b.flatMap fun y => c.flatMap fun z => [[x, y, z]] := by
 simp [odo, List.map_eq_flatMap, List.flatMap_assoc]

end E7p
section E8p
theorem step_log {names : List Str} {prog : List COp} {a b : AM} (h : stepA names prog a = some b) : b.log.length ≤ a.log.length + 1 := by
 unfold stepA at h
 split at h
 ·split at h
  ·cases h; exact Nat.le_succ _
  ·cases h
 ·split at h
  ·cases h; exact Nat.le_succ _
  ·cases h
 ·split at h
  ·cases h; exact Nat.le_succ _
  ·cases h
 ·cases h; exact Nat.le_succ _
 ·cases h; simp
 ·cases h; exact Nat.le_succ _
 ·cases h
theorem runs_log {names : List Str} {prog : List COp} {n : Nat} {a f : AM} (h : Runs names prog n a f) : f.log.length ≤ a.log.length + n := by
 induction h with
 | done _ => exact Nat.le_refl _
 | step _ s _ ih => have := step_log s; lia
noncomputable def RowOk (r : Row) : Prop := 1 ≤ r.2.1 ∧ r.2.1 ≤ 3 ∧ -3 ≤ r.1 ∧ r.1 ≤ 3 ∧ r.1 - 1 ≤ r.2.2 ∧ r.2.2 ≤ r.1 + 2
noncomputable def numsR (r : Row) : List Int := nums r.2.1 r.2.2 4 r.1
noncomputable def aftsR (r : Row) : List Int := afts r.2.1 r.2.2 4 r.1
noncomputable def beyondR (r : Row) : Int := beyond r.2.1 r.2.2 4 r.1
noncomputable def leftR (after : Bool) : List Row → List Int
 | [] => []
 | r :: q => beyondR r :: if after then q.map beyondR else q.map (·.1)
theorem runs_short {names : List Str} {prog : List COp} {nst : Nat} {W : Wheels} {fin : AM} (h : Runs names prog nst ⟨0, none, W, [], ""⟩ fin) (hn : nst ≤ 6000) : fin.log.length ≤ 10000 := by
 have := runs_log h
 simp only [List.length_nil] at this
 lia
theorem runs_rows (after : Bool) (rows : List Row) (h1 : 1 ≤ rows.length) (h3 : rows.length ≤ 3) (ok : ∀ r ∈ rows, RowOk r) :
  ∃ nst fin, Runs (wnames rows.length) (cProg after rows) nst ⟨0, none, wls 77 77 77, [], ""⟩ fin ∧ nst ≤ 6000 ∧ fin.word = "end" ∧ fin.log = odo (rows.map (if after then aftsR else numsR)) ∧ fin.log.length ≤ 10000 ∧ fin.W.length ≤ 1000 ∧ (∀ n ∈ wnames rows.length, (fin.W.lookup n).isSome = true) ∧
   ((wnames rows.length).map fun n => (fin.W.lookup n).getD 0) = leftR after rows := by
 revert rows
 refine rows13 ?_ ?_ ?_
 ·rintro ⟨b0, m0, d0⟩ ok
  obtain ⟨p0, _, _, _, _, q0⟩ := ok (b0, m0, d0) (by simp)
  dsimp only at p0 q0
  have s0 : d0 - b0 < 4 := by lia
  cases after
  ·refine ea1_2 (run_vary1 (x := 77) (y := 77) (z := 77) p0 s0) ?_
   intro n hn hr
   exact exi2 n _ ⟨hr, hn, rfl, (odo1 _).symm, runs_short hr hn, Nat.le_of_ble_eq_true rfl, by intro x hx; have := List.mem_of_mem_take hx; simp only [List.mem_cons, List.not_mem_nil, or_false] at this; rcases this with rfl | rfl | rfl <;> rfl, rfl⟩
  ·refine ea1_2 (run_varyA1 (x := 77) (y := 77) (z := 77) p0 s0) ?_
   intro n hn hr
   exact exi2 n _ ⟨hr, hn, rfl, (odo1 _).symm, runs_short hr hn, Nat.le_of_ble_eq_true rfl, by intro x hx; have := List.mem_of_mem_take hx; simp only [List.mem_cons, List.not_mem_nil, or_false] at this; rcases this with rfl | rfl | rfl <;> rfl, rfl⟩
 ·rintro ⟨b0, m0, d0⟩ ⟨b1, m1, d1⟩ ok
  obtain ⟨p0, _, _, _, _, q0⟩ := ok (b0, m0, d0) (by simp)
  dsimp only at p0 q0
  have s0 : d0 - b0 < 4 := by lia
  obtain ⟨p1, _, _, _, _, q1⟩ := ok (b1, m1, d1) (by simp)
  dsimp only at p1 q1
  have s1 : d1 - b1 < 4 := by lia
  cases after
  ·refine ea1_2 (run_vary2 (x := 77) (y := 77) (z := 77) p0 s0 p1 s1) ?_
   intro n hn hr
   exact exi2 n _ ⟨hr, hn, rfl, (odo2 _ _).symm, runs_short hr hn, Nat.le_of_ble_eq_true rfl, by intro x hx; have := List.mem_of_mem_take hx; simp only [List.mem_cons, List.not_mem_nil, or_false] at this; rcases this with rfl | rfl | rfl <;> rfl, rfl⟩
  ·refine ea1_2 (run_varyA2 (x := 77) (y := 77) (z := 77) p0 s0 p1 s1) ?_
   intro n hn hr
   exact exi2 n _ ⟨hr, hn, rfl, (odo2 _ _).symm, runs_short hr hn, Nat.le_of_ble_eq_true rfl, by intro x hx; have := List.mem_of_mem_take hx; simp only [List.mem_cons, List.not_mem_nil, or_false] at this; rcases this with rfl | rfl | rfl <;> rfl, rfl⟩
 ·rintro ⟨b0, m0, d0⟩ ⟨b1, m1, d1⟩ ⟨b2, m2, d2⟩ ok
  obtain ⟨p0, _, _, _, _, q0⟩ := ok (b0, m0, d0) (by simp)
  dsimp only at p0 q0
  have s0 : d0 - b0 < 4 := by lia
  obtain ⟨p1, _, _, _, _, q1⟩ := ok (b1, m1, d1) (by simp)
  dsimp only at p1 q1
  have s1 : d1 - b1 < 4 := by lia
  obtain ⟨p2, _, _, _, _, q2⟩ := ok (b2, m2, d2) (by simp)
  dsimp only at p2 q2
  have s2 : d2 - b2 < 4 := by lia
  cases after
  ·refine ea1_2 (run_vary3 (x := 77) (y := 77) (z := 77) p0 s0 p1 s1 p2 s2) ?_
   intro n hn hr
   exact exi2 n _ ⟨hr, hn, rfl, (odo3 _ _ _).symm, runs_short hr hn, Nat.le_of_ble_eq_true rfl, by intro x hx; have := List.mem_of_mem_take hx; simp only [List.mem_cons, List.not_mem_nil, or_false] at this; rcases this with rfl | rfl | rfl <;> rfl, rfl⟩
  ·refine ea1_2 (run_varyA3 (x := 77) (y := 77) (z := 77) p0 s0 p1 s1 p2 s2) ?_
   intro n hn hr
   exact exi2 n _ ⟨hr, hn, rfl, (odo3 _ _ _).symm, runs_short hr hn, Nat.le_of_ble_eq_true rfl, by intro x hx; have := List.mem_of_mem_take hx; simp only [List.mem_cons, List.not_mem_nil, or_false] at this; rcases this with rfl | rfl | rfl <;> rfl, rfl⟩

end E8p
section O1p
open PyProof.Rows.LCg
section
variable {prog : Program} {w : World} {A : Around} {E : Value → Shared → Prop} {R : Result → Shared → Prop} {s : Shared}
noncomputable abbrev lc2 (elt t1 i1 t2 i2 : Expr) (scope : Scope) (pos : Pos) : Expr := .ListComp elt [⟨t1, i1, [], 0⟩, ⟨t2, i2, [], 0⟩] scope pos
theorem compTurn_in (elt t1 i1 t2 i2 : Expr) (scope : Scope) (pos : Pos) (it acc : Value) (env : Env) :
  compTurn (lc2 elt t1 i1 t2 i2 scope pos) 1 it acc env = (do
   standAt i2.pos
   match ← pyNext it with
   | none => pure (.done .next)
   | some v =>
    letOwnedTupleGo t2 it v
    assign t2 env v
    (do let _ ← call (.builtin "list.append") [acc, ← eval elt env])
    again (.compLoop (lc2 elt t1 i1 t2 i2 scope pos) 1 it acc env)) := by rfl
theorem compTurn_out (elt t1 i1 t2 i2 : Expr) (scope : Scope) (pos : Pos) (it acc : Value) (env : Env) :
  compTurn (lc2 elt t1 i1 t2 i2 scope pos) 0 it acc env = (do
   standAt i1.pos
   match ← pyNext it with
   | none => pure (.done .next)
   | some v =>
    letOwnedTupleGo t1 it v
    assign t1 env v
    let x ← eval i2 env
    standAt i2.pos
    let x ← foldedSetIterable i2 env x
    let _ ← runOwn (.compStart (lc2 elt t1 i1 t2 i2 scope pos) 1 (← holding [x] (pyIter x)) acc env) env
    again (.compLoop (lc2 elt t1 i1 t2 i2 scope pos) 0 it acc env)) := by rfl
theorem compLoop_in {elt t1 i1 t2 i2 : Expr} {scope : Scope} {pos : Pos} {it acc : Value} {env : Env} (I : Nat → Shared → Prop)
  (turn : ∀ n s, I n s → wpAny (model prog w) A (pyNext it) (fun r s₁ => match r with
   | none => R (.ok .next) s₁
   | some v => wpAny (model prog w) A (assign t2 env v) (fun _ s₂ => wpAny (model prog w) A (eval elt env) (fun x s₃ =>
     wpAny (model prog w) A (call (.builtin "list.append") [acc, x]) (fun _ s₄ => ∃ m, m < n ∧ I m s₄) (notedBy (model prog w) A env fun e s' => R (.error e) s') s₃)
     (notedBy (model prog w) A env fun e s' => R (.error e) s') s₂) (notedBy (model prog w) A env fun e s' => R (.error e) s') s₁) (notedBy (model prog w) A env fun e s' => R (.error e) s') s)
  (n : Nat) (h : I n s) (ht : ∀ v, letOwnedTupleGo t2 it v = pure () := by intro _; rfl) :
  codeAny (model prog w) A (.compLoop (lc2 elt t1 i1 t2 i2 scope pos) 1 it acc env) R s := by
 refine codeAny_loop rfl I (fun n s hI => ?_) n h
 show wpAny _ _ ((compTurn (lc2 elt t1 i1 t2 i2 scope pos) 1 it acc env).onRaise (fun x => do noteFrame x env; theTreesLotGoes x)) _ _ s
 refine wpAny_noted ?_
 rw [compTurn_in]
 refine wpAny_bind (wpAny_standAt (wpAny_bind (wpAny_mono (turn n s hI) (fun r s₁ h₁ => ?_) fun _ _ h' => h')))
 cases r with
 | none => exact wpAny_pure h₁
 | some v =>
  refine wpAny_bind (wpAny_of_eq (ht v) ?_)
  exact wpAny_bind (wpAny_mono h₁ (fun _ s₂ h₂ => wpAny_bind (wpAny_bind (wpAny_mono h₂ (fun x s₃ h₃ => wpAny_bind (wpAny_mono h₃
   (fun _ s₄ h₄ => wpAny_pure (wpAny_pure ⟨rfl, h₄⟩)) fun _ _ h' => h')) fun _ _ h' => h'))) fun _ _ h' => h')
theorem compStart_in {elt t1 i1 t2 i2 : Expr} {scope : Scope} {pos : Pos} {it acc : Value} {env : Env}
  (h0 : codeAny (model prog w) A (.compLoop (lc2 elt t1 i1 t2 i2 scope pos) 1 it acc env) R s)
  (h : wpAny (model prog w) A (pyIter it) (fun it' s' => codeAny (model prog w) A (.compLoop (lc2 elt t1 i1 t2 i2 scope pos) 1 it' acc env) R s')
   (notedBy (model prog w) A env fun x s' => R (.error x) s') s) :
  codeAny (model prog w) A (.compStart (lc2 elt t1 i1 t2 i2 scope pos) 1 it acc env) R s := by
 refine codeAny_of_tree ?_
 show wpAny _ _ ((compStart (lc2 elt t1 i1 t2 i2 scope pos) 1 it acc env).onRaise (fun x => do noteFrame x env; standAt theWindowsPlace)) _ _ s
 refine wpAny_notedAt ?_
 unfold compStart
 show wpAny _ _ (ask >>= _) _ _ s
 refine wpAny_bind (wpAny_askSetting (wpAny_ite ?_))
 split
 ·first
   | exact wpAny_bind (wpAny_pure (wpAny_pure (And.intro rfl h0)))
   | exact wpAny_pure (And.intro rfl h0)
 ·first
   | exact wpAny_bind (wpAny_rule (wpAny_bind (wpAny_standAt (wpAny_bind (wpAny_mono h (fun it' s' h' => wpAny_pure (And.intro rfl h')) fun _ _ x => x)))))
   | (refine wpAny_bind (wpAny_rule ?_); show wpAny _ _ (standAt i2.pos >>= _) _ _ s; exact wpAny_bind (wpAny_standAt (wpAny_bind (wpAny_mono h (fun it' s' h' => wpAny_pure (And.intro rfl h')) fun _ _ x => x))))
theorem compLoop_out {elt t1 i1 t2 i2 : Expr} {scope : Scope} {pos : Pos} {it acc : Value} {env : Env} (I : Nat → Shared → Prop)
  (turn : ∀ n s, I n s → wpAny (model prog w) A (pyNext it) (fun r s₁ => match r with
   | none => R (.ok .next) s₁
   | some v => wpAny (model prog w) A (assign t1 env v) (fun _ s₂ => wpAny (model prog w) A (eval i2 env) (fun x s₃ =>
     wpAny (model prog w) A (pyIter x) (fun it2 s₄ => codeAny (model prog w) (A.mark none) (.compStart (lc2 elt t1 i1 t2 i2 scope pos) 1 it2 acc env) (fun r s' => match r with
      | .ok _ => ∃ m, m < n ∧ I m s'
      | .error e => cameBackBy (model prog w) A env (notedBy (model prog w) A env fun e s' => R (.error e) s') e s') s₄) (notedBy (model prog w) A env fun e s' => R (.error e) s') s₃)
     (notedBy (model prog w) A env fun e s' => R (.error e) s') s₂) (notedBy (model prog w) A env fun e s' => R (.error e) s') s₁) (notedBy (model prog w) A env fun e s' => R (.error e) s') s)
  (n : Nat) (h : I n s) (ht : ∀ v, letOwnedTupleGo t1 it v = pure () := by intro _; rfl) (hs : ∀ x, foldedSetIterable i2 env x = pure x := by intro _; rfl) :
  codeAny (model prog w) A (.compLoop (lc2 elt t1 i1 t2 i2 scope pos) 0 it acc env) R s := by
 refine codeAny_loop rfl I (fun n s hI => ?_) n h
 show wpAny _ _ ((compTurn (lc2 elt t1 i1 t2 i2 scope pos) 0 it acc env).onRaise (fun x => do noteFrame x env; theTreesLotGoes x)) _ _ s
 refine wpAny_noted ?_
 rw [compTurn_out]
 refine wpAny_bind (wpAny_standAt (wpAny_bind (wpAny_mono (turn n s hI) (fun r s₁ h₁ => ?_) fun _ _ h' => h')))
 cases r with
 | none => exact wpAny_pure h₁
 | some v =>
  refine wpAny_bind (wpAny_of_eq (ht v) ?_)
  refine wpAny_bind (wpAny_mono h₁ (fun _ s₂ h₂ => wpAny_bind (wpAny_mono h₂ (fun x s₃ h₃ => wpAny_bind (wpAny_standAt (wpAny_bind (wpAny_of_eq (hs x) ?_)))) fun _ _ h' => h')) fun _ _ h' => h')
  refine wpAny_bind (wpAny_holding (wpAny_mono h₃ (fun it2 s₄ h₄ => ?_) fun _ _ h' => h'))
  refine wpAny_bind (wpAny_runOwn (codeAny_mono h₄ fun r s' q => ?_))
  cases r with
  | ok f => exact wpAny_pure ⟨rfl, q⟩
  | error e => exact q

structure C2 (h₀ : Heap) (L : Addr) (m : Str → Option Value) (C D : Addr) (ys : List Value) (T : Led) (m' : Str → Option Value) (h : Heap) : Prop where
 fr : Fr h₀ L h m
 ns : h.Ns C m'
 news : News h₀ L h ((D, lst ys) :: T)
 off : ∀ p ∈ T, p.1 ≠ C ∧ p.1 ≠ D
theorem LogIn.length {tl : Led} {vs : List Value} {ls : List (List Int)} (h : LogIn tl vs ls) : vs.length = ls.length := by
 induction h with
 | nil => rfl
 | cons _ _ _ ih => rw [List.length_cons, List.length_cons, ih]
theorem LogIn.get {tl : Led} {vs : List Value} {ls : List (List Int)} (h : LogIn tl vs ls) : ∀ {i : Nat} {l : List Int}, ls[i]? = some l → ∃ a its n, vs[i]? = some (.ref a) ∧ (a, listOf (its : List Value).toArray n) ∈ tl ∧ IntsAre its l := by
 induction h with
 | nil => intro i l e; cases e
 | cons a b _ ih =>
  intro i l e
  cases i with
  | zero => cases e; exact ⟨_, _, _, rfl, a, b⟩
  | succ i => exact ih e
theorem LogIn.append {tl : Led} {vs ws : List Value} {ls ks : List (List Int)} (h : LogIn tl vs ls) (k : LogIn tl ws ks) : LogIn tl (vs ++ ws) (ls ++ ks) := by
 induction h with
 | nil => exact k
 | cons a b _ ih => exact .cons a b ih
structure C2c (h₀ : Heap) (L C D : Addr) : Prop where
 cl : C ≠ L
 dl : D ≠ L
 cd : C ≠ D
 c0 : h₀.get? C = none
 d0 : h₀.get? D = none
theorem comp2_in {elt : Expr} {t1 i1 i2 : Expr} {y : Str} {py : Pos} {x : Str} {p1 p2 p3 p4 : Pos} {scope : Scope} {pos : Pos} {env : Env} {h₀ : Heap} {L C D J ra na : Addr} {m m' : Str → Option Value} {rvs nvs ys : List Value} {nr nn : Nat} {row ns : List Int} {T : Led}
  (hh : A.handled = none) (he : elt = .BinOp (.Name x p1) .Add (.List [.Name y p2] p3) p4) (hC : env.locals = C) (hk : env.scope.kind = .function) (hx : env.kindOf x = some .local) (hy : env.kindOf y = some .local) (hxy : x ≠ y) (dx : (x == ("__debug__" : Str)) = false) (dy : (y == ("__debug__" : Str)) = false)
  (G : C2c h₀ L C D) (S : C2 h₀ L m C D ys T m' s.heap) (hm : m' x = some (.ref ra)) (it : s.heap.IsListIter J na 0) (jc : J ≠ C) (jd : J ≠ D) (jl : J ≠ L) (j0 : h₀.get? J = none) (jT : ∀ p ∈ T, p.1 ≠ J)
  (mr : (ra, listOf rvs.toArray nr) ∈ T) (mn : (na, listOf nvs.toArray nn) ∈ T) (hr : IntsAre rvs row) (hn : IntsAre nvs ns) (z1 : row.length ≤ 1000) (z2 : ys.length + ns.length ≤ 100000)
  (hR : ∀ h tk m'' zs new, C2 h₀ L m C D (ys ++ zs) (new ++ T) m'' h → LogIn new zs (ns.map fun n => row ++ [n]) → zs.length = ns.length → (∀ p ∈ new, ∀ q ∈ T, p.1 ≠ q.1) → R (.ok .next) { s with heap := h, toks := tk }) :
  codeAny (model prog w) A (.compLoop (lc2 elt t1 i1 (.Name y py) i2 scope pos) 1 (.ref J) (.ref D) env) R s := by
 subst he hC
 refine compLoop_in (fun k s' => ∃ h tk m'' zs new i, s' = { s with heap := h, toks := tk } ∧ C2 h₀ L m env.locals D (ys ++ zs) (new ++ T) m'' h ∧ (∀ p ∈ new, p.1 ≠ J) ∧ (∀ p ∈ new, ∀ q ∈ T, p.1 ≠ q.1) ∧ LogIn new zs ((ns.take i).map fun n => row ++ [n]) ∧ m'' x = some (.ref ra) ∧ h.IsListIter J na i ∧ i ≤ ns.length ∧ k = ns.length + 1 - i) ?_ (ns.length + 1)
  ⟨s.heap, s.toks, m', [], [], 0, rfl, by simpa using S, (fun _ h => nomatch h), (fun _ h => nomatch h), .nil, hm, it, Nat.zero_le _, rfl⟩
 intro k s' hK9
 with_reducible refine ex6 hK9 ?_
 clear hK9
 intro h tk m'' zs new i hX9
 with_reducible refine an9 hX9 ?_
 clear hX9
 intro hR9
 subst hR9
 intro S' oJ oT LL hm' it' hi hR9
 subst hR9
 have aT : ∀ p ∈ T, p ∈ (D, lst (ys ++ zs)) :: (new ++ T) := fun p hp => .tail _ (List.mem_append.mpr (.inr hp))
 have hN := S'.news
 have hnl : h.IsList na nvs.toArray := ⟨_, (hN _ (aT _ mn)).1, rfl, _, rfl⟩
 have hlen : nvs.length = ns.length := hn.length
 have offJ : ∀ p ∈ (D, lst (ys ++ zs)) :: (new ++ T), p.1 ≠ J := fun p hp => by
  rcases List.mem_cons.mp hp with hp | hp
  ·rw [hp]; exact Ne.symm jd
  rcases List.mem_append.mp hp with hp | hp
  ·exact oJ p hp
  ·exact jT p hp
 cases hv : ns[i]? with
 | none =>
  have hge : ns.length ≤ i := by simpa using hv
  have hie : i = ns.length := Nat.le_antisymm hi hge
  refine wpAny_pyNext_list_end hh it' hnl (by simp [hlen]; omega) fun h₁ hk₁ => ?_
  have hk₁' : ∀ b o, b ∉ [J] → h.get? b = some o → h₁.get? b = some o := fun b o hb e => hk₁ b o (by simpa using hb) e
  rw [hie, List.take_length] at LL
  exact hR h₁ tk m'' zs new ⟨fr_but S'.fr hk₁' (Ne.symm jl) j0, S'.ns.at' fun o e => hk₁ _ o (Ne.symm jc) e, news_but S'.news hk₁' offJ, S'.off⟩ LL (by rw [LL.length, List.length_map]) oT
 | some n =>
  obtain ⟨t, ht⟩ := intsGet hn hv
  have hlt : i < ns.length := (List.getElem?_eq_some_iff.mp hv).1
  refine wpAny_pyNext_list_item it' hnl (x := .int n t) (by simpa using ht) fun h₁ it₁ hs₁ => ?_
  have F₁ : Fr h₀ L h₁ m := S'.fr.change hs₁ jl j0
  have N₁ : News h₀ L h₁ ((D, lst (ys ++ zs)) :: (new ++ T)) := fun p hp => ⟨hs₁.extBut _ _ (offJ p hp) (hN p hp).1, (hN p hp).2⟩
  have C₁ : h₁.Ns env.locals m'' := S'.ns.sameBut hs₁ (Ne.symm jc)
  refine wpAny_assign_Name (wpAny_storeName_local hy C₁ (fun h₂ C₂ hs₂ => ?_) (by simp [hk]))
  have F₂ : Fr h₀ L h₂ m := F₁.change hs₂ G.cl G.c0
  have N₂ : News h₀ L h₂ ((D, lst (ys ++ zs)) :: (new ++ T)) := fun p hp => ⟨hs₂.extBut _ _ (by
   rcases List.mem_cons.mp hp with hp | hp
   ·rw [hp]; exact Ne.symm G.cd
   ·exact (S'.off p hp).1) (N₁ p hp).1, (hN p hp).2⟩
  have it₂ : h₂.IsListIter J na (i + 1) := it₁.extBut hs₂.extBut jc
  refine wpAny_BinOp (wpAny_Name (wpAny_loadName_local hk hx C₂ (v := .ref ra) (by simp [hxy, hm']) ?_) dx)
  refine wpAny_List (wpAny_items_cons (wpAny_Name (wpAny_loadName_local hk hy C₂ (v := .int n t) (by simp) ?_) dy))
  refine wpAny_items_nil ⟨Nat.le_of_ble_eq_true rfl, ?_⟩
  refine ea1_2 (ns_obj C₂) ?_
  intro oC eC hoC
  obtain ⟨oJ', eJ, hoJ⟩ := it₂
  have hLlt : L < h₂.objs.size := F₂.ns.lt
  have N₃ : News h₀ L (h₂.push { cls := .type "list", data := .seq [Value.int n t].toArray }) ((h₂.objs.size, listOf [Value.int n t].toArray 0) :: (J, oJ') :: (env.locals, oC) :: (D, lst (ys ++ zs)) :: (new ++ T)) := fun p hp => by
   rcases List.mem_cons.mp hp with hp | hp
   ·rw [hp]; exact ⟨Heap.get?_push_size _ rfl, Nat.ne_of_gt hLlt, next_is_new F₂⟩
   rcases List.mem_cons.mp hp with hp | hp
   ·rw [hp]; exact ⟨Heap.get?_push_of_some _ eJ, jl, j0⟩
   rcases List.mem_cons.mp hp with hp | hp
   ·rw [hp]; exact ⟨Heap.get?_push_of_some _ eC, G.cl, G.c0⟩
   ·exact ⟨Heap.get?_push_of_some _ (N₂ p hp).1, (N₂ p hp).2⟩
  refine add_lists_ints (F₂.push _) N₃ (vs := rvs) (ws := [.int n t]) (ns := row) (ms := [n]) ⟨_, (N₃ _ (.tail _ (.tail _ (.tail _ (aT _ mr))))).1, rfl, _, rfl⟩ ⟨_, (N₃ _ (.head _)).1, rfl, _, rfl⟩ hr (.cons _ _ .nil) (fun h₄ F₄ N₄ hi₄ => ?_) (by simp only [List.length_cons, List.length_nil, sizeLine_eq]; lia)
  generalize hsz : (Heap.push h₂ { cls := .type "list", data := .seq [Value.int n t].toArray }).objs.size = a at N₄ ⊢
  have ha : ∀ p ∈ (J, oJ') :: (env.locals, oC) :: (D, lst (ys ++ zs)) :: (new ++ T), p.1 ≠ a := fun p hp => by
   have := Heap.lt_size (N₃ p (.tail _ hp)).1
   rw [← hsz]; exact Nat.ne_of_lt this
  have N₄' : News h₀ L h₄ ((a, listOf (rvs ++ [Value.int n t]).toArray 0) :: (J, oJ') :: (env.locals, oC) :: (D, lst (ys ++ zs)) :: (new ++ T)) := fun p hp => N₄ p (by
   rcases List.mem_cons.mp hp with hp | hp
   ·rw [hp]; exact .head _
   ·exact .tail _ (.tail _ hp))
  have zl : zs.length = i := by
   rw [LL.length, List.length_map, List.length_take]; lia
  refine append_at (hsz := by simp only [List.size_toArray, List.length_append, sizeLine_eq]; lia) (N₄' _ (.tail _ (.tail _ (.tail _ (.head _))))).1 fun h₅ hs₅ hD₅ => ?_
  refine ⟨ns.length + 1 - (i + 1), by lia, h₅, _, _, zs ++ [.ref a], (a, listOf (rvs ++ [Value.int n t]).toArray 0) :: new, i + 1, rfl, ⟨F₄.change hs₅ G.dl G.d0, (hoC.ns (N₄' _ (.tail _ (.tail _ (.head _)))).1).sameBut hs₅ G.cd, fun p hp => ?_, fun p hp => ?_⟩, fun p hp => ?_, fun p hp q hq => ?_, ?_, ?_, ?_, hlt, rfl⟩
  ·rcases List.mem_cons.mp hp with hp | hp
   ·rw [hp]
    refine ⟨?_, G.dl, G.d0⟩
    rw [← List.append_assoc]
    exact hD₅.trans (congrArg some (lst_snoc _ _))
   ·have hp' : p ∈ (a, listOf (rvs ++ [Value.int n t]).toArray 0) :: (J, oJ') :: (env.locals, oC) :: (D, lst (ys ++ zs)) :: (new ++ T) := by
     rcases List.mem_cons.mp hp with hp | hp
     ·rw [hp]; exact .head _
     ·exact .tail _ (.tail _ (.tail _ (.tail _ hp)))
    refine ⟨hs₅.extBut _ _ ?_ (N₄' p hp').1, (N₄' p hp').2⟩
    rcases List.mem_cons.mp hp with hp | hp
    ·rw [hp]; exact Ne.symm (ha (D, _) (.tail _ (.tail _ (.head _))))
    ·exact (S'.off p hp).2
  ·rcases List.mem_cons.mp hp with hp | hp
   ·rw [hp]; exact ⟨Ne.symm (ha (env.locals, _) (.tail _ (.head _))), Ne.symm (ha (D, _) (.tail _ (.tail _ (.head _))))⟩
   ·exact S'.off p hp
  ·rcases List.mem_cons.mp hp with hp | hp
   ·rw [hp]; exact Ne.symm (ha (J, _) (.head _))
   ·exact oJ p hp
  ·rcases List.mem_cons.mp hp with hp | hp
   ·rw [hp]; exact Ne.symm (ha q (.tail _ (.tail _ (aT q hq))))
   ·exact oT p hp q hq
  ·have e : (ns.take (i + 1)).map (fun n => row ++ [n]) = (ns.take i).map (fun n => row ++ [n]) ++ [row ++ [n]] := by
    rw [List.take_add_one, hv, List.map_append]; rfl
   rw [e]
   exact LogIn.snoc (.head _) hi₄ (LL.mono fun p hp => .tail _ hp)
  ·simp [hxy, hm']
  ·exact ⟨oJ', hs₅.extBut _ _ jd (N₄' _ (.tail _ (.head _))).1, hoJ⟩
theorem comp2_out {elt : Expr} {x y z y0 : Str} {px py pz py0 p1 p2 p3 p4 q1 : Pos} {x1 : Str} {scope : Scope} {pos spos : Pos} {env : Env} {cl : List (Str × Addr)} {h₀ : Heap} {L c fa na : Addr} {oc : Obj} {m : Str → Option Value} {fvs nvs : List Value} {nf nn : Nat} {rows : List (List Int)} {ns : List Int} {T : Led} {Q : Flow → Shared → Prop}
  (he : elt = .BinOp (.Name x p1) .Add (.List [.Name y p2] p3) p4)
  (hLe : env.locals = L)
  (hsw : swapsWith (lc2 elt (.Name x px) (.Name x1 q1) (.Name y py) (.Name z pz) scope pos) (some (.Name y0 py0)) spos.line env = pure true)
  (hclos : closureFor scope env = pure cl) (hcell : ∀ z ∈ scope.names, z.2 ≠ .cell) (hkind : scope.kind = .function)
  (hnames : ∀ z ∈ scope.names, z.2 = .local → scope.names.lookup z.1 = some .local) (hx : scope.names.lookup x = some .local) (hy : scope.names.lookup y = some .local) (hz : ∀ C, (compEnvC scope cl C env).kindOf z = some .cell) (hcl : cl.lookup z = some c)
  (hy0 : env.kindOf y0 = some .local) (hp : (env.scope.kind == .class || (env.scope.kind == .module && env.locals != env.globals)) = false)
  (hxy : x ≠ y) (dx : (x == ("__debug__" : Str)) = false) (dy : (y == ("__debug__" : Str)) = false) (dz : (z == ("__debug__" : Str)) = false)
  (hh : A.handled = none) (z1 : ∀ r ∈ rows, r.length ≤ 1000) (z2 : rows.length * ns.length ≤ 50000) (z3 : ns.length ≤ 50000)
  (h : wpAny (model prog w) A (eval (.Name x1 q1) env) (fun xv s₁ => xv = .ref fa ∧ Fr h₀ L s₁.heap m ∧ News h₀ L s₁.heap T ∧ (fa, listOf fvs.toArray nf) ∈ T ∧ LogIn T fvs rows ∧ (na, listOf nvs.toArray nn) ∈ T ∧ IntsAre nvs ns ∧ (c, oc) ∈ T ∧ oc.data = .cell (some (.ref na)) ∧
   ∀ D h tk ys new, Fr h₀ L h (fun z => if z = y0 then some (.ref D) else m z) → News h₀ L h ((D, lst ys) :: (new ++ T)) → LogIn new ys (rows.flatMap fun row => ns.map fun n => row ++ [n]) → (∀ p ∈ new ++ T, p.1 ≠ D) → (∀ p ∈ new, ∀ q ∈ T, p.1 ≠ q.1) → Q .next { s₁ with heap := h, toks := tk }) E s)
  (hs : ∀ v, foldedSetIterable (.Name x1 q1) env v = pure v := by intro _; rfl) :
  wpAny (model prog w) A (exec (.Assign [.Name y0 py0] (lc2 elt (.Name x px) (.Name x1 q1) (.Name y py) (.Name z pz) scope pos) spos) env) Q E s := by
 subst hLe
 rw [exec_Assign_Name_used _ _ _ _ hsw]
 refine wpAny_bind (wpAny_standAt (wpAny_bind ?_))
 show wpAny _ A (do let _ ← comprehension (lc2 elt (.Name x px) (.Name x1 q1) (.Name y py) (.Name z pz) scope pos) scope env _ (newList []) false (eval (.Name x1 q1) env) (some (assign (.Name y0 py0) env))) _ _ s
 refine wpAny_bind (wpAny_mono (wpAny_comprehension_free (use := some (assign (.Name y0 py0) env)) (Q := fun _ s' => Q .next s') rfl hs hclos hkind hnames
  (wpAny_mono h (fun xv s₁ h₁ => ?_) fun _ _ e => e)) (fun _ s' hq => wpAny_pure (wpAny_pure hq)) fun _ _ e => e)
 with_reducible refine an10 h₁ ?_
 clear h₁
 intro hR9
 subst hR9
 intro F N mf hL mn hn mc hcd fin
 have hfl : s₁.heap.IsList fa fvs.toArray := ⟨_, (N _ mf).1, rfl, _, rfl⟩
 refine wpAny_pyIter_list hfl ?_
 have up₀ : ∀ b o, s₁.heap.get? b = some o → (s₁.heap.push { cls := .type "list_iterator", data := .fields #[.ref fa, .int 0 0] }).get? b = some o := fun b o e => Heap.get?_push_of_some _ e
 have F₁ := F.keeps up₀
 have N₁ := N.grown up₀
 have it₁ : (s₁.heap.push { cls := .type "list_iterator", data := .fields #[.ref fa, .int 0 0] }).IsListIter s₁.heap.objs.size fa 0 := ⟨_, Heap.get?_push_size _ rfl, rfl, rfl⟩
 have hIL : s₁.heap.objs.size ≠ env.locals := Nat.ne_of_gt F.ns.lt
 have hI₀ := next_is_new F
 have oI : ∀ p ∈ T, p.1 ≠ s₁.heap.objs.size := fun p hp => Nat.ne_of_lt (Heap.lt_size (N p hp).1)
 generalize hH1 : s₁.heap.push { cls := .type "list_iterator", data := .fields #[.ref fa, .int 0 0] } = H1 at F₁ N₁ it₁ ⊢
 generalize s₁.heap.objs.size = I at it₁ hIL hI₀ oI ⊢
 refine wpAny_newObj_type (wpAny_newFunctionEnv hcell (by intro y hy; simp at hy) (fun h₁ hns₁ hsb₁ => ?_) hkind)
 dsimp only at hns₁ hsb₁ ⊢
 generalize hH2 : H1.push { cls := .type "list", dict := none, data := .seq ([] : List Value).toArray } = H2 at hns₁ hsb₁ ⊢
 have hCs : H2.objs.size = H1.objs.size + 1 := by rw [← hH2, Heap.size_push]
 have below : ∀ b, b < H1.objs.size → b ≠ H2.objs.size ∧ b ≠ H1.objs.size := fun b hb => ⟨by rw [hCs]; exact Nat.ne_of_lt (Nat.lt_succ_of_lt hb), Nat.ne_of_lt hb⟩
 have old : ∀ b o, H1.get? b = some o → h₁.get? b = some o := fun b o e => hsb₁.extBut b o (below b (Heap.lt_size e)).1 (Heap.get?_push_of_some _ (hH2 ▸ Heap.get?_push_of_some _ e))
 have hDC : H1.objs.size ≠ H2.objs.size := by rw [hCs]; exact Nat.ne_of_lt (Nat.lt_succ_self _)
 have hacc : h₁.get? H1.objs.size = some (lst []) := hsb₁.extBut _ _ hDC (Heap.get?_push_of_some _ (hH2 ▸ Heap.get?_push_size _ rfl))
 have fresh : ∀ a, H1.objs.size ≤ a → H1.get? a = none := fun a ha => Heap.get?_none_of_le ha
 have fresh₀ : ∀ a, H1.objs.size ≤ a → h₀.get? a = none := fun a ha => by
  cases e : h₀.get? a with
  | none => rfl
  | some o' => have := F₁.keep a o' e; rw [fresh a ha] at this; cases this
 have hLlt : env.locals < H1.objs.size := F₁.ns.lt
 have G : C2c h₀ env.locals H2.objs.size H1.objs.size := ⟨Ne.symm (below _ hLlt).1, Ne.symm (below _ hLlt).2, Ne.symm hDC, fresh₀ _ (by rw [hCs]; exact Nat.le_succ _), fresh₀ _ (Nat.le_refl _)⟩
 have hIlt : I < H1.objs.size := by obtain ⟨_, e, _⟩ := it₁; exact Heap.lt_size e
 have it₂ : h₁.IsListIter I fa 0 := by obtain ⟨o, e, r⟩ := it₁; exact ⟨o, old _ _ e, r⟩
 have S₀ : C2 h₀ env.locals m H2.objs.size H1.objs.size [] T _ h₁ := ⟨F₁.keeps old, hns₁, fun p hp => by
  rcases List.mem_cons.mp hp with hp | hp
  ·rw [hp]; exact ⟨hacc, G.dl, G.d0⟩
  ·exact ⟨old _ _ (N₁ p hp).1, (N₁ p hp).2⟩, fun p hp => below _ (Heap.lt_size (N₁ p hp).1)⟩
 have hIC : I ≠ H2.objs.size := (below I hIlt).1
 have hID : I ≠ H1.objs.size := (below I hIlt).2
 generalize H2.objs.size = C at G S₀ hIC hDC hns₁ ⊢
 generalize H1.objs.size = D at G S₀ hID hDC ⊢
 clear hns₁ hsb₁ old below fresh fresh₀ hacc hCs hH2 hH1 it₁ F₁ N₁ hLlt hIlt up₀
 have loop : ∀ s₃ : Shared, (∃ tk, s₃ = { s₁ with heap := h₁, toks := tk }) →
   codeAny (model prog w) A (.compLoop (lc2 elt (.Name x px) (.Name x1 q1) (.Name y py) (.Name z pz) scope pos) 0 (.ref I) (.ref D) (compEnvC scope cl C env)) (compPost (model prog w) A E (some (assign (.Name y0 py0) env)) (fun _ s' => Q .next s') (.ref D) C) s₃ := by
  rintro s₃ ⟨tk₃, rfl⟩
  refine compLoop_out (fun k s' => ∃ h tk m'' ys new i, s' = { s₁ with heap := h, toks := tk } ∧ C2 h₀ env.locals m C D ys (new ++ T) m'' h ∧ (∀ p ∈ new ++ T, p.1 ≠ I) ∧ (∀ p ∈ new, ∀ q ∈ T, p.1 ≠ q.1) ∧ h.IsListIter I fa i ∧ LogIn new ys ((rows.take i).flatMap fun row => ns.map fun n => row ++ [n]) ∧ ys.length = i * ns.length ∧ i ≤ rows.length ∧ k = rows.length + 1 - i) ?_ (rows.length + 1)
   ⟨h₁, tk₃, _, [], [], 0, rfl, S₀, oI, (fun _ h => nomatch h), it₂, .nil, (Nat.zero_mul _).symm, Nat.zero_le _, rfl⟩
  intro k s' hK9
  with_reducible refine ex6 hK9 ?_
  clear hK9
  intro h tk m'' ys new i hX9
  with_reducible refine an9 hX9 ?_
  clear hX9
  intro hR9
  subst hR9
  intro S oI' oT' it LL hyl hi hR9
  subst hR9
  have aT : ∀ p ∈ T, p ∈ (D, lst ys) :: (new ++ T) := fun p hp => .tail _ (List.mem_append.mpr (.inr hp))
  have hfl' : h.IsList fa fvs.toArray := ⟨_, (S.news _ (aT _ mf)).1, rfl, _, rfl⟩
  have offI : ∀ p ∈ (D, lst ys) :: (new ++ T), p.1 ≠ I := fun p hp => by
   rcases List.mem_cons.mp hp with hp | hp
   ·rw [hp]; exact Ne.symm hID
   ·exact oI' p hp
  have hlen := hL.length
  cases hv : rows[i]? with
  | none =>
   have hge : rows.length ≤ i := by simpa using hv
   have hie : i = rows.length := Nat.le_antisymm hi hge
   refine wpAny_pyNext_list_end hh it hfl' (by simp [hlen]; omega) fun h₂ hk₂ => ?_
   have hk₂' : ∀ b o, b ∉ [I] → h.get? b = some o → h₂.get? b = some o := fun b o hb e => hk₂ b o (by simpa using hb) e
   rw [hie, List.take_length] at LL
   have F₂ := fr_but S.fr hk₂' (Ne.symm hIL) hI₀
   have N₂ := news_but S.news hk₂' offI
   have C₂ : h₂.Ns C m'' := S.ns.at' fun o e => hk₂ _ o (Ne.symm hIC) e
   show wpAny _ A (assign (.Name y0 py0) env (.ref D)) _ _ _
   refine wpAny_assign_Name (wpAny_storeName_local hy0 F₂.ns (fun h₃ hn₃ hs₃ => ?_) hp)
   have hL₀ : h₀.get? env.locals = none := Heap.get?_none_of_le F₂.above
   have F₃ : Fr h₀ env.locals h₃ (fun z => if z = y0 then some (.ref D) else m z) := ⟨hn₃, fun b o e => hs₃.extBut b o (fun q => by rw [q, hL₀] at e; cases e) (F₂.keep b o e), F₂.above⟩
   refine ⟨m'', C₂.sameBut hs₃ G.cl, fun h'' hs'' => fin D h'' _ ys new (F₃.change hs'' G.cl G.c0) (fun p hp => ?_) LL (fun p hp => (S.off p hp).2) oT'⟩
   have e₃ : h₃.get? p.1 = some p.2 := hs₃.extBut _ _ (N₂ p hp).2.1 (N₂ p hp).1
   refine ⟨hs''.extBut _ _ ?_ e₃, (N₂ p hp).2⟩
   rcases List.mem_cons.mp hp with hp | hp
   ·rw [hp]; exact hDC
   ·exact (S.off p hp).1
  | some row =>
   refine ex3 (hL.get hv) ?_
   intro ra rvs nr hX9
   with_reducible refine an3 hX9 ?_
   clear hX9
   intro hra mr hri
   have hlt : i < rows.length := (List.getElem?_eq_some_iff.mp hv).1
   refine wpAny_pyNext_list_item it hfl' (x := .ref ra) (by simpa using hra) fun h₂ it₂ hs₂ => ?_
   have F₂ : Fr h₀ env.locals h₂ m := S.fr.change hs₂ hIL hI₀
   have N₂ : News h₀ env.locals h₂ ((D, lst ys) :: (new ++ T)) := fun p hp => ⟨hs₂.extBut _ _ (offI p hp) (S.news p hp).1, (S.news p hp).2⟩
   have C₂ : h₂.Ns C m'' := S.ns.sameBut hs₂ (Ne.symm hIC)
   refine wpAny_assign_Name (wpAny_storeName_local (lookup_relabel_local hx) C₂ (fun h₃ C₃ hs₃ => ?_) (by simp [compEnvC, relabel, hkind]))
   have F₃ : Fr h₀ env.locals h₃ m := F₂.change hs₃ G.cl G.c0
   have N₃ : News h₀ env.locals h₃ ((D, lst ys) :: (new ++ T)) := fun p hp => ⟨hs₃.extBut _ _ (by
    rcases List.mem_cons.mp hp with hp | hp
    ·rw [hp]; exact hDC
    ·exact (S.off p hp).1) (N₂ p hp).1, (N₂ p hp).2⟩
   obtain ⟨oI₃, eI₃, hoI₃⟩ : h₃.IsListIter I fa (i + 1) := it₂.extBut hs₃.extBut hIC
   refine wpAny_Name (wpAny_loadName_cell (by simp [compEnvC, relabel, hkind]) (hz C) hcl (v := .ref na) ⟨oc, (N₃ _ (aT _ mc)).1, hcd⟩ ?_) dz
   refine wpAny_pyIter_list (items := nvs.toArray) ⟨_, (N₃ _ (aT _ mn)).1, rfl, _, rfl⟩ ?_
   have up₄ : ∀ b o, h₃.get? b = some o → (h₃.push { cls := .type "list_iterator", data := .fields #[.ref na, .int 0 0] }).get? b = some o := fun b o e => Heap.get?_push_of_some _ e
   have it₄ : (h₃.push { cls := .type "list_iterator", data := .fields #[.ref na, .int 0 0] }).IsListIter h₃.objs.size na 0 := ⟨_, Heap.get?_push_size _ rfl, rfl, rfl⟩
   have lt₄ : ∀ b o, h₃.get? b = some o → b ≠ h₃.objs.size := fun b o e => Nat.ne_of_lt (Heap.lt_size e)
   have hz2 : ys.length + ns.length ≤ 100000 := by
    have : i * ns.length ≤ rows.length * ns.length := Nat.mul_le_mul_right _ hi
    lia
   have inner : ∀ (s₅ : Shared), s₅ = { s₁ with heap := h₃.push { cls := .type "list_iterator", data := .fields #[.ref na, .int 0 0] }, toks := tk + 1 } →
     codeAny (model prog w) (A.mark none) (.compLoop (lc2 elt (.Name x px) (.Name x1 q1) (.Name y py) (.Name z pz) scope pos) 1 (.ref h₃.objs.size) (.ref D) (compEnvC scope cl C env)) (fun r s' => match r with
      | .ok _ => ∃ k', k' < rows.length + 1 - i ∧ ∃ h tk m'' ys new i, s' = { s₁ with heap := h, toks := tk } ∧ C2 h₀ env.locals m C D ys (new ++ T) m'' h ∧ (∀ p ∈ new ++ T, p.1 ≠ I) ∧ (∀ p ∈ new, ∀ q ∈ T, p.1 ≠ q.1) ∧ h.IsListIter I fa i ∧ LogIn new ys ((rows.take i).flatMap fun row => ns.map fun n => row ++ [n]) ∧ ys.length = i * ns.length ∧ i ≤ rows.length ∧ k' = rows.length + 1 - i
      | .error e => cameBackBy (model prog w) A (compEnvC scope cl C env) (notedBy (model prog w) A (compEnvC scope cl C env) fun e s' => compPost (model prog w) A E (some (assign (.Name y0 py0) env)) (fun _ s' => Q .next s') (.ref D) C (.error e) s') e s') s₅ := by
    rintro s₅ rfl
    refine comp2_in (T := (I, oI₃) :: (new ++ T)) (m := m) hh he rfl (by simp [compEnvC, relabel, hkind]) (lookup_relabel_local hx) (lookup_relabel_local hy) hxy dx dy G
     ⟨F₃.keeps up₄, C₃.keeps up₄, fun p hp => ?_, fun p hp => ?_⟩ (ra := ra) (by simp) it₄ ?_ ?_ ?_ (next_is_new F₃) (fun p hp => ?_) (.tail _ (List.mem_append.mpr (.inr mr))) (.tail _ (List.mem_append.mpr (.inr mn))) hri hn (z1 _ (List.mem_of_getElem? hv)) hz2 ?_
    ·rcases List.mem_cons.mp hp with hp | hp
     ·rw [hp]; exact ⟨up₄ _ _ (N₃ _ (.head _)).1, G.dl, G.d0⟩
     rcases List.mem_cons.mp hp with hp | hp
     ·rw [hp]; exact ⟨up₄ _ _ eI₃, hIL, hI₀⟩
     ·exact ⟨up₄ _ _ (N₃ p (.tail _ hp)).1, (N₃ p (.tail _ hp)).2⟩
    ·rcases List.mem_cons.mp hp with hp | hp
     ·rw [hp]; exact ⟨hIC, hID⟩
     ·exact S.off p hp
    ·obtain ⟨o, _, _, e, _⟩ := C₃; exact Ne.symm (lt₄ _ _ e)
    ·exact Ne.symm (lt₄ _ _ (N₃ _ (.head _)).1)
    ·exact Nat.ne_of_gt F₃.ns.lt
    ·rcases List.mem_cons.mp hp with hp | hp
     ·rw [hp]; exact lt₄ _ _ eI₃
     ·exact lt₄ _ _ (N₃ p (.tail _ hp)).1
    ·intro h₆ tk₆ m₆ zs new₆ S₆ L₆ zl₆ off₆
     have sub : ∀ p ∈ (new₆ ++ new) ++ T, p ∈ new₆ ++ ((I, oI₃) :: (new ++ T)) := fun p hp => by
      simp only [List.mem_append, List.mem_cons] at hp ⊢
      rcases hp with (hp | hp) | hp
      ·exact .inl hp
      ·exact .inr (.inr (.inl hp))
      ·exact .inr (.inr (.inr hp))
     refine ⟨rows.length + 1 - (i + 1), by lia, h₆, tk₆, m₆, ys ++ zs, new₆ ++ new, i + 1, rfl, ⟨S₆.fr, S₆.ns, fun p hp => S₆.news p ?_, fun p hp => S₆.off p (sub p hp)⟩, fun p hp => ?_, fun p hp q hq => ?_, ⟨oI₃, (S₆.news (I, oI₃) (.tail _ (List.mem_append.mpr (.inr (.head _))))).1, hoI₃⟩, ?_, ?_, hlt, rfl⟩
     ·rcases List.mem_cons.mp hp with hp | hp
      ·rw [hp]; exact .head _
      ·exact .tail _ (sub p hp)
     ·rcases List.mem_append.mp hp with hp | hp
      ·rcases List.mem_append.mp hp with hp | hp
       ·exact off₆ p hp (I, oI₃) (.head _)
       ·exact oI' p (List.mem_append.mpr (.inl hp))
      ·exact oI' p (List.mem_append.mpr (.inr hp))
     ·rcases List.mem_append.mp hp with hp | hp
      ·exact off₆ p hp q (.tail _ (List.mem_append.mpr (.inr hq)))
      ·exact oT' p hp q hq
     ·have e : (rows.take (i + 1)).flatMap (fun row => ns.map fun n => row ++ [n]) = (rows.take i).flatMap (fun row => ns.map fun n => row ++ [n]) ++ ns.map (fun n => row ++ [n]) := by
       rw [List.take_add_one, hv, List.flatMap_append]; simp
      rw [e]
      exact LogIn.append (LL.mono fun p hp => List.mem_append.mpr (.inr hp)) (L₆.mono fun p hp => List.mem_append.mpr (.inl hp))
     ·rw [List.length_append, hyl, zl₆, Nat.succ_mul]
   exact compStart_in (inner _ rfl) (wpAny_pyIter_listiter it₄ (inner _ rfl))
 exact codeAny_compStart_list (loop _ ⟨_, rfl⟩) (wpAny_pyIter_listiter it₂ (loop _ ⟨_, rfl⟩))
end

end O1p
section E1p
theorem body_lit2 {M : Model} {A : Around} {E : Value → Shared → Prop} {s : Shared} {Q : Flow → Shared → Prop} {K : Frag} {f : Addr} {oc : Value} {od : Option Addr} {osl : Array (Option Value)} {name qual nm : Str} {params : Arguments} {body : List Stmt} {scope : Scope} {dV kV doc pm cdv ct : Value} {an : Option Addr} {i : Nat} {L a : Addr} {cd : Value}
  (ho : K.lookup f = some ⟨oc, od, .func (fnOf name qual params body scope dV kV doc pm an cdv ct), osl⟩) (h : wpAny M (A.deeper (envOfC nm scope L a cd)) (execs (body.drop i) (envOfC nm scope L a cd)) Q E s) :
  wpAny M (A.deeper (envOfC nm (scopeAt K f) L a cd)) (execs (bodyFrom K f i) (envOfC nm (scopeAt K f) L a cd)) Q E s := by
 have e1 : scopeAt K f = scope := by unfold scopeAt; rw [ho]
 have e2 : bodyFrom K f i = body.drop i := by unfold bodyFrom; rw [ho]
 rw [e1, e2]; exact h
theorem execs_at0 {M : Model} {A : Around} {E : Value → Shared → Prop} {s : Shared} {Q : Flow → Shared → Prop} {K : Frag} {f : Addr} {oc : Value} {od : Option Addr} {osl : Array (Option Value)} {name qual nm : Str} {params : Arguments} {body sts : List Stmt} {scope sc : Scope} {dV kV doc pm cdv ct : Value} {an : Option Addr} {i : Nat} {L a : Addr} {cd : Value}
  (ho : K.lookup f = some ⟨oc, od, .func (fnOf name qual params body scope dV kV doc pm an cdv ct), osl⟩) (hs : body.drop i = sts) (hsc : scope = sc) (hc : cellsFrom (L + 1) sc.names [] = []) (h : wpAny M (A.deeper (envOfC nm (scopeAt K f) L a cd)) (execs (bodyFrom K f i) (envOfC nm (scopeAt K f) L a cd)) Q E s) :
  wpAny M (A.deeper (envOf nm sc L a cd)) (execs sts (envOf nm sc L a cd)) Q E s := by
 have e : envOf nm sc L a cd = envOfC nm sc L a cd := by unfold envOf envOfC; rw [hc]
 rw [e]
 exact execs_at ho hs hsc h
noncomputable abbrev envDr (K : Frag) (L : Addr) : Env := envOfC (Str.ofString "_law_draw") (scopeAt K 709) L 709 (.ref 708)
theorem draw_tail (w : World) {p : Program} {loose : List Str} {mean : ExcName → Option Value} {mg mb : Str → Option Value} {dp un : Nat} {gd : Option (List Code)} {cn : Str} {cs : Scope} {L a : Addr} {ccd : Value} {cl : List (Str × Addr)} {outer : List Env} {g : Heap} {L' : Addr} {m : Str → Option Value} {s : Shared} {E : Value → Shared → Prop} {Q : Flow → Shared → Prop}
  {many k c : Int} {tm tk tc : Tok} {news : Led} (hm0 : 3 ≤ many) (hm1 : many ≤ 7) (hk0 : 0 ≤ k) (hk1 : k ≤ 100)
  (X : Frag.In (Mine.hd.heap_1 w.params) g) (T : Top p loose mean mg mb g) (F : Fr g L' s.heap m) (hk : ∀ p ∈ ([("many", .int many tm), ("spot", .int k tk), ("cell", .int c tc)] : List (Str × Value)), m p.1 = some p.2) (N : News g L' s.heap news)
  (hret : ∀ d t h' tk' m', Fr g L' h' m' → News g L' h' news → 0 ≤ d → d < many → Q (.ret (.int d t)) { s with heap := h', toks := tk' }) :
  wpAny (model PR w) ((ktrTop dp un gd cn cs L a ccd cl outer).deeper (envDr (Mine.hd.heap_1 w.params) L')) (execs (bodyFrom (Mine.hd.heap_1 w.params) 709 6) (envDr (Mine.hd.heap_1 w.params) L')) Q E s := by
 replace F := ksw_fr (m₀ := m) (stored := []) hk (fun _ _ _ => rfl) F
 dsimp only [kstB] at F
 with_reducible refine' body_lit2 ?ho ?_
 case ho => k_is
 simp only [List.drop_succ_cons, List.drop_zero]
 repeat' (first | keq_rows | keq_hits | ((k_here; (with_reducible show wpAny _ _ (call (Value.builtin "len") [Value.ref _]) _ _ _); k_dflt (refine' len_lst ?N ?hm ?hz ?_; (case N => k_asm); (case hm => k_mem); (case hz => lia); k_whole))) | ((k_here; (with_reducible show wpAny _ _ (subscriptTail _ _ (Value.ref _) (Value.int _ _)) _ _ _); k_dflt (refine' ints_item ?N ?hm ?hi ?h0 ?h1 ?hl ?_ ?hs; (case N => k_asm); (case hm => k_mem); (case hi => assumption); (case h0 => omega); (case h1 => omega); (case hl => lia); (case hs => with_unfolding_all rfl); k_whole); intros)) | ((k_here; (with_reducible refine' mul_small ?ka ?kb ?kc ?kd ?_; (case ka => lia); (case kb => lia); (case kc => omega); (case kd => lia)); intros)) | ((k_here; (with_reducible refine' mul_op ?ka ?kb ?kc ?kd ?_; (case ka => omega); (case kb => lia); (case kc => omega); (case kd => lia)); intros)) | ((k_here; (with_reducible refine pow_1018 ?_))) | ((k_here; (with_reducible refine' pow_op ?ka ?kb ?kc ?kd ?_; (case ka => decide); (case kb => decide); (case kc => lia); (case kd => lia)); intros)) | ((k_here; (with_reducible refine' mod_op ?kh ?_; (case kh => lia)); intros)) | ((k_here; (with_reducible show wpAny _ _ (compareOp CmpOp.NotEq (Value.ref _) (Value.ref _)) _ _ _); k_dflt (refine' ne_intsK (us := []) ?k1 ?k2 ?k3 IntsAre.nil ?k5 ?_; (case k1 => exact News.isList (by k_asm) (by k_mem)); (case k2 => assumption); (case k3 => exact News.isList (by k_asm) (by k_mem)); (case k5 => ktr_units); k_whole))) | (k_unfold; (try dsimp only)) | (k_end; wrow_close) | walk1 | (dsimp only; walk1) | (leave1; try dsimp only) | fail "no")
 refine' hret _ _ _ _ _ ?ra ?rb ?rc ?rd
 case ra => k_asm
 case rb => k_asm
 case rc => assumption
 case rd => assumption
theorem draw_c (w : World) (many : Int) (hm0 : 3 ≤ many) (hm1 : many ≤ 7) {penA cA : Addr} {cells : List Value} {is : List Int} {k gr : Int} {t1 t2 tm : Tok} {np nc : Nat} (hi : IntsAre cells is) (hl : cells.length ≤ 63) (hk0 : 0 ≤ k) (hk1 : k ≤ 100) (hg : 0 ≤ gr) (hne : NeA penA cA) :
  Ctr w 709 2 128 [.ref penA, .int many tm] [(penA, listOf #[.ref cA, .int k t1, .int gr t2] np), (cA, listOf cells.toArray nc)]
   (fun _ r _ out => ∃ d t k' gr' t1' t2' np', r = .int d t ∧ 0 ≤ d ∧ d < many ∧ 0 ≤ k' ∧ k' ≤ k + 1 ∧ 0 ≤ gr' ∧ (penA, listOf #[.ref cA, .int k' t1', .int gr' t2'] np') ∈ out ∧ (cA, listOf cells.toArray nc) ∈ out) := by
 refine uB ?_
 simp(disch:=k_dflt(
 refine iB ?_
 unfold Ctr
 intro p loose mean mg mb dp un gd cn cs a ccd cl outer A₀ base h₀ L m s Q E B F X N T hk hdp hun hret
 have hz := IntsAre.length hi
 refine wpAny_call ?_
 k_dflt (refine' code_defS ?k1 ?k2 ?k3 ?k4 ?k5 ?kA ?kF ?kK ?k6 ?k7 ?k8 ?k9 ?kB ?_ ?c2 ?c3 ?c4 ?c5; (case kA => exact rfl); (case kF => exact rfl); (case kK => assumption); (case k1 => k_asm); (case k2 => k_asm); (case k3 => k_asm); (case k4 => k_asm); (case k5 => k_asm); (case k6 => k_is); (case k7 => k_is); (case k8 => ktr_room); (case k9 => first | exact BindsTo.of_eq rfl | exact binds_K (by k_in) rfl (by k_is) rfl rfl rfl); (case c5 => decide); (case kB => exact locs rfl); (case c2 => exact rfl); (case c3 => exact rfl); (case c4 => exact rfl); k_whole; intro g' L' h' FG' F' N' B' X' T' GS'; (try dsimp only); (try k_fold))
 (refine letA ?_; intro aL)
 (refine letFr F' ?_; clear F'; intro mL F')
 (refine letNews N' ?_; clear N'; intro nL N')
 (refine absQ ?_; intro qA uqA)
 cases hc9 : is with
 | nil =>
  subst hc9
  repeat' (first | ((fail_if_success (with_reducible show wpAny _ _ (execs ((.Assign [.Name _ _] (.BinOp _ .Mod (.Constant _ _ _) _) _) :: _) _) _ _ _)); first | keq_rows | keq_hits | ((k_here; (with_reducible show wpAny _ _ (call (Value.builtin "len") [Value.ref _]) _ _ _); k_dflt (refine' len_lst ?N ?hm ?hz ?_; (case N => k_asm); (case hm => k_mem); (case hz => lia); k_whole))) | ((k_here; (with_reducible show wpAny _ _ (subscriptTail _ _ (Value.ref _) (Value.int _ _)) _ _ _); k_dflt (refine' ints_item ?N ?hm ?hi ?h0 ?h1 ?hl ?_ ?hs; (case N => k_asm); (case hm => k_mem); (case hi => assumption); (case h0 => omega); (case h1 => omega); (case hl => lia); (case hs => with_unfolding_all rfl); k_whole); intros)) | ((k_here; (with_reducible refine' mul_small ?ka ?kb ?kc ?kd ?_; (case ka => lia); (case kb => lia); (case kc => omega); (case kd => lia)); intros)) | ((k_here; (with_reducible refine' mul_op ?ka ?kb ?kc ?kd ?_; (case ka => omega); (case kb => lia); (case kc => omega); (case kd => lia)); intros)) | ((k_here; (with_reducible refine pow_1018 ?_))) | ((k_here; (with_reducible refine' pow_op ?ka ?kb ?kc ?kd ?_; (case ka => decide); (case kb => decide); (case kc => lia); (case kd => lia)); intros)) | ((k_here; (with_reducible refine' mod_op ?kh ?_; (case kh => lia)); intros)) | ((k_here; (with_reducible show wpAny _ _ (compareOp CmpOp.NotEq (Value.ref _) (Value.ref _)) _ _ _); k_dflt (refine' ne_intsK (us := []) ?k1 ?k2 ?k3 IntsAre.nil ?k5 ?_; (case k1 => exact News.isList (by k_asm) (by k_mem)); (case k2 => assumption); (case k3 => exact News.isList (by k_asm) (by k_mem)); (case k5 => ktr_units); k_whole))) | (k_unfold; (try dsimp only)) | (k_end; wrow_close) | walk1 | (dsimp only; walk1) | (leave1; try dsimp only)) | fail "no")
  all_goals (first | ((with_reducible show Q _ _); skip) | (with_reducible show wpAny _ _ (execs ((.Assign [.Name _ _] (.BinOp _ .Mod (.Constant _ _ _) _) _) :: _) _) _ _ _; refine' execs_at0 (K := Mine.hd.heap_1 w.params) (f := 709) (i := 6) ?ho ?hs ?hsc (by with_unfolding_all rfl) (draw_tail w (k := k) hm0 hm1 hk0 hk1 ?dX ?dT ?dF ?dk ?dN ?_); (case ho => k_is); (case hs => kernel_rfl); (case hsc => kernel_rfl); (case dX => k_asm); (case dT => k_asm); (case dF => k_asm); (case dN => k_asm); (case dk => (intro p hp; simp only [List.mem_cons, List.not_mem_nil, or_false] at hp; rcases hp with rfl | rfl | rfl <;> with_unfolding_all exact rfl)); intro d9 t9 h9 tk9 m9 F9 N9 d0 d1; (try dsimp only); repeat' (first | keq_rows | keq_hits | ((k_here; (with_reducible show wpAny _ _ (call (Value.builtin "len") [Value.ref _]) _ _ _); k_dflt (refine' len_lst ?N ?hm ?hz ?_; (case N => k_asm); (case hm => k_mem); (case hz => lia); k_whole))) | ((k_here; (with_reducible show wpAny _ _ (subscriptTail _ _ (Value.ref _) (Value.int _ _)) _ _ _); k_dflt (refine' ints_item ?N ?hm ?hi ?h0 ?h1 ?hl ?_ ?hs; (case N => k_asm); (case hm => k_mem); (case hi => assumption); (case h0 => omega); (case h1 => omega); (case hl => lia); (case hs => with_unfolding_all rfl); k_whole); intros)) | ((k_here; (with_reducible refine' mul_small ?ka ?kb ?kc ?kd ?_; (case ka => lia); (case kb => lia); (case kc => omega); (case kd => lia)); intros)) | ((k_here; (with_reducible refine' mul_op ?ka ?kb ?kc ?kd ?_; (case ka => omega); (case kb => lia); (case kc => omega); (case kd => lia)); intros)) | ((k_here; (with_reducible refine pow_1018 ?_))) | ((k_here; (with_reducible refine' pow_op ?ka ?kb ?kc ?kd ?_; (case ka => decide); (case kb => decide); (case kc => lia); (case kd => lia)); intros)) | ((k_here; (with_reducible refine' mod_op ?kh ?_; (case kh => lia)); intros)) | ((k_here; (with_reducible show wpAny _ _ (compareOp CmpOp.NotEq (Value.ref _) (Value.ref _)) _ _ _); k_dflt (refine' ne_intsK (us := []) ?k1 ?k2 ?k3 IntsAre.nil ?k5 ?_; (case k1 => exact News.isList (by k_asm) (by k_mem)); (case k2 => assumption); (case k3 => exact News.isList (by k_asm) (by k_mem)); (case k5 => ktr_units); k_whole))) | (k_unfold; (try dsimp only)) | (k_end; wrow_close) | walk1 | (dsimp only; walk1) | (leave1; try dsimp only) | fail "no")))
  all_goals
   refine' hret _ _ _ _ ?ra ?rb ?rc ?rd
   case ra => k_asm
   case rb => k_asm
   case rc => k_asm
   case rd =>
    refine' exi7 _ _ _ _ _ _ _ ⟨rfl, ?b0, ?b1, ?b2, ?b3, ?b4, ?mp, ?mc⟩
    case mp => k_mem
    case mc => k_mem
    case b0 => first | assumption | omega
    case b1 => first | assumption | omega
    case b2 => first | assumption | lia
    case b3 => first | assumption | lia
    case b4 => first | assumption | omega | exact Int.fdiv_nonneg (by omega) (by lia) | (simp only [decide_eq_true_eq, decide_eq_false_iff_not, Bool.not_eq_true', Bool.not_eq_true, Bool.not_eq_false'] at *; exact Int.fdiv_nonneg (by omega) (by omega))
 | cons i0 ir =>
  have hlp : 0 < cells.length := by rw [hz, hc9, List.length_cons]; lia
  repeat' (first | ((fail_if_success (with_reducible show wpAny _ _ (execs ((.Assign [.Name _ _] (.BinOp _ .Mod (.Constant _ _ _) _) _) :: _) _) _ _ _)); first | keq_rows | keq_hits | ((k_here; (with_reducible show wpAny _ _ (call (Value.builtin "len") [Value.ref _]) _ _ _); k_dflt (refine' len_lst ?N ?hm ?hz ?_; (case N => k_asm); (case hm => k_mem); (case hz => lia); k_whole))) | ((k_here; (with_reducible show wpAny _ _ (subscriptTail _ _ (Value.ref _) (Value.int _ _)) _ _ _); k_dflt (refine' ints_item ?N ?hm ?hi ?h0 ?h1 ?hl ?_ ?hs; (case N => k_asm); (case hm => k_mem); (case hi => assumption); (case h0 => omega); (case h1 => omega); (case hl => lia); (case hs => with_unfolding_all rfl); k_whole); intros)) | ((k_here; (with_reducible refine' mul_small ?ka ?kb ?kc ?kd ?_; (case ka => lia); (case kb => lia); (case kc => omega); (case kd => lia)); intros)) | ((k_here; (with_reducible refine' mul_op ?ka ?kb ?kc ?kd ?_; (case ka => omega); (case kb => lia); (case kc => omega); (case kd => lia)); intros)) | ((k_here; (with_reducible refine pow_1018 ?_))) | ((k_here; (with_reducible refine' pow_op ?ka ?kb ?kc ?kd ?_; (case ka => decide); (case kb => decide); (case kc => lia); (case kd => lia)); intros)) | ((k_here; (with_reducible refine' mod_op ?kh ?_; (case kh => lia)); intros)) | ((k_here; (with_reducible show wpAny _ _ (compareOp CmpOp.NotEq (Value.ref _) (Value.ref _)) _ _ _); k_dflt (refine' ne_intsK (us := []) ?k1 ?k2 ?k3 IntsAre.nil ?k5 ?_; (case k1 => exact News.isList (by k_asm) (by k_mem)); (case k2 => assumption); (case k3 => exact News.isList (by k_asm) (by k_mem)); (case k5 => ktr_units); k_whole))) | (k_unfold; (try dsimp only)) | (k_end; wrow_close) | walk1 | (dsimp only; walk1) | (leave1; try dsimp only)) | fail "no")
  all_goals (first | ((with_reducible show Q _ _); skip) | (with_reducible show wpAny _ _ (execs ((.Assign [.Name _ _] (.BinOp _ .Mod (.Constant _ _ _) _) _) :: _) _) _ _ _; refine' execs_at0 (K := Mine.hd.heap_1 w.params) (f := 709) (i := 6) ?ho ?hs ?hsc (by with_unfolding_all rfl) (draw_tail w (k := k) hm0 hm1 hk0 hk1 ?dX ?dT ?dF ?dk ?dN ?_); (case ho => k_is); (case hs => kernel_rfl); (case hsc => kernel_rfl); (case dX => k_asm); (case dT => k_asm); (case dF => k_asm); (case dN => k_asm); (case dk => (intro p hp; simp only [List.mem_cons, List.not_mem_nil, or_false] at hp; rcases hp with rfl | rfl | rfl <;> with_unfolding_all exact rfl)); intro d9 t9 h9 tk9 m9 F9 N9 d0 d1; (try dsimp only); repeat' (first | keq_rows | keq_hits | ((k_here; (with_reducible show wpAny _ _ (call (Value.builtin "len") [Value.ref _]) _ _ _); k_dflt (refine' len_lst ?N ?hm ?hz ?_; (case N => k_asm); (case hm => k_mem); (case hz => lia); k_whole))) | ((k_here; (with_reducible show wpAny _ _ (subscriptTail _ _ (Value.ref _) (Value.int _ _)) _ _ _); k_dflt (refine' ints_item ?N ?hm ?hi ?h0 ?h1 ?hl ?_ ?hs; (case N => k_asm); (case hm => k_mem); (case hi => assumption); (case h0 => omega); (case h1 => omega); (case hl => lia); (case hs => with_unfolding_all rfl); k_whole); intros)) | ((k_here; (with_reducible refine' mul_small ?ka ?kb ?kc ?kd ?_; (case ka => lia); (case kb => lia); (case kc => omega); (case kd => lia)); intros)) | ((k_here; (with_reducible refine' mul_op ?ka ?kb ?kc ?kd ?_; (case ka => omega); (case kb => lia); (case kc => omega); (case kd => lia)); intros)) | ((k_here; (with_reducible refine pow_1018 ?_))) | ((k_here; (with_reducible refine' pow_op ?ka ?kb ?kc ?kd ?_; (case ka => decide); (case kb => decide); (case kc => lia); (case kd => lia)); intros)) | ((k_here; (with_reducible refine' mod_op ?kh ?_; (case kh => lia)); intros)) | ((k_here; (with_reducible show wpAny _ _ (compareOp CmpOp.NotEq (Value.ref _) (Value.ref _)) _ _ _); k_dflt (refine' ne_intsK (us := []) ?k1 ?k2 ?k3 IntsAre.nil ?k5 ?_; (case k1 => exact News.isList (by k_asm) (by k_mem)); (case k2 => assumption); (case k3 => exact News.isList (by k_asm) (by k_mem)); (case k5 => ktr_units); k_whole))) | (k_unfold; (try dsimp only)) | (k_end; wrow_close) | walk1 | (dsimp only; walk1) | (leave1; try dsimp only) | fail "no")))
  all_goals
   refine' hret _ _ _ _ ?ra ?rb ?rc ?rd
   case ra => k_asm
   case rb => k_asm
   case rc => k_asm
   case rd =>
    refine' exi7 _ _ _ _ _ _ _ ⟨rfl, ?b0, ?b1, ?b2, ?b3, ?b4, ?mp, ?mc⟩
    case mp => k_mem
    case mc => k_mem
    case b0 => first | assumption | omega
    case b1 => first | assumption | omega
    case b2 => first | assumption | lia
    case b3 => first | assumption | lia
    case b4 => first | assumption | omega | exact Int.fdiv_nonneg (by omega) (by lia) | (simp only [decide_eq_true_eq, decide_eq_false_iff_not, Bool.not_eq_true', Bool.not_eq_true, Bool.not_eq_false'] at *; exact Int.fdiv_nonneg (by omega) (by omega))
 ))only[↓bB]

end E1p
section E2p
theorem numbers_c (w : World) {ra : Addr} {b m d : Int} {t1 t2 t3 : Tok} (hm0 : 1 ≤ m) (hm1 : m ≤ 3) (hb0 : -3 ≤ b) (hb1 : b ≤ 3) (hd0 : b - 1 ≤ d) (hd1 : d ≤ b + 2) :
  Ctr w 728 2 64 [.ref ra] [(ra, tup [.int b t1, .int m t2, .int d t3])]
   (fun H r _ out => ∃ a ys n, r = .ref a ∧ H.get? a = none ∧ (a, listOf (ys : List Value).toArray n) ∈ out ∧ IntsAre ys (nums m d 4 b) ∧ (ra, tup [.int b t1, .int m t2, .int d t3]) ∈ out) := by
 unfold Ctr
 intro p loose mean mg mb dp un gd cn cs a ccd cl outer A₀ base h₀ L m' s Q E B F X N T hk hdp hun hret
 refine an4 (nums_at hm0 hm1 hb0 hb1 hd0 hd1) ?_
 intro r1 r2 r3 r4
 refine wpAny_call ?_
 k_dflt (refine' code_defS ?k1 ?k2 ?k3 ?k4 ?k5 ?kA ?kF ?kK ?k6 ?k7 ?k8 ?k9 ?kB ?_ ?c2 ?c3 ?c4 ?c5; (case kA => exact rfl); (case kF => exact rfl); (case kK => assumption); (case k1 => k_asm); (case k2 => k_asm); (case k3 => k_asm); (case k4 => k_asm); (case k5 => k_asm); (case k6 => k_is); (case k7 => k_is); (case k8 => ktr_room); (case k9 => first | exact BindsTo.of_eq rfl | exact binds_K (by k_in) rfl (by k_is) rfl rfl rfl); (case c5 => decide); (case kB => exact locs rfl); (case c2 => exact rfl); (case c3 => exact rfl); (case c4 => exact rfl); k_whole; intro g' L' h' FG' F' N' B' X' T' GS'; (try dsimp only); (try k_fold))
 (refine letA ?_; intro aL)
 (refine letFr F' ?_; clear F'; intro mL F')
 (refine letNews N' ?_; clear N'; intro nL N')
 (refine absQ ?_; intro qA uqA)
 repeat' (first | keq_rows | keq_hits | (k_unfold; (try dsimp only)) | (k_end; wrow_close) | walk1 | (dsimp only; walk1) | (leave1; try dsimp only) | fail "no")
 rename Fr _ _ _ _ => F9
 rename News _ _ _ _ => N9
 rename IsRange _ _ _ _ _ _ _ _ => R9
 k_here
 refine list_rangeD (by rfl) F9 N9 R9 r1 r2 (by lia) ?_
 intro h9 tk9 ys FF NN kk fr hl np ca
 rw [r3] at ca
 obtain ⟨⟨n9, hn9⟩, hoff⟩ := np
 have ND : News g' L' h9 ((_, listOf ys.toArray n9) :: [(ra, tup [.int b t1, .int m t2, .int d t3])]) := fun p hp => by
  rcases List.mem_cons.mp hp with e | hp
  ·rw [e]; exact ⟨hn9, fun q => by
    obtain ⟨o, _, _, eL, _⟩ := F9.ns
    rw [← q] at eL
    exact absurd (Heap.lt_size eL) (Nat.lt_irrefl _), fr⟩
  ·exact NN p hp
 clear NN F9 N9
 repeat' (first | keq_rows | keq_hits | (k_unfold; (try dsimp only)) | (k_end; wrow_close) | walk1 | (dsimp only; walk1) | (leave1; try dsimp only) | fail "no")
 rename News _ _ _ _ => N8
 refine' hret _ _ _ _ ?ra N8 ?rc ?rd
 case ra => k_asm
 case rc => k_asm
 case rd => exact exi3 _ ys _ ⟨rfl, fresh_of ND (.head _) GS' (fun q => hoff _ (.head _) (List.mem_singleton.mp q).symm), by k_mem, carried_ints ca, by k_mem⟩

end E2p
section E4p
theorem more_c (w : World) {ra : Addr} {b m d : Int} {t1 t2 t3 : Tok} (hm0 : 1 ≤ m) (hm1 : m ≤ 3) (hb0 : -3 ≤ b) (hb1 : b ≤ 3) (hd0 : b - 1 ≤ d) (hd1 : d ≤ b + 2) :
  Ctr w 745 2 64 [.ref ra] [(ra, tup [.int b t1, .int m t2, .int d t3])]
   (fun H r _ out => (∃ t, r = .int ((nums m d 4 b).length : Nat) t) ∧ (ra, tup [.int b t1, .int m t2, .int d t3]) ∈ out) := by
 refine uB ?_
 simp(disch:=k_dflt(
 refine iB ?_
 unfold Ctr
 intro p loose mean mg mb dp un gd cn cs a ccd cl outer A₀ base h₀ L m' s Q E B F X N T hk hdp hun hret
 refine an4 (nums_at hm0 hm1 hb0 hb1 hd0 hd1) ?_
 intro r1 r2 r3 r4
 refine wpAny_call ?_
 k_dflt (refine' code_defS ?k1 ?k2 ?k3 ?k4 ?k5 ?kA ?kF ?kK ?k6 ?k7 ?k8 ?k9 ?kB ?_ ?c2 ?c3 ?c4 ?c5; (case kA => exact rfl); (case kF => exact rfl); (case kK => assumption); (case k1 => k_asm); (case k2 => k_asm); (case k3 => k_asm); (case k4 => k_asm); (case k5 => k_asm); (case k6 => k_is); (case k7 => k_is); (case k8 => ktr_room); (case k9 => first | exact BindsTo.of_eq rfl | exact binds_K (by k_in) rfl (by k_is) rfl rfl rfl); (case c5 => decide); (case kB => exact locs rfl); (case c2 => exact rfl); (case c3 => exact rfl); (case c4 => exact rfl); k_whole; intro g' L' h' FG' F' N' B' X' T' GS'; (try dsimp only); (try k_fold))
 (refine letA ?_; intro aL)
 (refine letFr F' ?_; clear F'; intro mL F')
 (refine letNews N' ?_; clear N'; intro nL N')
 (refine absQ ?_; intro qA uqA)
 repeat' (first | ((fail_if_success (with_reducible show wpAny _ _ (exec (.While _ _ _ _) _) _ _ _)); first | keq_rows | keq_hits | (k_unfold; (try dsimp only)) | walk1 | (dsimp only; walk1) | (leave1; try dsimp only)) | fail "no")
 rename Fr _ _ _ _ => F9
 rename News _ _ _ _ => N9
 k_dflt (refine' ksw_while (σ := Nat × Tok) (fun _ => [(ra, tup [.int b t1, .int m t2, .int d t3])]) (fun c => [(Str.ofString "count", .int (c.1 : Int) c.2)]) (fun _ => True) [] (fun c => c.1 ≤ (nums m d 4 b).length) (fun c => 4 - c.1) ⟨0, ?t0⟩ F9 N9 trivial ?hk (Nat.zero_le _) ?turn)
 case hk =>
  intro p hp
  rw [List.mem_singleton] at hp
  subst hp
  with_unfolding_all exact rfl
 case turn =>
  clear F9 N9
  rintro ⟨c, tc⟩ u h tk _ hc F N
  dsimp only at hc F
  have key := more_at hm0 hm1 hb0 hb1 hd0 hd1 hc
  have hmul : (c : Int) * m = m * c := Int.mul_comm _ _
  by_cases hlt : c < (nums m d 4 b).length
  ·have hle : b + (c : Int) * m ≤ d := key.mpr hlt
   have hb9 : decide (b + (c : Int) * m ≤ d) = true := decide_eq_true hle
   dsimp only [kstB] at F
   (try k_fold)
   repeat' (first | keq_rows | keq_hits | (k_unfold; (try dsimp only)) | (k_end; wrow_close) | walk1 | (dsimp only; walk1) | (leave1; try dsimp only) | fail "no")
   (dsimp +zetaDelta only at *)
   repeat' (first | keq_rows | keq_hits | (k_unfold; (try dsimp only)) | (k_end; wrow_close) | walk1 | (dsimp only; walk1) | (leave1; try dsimp only) | fail "no")
  ·have hle : ¬ b + (c : Int) * m ≤ d := fun h => hlt (key.mp h)
   have hb9 : decide (b + (c : Int) * m ≤ d) = false := decide_eq_false hle
   have he : c = (nums m d 4 b).length := by lia
   dsimp only [kstB] at F
   (try k_fold)
   repeat' (first | keq_rows | keq_hits | (k_unfold; (try dsimp only)) | (k_end; wrow_close) | walk1 | (dsimp only; walk1) | (leave1; try dsimp only) | fail "no")
   refine' hret _ _ _ _ ?ra ?rb ?rc ?rd
   case ra => k_asm
   case rb => k_asm
   case rc => k_asm
   case rd => exact ⟨⟨tc, by rw [he]⟩, by k_mem⟩
 ))only[↓bB]

end E4p
section E5p
theorem pen_c (w : World) {scA : Addr} {vs : List Value} {is : List Int} (hi : IntsAre vs is)
  {p : Program} {loose : List Str} {mean : ExcName → Option Value} {mg mb : Str → Option Value} {dp un : Nat} {gd : Option (List Code)} {cn : Str} {cs : Scope} {a : Addr} {ccd : Value} {cl : List (Str × Addr)} {outer : List Env} {A₀ : Around} {base h₀ : Heap} {L : Addr} {m : Str → Option Value} {s : Shared} {Q E : Value → Shared → Prop}
  (hsc : h₀.IsList scA vs.toArray) (hvl : vs.length ≤ 1048576)
  (B : Below A₀ base outer h₀) (F : Fr h₀ L s.heap m) (X : Frag.In (Mine.hd.heap_1 w.params) h₀) (T : Top p loose mean mg mb h₀) (hk : cs.kind = .function) (hdp : dp + 2 < recursionLimit) (hun : un + 64 < cLine)
  (hret : ∀ penA cA cells ks np nc t1 t2 h' tk', Fr h₀ L h' m → News h₀ L h' [(penA, listOf #[.ref cA, .int 0 t1, .int 0 t2] np), (cA, listOf (cells : List Value).toArray nc)] → Keep s.heap h' [] → IntsAre cells ks → cells.length ≤ 63 → NeA penA cA → Q (.ref penA) { s with heap := h', toks := tk' }) :
  wpAny (model PR w) (ktrTop dp un gd cn cs L a ccd cl outer) (call (.ref 702) [.ref scA]) Q E s := by
 have N : News h₀ L s.heap [] := fun q hq => nomatch hq
 have hz := IntsAre.length hi
 refine wpAny_call ?_
 k_dflt (refine' code_defS ?k1 ?k2 ?k3 ?k4 ?k5 ?kA ?kF ?kK ?k6 ?k7 ?k8 ?k9 ?kB ?_ ?c2 ?c3 ?c4 ?c5; (case kA => exact rfl); (case kF => exact rfl); (case kK => assumption); (case k1 => k_asm); (case k2 => k_asm); (case k3 => k_asm); (case k4 => k_asm); (case k5 => k_asm); (case k6 => k_is); (case k7 => k_is); (case k8 => ktr_room); (case k9 => first | exact BindsTo.of_eq rfl | exact binds_K (by k_in) rfl (by k_is) rfl rfl rfl); (case c5 => decide); (case kB => exact locs rfl); (case c2 => exact rfl); (case c3 => exact rfl); (case c4 => exact rfl); k_whole; intro g' L' h' FG' F' N' B' X' T' GS'; (try dsimp only); (try k_fold))
 (refine letA ?_; intro aL)
 (refine letFr F' ?_; clear F'; intro mL F')
 (refine letNews N' ?_; clear N'; intro nL N')
 have hsc' : g'.IsList scA vs.toArray := by
  obtain ⟨o, e, r⟩ := hsc
  exact ⟨o, FG'.keep _ _ e, r⟩
 repeat' (first | keq_rows | ((k_here; (with_reducible show wpAny _ _ (eval (Expr.Name _ _) (compEnvC _ _ _ _)) _ _ _); k_dflt (first   | (refine' LCgL.ld_own ?N ?hm ?hC ?hx ?_; (case N => k_asm); (case hm => k_mem); (case hC => assumption); (case hx => assumption))   | (refine' nameCC ?N ?hc ?hm ?hd ?_; (case N => k_asm); (case hc => exact rfl); (case hm => k_mem); (case hd => assumption); k_whole)   | (refine' LCgL.ld_global ?F ?X ?T ?e ?_; (case F => k_asm); (case X => k_asm); (case T => k_asm); (case e => k_is))))) | ((with_reducible show wpAny _ _ (eval (Expr.ListComp _ _ _ _) _) _ _ _); (k_here; k_dflt (refine LCg.ListComp_U (F₀ := by k_asm) (by rfl) (by decide) (by rfl) (by decide) (by rfl) ?_))) | (k_unfold; (try dsimp only)) | (k_end; wrow_close) | walk1 | (dsimp only; walk1) | (leave1; try dsimp only) | fail "no")
 rename News _ _ _ _ => N9
 rename IntsAre _ _ => hI9
 rename Keep _ _ _ => K9
 refine hret _ _ _ (is.take 63) _ _ _ _ _ _ ?ra (fun p hp => N9 p (by
  revert p
  exact fc (.head _) (fc (.tail _ (.head _)) (List.forall_mem_nil _)))) K9 (by simpa using hI9) ?rl ?rn
 case ra => k_asm
 case rl => rw [hI9.length, List.length_map, List.length_take]; lia
 case rn => exact ⟨by k_ne⟩

end E5p
section O2p
section
variable {prog : Program} {w : World} {A : Around} {E : Value → Shared → Prop} {s : Shared} {env : Env} {h₀ : Heap} {target : Expr} {body : List Stmt} {Q : Flow → Shared → Prop} {σ : Type}
end
structure OS where
 fa : Addr
 fvs : List Value
 nf : Nat
 oc : Obj
 new : Led
theorem odo_take {wheels : List (List Int)} {i : Nat} {l : List Int} (h : wheels[i]? = some l) : odo (wheels.take (i + 1)) = (odo (wheels.take i)).flatMap fun row => l.map fun n => row ++ [n] := by
 rw [List.take_add_one, h]
 simp [odo, List.foldl_append]
theorem odo_step (f : List (List Int)) (a : List Int) : ((f.flatMap fun row => a.map fun n => row ++ [n]).length = f.length * a.length) ∧ ∀ k, (∀ r ∈ f, r.length = k) → ∀ r ∈ (f.flatMap fun row => a.map fun n => row ++ [n]), r.length = k + 1 := by
 constructor
 ·induction f with
  | nil => simp
  | cons x q ih => rw [List.flatMap_cons, List.length_append, ih, List.length_map, List.length_cons, Nat.succ_mul, Nat.add_comm]
 ·intro k h r hr
  refine ea1_2 (List.mem_flatMap.mp hr) ?_
  intro x hx hr
  refine ea1_2 (List.mem_map.mp hr) ?_
  intro n _ hR9
  subst hR9
  rw [List.length_append, h x hx]; rfl
theorem odo_small (wheels : List (List Int)) (h3 : wheels.length ≤ 3) (h4 : ∀ l ∈ wheels, l.length ≤ 4) : (odo wheels).length ≤ 64 ∧ ∀ r ∈ odo wheels, r.length ≤ 3 := by
 have key : ∀ (ws f : List (List Int)) (k : Nat), (∀ l ∈ ws, l.length ≤ 4) → (∀ r ∈ f, r.length = k) →
   (ws.foldl (fun found numbers => found.flatMap fun row => numbers.map fun n => row ++ [n]) f).length ≤ f.length * 4 ^ ws.length ∧ ∀ r ∈ ws.foldl (fun found numbers => found.flatMap fun row => numbers.map fun n => row ++ [n]) f, r.length = k + ws.length := by
  intro ws
  induction ws with
  | nil => intro f k _ hf; exact ⟨by simp, by simpa using hf⟩
  | cons a q ih =>
   intro f k h4 hf
   obtain ⟨e1, e2⟩ := odo_step f a
   obtain ⟨i1, i2⟩ := ih _ (k + 1) (fun l hl => h4 l (.tail _ hl)) (e2 k hf)
   refine ⟨Nat.le_trans i1 ?_, fun r hr => by rw [i2 r hr, List.length_cons]; lia⟩
   rw [e1, List.length_cons, Nat.pow_succ, Nat.mul_assoc, Nat.mul_comm (4 ^ q.length) 4]
   exact Nat.mul_le_mul_left _ (Nat.mul_le_mul_right _ (h4 a (.head _)))
 obtain ⟨k1, k2⟩ := key wheels [[]] 0 h4 (by simp)
 refine ⟨Nat.le_trans k1 ?_, fun r hr => by rw [k2 r hr]; lia⟩
 simp only [List.length_cons, List.length_nil]
 calc (0 + 1) * 4 ^ wheels.length ≤ (0 + 1) * 4 ^ 3 := Nat.mul_le_mul_left _ (Nat.pow_le_pow_right (by decide) h3)
  _ ≤ 64 := by decide
theorem odometer_c (w : World) {wA : Addr} {wvs : List Value} {nw : Nat} {tl : Led} (wheels : List (List Int)) (hw : LogIn tl wvs wheels) (h3 : wheels.length ≤ 3) (h4 : ∀ l ∈ wheels, l.length ≤ 4) :
  Ctr w 733 4 64 [.ref wA] ((wA, listOf wvs.toArray nw) :: tl)
   (fun _ r _ out => ∃ D ys n new, r = .ref D ∧ (D, listOf (ys : List Value).toArray n) ∈ out ∧ LogIn new ys (odo wheels) ∧ (∀ p ∈ new, p ∈ out) ∧ ∀ p ∈ (wA, listOf wvs.toArray nw) :: tl, p ∈ out) := by
 refine uB ?_
 simp(disch:=k_dflt(
 refine iB ?_
 unfold Ctr
 intro p loose mean mg mb dp un gd cn cs a ccd cl outer A₀ base h₀ L m' s Q E B F X N T hk hdp hun hret
 have hwl := hw.length
 refine wpAny_call ?_
 k_dflt (refine' code_defCG ?k1 ?k2 ?k3 ?k4 ?k5 ?kA ?kF ?kK ?k6 ?k7 ?k8 ?k9 ?kB ?kD ?_ ?c2 ?c3 ?c4; (case kA => exact rfl); (case kF => exact rfl); (case kK => assumption); (case k1 => k_asm); (case k2 => k_asm); (case k3 => k_asm); (case k4 => k_asm); (case k5 => k_asm); (case k6 => k_is); (case k7 => k_is); (case k8 => ktr_room); (case k9 => first | exact BindsTo.of_eq rfl | exact binds_K (by k_in) rfl (by k_is) rfl rfl rfl); (case kB => exact rfl); (case kD => decide +kernel); (case c2 => exact rfl); (case c3 => exact rfl); (case c4 => exact rfl); k_whole; intro g' L' h' tk' cells' FG' F' N' Y' B' X' T' l1 GS'; (try k_lt l1); (obtain ⟨o9, hE9, d9⟩ := CellsAre.one Y'); subst hE9; clear Y'; (try simp only [List.cons_append, List.nil_append] at N'); (try dsimp only); (try k_fold))
 (refine letA ?_; intro aL)
 (refine letFr F' ?_; clear F'; intro mL F')
 (refine letNews N' ?_; clear N'; intro nL N')
 (refine absQ ?_; intro qA uqA)
 have l1B := l1
 repeat' (first | ((fail_if_success (with_reducible show wpAny _ _ (exec (.For _ _ _ _ _) _) _ _ _)); first | keq_rows | keq_hits | (k_unfold; (try dsimp only)) | walk1 | (dsimp only; walk1) | (leave1; try dsimp only)) | fail "no")
 rename News _ _ _ _ => N8
 rename Fr _ _ _ _ => F8
 rename Heap => hh
 have hX8 : ∃ (mF : Str → Option Value) (fA e0 : Addr), Fr g' L' hh mF ∧ (∀ p ∈ ([("wheels", .ref wA), ("found", .ref fA)] : List (Str × Value)), mF p.1 = some p.2) ∧
   News g' L' hh ((L' + 1, o9) :: (fA, listOf [Value.ref e0].toArray 0) :: ([(e0, listOf ([] : List Value).toArray 0)] ++ ((wA, listOf wvs.toArray nw) :: tl))) := by
  refine' exi3 _ _ _ ⟨F8, ?hm, fun p hp => N8 p ?hn⟩
  case hn =>
   simp only [List.cons_append, List.nil_append] at hp
   revert p
   (repeat (refine fc (by k_mem) ?_))
   (repeat (first | exact sid | refine' sK4 rfl ?_ | refine' sK1 rfl ?_))
  case hm =>
   exact fc (by with_unfolding_all exact rfl) (fc (by with_unfolding_all exact rfl) (List.forall_mem_nil _))
 with_reducible refine ex3 hX8 ?_
 clear hX8
 intro mF fA e0 hX9
 with_reducible refine an3 hX9 ?_
 clear hX9
 intro F9 hmF N9
 clear N8 F8
 replace F9 := ksw_fr (m₀ := mF) (stored := []) hmF (fun _ _ _ => rfl) F9
 dsimp only [kstB] at F9
 k_here
 refine For_turns F9 ?_
 repeat' (first | ((fail_if_success (with_reducible show wpAny _ _ (pyIter _) _ _ _)); first | keq_rows | keq_hits | (k_unfold; (try dsimp only)) | walk1 | (dsimp only; walk1) | (leave1; try dsimp only)) | fail "no")
 k_here
 refine iter_listTurns (lo := listOf wvs.toArray nw) (vs := wvs) rfl F9 N9 (by simp) rfl rfl ?_
 intro I l1
 refine' items_forK (m₀ := mF) (σ := OS) [(wA, listOf wvs.toArray nw)] (fun c => (L' + 1, c.oc) :: (c.fa, listOf c.fvs.toArray c.nf) :: (c.new ++ ((wA, listOf wvs.toArray nw) :: tl))) (fun c => [("wheels", .ref wA), ("found", .ref c.fa)]) []
  (hkp := fun c p hp => .tail _ (.tail _ (List.mem_append.mpr (.inr (List.mem_singleton.mp hp ▸ .head _))))) (fun i c => LogIn c.new c.fvs (odo (wheels.take i)) ∧ (∃ v, c.oc.data = .cell v) ∧ NeAll (L' + 1) c.new) _ ⟨fA, [.ref e0], 0, o9, [(e0, listOf ([] : List Value).toArray 0)]⟩ ?hk ?hr ?hp ?turn ?fin
 case hk =>
  exact fc (by with_unfolding_all exact rfl) (fc (by with_unfolding_all exact rfl) (List.forall_mem_nil _))
 case hr =>
  intro z h2 _
  simp only [List.mem_cons, List.not_mem_nil, or_false, forall_eq_or_imp, forall_eq] at h2
  simp only [h2.1, h2.2, if_false]
  rfl
 case hp => exact ⟨.cons (.head _) .nil .nil, ⟨_, d9⟩, ⟨fc (fun e => data_off (p := (e0, listOf ([] : List Value).toArray 0)) (q := (L' + 1, o9)) N9 (.tail _ (.tail _ (.head _))) (.head _) (by rw [d9]; simp) e) (List.forall_mem_nil _)⟩⟩
 case turn =>
  intro i x c u v h tk9 o hx hv ⟨hL, hcv, ncv⟩ ho F N
  rw [List.getElem?_map] at hx
  refine ea1_2 (Option.map_eq_some_iff.mp hx) ?_
  intro v' hv' hR9
  subst hR9
  obtain rfl : v = v' := hv
  have hi : i < wheels.length := by rw [← hwl]; exact (List.getElem?_eq_some_iff.mp hv').1
  refine ex3 (hw.get (List.getElem?_eq_getElem hi)) ?_
  intro na nvs nn hX9
  with_reducible refine an3 hX9 ?_
  clear hX9
  intro e1 mn hni
  rw [hv'] at e1
  cases e1
  generalize hnum : wheels[i] = numbers at hni
  have hnum' : wheels[i]? = some numbers := by rw [List.getElem?_eq_getElem hi, hnum]
  obtain ⟨cv, hcv⟩ := hcv
  have hN9 : numbers.length ≤ 4 := h4 _ (List.mem_of_getElem? hnum')
  obtain ⟨os1, os2⟩ := odo_small (wheels.take i) (by rw [List.length_take]; lia) (fun l hl => h4 l (List.mem_of_mem_take hl))
  generalize hT : (c.new ++ ((wA, listOf wvs.toArray nw) :: tl)) = TT at N
  have mT : (na, listOf nvs.toArray nn) ∈ TT := by rw [← hT]; exact List.mem_append.mpr (.inr (.tail _ mn))
  have nT : NeAll (L' + 1) TT := ⟨by
   rw [← hT]
   intro p hp
   rcases List.mem_append.mp hp with hp | hp
   ·exact ncv.all p hp
   ·rcases List.mem_cons.mp hp with hp | hp
    ·rw [hp]; exact Nat.ne_of_lt (Nat.lt_succ_of_lt (l1B _ (.head _)))
    ·exact Nat.ne_of_lt (Nat.lt_succ_of_lt (l1B p (.tail _ hp)))⟩
  have nI : NeA (L' + 1) I := ⟨Nat.ne_of_lt (l1 (L' + 1, o9) (.head _))⟩
  have nF : NeA c.fa (L' + 1) := ⟨data_off (p := (c.fa, listOf c.fvs.toArray c.nf)) (q := (L' + 1, c.oc)) N (by k_mem) (by k_mem) (by rw [hcv]; simp)⟩
  dsimp only [kstB] at F
  (try k_fold)
  repeat' (first | ((fail_if_success (with_reducible show wpAny _ _ (storeName _ _ _) _ _ _)); first | keq_rows | keq_hits | (k_unfold; (try dsimp only)) | walk1 | (dsimp only; walk1) | (leave1; try dsimp only)) | fail "no")
  k_here
  refine' storeX_C (c := L' + 1) (o := c.oc) F N rfl (.tail nI.ne' (.head (fc nF.ne nT.all))) hcv ?_
  intro h8 oc' F8 N8 d8
  (try dsimp only at N8)
  clear F N
  repeat' (first | ((fail_if_success (with_reducible show wpAny _ _ (exec (.Assign _ _ _) _) _ _ _)); first | keq_rows | keq_hits | (k_unfold; (try dsimp only)) | walk1 | (dsimp only; walk1) | (leave1; try dsimp only)) | fail "no")
  k_here
  k_dflt (refine' comp2_out (h₀ := g') (L := L') (c := L' + 1) (oc := oc') (fa := c.fa) (na := na) (m := (fun z => if z = "wheels" then some (Value.ref wA) else if z = "found" then some (Value.ref c.fa) else if ([] : List Str).contains z = true then u z else mF z)) (fvs := c.fvs) (nvs := nvs) (nf := c.nf) (nn := nn) (rows := odo (wheels.take i)) (ns := numbers) (T := (I, o) :: (L' + 1, oc') :: (c.fa, listOf c.fvs.toArray c.nf) :: TT) (cl := [(Str.ofString "numbers", L' + 1)]) rfl rfl ?hsw ?hclos (by decide) rfl (by decide) rfl rfl ?hz rfl rfl rfl (by decide) (by decide) (by decide) (by decide) rfl (fun r hr => Nat.le_trans (os2 r hr) (by decide)) ?z2 (Nat.le_trans hN9 (by decide)) ?h)
  case hsw => rfl
  case hclos => rfl
  case hz => intro C; rfl
  case z2 =>
   calc (odo (wheels.take i)).length * numbers.length ≤ 64 * 4 := Nat.mul_le_mul os1 hN9
    _ ≤ 50000 := by decide
  case h =>
   repeat' (first | ((fail_if_success (with_reducible show _ ∧ _)); first | keq_rows | keq_hits | (k_unfold; (try dsimp only)) | walk1 | (dsimp only; walk1) | (leave1; try dsimp only)) | fail "no")
   refine ⟨rfl, F8, N8, by simp, ?_, by simp [mT], hni, by simp, d8, ?_⟩
   ·exact hL.mono fun p hp => .tail _ (.tail _ (.tail _ (hT ▸ List.mem_append.mpr (.inl hp))))
   ·intro D h9 tk8 ys new F9 N9 L9 oD oN
    (try dsimp only)
    repeat' (first | ((fail_if_success (with_reducible show KfPost _ _ _ _ _ _ _ _ _ _ _ _ _)); first | keq_rows | keq_hits | (k_unfold; (try dsimp only)) | walk1 | (dsimp only; walk1) | (leave1; try dsimp only)) | fail "no")
    have mTT : ∀ p ∈ (wA, listOf wvs.toArray nw) :: tl, p ∈ new ++ (I, o) :: (L' + 1, oc') :: (c.fa, listOf c.fvs.toArray c.nf) :: TT := fun p hp => List.mem_append.mpr (.inr (.tail _ (.tail _ (.tail _ (hT ▸ List.mem_append.mpr (.inr hp))))))
    refine kf_end ⟨D, ys, ys.length, oc', new⟩ F9 N9 (.tail _ (List.mem_append.mpr (.inr (.head _)))) ho ?_ ?_ ?_ ?_ ⟨?_, ⟨_, d8⟩, ⟨fun p hp => oN p hp (L' + 1, oc') (.tail _ (.head _))⟩⟩
    ·intro p hp
     rcases List.mem_cons.mp hp with hp | hp
     ·rw [hp]; exact .tail _ (List.mem_append.mpr (.inr (.tail _ (.head _))))
     rcases List.mem_cons.mp hp with hp | hp
     ·rw [hp]; exact .head _
     rcases List.mem_append.mp hp with hp | hp
     ·exact .tail _ (List.mem_append.mpr (.inl hp))
     ·exact .tail _ (mTT p hp)
    ·intro p hp
     rcases List.mem_cons.mp hp with hp | hp
     ·rw [hp]; exact .inr nI.ne
     rcases List.mem_cons.mp hp with hp | hp
     ·rw [hp]; exact .inl (by simp)
     rcases List.mem_append.mp hp with hp | hp
     ·exact .inr (oN p hp (I, o) (.head _))
     rcases List.mem_cons.mp hp with hp | hp
     ·rw [hp]; exact .inl (by simp)
     ·exact .inr (Nat.ne_of_lt (l1 p (.tail _ (.tail _ (List.mem_append.mpr (.inr (.tail _ hp)))))))
    ·exact fc (by with_unfolding_all exact rfl) (fc (by with_unfolding_all exact rfl) (List.forall_mem_nil _))
    ·intro z h2 _
     simp only [List.mem_cons, List.not_mem_nil, or_false, forall_eq_or_imp, forall_eq] at h2
     simp only [h2.1, h2.2, if_false]
     rfl
    ·rw [odo_take hnum']; exact L9
 case fin =>
  intro c u h tk9 ⟨hL, hcv, ncv⟩ F N
  rw [List.length_map, hwl, List.take_length] at hL
  generalize hT : (c.new ++ ((wA, listOf wvs.toArray nw) :: tl)) = TT at N
  dsimp only [kstB] at F
  (try k_fold)
  repeat' (first | keq_rows | keq_hits | (k_unfold; (try dsimp only)) | (k_end; wrow_close) | walk1 | (dsimp only; walk1) | (leave1; try dsimp only) | fail "no")
  rename News _ _ _ _ => NY
  refine' hret _ _ _ _ ?ra NY ?rc ?rd
  case ra => k_asm
  case rc => k_asm
  case rd => exact exi4 _ _ _ c.new ⟨rfl, by k_mem, hL, fun p hp => .tail _ (.tail _ (hT ▸ List.mem_append.mpr (.inl hp))), fun p hp => .tail _ (.tail _ (hT ▸ List.mem_append.mpr (.inr hp)))⟩
 ))only[↓bB]

end O2p
section O3p
open PyProof.Rows.LCg
section
variable {prog : Program} {w : World} {A : Around} {E : Value → Shared → Prop} {s : Shared} {h₀ : Heap} {L : Addr} {m : Str → Option Value} {env : Env}
structure OffK (I C K D : Addr) (l : Led) : Prop where
 off : ∀ p ∈ l, p.1 ≠ I ∧ p.1 ≠ C ∧ p.1 ≠ K ∧ p.1 ≠ D
structure NeK (I C K D : Addr) : Prop where
 ic : NeA I C
 ik : NeA I K
 id : NeA I D
 ck : NeA C K
 cd : NeA C D
 kd : NeA K D
noncomputable def EndK (h₀ : Heap) (L : Addr) (m : Str → Option Value) (s₁ : Shared) (I : Addr) (oI : Obj) (C : Addr) (oC : Obj) (K : Addr) (oK : Obj) (D : Addr) (oD : Obj) (rest : Value → Led → Prop) (y : Value) (s₂ : Shared) : Prop :=
 ∃ h' tk news', s₂ = { s₁ with heap := h', toks := tk } ∧ Fr h₀ L h' m ∧ News h₀ L h' ((I, oI) :: (C, oC) :: (K, oK) :: (D, oD) :: news') ∧ OffK I C K D news' ∧ rest y news'
theorem endK {L I C K D : Addr} {s₁ : Shared} {oI oC oK oD : Obj} {rest : Value → Led → Prop} {y : Value} {h' : Heap} {tk : Nat} {news' all : Led} (F : Fr h₀ L h' m) (N : News h₀ L h' all) (hs : ∀ p ∈ (I, oI) :: (C, oC) :: (K, oK) :: (D, oD) :: news', p ∈ all) (off : OffK I C K D news') (r : rest y news') :
  EndK h₀ L m s₁ I oI C oC K oK D oD rest y { s₁ with heap := h', toks := tk } := ⟨h', tk, news', rfl, F, fun p hp => N p (hs p hp), off, r⟩
theorem Assign_ListComp_K {elt iter : Expr} {x y : Str} {px py : Pos} {scope : Scope} {cl : List (Str × Addr)} {pos spos : Pos} {n : Nat} {Q : Flow → Shared → Prop} {J : Nat → List Value → Led → Prop} (hLe : env.locals = L)
  (hsw : swapsWith (.ListComp elt [⟨.Name x px, iter, [], 0⟩] scope pos) (some (.Name y py)) spos.line env = pure true)
  (hclos : closureFor scope env = pure cl) (hcells : ∀ k, cellsFrom k scope.names cl = (x, k) :: cl) (hpush : ∀ h : Heap, pushCells h scope.names = h.push { cls := .type "cell", data := .cell none }) (hkind : scope.kind = .function)
  (hnames : ∀ z ∈ scope.names, z.2 = .local → scope.names.lookup z.1 = some .local) (hx : ∀ cl' C, (compEnvC scope cl' C env).kindOf x = some .cell)
  (hy : env.kindOf y = some .local) (hp : (env.scope.kind == .class || (env.scope.kind == .module && env.locals != env.globals)) = false) (hh : A.handled = none) (hsz : n ≤ 1000)
  (step : ∀ (s₁ : Shared) i ys news, i < n → J i ys news → ys.length = i → ∀ t I oI C oC K oK D h tk (E' : Value → Shared → Prop), oK.data = .cell (some (.int (i : Int) t)) → Fr h₀ L h m → News h₀ L h ((I, oI) :: (C, oC) :: (K, oK) :: (D, lst ys) :: news) → OffK I C K D news → NeK I C K D →
   wpAny (model prog w) A (eval elt (compEnvC scope ((x, K) :: cl) C env)) (EndK h₀ L m { s₁ with heap := h, toks := tk } I oI C oC K oK D (lst ys) (fun y news' => J (i + 1) (ys ++ [y]) news')) E' { s₁ with heap := h, toks := tk })
  (h : wpAny (model prog w) A (eval iter env) (fun xv s₁ => ∃ r t u v news, xv = .ref r ∧ Fr h₀ L s₁.heap m ∧ News h₀ L s₁.heap news ∧ IsRange s₁.heap r 0 (n : Int) 1 t u v ∧ J 0 [] news ∧
   ∀ D h tk ys news', Fr h₀ L h (fun z => if z = y then some (.ref D) else m z) → News h₀ L h ((D, lst ys) :: news') → NeAll D news' → J n ys news' → Q .next { s₁ with heap := h, toks := tk }) E s)
  (hs : ∀ x, foldedSetIterable iter env x = pure x := by intro _; rfl) :
  wpAny (model prog w) A (exec (.Assign [.Name y py] (.ListComp elt [⟨.Name x px, iter, [], 0⟩] scope pos) spos) env) Q E s := by
 subst hLe
 rw [exec_Assign_Name_used _ _ _ _ hsw]
 refine wpAny_bind (wpAny_standAt (wpAny_bind ?_))
 show wpAny _ A (do let _ ← comprehension (.ListComp elt [⟨.Name x px, iter, [], 0⟩] scope pos) scope env _ (newList []) false (eval iter env) (some (assign (.Name y py) env))) _ _ s
 refine wpAny_bind (wpAny_mono (wpAny_comprehension_free (use := some (assign (.Name y py) env)) (Q := fun _ s' => Q .next s') rfl hs hclos hkind hnames
  (wpAny_mono h (fun xv s₁ h₁ => ?_) fun _ _ e => e)) (fun _ s' hq => wpAny_pure (wpAny_pure hq)) fun _ _ e => e)
 with_reducible refine ex5 h₁ ?_
 clear h₁
 intro r t u v news hX9
 with_reducible refine an6 hX9 ?_
 clear hX9
 intro hR9
 subst hR9
 intro F N hr hJ fin
 have hn : Builtin.Range.rangeSize 0 (n : Int) 1 = ((n : Nat) : Int) := by
  have := rangeSize_nat 0 (n : Int)
  rw [this]; simp
 have hsm : Builtin.Range.small 0 (n : Int) 1 = true := small_one (by lia) (by lia) (by lia) (by lia)
 refine wpAny_pyIter_range hr hsm ?_
 have up₀ : ∀ b o, s₁.heap.get? b = some o → (s₁.heap.push { cls := .type "range_iterator", data := .fields #[rawInt 0, rawInt (Builtin.Range.rangeSize 0 (n : Int) 1), rawInt 1] }).get? b = some o := fun b o e => Heap.get?_push_of_some _ e
 have F₁ := F.keeps up₀
 have N₁ := N.grown up₀
 have it₁ : IsRangeIter (s₁.heap.push { cls := .type "range_iterator", data := .fields #[rawInt 0, rawInt (Builtin.Range.rangeSize 0 (n : Int) 1), rawInt 1] }) s₁.heap.objs.size (0 + ((0 : Nat) : Int) * 1) ((n : Int) - ((0 : Nat) : Int)) 1 := by
  have e := Heap.get?_push_size s₁.heap (o := { cls := .type "range_iterator", data := .fields #[rawInt 0, rawInt (Builtin.Range.rangeSize 0 (n : Int) 1), rawInt 1] }) rfl
  rw [hn] at e ⊢
  simpa using e
 have hIL : s₁.heap.objs.size ≠ env.locals := Nat.ne_of_gt F.ns.lt
 have hI₀ := next_is_new F
 have oI : ∀ p ∈ news, p.1 ≠ s₁.heap.objs.size := fun p hp => Nat.ne_of_lt (Heap.lt_size (N p hp).1)
 generalize hH1 : s₁.heap.push { cls := .type "range_iterator", data := .fields #[rawInt 0, rawInt (Builtin.Range.rangeSize 0 (n : Int) 1), rawInt 1] } = H1 at F₁ N₁ it₁ ⊢
 generalize s₁.heap.objs.size = I at it₁ hIL hI₀ oI ⊢
 refine wpAny_newObj_type ?_
 simp only [newFunctionEnv, Option.isSome_some, if_true]
 refine wpAny_bind (wpAny_alloc (wpAny_bind (wpAny_layCells _ (fun name kind cells => by cases hkc : kind == NameKind.cell <;> simp) _ _ _ _ ?_)))
 rw [hcells, hpush]
 simp only [List.forIn_nil]
 refine wpAny_bind (wpAny_pure (wpAny_pure ?_))
 dsimp only
 generalize hH2 : H1.push { cls := .type "list", dict := none, data := .seq ([] : List Value).toArray } = H2 at ⊢
 have s2 : H2.objs.size = H1.objs.size + 1 := by rw [← hH2, Heap.size_push]
 generalize hH3 : H2.push { cls := .type "dict", data := .dict #[] } = H3 at ⊢
 have s3 : H3.objs.size = H1.objs.size + 2 := by rw [← hH3, Heap.size_push, s2]
 generalize hH4 : H3.push { cls := .type "cell", data := .cell none } = H4 at ⊢
 have up4 : ∀ b o, H1.get? b = some o → H4.get? b = some o := fun b o e => hH4 ▸ Heap.get?_push_of_some _ (hH3 ▸ Heap.get?_push_of_some _ (hH2 ▸ Heap.get?_push_of_some _ e))
 have gD : H4.get? H1.objs.size = some (lst []) := hH4 ▸ Heap.get?_push_of_some _ (hH3 ▸ Heap.get?_push_of_some _ (hH2 ▸ Heap.get?_push_size _ rfl))
 have nsC : H4.Ns H2.objs.size (fun _ => none) := hH4 ▸ (hH3 ▸ Heap.Ns.new H2 (.type "dict")).push _
 have gK : H4.get? H3.objs.size = some { cls := .type "cell", data := .cell none } := hH4 ▸ Heap.get?_push_size _ rfl
 have hLlt : env.locals < H1.objs.size := F₁.ns.lt
 have hIlt : I < H1.objs.size := Heap.lt_size it₁
 have fresh₀ : ∀ a, H1.objs.size ≤ a → h₀.get? a = none := fun a ha => by
  cases e : h₀.get? a with
  | none => rfl
  | some o' => exact absurd (Heap.lt_size (F₁.keep a o' e)) (Nat.not_lt.mpr ha)
 have hD₀ := fresh₀ H1.objs.size (Nat.le_refl _)
 have hC₀ := fresh₀ H2.objs.size (by lia)
 have hK₀ := fresh₀ H3.objs.size (by lia)
 have hDL : H1.objs.size ≠ env.locals := Nat.ne_of_gt hLlt
 have hCL : H2.objs.size ≠ env.locals := Nat.ne_of_gt (by rw [s2]; exact Nat.lt_succ_of_lt hLlt)
 have hKL : H3.objs.size ≠ env.locals := Nat.ne_of_gt (by rw [s3]; exact Nat.lt_succ_of_lt (Nat.lt_succ_of_lt hLlt))
 have ne : NeK I H2.objs.size H3.objs.size H1.objs.size := by
  have a1 : I < H1.objs.size := hIlt
  refine ⟨⟨?_⟩, ⟨?_⟩, ⟨?_⟩, ⟨?_⟩, ⟨?_⟩, ⟨?_⟩⟩ <;> (refine neN ?_; lia)
 have off₀ : OffK I H2.objs.size H3.objs.size H1.objs.size news := ⟨fun p hp => by
  have a1 : @LT.lt Nat _ p.1 H1.objs.size := Heap.lt_size (N₁ p hp).1
  exact ⟨oI p hp, Nat.ne_of_lt (by rw [s2]; exact Nat.lt_succ_of_lt a1), Nat.ne_of_lt (by rw [s3]; exact Nat.lt_succ_of_lt (Nat.lt_succ_of_lt a1)), Nat.ne_of_lt a1⟩⟩
 have F4 := F₁.keeps up4
 have N4 : News h₀ env.locals H4 ((H1.objs.size, lst []) :: news) := fun p hp => by
  rcases List.mem_cons.mp hp with hp | hp
  ·rw [hp]; exact ⟨gD, hDL, hD₀⟩
  ·exact ⟨up4 _ _ (N₁ p hp).1, (N₁ p hp).2⟩
 have it4 : IsRangeIter H4 I (0 + ((0 : Nat) : Int) * 1) ((n : Int) - ((0 : Nat) : Int)) 1 := up4 _ _ it₁
 generalize H3.objs.size = K at gK hK₀ hKL ne off₀ ⊢
 generalize H2.objs.size = C at nsC hC₀ hCL ne off₀ ⊢
 generalize H1.objs.size = D at gD hD₀ hDL ne off₀ N4 ⊢
 clear hH2 hH3 hH4 hH1 s2 s3 up4 fresh₀ hLlt hIlt F₁ N₁ it₁ up₀
 have loop : ∀ s₃ : Shared, (∃ tk, s₃ = { s₁ with heap := H4, toks := tk }) →
   codeAny (model prog w) A (.compLoop (.ListComp elt [⟨.Name x px, iter, [], 0⟩] scope pos) 0 (.ref I) (.ref D) (compEnvC scope ((x, K) :: cl) C env)) (compPost (model prog w) A E (some (assign (.Name y py) env)) (fun _ s' => Q .next s') (.ref D) C) s₃ := by
  rintro s₃ ⟨tk₃, rfl⟩
  refine codeAny_compLoop_list (fun k s' => ∃ h tk i ys m' news' v0, s' = { s₁ with heap := h, toks := tk } ∧ i ≤ n ∧ k = n + 1 - i ∧ ys.length = i ∧ IsRangeIter h I (0 + (i : Int) * 1) ((n : Int) - (i : Int)) 1 ∧ Fr h₀ env.locals h m ∧ h.Ns C m' ∧ h.IsCell K v0 ∧ News h₀ env.locals h ((D, lst ys) :: news') ∧
    OffK I C K D news' ∧ J i ys news') ?_ (n + 1)
   ⟨H4, tk₃, 0, [], _, news, none, rfl, Nat.zero_le _, rfl, rfl, it4, F4, nsC, ⟨_, gK, rfl⟩, N4, off₀, hJ⟩
  intro k s' hK9
  with_reducible refine ex7 hK9 ?_
  clear hK9
  intro h tk i ys m' news' v0 hX9
  with_reducible refine an11 hX9 ?_
  clear hX9
  intro hR9
  subst hR9
  intro hi hR9
  subst hR9
  intro hyl it' F' C' K' N' off' J'
  have off3 := off'.off
  have offI : ∀ p ∈ (D, lst ys) :: news', p.1 ≠ I := fun p hp => by
   rcases List.mem_cons.mp hp with hp | hp
   ·rw [hp]; exact ne.id.ne'
   ·exact (off3 p hp).1
  by_cases hlt : i < n
  ·refine (range_walks hh 0 n).item i _ _ _ hlt it' fun v h₂ tk₂ hPv it₂ hk₂ => ?_
   obtain ⟨t₂, hv⟩ := hPv
   rw [Int.zero_add] at hv
   subst hv
   have F₂ : Fr h₀ env.locals h₂ m := fr_but F' hk₂ (Ne.symm hIL) hI₀
   have N₂ : News h₀ env.locals h₂ ((D, lst ys) :: news') := news_but N' hk₂ offI
   have C₂ : h₂.Ns C m' := C'.at' fun o e => hk₂ _ o (by simpa using ne.ic.ne') e
   have K₂ : h₂.IsCell K v0 := by obtain ⟨o, e, r⟩ := K'; exact ⟨o, hk₂ _ _ (by simpa using ne.ik.ne') e, r⟩
   refine wpAny_assign_Name (wpAny_storeName_cell (by simp [compEnvC, relabel, hkind]) (hx _ _) (c := K) (by simp [compEnvC]) K₂ fun h₃ K₃ hs₃ => ?_)
   have F₃ : Fr h₀ env.locals h₃ m := F₂.change hs₃ hKL hK₀
   have N₃ : News h₀ env.locals h₃ ((D, lst ys) :: news') := fun p hp => ⟨hs₃.extBut _ _ (by
    rcases List.mem_cons.mp hp with hp | hp
    ·rw [hp]; exact ne.kd.ne'
    ·exact (off3 p hp).2.2.1) (N₂ p hp).1, (N₂ p hp).2⟩
   have C₃ : h₃.Ns C m' := C₂.sameBut hs₃ ne.ck.ne
   have it₃ : IsRangeIter h₃ I (0 + ((i + 1 : Nat) : Int) * 1) ((n : Int) - ((i + 1 : Nat) : Int)) 1 := hs₃.extBut _ _ ne.ik.ne it₂
   obtain ⟨oI', eI'⟩ : ∃ o, h₃.get? I = some o := ⟨_, it₃⟩
   obtain ⟨oK, eK, dK⟩ := K₃
   refine ea1_2 (ns_obj C₃) ?_
   intro oC eC hoC
   refine wpAny_mono (step s₁ i ys news' hlt J' hyl t₂ I oI' C oC K oK D h₃ _ _ dK F₃ (fun p hp => ?_) off' ne) (fun y₄ s₄ h₄ => ?_) fun _ _ e => e
   ·rcases List.mem_cons.mp hp with hp | hp
    ·rw [hp]; exact ⟨eI', hIL, hI₀⟩
    rcases List.mem_cons.mp hp with hp | hp
    ·rw [hp]; exact ⟨eC, hCL, hC₀⟩
    rcases List.mem_cons.mp hp with hp | hp
    ·rw [hp]; exact ⟨eK, hKL, hK₀⟩
    ·exact N₃ p hp
   ·obtain ⟨h₄, tk₄, news₄, rfl, F₄, N₄, off₄, J₄⟩ := h₄
    have zD := (N₄ (D, lst ys) (.tail _ (.tail _ (.tail _ (.head _))))).1
    refine append_at (hsz := by rw [List.size_toArray, hyl, sizeLine_eq]; lia) zD fun h₅ hs₅ hD₅ => ?_
    refine ⟨n + 1 - (i + 1), by lia, h₅, tk₄, i + 1, ys ++ [y₄], _, news₄, _, rfl, hlt, rfl, by rw [List.length_append, List.length_singleton, hyl], hs₅.extBut _ _ ne.id.ne ((N₄ (I, oI') (.head _)).1.trans (eI'.symm.trans it₃)), F₄.change hs₅ hDL hD₀,
     (hoC.ns (N₄ (C, oC) (.tail _ (.head _))).1).sameBut hs₅ ne.cd.ne, ⟨oK, hs₅.extBut _ _ ne.kd.ne (N₄ (K, oK) (.tail _ (.tail _ (.head _)))).1, dK⟩, fun p hp => ?_, off₄, J₄⟩
    rcases List.mem_cons.mp hp with hp | hp
    ·rw [hp]; exact ⟨hD₅.trans (congrArg some (lst_snoc ys y₄)), hDL, hD₀⟩
    ·have z := N₄ p (.tail _ (.tail _ (.tail _ (.tail _ hp))))
     exact ⟨hs₅.extBut _ _ (off₄.off p hp).2.2.2 z.1, z.2⟩
  ·obtain rfl : i = n := Nat.le_antisymm hi (Nat.not_lt.mp hlt)
   refine (range_walks hh 0 i).done _ _ _ it' fun h₂ tk₂ hk₂ => ?_
   have F₂ : Fr h₀ env.locals h₂ m := fr_but F' hk₂ (Ne.symm hIL) hI₀
   have N₂ : News h₀ env.locals h₂ ((D, lst ys) :: news') := news_but N' hk₂ offI
   have C₂ : h₂.Ns C m' := C'.at' fun o e => hk₂ _ o (by simpa using ne.ic.ne') e
   show wpAny _ A (assign (.Name y py) env (.ref D)) _ _ _
   refine wpAny_assign_Name (wpAny_storeName_local hy F₂.ns (fun h₃ hn₃ hs₃ => ?_) hp)
   have hL₀ : h₀.get? env.locals = none := Heap.get?_none_of_le F₂.above
   have F₃ : Fr h₀ env.locals h₃ (fun z => if z = y then some (.ref D) else m z) := ⟨hn₃, fun b o e => hs₃.extBut b o (fun q => by rw [q, hL₀] at e; cases e) (F₂.keep b o e), F₂.above⟩
   refine ⟨m', C₂.sameBut hs₃ hCL, fun h'' hs'' => fin D h'' _ ys news' (F₃.change hs'' hCL hC₀) (fun p hp => ?_) ⟨fun p hp => (off3 p hp).2.2.2⟩ J'⟩
   have e₃ : h₃.get? p.1 = some p.2 := hs₃.extBut _ _ (N₂ p hp).2.1 (N₂ p hp).1
   refine ⟨hs''.extBut _ _ ?_ e₃, (N₂ p hp).2⟩
   rcases List.mem_cons.mp hp with hp | hp
   ·rw [hp]; exact ne.cd.ne'
   ·exact (off3 p hp).2.1
 exact codeAny_compStart_list (loop _ ⟨_, rfl⟩) ((range_walks hh 0 n).self 0 _ _ _ it4 (loop _ ⟨_, rfl⟩))
end

end O3p
section W0p
section
variable {w : World} {p : Program} {loose : List Str} {mean : ExcName → Option Value} {mg mb : Str → Option Value} {fa : Addr} {cd : Value} {g : Heap} {L : Addr} {m : Str → Option Value} {s : Shared} {E : Value → Shared → Prop} {T₀ : Led}
theorem law_s0 (G : LG w p loose mean mg mb g) {scA : Addr} {vs : List Value} {is : List Int} (hsc : g.IsList scA vs.toArray) (hi : IntsAre vs is) (hl : vs.length ≤ 1048576)
  (hE : PassesOwn (model PR w) (aL (Mine.hd.heap_1 w.params) L fa cd) (eL (Mine.hd.heap_1 w.params) L fa cd) E) (F : Fr g L s.heap m) (hk : m ("script" : Str) = some (.ref scA)) (N : News g L s.heap T₀) :
  wpAny (model PR w) (aL (Mine.hd.heap_1 w.params) L fa cd) (exec (stmtAt (Mine.hd.heap_1 w.params) 750 0) (eL (Mine.hd.heap_1 w.params) L fa cd))
   (Nx fun s' => ∃ h' tk m' penA cA cells ks np nc t1 t2, s' = { s with heap := h', toks := tk } ∧ Fr g L h' m' ∧ m' ("pen" : Str) = some (.ref penA) ∧ (∀ z, z ≠ ("pen" : Str) → m' z = m z) ∧
    News g L h' ((penA, listOf #[.ref cA, .int 0 t1, .int 0 t2] np) :: (cA, listOf (cells : List Value).toArray nc) :: T₀) ∧ IntsAre cells ks ∧ cells.length ≤ 63 ∧ NeA penA cA) E s := by
 obtain ⟨B, X, T, C1, C2⟩ := G
 have F := ksw_fr (ps := [(("script" : Str), .ref scA)]) (m₀ := m) (stored := []) (by simpa using hk) (fun _ _ _ => rfl) F
 dsimp only [kstB] at F
 with_reducible refine' stmt_lit ?ho hE ?_
 case ho => k_is
 clear hE
 intro hE
 simp only [List.getD_eq_getElem?_getD, List.getElem?_cons_succ, List.getElem?_cons_zero, Option.getD_some]
 repeat' (first | ((fail_if_success (with_reducible show wpAny _ _ (call (.ref _) _) _ _ _)); first | keq_rows | (k_unfold; (try dsimp only)) | walk1 | (dsimp only; walk1) | (leave1; try dsimp only)) | fail "no")
 k_here
 k_dflt (refine' pen_c w hi ?hsc ?hvl ?B ?F ?X ?T rfl ?hdp ?hun ?_)
 case B => k_asm
 case F => k_asm
 case X => k_asm
 case T => k_asm
 case hsc => exact hsc
 case hvl => exact hl
 case hdp => ktr_room
 case hun => ktr_units
 intro penA cA cells ks np nc t1 t2 h9 tk9 F9 N9 K9 hi9 hl9 ne9
 have N8 : News g L h9 ((penA, listOf #[.ref cA, .int 0 t1, .int 0 t2] np) :: (cA, listOf (cells : List Value).toArray nc) :: T₀) := fun q hq => by
  rcases List.mem_cons.mp hq with hq | hq
  ·rw [hq]; exact N9 _ (.head _)
  rcases List.mem_cons.mp hq with hq | hq
  ·rw [hq]; exact N9 _ (.tail _ (.head _))
  ·exact ⟨K9 _ _ (N q hq).1 (fun h => nomatch h), (N q hq).2⟩
 clear N9 K9 F
 (try dsimp only)
 repeat' (first | ((fail_if_success (with_reducible show Nx _ _ _)); first | keq_rows | (k_unfold; (try dsimp only)) | walk1 | (dsimp only; walk1) | (leave1; try dsimp only)) | fail "no")
 rename News _ _ _ _ => N7
 rename Fr _ _ _ _ => F7
 refine ⟨rfl, exi11 _ _ _ penA cA cells ks np nc t1 t2 ⟨rfl, F7, by simp +zetaDelta, ?_, N7, hi9, hl9, ne9⟩⟩
 intro z hz
 (try dsimp +zetaDelta only)
 simp only [hz, if_false]
 split
 ·rename_i e; rw [e, hk]
 ·rfl
end

end W0p
section W1p
section
variable {w : World} {p : Program} {loose : List Str} {mean : ExcName → Option Value} {mg mb : Str → Option Value} {dp un : Nat} {gd : Option (List Code)} {cn : Str} {cs : Scope} {a : Addr} {ccd : Value} {cl : List (Str × Addr)} {outer : List Env} {A₀ : Around} {base h₀ : Heap} {L : Addr} {m : Str → Option Value} {s : Shared}
 {Q E : Value → Shared → Prop} {news : Led} {G : Obj → Led}
theorem draw_use {many : Int} (hm0 : 3 ≤ many) (hm1 : many ≤ 7) {penA cA : Addr} {cells : List Value} {is : List Int} {k gr : Int} {t1 t2 tm : Tok} {np nc : Nat} (hi : IntsAre cells is) (hl : cells.length ≤ 63) (hk0 : 0 ≤ k) (hk1 : k ≤ 100) (hg : 0 ≤ gr) (hne : NeA penA cA)
  (B : Below A₀ base outer h₀) (F : Fr h₀ L s.heap m) (X : Frag.In (Mine.hd.heap_1 w.params) h₀) (N : News h₀ L s.heap news) (T : Top p loose mean mg mb h₀) (hk : cs.kind = .function) (hd : dp + 2 < recursionLimit) (hu : un + 128 < cLine)
  (_m1 : (penA, listOf #[.ref cA, .int k t1, .int gr t2] np) ∈ news) (m2 : (cA, listOf cells.toArray nc) ∈ news) (U : UpdF penA (listOf #[.ref cA, .int k t1, .int gr t2] np) news G)
  (h : ∀ d t k' gr' t1' t2' np' h' tk', 0 ≤ d → d < many → 0 ≤ k' → k' ≤ k + 1 → 0 ≤ gr' → Fr h₀ L h' m → News h₀ L h' (G (listOf #[.ref cA, .int k' t1', .int gr' t2'] np')) → Q (.int d t) { s with heap := h', toks := tk' }) :
  wpAny (model PR w) (ktrTop dp un gd cn cs L a ccd cl outer) (call (.ref 709) [.ref penA, .int many tm]) Q E s := by
 with_reducible refine ex2 U.split ?_
 intro own rest hX9
 with_reducible refine an4 hX9 ?_
 clear hX9
 intro hR9
 subst hR9
 intro hgr h1 h2
 have hmem : (penA, listOf #[.ref cA, .int k t1, .int gr t2] np) ∈ own ++ (penA, listOf #[.ref cA, .int k t1, .int gr t2] np) :: rest := List.mem_append_right _ (.head _)
 refine draw_c (t1 := t1) (t2 := t2) (np := np) (nc := nc) w many hm0 hm1 hi hl hk0 hk1 hg hne p loose mean mg mb dp un gd cn cs a ccd cl outer A₀ base h₀ L m s Q E B F X (fun q hq => ?_) T hk hd hu ?_
 ·rcases List.mem_cons.mp hq with hq | hq
  ·rw [hq]; exact N _ hmem
  ·rw [List.mem_singleton.mp hq]; exact N _ m2
 intro r out h' tk' F' N' K hK9
 with_reducible refine ex7 hK9 ?_
 clear hK9
 intro d t k' gr' t1' t2' np' hX9
 with_reducible refine an8 hX9 ?_
 clear hX9
 intro hR9
 subst hR9
 intro a1 a2 a3 a4 a5 o1 o2
 refine h d t k' gr' t1' t2' np' h' tk' a1 a2 a3 a4 a5 F' fun q hq => ?_
 have back : ∀ q ∈ own ++ rest, q.1 ≠ penA → h'.get? q.1 = some q.2 ∧ q.1 ≠ L ∧ h₀.get? q.1 = none := fun q hq hn => by
  have hq' : q ∈ own ++ (penA, listOf #[.ref cA, .int k t1, .int gr t2] np) :: rest := by
   rcases List.mem_append.mp hq with hq | hq
   ·exact List.mem_append.mpr (.inl hq)
   ·exact List.mem_append.mpr (.inr (.tail _ hq))
  by_cases hc : q.1 = cA
  ·have e1 := (N _ hq').1
   rw [hc, (N _ m2).1] at e1
   have e : (cA, listOf cells.toArray nc) = q := Prod.ext hc.symm (Option.some.inj e1)
   exact e ▸ N' _ o2
  ·exact ⟨K _ _ (N _ hq').1 (by simp [hn, hc]), (N _ hq').2⟩
 rw [hgr] at hq
 rcases List.mem_append.mp hq with hq | hq
 ·exact back q (List.mem_append.mpr (.inl hq)) (h1 q hq)
 ·rcases List.mem_cons.mp hq with hq | hq
  ·rw [hq]; exact N' _ o1
  ·exact back q (List.mem_append.mpr (.inr hq)) (h2 q hq)
end

end W1p
theorem reset3 : True ∧ True := by
  (try walk1)
  all_goals first | exact ⟨trivial, trivial⟩ | trivial
section
local macro_rules | `(tactic| k_all) => `(tactic| exact NeAll.all (by assumption))
section W2p
section
variable {w : World} {p : Program} {loose : List Str} {mean : ExcName → Option Value} {mg mb : Str → Option Value} {fa : Addr} {cd : Value} {g : Heap} {L : Addr} {m : Str → Option Value} {s : Shared} {E : Value → Shared → Prop} {T₀ : Led}
theorem law_s1 (G : LG w p loose mean mg mb g) {penA cA : Addr} {cells : List Value} {is : List Int} {t1 t2 : Tok} {np nc : Nat} (hi : IntsAre cells is) (hl : cells.length ≤ 63) (hne : NeA penA cA) (hT : NeAll penA T₀)
  (hE : PassesOwn (model PR w) (aL (Mine.hd.heap_1 w.params) L fa cd) (eL (Mine.hd.heap_1 w.params) L fa cd) E) (F : Fr g L s.heap m) (hk : m ("pen" : Str) = some (.ref penA)) (N : News g L s.heap ((penA, listOf #[.ref cA, .int 0 t1, .int 0 t2] np) :: (cA, listOf cells.toArray nc) :: T₀)) :
  wpAny (model PR w) (aL (Mine.hd.heap_1 w.params) L fa cd) (exec (stmtAt (Mine.hd.heap_1 w.params) 750 1) (eL (Mine.hd.heap_1 w.params) L fa cd))
   (Nx fun s' => ∃ h' tk m' nA n nvs nn k gr t1 t2 np, s' = { s with heap := h', toks := tk } ∧ Fr g L h' m' ∧ m' ("names" : Str) = some (.ref nA) ∧ (∀ z, z ≠ ("names" : Str) → m' z = m z) ∧ 1 ≤ n ∧ n ≤ 3 ∧ StrsAre nvs (wnames n) ∧ 0 ≤ k ∧ k ≤ 1 ∧ 0 ≤ gr ∧
    News g L h' ((nA, listOf (nvs : List Value).toArray nn) :: (penA, listOf #[.ref cA, .int k t1, .int gr t2] np) :: (cA, listOf cells.toArray nc) :: T₀) ∧ NeA nA penA) E s := by
 refine uB ?_
 simp(disch:=k_dflt(
 refine iB ?_
 obtain ⟨B, X, T, C1, C2⟩ := G
 have F := ksw_fr (ps := [(("pen" : Str), .ref penA)]) (m₀ := m) (stored := []) (by simpa using hk) (fun _ _ _ => rfl) F
 dsimp only [kstB] at F
 with_reducible refine' stmt_lit ?ho hE ?_
 case ho => k_is
 clear hE
 intro hE
 simp only [List.getD_eq_getElem?_getD, List.getElem?_cons_succ, List.getElem?_cons_zero, Option.getD_some]
 (refine absQ ?_; intro qN uqN)
 have hz : (0 : Int) ≤ 0 := by decide
 repeat' (first | ((fail_if_success (with_reducible show wpAny _ _ (binaryOp _ _ _) _ _ _)); first | keq_rows | keq_hits | ((k_here; (with_reducible show wpAny _ _ (call (Value.ref 709) _) _ _ _); k_dflt (refine' draw_use ?z0 ?z1 ?hi ?hl ?hk0 ?hk1 ?hg ?hne ?k1 ?k2 ?k3 ?k4 ?k5 rfl ?kd ?ku ?m1 ?m2 ?U ?_; (case z0 => decide); (case z1 => decide); (case k1 => k_asm); (case k2 => k_asm); (case k4 => k_asm); (case k3 => k_asm); (case k5 => k_asm); (case kd => ktr_room); (case ku => ktr_units); (case m1 => k_mem); (case m2 => k_mem); (case U => k_updF); (case hi => assumption); (case hl => assumption); (case hk0 => omega); (case hk1 => lia); (case hg => assumption); (case hne => assumption); k_whole); (intros); (try dsimp only); (try k_sweep))) | (k_unfold; (try dsimp only)) | walk1 | (dsimp only; walk1) | (leave1; try dsimp only)) | fail "no")
 rename_i lA hx l19 d9 t9 k9 gr9 ta tb np9 h9 tk9 d90 d91 k90 k91 g90 F9 N9
 have hc : d9 = 0 ∨ d9 = 1 ∨ d9 = 2 := by lia
 rcases hc with rfl | rfl | rfl
 all_goals
  repeat' (first | ((fail_if_success (with_reducible show Nx _ _ _)); first | keq_rows | keq_hits | ((k_here; (with_reducible show wpAny _ _ (call (Value.ref 709) _) _ _ _); k_dflt (refine' draw_use ?z0 ?z1 ?hi ?hl ?hk0 ?hk1 ?hg ?hne ?k1 ?k2 ?k3 ?k4 ?k5 rfl ?kd ?ku ?m1 ?m2 ?U ?_; (case z0 => decide); (case z1 => decide); (case k1 => k_asm); (case k2 => k_asm); (case k4 => k_asm); (case k3 => k_asm); (case k5 => k_asm); (case kd => ktr_room); (case ku => ktr_units); (case m1 => k_mem); (case m2 => k_mem); (case U => k_updF); (case hi => assumption); (case hl => assumption); (case hk0 => omega); (case hk1 => lia); (case hg => assumption); (case hne => assumption); k_whole); (intros); (try dsimp only); (try k_sweep))) | (k_unfold; (try dsimp only)) | walk1 | (dsimp only; walk1) | (leave1; try dsimp only)) | fail "no")
 ·rename News _ _ _ _ => N7
  rename Fr _ _ _ _ => F7
  refine' ⟨rfl, exi12 _ _ _ _ 1 _ _ k9 gr9 ta tb np9 ⟨rfl, F7, if_pos rfl, ?z1, by decide, by decide, ?s1, k90, by lia, g90, fun q hq => N7 q ?q1, ⟨?d1⟩⟩⟩
  case q1 =>
   revert q
   (repeat (refine fc (by k_mem) ?_))
   (intro q hq; (repeat (first | exact hq | exact mKt hq | exact mKt (mKt hq) | exact mKt (mKt (mKt hq)) | refine' mK4 rfl ?_ | refine' mK1 rfl ?_)))
  case d1 => k_ne
  case s1 => exact .cons _ _ .nil
  case z1 =>
   intro z hz
   (try dsimp +zetaDelta only)
   simp only [hz, if_false]
   split
   ·rename_i e; rw [e, hk]
   ·simp
 ·rename News _ _ _ _ => N7
  rename Fr _ _ _ _ => F7
  refine' ⟨rfl, exi12 _ _ _ _ 2 _ _ k9 gr9 ta tb np9 ⟨rfl, F7, if_pos rfl, ?z2, by decide, by decide, ?s2, k90, by lia, g90, fun q hq => N7 q ?q2, ⟨?d2⟩⟩⟩
  case q2 =>
   revert q
   (repeat (refine fc (by k_mem) ?_))
   (intro q hq; (repeat (first | exact hq | exact mKt hq | exact mKt (mKt hq) | exact mKt (mKt (mKt hq)) | refine' mK4 rfl ?_ | refine' mK1 rfl ?_)))
  case d2 => k_ne
  case s2 => exact .cons _ _ (.cons _ _ .nil)
  case z2 =>
   intro z hz
   (try dsimp +zetaDelta only)
   simp only [hz, if_false]
   split
   ·rename_i e; rw [e, hk]
   ·simp
 ·rename News _ _ _ _ => N7
  rename Fr _ _ _ _ => F7
  refine' ⟨rfl, exi12 _ _ _ _ 3 _ _ k9 gr9 ta tb np9 ⟨rfl, F7, if_pos rfl, ?z3, by decide, by decide, ?s3, k90, by lia, g90, fun q hq => N7 q ?q3, ⟨?d3⟩⟩⟩
  case q3 =>
   revert q
   (repeat (refine fc (by k_mem) ?_))
   (intro q hq; (repeat (first | exact hq | exact mKt hq | exact mKt (mKt hq) | exact mKt (mKt (mKt hq)) | refine' mK4 rfl ?_ | refine' mK1 rfl ?_)))
  case d3 => k_ne
  case s3 => exact .cons _ _ (.cons _ _ (.cons _ _ .nil))
  case z3 =>
   intro z hz
   (try dsimp +zetaDelta only)
   simp only [hz, if_false]
   split
   ·rename_i e; rw [e, hk]
   ·simp
 ))only[↓bB]
end

end W2p
section W3p
section
variable {w : World} {p : Program} {loose : List Str} {mean : ExcName → Option Value} {mg mb : Str → Option Value} {fa : Addr} {cd : Value} {g : Heap} {L : Addr} {m : Str → Option Value} {s : Shared} {E : Value → Shared → Prop} {T₀ : Led}
theorem law_s2 (G : LG w p loose mean mg mb g) {q1 : Obj} {v0 : Option Value} (hq : q1.data = .cell v0) (hT : NeAll (L + 1) T₀)
  (hE : PassesOwn (model PR w) (aL (Mine.hd.heap_1 w.params) L fa cd) (eL (Mine.hd.heap_1 w.params) L fa cd) E) (F : Fr g L s.heap m) (N : News g L s.heap ((L + 1, q1) :: T₀)) :
  wpAny (model PR w) (aL (Mine.hd.heap_1 w.params) L fa cd) (exec (stmtAt (Mine.hd.heap_1 w.params) 750 2) (eL (Mine.hd.heap_1 w.params) L fa cd))
   (Nx fun s' => ∃ h' tk rA q1', s' = { s with heap := h', toks := tk } ∧ Fr g L h' m ∧ q1'.data = .cell (some (.ref rA)) ∧ News g L h' ((rA, listOf ([] : List Value).toArray 0) :: (L + 1, q1') :: T₀) ∧ NeAll rA ((L + 1, q1') :: T₀)) E s := by
 obtain ⟨B, X, T, C1, C2⟩ := G
 with_reducible refine' stmt_lit ?ho hE ?_
 case ho => k_is
 clear hE
 intro hE
 simp only [List.getD_eq_getElem?_getD, List.getElem?_cons_succ, List.getElem?_cons_zero, Option.getD_some]
 repeat' (first | ((fail_if_success (with_reducible show Nx _ _ _)); first | keq_rows | (k_unfold; (try dsimp only)) | walk1 | (dsimp only; walk1) | (leave1; try dsimp only)) | fail "no")
 rename News _ _ _ _ => N7
 rename Fr _ _ _ _ => F7
 rename _ = Data.cell _ => d7
 refine ⟨rfl, exi4 _ _ _ _ ⟨rfl, F7, d7, N7, ⟨?_⟩⟩⟩
 refine fc ?_ ?_
 ·k_ne
 ·intro q hq
  exact ltAll (by assumption) (by (repeat (first | exact sid | refine' sK4 rfl ?_ | refine' sK1 rfl ?_))) q hq
end

end W3p
section W4p
structure RS where
 rvs : List Value
 nr : Nat
 k : Int
 gr : Int
 t1 : Tok
 t2 : Tok
 np : Nat
 new : Led
 rows : List Row
section
variable {w : World} {p : Program} {loose : List Str} {mean : ExcName → Option Value} {mg mb : Str → Option Value} {fa : Addr} {cd : Value} {g : Heap} {L : Addr} {m : Str → Option Value} {s : Shared} {E : Value → Shared → Prop} {T₀ : Led}
noncomputable abbrev rowP (i : Nat) (c : RS) : Prop := RowsIn c.new c.rvs c.rows ∧ c.rows.length = i ∧ (∀ r ∈ c.rows, RowOk r) ∧ 0 ≤ c.k ∧ c.k ≤ 1 + 3 * (i : Int) ∧ 0 ≤ c.gr ∧ ∀ p ∈ c.new, p.2.cls = .type "tuple"
theorem RowsIn.snoc {tl : Led} {vs : List Value} {rs : List Row} {a : Addr} {b m d : Int} {t1 t2 t3 : Tok} (h : RowsIn tl vs rs) (hm : (a, tup [.int b t1, .int m t2, .int d t3]) ∈ tl) : RowsIn tl (vs ++ [.ref a]) (rs ++ [(b, m, d)]) := by
 induction h with
 | nil => exact .cons hm .nil
 | cons x _ ih => exact .cons x ih
theorem row_end {h' : Heap} {tk i : Nat} {m m' : Str → Option Value} {I D penA cA rA nA : Addr} {o q1 : Obj} {cells nvs : List Value} {nc nn np' : Nat} {c : RS} {TT : Led} {d0 d1 d2 k' gr' : Int} {ta tb tc t1' t2' : Tok} {Q : Flow → Shared → Prop} (hP : rowP i c) (ho : o.cls = .type "list_iterator")
  (hTT : c.new ++ ((cA, listOf cells.toArray nc) :: (nA, listOf nvs.toArray nn) :: (L + 1, q1) :: T₀) = TT) (b0 : 0 ≤ d0) (b0' : d0 < 7) (b1 : 0 ≤ d1) (b1' : d1 < 3) (b2 : 0 ≤ d2) (b2' : d2 < 4) (kb : 0 ≤ k') (kb' : k' ≤ c.k + 3) (gb : 0 ≤ gr') (l1 : penA < I) (l2 : rA < I) (l3 : ∀ p ∈ ((cA, listOf cells.toArray nc) :: (nA, listOf nvs.toArray nn) :: (L + 1, q1) :: T₀), p.1 < I)
  (F : Fr g L h' m')
  (N : News g L h' ((D, tup [.int (d0 - 3) ta, .int (1 + d1) tb, .int (d0 - 3 - 1 + d2) tc]) :: (I, o) :: (penA, listOf #[.ref cA, .int k' t1', .int gr' t2'] np') :: (rA, listOf (c.rvs.toArray.push (.ref D)) (c.nr + 1)) :: TT))
  (hk : ∀ p ∈ ([("pen", .ref penA)] : List (Str × Value)), m' p.1 = some p.2) (hr : ∀ z, (∀ p ∈ ([("pen", .ref penA)] : List (Str × Value)), z ≠ p.1) → ([("name" : Str), "begin"] : List Str).contains z = false → m' z = m z) :
  KfPost g L s I o (fun c : RS => (penA, listOf #[.ref cA, .int c.k c.t1, .int c.gr c.t2] c.np) :: (rA, listOf c.rvs.toArray c.nr) :: (c.new ++ ((cA, listOf cells.toArray nc) :: (nA, listOf nvs.toArray nn) :: (L + 1, q1) :: T₀))) (fun _ => [("pen", .ref penA)]) ["name", "begin"] m (rowP (i + 1)) Q .next { s with heap := h', toks := tk } := by
 obtain ⟨hR, hlen, hok, kk0, kk1, gg0, hkin⟩ := hP
 simp only [List.push_toArray] at N
 show KfEnd _ _ _ _ _ _ _ _ _ _ _
 refine kf_end ⟨c.rvs ++ [.ref D], c.nr + 1, k', gr', t1', t2', np', (D, tup [.int (d0 - 3) ta, .int (1 + d1) tb, .int (d0 - 3 - 1 + d2) tc]) :: c.new, c.rows ++ [(d0 - 3, 1 + d1, d0 - 3 - 1 + d2)]⟩ F N (.tail _ (.head _)) ho ?_ ?_ hk hr ⟨?_, ?_, ?_, kb, ?_, gb, ?_⟩
 ·dsimp only [List.cons_append]
  rw [hTT]
  intro p hp
  rcases List.mem_cons.mp hp with hp | hp
  ·rw [hp]; exact .tail _ (.tail _ (.head _))
  rcases List.mem_cons.mp hp with hp | hp
  ·rw [hp]; exact .tail _ (.tail _ (.tail _ (.head _)))
  rcases List.mem_cons.mp hp with hp | hp
  ·rw [hp]; exact .head _
  ·exact .tail _ (.tail _ (.tail _ (.tail _ hp)))
 ·dsimp only [List.cons_append]
  intro p hp
  rcases List.mem_cons.mp hp with hp | hp
  ·rw [hp]; exact .inr (Nat.ne_of_lt l1)
  rcases List.mem_cons.mp hp with hp | hp
  ·rw [hp]; exact .inr (Nat.ne_of_lt l2)
  rcases List.mem_cons.mp hp with hp | hp
  ·rw [hp]; exact .inl (by simp)
  rcases List.mem_append.mp hp with hp | hp
  ·exact .inl (by rw [hkin p hp]; simp)
  ·exact .inr (Nat.ne_of_lt (l3 p hp))
 ·exact RowsIn.snoc (hR.mono fun p hp => .tail _ hp) (.head _)
 ·rw [List.length_append, hlen]; rfl
 ·intro r hr
  rcases List.mem_append.mp hr with hr | hr
  ·exact hok r hr
  ·rw [List.mem_singleton.mp hr]; unfold RowOk; dsimp only; lia
 ·dsimp only; lia
 ·exact fc rfl hkin
theorem law_s3 (G : LG w p loose mean mg mb g) {penA cA rA nA : Addr} {cells nvs : List Value} {is : List Int} {t1 t2 : Tok} {np nc nn n : Nat} {k gr : Int} {q1 : Obj} (hi : IntsAre cells is) (hl : cells.length ≤ 63) (h1 : 1 ≤ n) (h3 : n ≤ 3) (hnv : StrsAre nvs (wnames n)) (k0 : 0 ≤ k) (k1 : k ≤ 1) (g0 : 0 ≤ gr)
  (hq : q1.data = .cell (some (.ref rA))) (npen : NeAll penA ((rA, listOf ([] : List Value).toArray 0) :: (cA, listOf cells.toArray nc) :: (nA, listOf nvs.toArray nn) :: (L + 1, q1) :: T₀)) (nrow : NeAll rA ((cA, listOf cells.toArray nc) :: (nA, listOf nvs.toArray nn) :: (L + 1, q1) :: T₀))
  (hE : PassesOwn (model PR w) (aL (Mine.hd.heap_1 w.params) L fa cd) (eL (Mine.hd.heap_1 w.params) L fa cd) E) (F : Fr g L s.heap m) (hk : ∀ p ∈ ([("pen", .ref penA), ("names", .ref nA)] : List (Str × Value)), m p.1 = some p.2)
  (N : News g L s.heap ((penA, listOf #[.ref cA, .int k t1, .int gr t2] np) :: (rA, listOf ([] : List Value).toArray 0) :: (cA, listOf cells.toArray nc) :: (nA, listOf nvs.toArray nn) :: (L + 1, q1) :: T₀)) :
  wpAny (model PR w) (aL (Mine.hd.heap_1 w.params) L fa cd) (exec (stmtAt (Mine.hd.heap_1 w.params) 750 3) (eL (Mine.hd.heap_1 w.params) L fa cd))
   (Nx fun s' => ∃ h' tk m' rows rvs nr new, s' = { s with heap := h', toks := tk } ∧ Fr g L h' m' ∧ (∀ z, z ≠ ("name" : Str) → z ≠ ("begin" : Str) → m' z = m z) ∧ rows.length = n ∧ (∀ r ∈ rows, RowOk r) ∧ RowsIn new rvs rows ∧ (∀ p ∈ new, p.2.cls = .type "tuple") ∧
    News g L h' ((rA, listOf (rvs : List Value).toArray nr) :: (nA, listOf nvs.toArray nn) :: (L + 1, q1) :: (new ++ T₀))) E s := by
 refine uB ?_
 simp(disch:=k_dflt(
 refine iB ?_
 obtain ⟨B, X, T, C1, C2⟩ := G
 have F := ksw_fr (ps := [(("pen" : Str), .ref penA), (("names" : Str), .ref nA)]) (m₀ := m) (stored := []) hk (fun _ _ _ => rfl) F
 dsimp only [kstB] at F
 with_reducible refine' stmt_lit ?ho hE ?_
 case ho => k_is
 clear hE
 intro hE
 simp only [List.getD_eq_getElem?_getD, List.getElem?_cons_succ, List.getElem?_cons_zero, Option.getD_some]
 (refine absQ ?_; intro qN uqN)
 have hnl := hnv.length
 have hwl : (wnames n).length = n := by simp only [wnames, List.length_take, List.length_cons, List.length_nil]; lia
 have N9 : News g L s.heap ((penA, listOf #[.ref cA, .int k t1, .int gr t2] np) :: (rA, listOf ([] : List Value).toArray 0) :: (([] : Led) ++ ((cA, listOf cells.toArray nc) :: (nA, listOf nvs.toArray nn) :: (L + 1, q1) :: T₀))) := by rw [List.nil_append]; exact N
 clear N
 k_here
 refine For_turns F ?_
 repeat' (first | ((fail_if_success (with_reducible show wpAny _ _ (pyIter _) _ _ _)); first | keq_rows | keq_hits | ((k_here; (with_reducible show wpAny _ _ (call (Value.ref 709) _) _ _ _); k_dflt (refine' draw_use ?z0 ?z1 ?hi ?hl ?hk0 ?hk1 ?hg ?hne ?k1 ?k2 ?k3 ?k4 ?k5 rfl ?kd ?ku ?m1 ?m2 ?U ?_; (case z0 => decide); (case z1 => decide); (case k1 => k_asm); (case k2 => k_asm); (case k4 => k_asm); (case k3 => k_asm); (case k5 => k_asm); (case kd => ktr_room); (case ku => ktr_units); (case m1 => k_mem); (case m2 => k_mem); (case U => k_updF); (case hi => assumption); (case hl => assumption); (case hk0 => omega); (case hk1 => lia); (case hg => assumption); (case hne => assumption); k_whole); (intros); (try dsimp only); (try k_sweep))) | (k_unfold; (try dsimp only)) | walk1 | (dsimp only; walk1) | (leave1; try dsimp only)) | fail "no")
 k_here
 refine iter_listTurns (lo := listOf nvs.toArray nn) (vs := nvs) rfl F N9 (by simp) rfl rfl ?_
 intro I l1
 refine' items_forK (m₀ := m) (σ := RS) [(nA, listOf nvs.toArray nn)] (fun c => (penA, listOf #[.ref cA, .int c.k c.t1, .int c.gr c.t2] c.np) :: (rA, listOf c.rvs.toArray c.nr) :: (c.new ++ ((cA, listOf cells.toArray nc) :: (nA, listOf nvs.toArray nn) :: (L + 1, q1) :: T₀))) (hkp := fun c p hp => .tail _ (.tail _ (List.mem_append.mpr (.inr (.tail _ (List.mem_singleton.mp hp ▸ .head _)))))) (fun _ => [("pen", .ref penA)]) ["name", "begin"]
  rowP _ ⟨[], 0, k, gr, t1, t2, np, [], []⟩ ?hk ?hr ?hp ?turn ?fin
 case hk =>
  intro p hp
  rw [List.mem_singleton] at hp
  subst hp
  exact rfl
 case hr =>
  intro z h2 h3
  simp only [List.mem_cons, List.not_mem_nil, or_false, forall_eq] at h2
  simp only [h2, if_false]
  split
  ·rename_i e; rw [e]; exact (hk ("names", .ref nA) (by simp)).symm
  ·simp
 case hp => exact ⟨.nil, rfl, (fun _ h => nomatch h), k0, by simpa using k1, g0, fun _ h => nomatch h⟩
 case turn =>
  intro i x c u v h tk9 o hx hv ⟨hR, hlen, hok, kk0, kk1, gg0, hkin⟩ ho F N
  rw [List.getElem?_map] at hx
  refine ea1_2 (Option.map_eq_some_iff.mp hx) ?_
  intro v' hv' hR9
  subst hR9
  obtain rfl : v = v' := hv
  have hi3 : i < n := by rw [← hwl, ← hnl]; exact (List.getElem?_eq_some_iff.mp hv').1
  have kk2 : c.k ≤ 7 := by lia
  have tofs : ∀ p ∈ c.new, p.1 ≠ penA ∧ p.1 ≠ rA := fun p hp => by
   have m1 : p ∈ (I, o) :: (penA, listOf #[.ref cA, .int c.k c.t1, .int c.gr c.t2] c.np) :: (rA, listOf c.rvs.toArray c.nr) :: (c.new ++ ((cA, listOf cells.toArray nc) :: (nA, listOf nvs.toArray nn) :: (L + 1, q1) :: T₀)) := .tail _ (.tail _ (.tail _ (List.mem_append.mpr (.inl hp))))
   exact ⟨news_ne N m1 (.tail _ (.head _)) (by rw [hkin p hp]; simp), news_ne N m1 (.tail _ (.tail _ (.head _))) (by rw [hkin p hp]; simp)⟩
  have e1 : NeAll penA (c.new ++ ((cA, listOf cells.toArray nc) :: (nA, listOf nvs.toArray nn) :: (L + 1, q1) :: T₀)) := ⟨fun p hp => (List.mem_append.mp hp).elim (fun h => (tofs p h).1) fun h => npen.all p (.tail _ h)⟩
  have e2 : NeAll rA (c.new ++ ((cA, listOf cells.toArray nc) :: (nA, listOf nvs.toArray nn) :: (L + 1, q1) :: T₀)) := ⟨fun p hp => (List.mem_append.mp hp).elim (fun h => (tofs p h).2) fun h => nrow.all p h⟩
  have e3 : NeA penA rA := ⟨Ne.symm (npen.all (rA, _) (.head _))⟩
  have e4 : NeA penA cA := ⟨Ne.symm (npen.all (cA, _) (.tail _ (.head _)))⟩
  have e5 : NeA penA I := ⟨Nat.ne_of_lt (l1 (penA, _) (.head _))⟩
  have e6 : NeA rA I := ⟨Nat.ne_of_lt (l1 (rA, _) (.tail _ (.head _)))⟩
  have mc : (cA, listOf cells.toArray nc) ∈ c.new ++ ((cA, listOf cells.toArray nc) :: (nA, listOf nvs.toArray nn) :: (L + 1, q1) :: T₀) := List.mem_append.mpr (.inr (.head _))
  have mq : (L + 1, q1) ∈ c.new ++ ((cA, listOf cells.toArray nc) :: (nA, listOf nvs.toArray nn) :: (L + 1, q1) :: T₀) := List.mem_append.mpr (.inr (.tail _ (.tail _ (.head _))))
  have hz9 : c.rvs.length ≤ 1000 := by rw [hR.length, hlen]; lia
  generalize hTT : c.new ++ ((cA, listOf cells.toArray nc) :: (nA, listOf nvs.toArray nn) :: (L + 1, q1) :: T₀) = TT at N e1 e2 mc mq
  clear tofs
  dsimp only [kstB] at F
  (try k_fold)
  repeat' (first | ((fail_if_success (with_reducible show KfPost _ _ _ _ _ _ _ _ _ _ _ _ _)); first | keq_rows | keq_hits | ((k_here; (with_reducible show wpAny _ _ (call (Value.ref 709) _) _ _ _); k_dflt (refine' draw_use ?z0 ?z1 ?hi ?hl ?hk0 ?hk1 ?hg ?hne ?k1 ?k2 ?k3 ?k4 ?k5 rfl ?kd ?ku ?m1 ?m2 ?U ?_; (case z0 => decide); (case z1 => decide); (case k1 => k_asm); (case k2 => k_asm); (case k4 => k_asm); (case k3 => k_asm); (case k5 => k_asm); (case kd => ktr_room); (case ku => ktr_units); (case m1 => k_mem); (case m2 => k_mem); (case U => k_updF); (case hi => assumption); (case hl => assumption); (case hk0 => omega); (case hk1 => lia); (case hg => assumption); (case hne => assumption); k_whole); (intros); (try dsimp only); (try k_sweep))) | (k_unfold; (try dsimp only)) | walk1 | (dsimp only; walk1) | (leave1; try dsimp only)) | fail "no")
  rename News _ _ _ _ => N7
  rename Fr _ _ _ _ => F7
  refine' row_end ⟨hR, hlen, hok, kk0, kk1, gg0, hkin⟩ ho hTT ?b0 ?b0' ?b1 ?b1' ?b2 ?b2' ?kb ?kb' ?gb ?l1 ?l2 ?l3 ?F ?N ?hk ?hr
  case N => exact N7
  case F => exact F7
  case b0 => assumption
  case b0' => assumption
  case b1 => assumption
  case b1' => assumption
  case b2 => assumption
  case b2' => assumption
  case kb => assumption
  case kb' => lia
  case gb => assumption
  case l1 => exact l1 (penA, _) (.head _)
  case l2 => exact l1 (rA, _) (.tail _ (.head _))
  case l3 => exact fun p hp => l1 p (.tail _ (.tail _ hp))
  case hk =>
   intro p hp
   rw [List.mem_singleton] at hp
   subst hp
   exact rfl
  case hr => ((try dsimp +zetaDelta only); ksw_same)
 case fin =>
  intro c u h tk9 ⟨hR, hlen, hok, kk0, kk1, gg0, hkin⟩ F N
  rw [List.length_map, hnl, hwl] at hlen
  refine upUse uqN ?_
  refine ⟨rfl, exi7 _ _ _ c.rows c.rvs c.nr c.new ⟨rfl, F, ?_, hlen, hok, hR, hkin, fun p hp => N p ?_⟩⟩
  ·intro z z1 z2
   have zc : ([("name" : Str), "begin"] : List Str).contains z = false := by
    simp only [List.contains_cons, List.contains_nil, Bool.or_false, Bool.or_eq_false_iff, beq_eq_false_iff_ne]
    exact ⟨z1, z2⟩
   exact kstB_eq (fun p hp => hk p (by rw [List.mem_singleton.mp hp]; exact .head _)) fun _ => by simp +zetaDelta only [zc, Bool.false_eq_true, if_false]
  ·rcases List.mem_cons.mp hp with hp | hp
   ·rw [hp]; exact .tail _ (.head _)
   rcases List.mem_cons.mp hp with hp | hp
   ·rw [hp]; exact .tail _ (.tail _ (List.mem_append.mpr (.inr (.tail _ (.head _)))))
   rcases List.mem_cons.mp hp with hp | hp
   ·rw [hp]; exact .tail _ (.tail _ (List.mem_append.mpr (.inr (.tail _ (.tail _ (.head _))))))
   rcases List.mem_append.mp hp with hp | hp
   ·exact .tail _ (.tail _ (List.mem_append.mpr (.inl hp)))
   ·exact .tail _ (.tail _ (List.mem_append.mpr (.inr (.tail _ (.tail _ (.tail _ hp))))))
 ))only[↓bB]
end

end W4p
end
section W5p
open PyProof.Rows.LCg
section
variable {w : World} {p : Program} {loose : List Str} {mean : ExcName → Option Value} {mg mb : Str → Option Value} {dp un : Nat} {gd : Option (List Code)} {cn : Str} {cs : Scope} {a : Addr} {ccd : Value} {cl : List (Str × Addr)} {outer : List Env} {A₀ : Around} {base h₀ : Heap} {L : Addr} {m : Str → Option Value} {s : Shared}
 {Q E : Value → Shared → Prop} {news : Led}
theorem numbers_use {ra : Addr} {r : Row} {t1 t2 t3 : Tok} (ok : RowOk r) (hm : (ra, tup [.int r.1 t1, .int r.2.1 t2, .int r.2.2 t3]) ∈ news)
  (B : Below A₀ base outer h₀) (F : Fr h₀ L s.heap m) (X : Frag.In (Mine.hd.heap_1 w.params) h₀) (N : News h₀ L s.heap news) (T : Top p loose mean mg mb h₀) (hk : cs.kind = .function) (hd : dp + 2 < recursionLimit) (hu : un + 64 < cLine)
  (h : ∀ x ys n h' tk', Fr h₀ L h' m → News h₀ L h' ((x, listOf (ys : List Value).toArray n) :: news) → (∀ q ∈ news, q.1 ≠ x) → IntsAre ys (numsR r) → Q (.ref x) { s with heap := h', toks := tk' }) :
  wpAny (model PR w) (ktrTop dp un gd cn cs L a ccd cl outer) (call (.ref 728) [.ref ra]) Q E s := by
 obtain ⟨b1, b2, b3, b4, b5, b6⟩ := ok
 refine numbers_c (ra := ra) (t1 := t1) (t2 := t2) (t3 := t3) w b1 b2 b3 b4 b5 b6 p loose mean mg mb dp un gd cn cs a ccd cl outer A₀ base h₀ L m s Q E B F X (fun q hq => N q (List.mem_singleton.mp hq ▸ hm)) T hk hd hu ?_
 intro r' out h' tk' F' N' K hK9
 with_reducible refine ex3 hK9 ?_
 clear hK9
 intro x ys n hX9
 with_reducible refine an5 hX9 ?_
 clear hX9
 intro hR9
 subst hR9
 intro hf o1 hi o2
 refine h x ys n h' tk' F' (fun q hq => ?_) (fun q hq e => by have := (N q hq).1; rw [e, hf] at this; cases this) hi
 rcases List.mem_cons.mp hq with hq | hq
 ·rw [hq]; exact N' _ o1
 ·by_cases hc : q.1 = ra
  ·have e1 := (N q hq).1
   rw [hc, (N _ hm).1] at e1
   have e : (ra, tup [.int r.1 t1, .int r.2.1 t2, .int r.2.2 t3]) = q := Prod.ext hc.symm (Option.some.inj e1)
   exact e ▸ N' _ o2
  ·exact ⟨K _ _ (N _ hq).1 (by simpa using hc), (N _ hq).2⟩
theorem more_use {ra : Addr} {r : Row} {t1 t2 t3 : Tok} (ok : RowOk r) (hm : (ra, tup [.int r.1 t1, .int r.2.1 t2, .int r.2.2 t3]) ∈ news)
  (B : Below A₀ base outer h₀) (F : Fr h₀ L s.heap m) (X : Frag.In (Mine.hd.heap_1 w.params) h₀) (N : News h₀ L s.heap news) (T : Top p loose mean mg mb h₀) (hk : cs.kind = .function) (hd : dp + 2 < recursionLimit) (hu : un + 64 < cLine)
  (h : ∀ t h' tk', Fr h₀ L h' m → News h₀ L h' news → Q (.int ((numsR r).length : Nat) t) { s with heap := h', toks := tk' }) :
  wpAny (model PR w) (ktrTop dp un gd cn cs L a ccd cl outer) (call (.ref 745) [.ref ra]) Q E s := by
 obtain ⟨b1, b2, b3, b4, b5, b6⟩ := ok
 refine more_c (ra := ra) (t1 := t1) (t2 := t2) (t3 := t3) w b1 b2 b3 b4 b5 b6 p loose mean mg mb dp un gd cn cs a ccd cl outer A₀ base h₀ L m s Q E B F X (fun q hq => N q (List.mem_singleton.mp hq ▸ hm)) T hk hd hu ?_
 rintro r' out h' tk' F' N' K ⟨⟨t, rfl⟩, o2⟩
 refine h t h' tk' F' (fun q hq => ?_)
 by_cases hc : q.1 = ra
 ·have e1 := (N q hq).1
  rw [hc, (N _ hm).1] at e1
  have e : (ra, tup [.int r.1 t1, .int r.2.1 t2, .int r.2.2 t3]) = q := Prod.ext hc.symm (Option.some.inj e1)
  exact e ▸ N' _ o2
 ·exact ⟨K _ _ (N _ hq).1 (by simpa using hc), (N _ hq).2⟩
end
section
variable {w : World} {p : Program} {loose : List Str} {mean : ExcName → Option Value} {mg mb : Str → Option Value} {fa : Addr} {cd : Value} {g : Heap} {L : Addr} {m : Str → Option Value} {s : Shared} {E : Value → Shared → Prop} {T₀ : Led}
theorem law_s4 (G : LG w p loose mean mg mb g) {rA : Addr} {rvs : List Value} {nr : Nat} {q1 : Obj} {rows : List Row} (h3 : rows.length ≤ 3) (hrv : RowsIn T₀ rvs rows) (hok : ∀ r ∈ rows, RowOk r) (hq : q1.data = .cell (some (.ref rA))) (mq : (L + 1, q1) ∈ T₀) (mr : (rA, listOf rvs.toArray nr) ∈ T₀)
  (hE : PassesOwn (model PR w) (aL (Mine.hd.heap_1 w.params) L fa cd) (eL (Mine.hd.heap_1 w.params) L fa cd) E) (F : Fr g L s.heap m) (N : News g L s.heap T₀) :
  wpAny (model PR w) (aL (Mine.hd.heap_1 w.params) L fa cd) (exec (stmtAt (Mine.hd.heap_1 w.params) 750 4) (eL (Mine.hd.heap_1 w.params) L fa cd))
   (Nx fun s' => ∃ h' tk m' D ys new, s' = { s with heap := h', toks := tk } ∧ Fr g L h' m' ∧ m' ("turns" : Str) = some (.ref D) ∧ (∀ z, z ≠ ("turns" : Str) → m' z = m z) ∧ LogIn new ys (rows.map numsR) ∧ (∀ p ∈ new, p.2.cls = .type "list") ∧
    News g L h' ((D, lst ys) :: (new ++ T₀))) E s := by
 refine uB ?_
 simp(disch:=k_dflt(
 refine iB ?_
 obtain ⟨B, X, T, C1, C2⟩ := G
 have hrl := hrv.length
 with_reducible refine' stmt_lit ?ho hE ?_
 case ho => k_is
 clear hE
 intro hE
 simp only [List.getD_eq_getElem?_getD, List.getElem?_cons_succ, List.getElem?_cons_zero, Option.getD_some]
 (refine absQ ?_; intro qN uqN)
 k_here
 k_dflt (refine' LCg.Assign_ListComp_U (h₀ := g) (L := L) F rfl ?hsw ?hclos (by decide) rfl (by decide) rfl rfl rfl ?h)
 case hsw => rfl
 case hclos => rfl
 repeat' (first | ((fail_if_success (with_reducible show LCg.CompSrc _ _ _ _ _ _ _ _ _ _ _ _ _ _)); first | keq_rows | keq_hits | ((k_here; (with_reducible show wpAny _ _ (eval (Expr.Name _ _) (compEnvC _ _ _ _)) _ _ _); k_dflt (first   | (refine' LCgL.ld_own ?N ?hm ?hC ?hx ?_; (case N => k_asm); (case hm => k_mem); (case hC => assumption); (case hx => assumption))   | (refine' nameCC ?N ?hc ?hm ?hd ?_; (case N => k_asm); (case hc => exact rfl); (case hm => k_mem); (case hd => assumption); k_whole)   | (refine' LCgL.ld_global ?F ?X ?T ?e ?_; (case F => k_asm); (case X => k_asm); (case T => k_asm); (case e => k_is))))) | (k_unfold; (try dsimp only)) | walk1 | (dsimp only; walk1) | (leave1; try dsimp only)) | fail "no")
 k_here
 refine LCg.CompSrc.ledger (its := rvs.toArray) (by rfl) F N mr (by simp [hrl, sizeLine_eq]; lia) ?_
 intro g9
 refine comp_induct (J := fun i ys news => ∃ new, news = new ++ T₀ ∧ LogIn new ys ((rows.take i).map numsR) ∧ (∀ p ∈ new, p.2.cls = .type "list")) ?step ?fin _ 0 [] T₀ (Nat.zero_add _) ⟨[], rfl, .nil, fun _ h => nomatch h⟩
 case fin =>
  intro ys news hK9
  with_reducible refine ex1 hK9 ?_
  clear hK9
  intro new hX9
  with_reducible refine an3 hX9 ?_
  clear hX9
  intro hR9
  subst hR9
  intro hL hc
  rintro D h tk F9 N9 o9
  have e : (rows.take rvs.toArray.size).map numsR = rows.map numsR := by rw [List.size_toArray, hrl, List.take_length]
  rw [e] at hL
  refine upUse uqN ?_
  exact ⟨rfl, exi6 h tk _ D ys new ⟨rfl, F9, if_pos rfl, fun z hz => if_neg hz, hL, hc, N9⟩⟩
 case step =>
  intro i ys news hi hK9
  with_reducible refine ex1 hK9 ?_
  clear hK9
  intro new hX9
  with_reducible refine an3 hX9 ?_
  clear hX9
  intro hR9
  subst hR9
  intro hL hc
  rintro v I oI C oC D m₂ h tk E' hP hC hx F9 N9 off ne
  have hi' : i < rows.length := by rw [List.size_toArray, hrl] at hi; exact hi
  have hri : rows[i]? = some rows[i] := List.getElem?_eq_getElem hi'
  generalize rows[i] = r at hri
  refine ex4 (hrv.at hri) ?_
  intro ra t1 t2 t3 hX9
  with_reducible refine an2 hX9 ?_
  clear hX9
  intro hv1 hm1
  have hv : v = .ref ra := by
   have e : rvs[i]? = some v := by simpa using hP
   rw [hv1] at e; exact (Option.some.inj e).symm
  subst hv
  have mra : (ra, tup [.int r.1 t1, .int r.2.1 t2, .int r.2.2 t3]) ∈ new ++ T₀ := List.mem_append.mpr (.inr hm1)
  generalize hTT : new ++ T₀ = TT at N9 off mra
  repeat' (first | ((fail_if_success (with_reducible show wpAny _ _ (call (.ref _) _) _ _ _)); first | keq_rows | keq_hits | ((k_here; (with_reducible show wpAny _ _ (eval (Expr.Name _ _) (compEnvC _ _ _ _)) _ _ _); k_dflt (first   | (refine' LCgL.ld_own ?N ?hm ?hC ?hx ?_; (case N => k_asm); (case hm => k_mem); (case hC => assumption); (case hx => assumption))   | (refine' nameCC ?N ?hc ?hm ?hd ?_; (case N => k_asm); (case hc => exact rfl); (case hm => k_mem); (case hd => assumption); k_whole)   | (refine' LCgL.ld_global ?F ?X ?T ?e ?_; (case F => k_asm); (case X => k_asm); (case T => k_asm); (case e => k_is))))) | (k_unfold; (try dsimp only)) | walk1 | (dsimp only; walk1) | (leave1; try dsimp only)) | fail "no")
  k_here
  k_dflt (refine' numbers_use (hok r (List.mem_of_getElem? hri)) (.tail _ (.tail _ (.tail _ mra))) B F9 X N9 T rfl ?kd ?ku ?_; (case kd => ktr_room); (case ku => ktr_units))
  intro x zs n h' tk' F8 N8 hn8 hi8
  (try dsimp only)
  repeat' (first | ((fail_if_success (with_reducible show CompEnd _ _ _ _ _ _ _ _ _ _ _ _ _ _)); first | keq_rows | keq_hits | ((k_here; (with_reducible show wpAny _ _ (eval (Expr.Name _ _) (compEnvC _ _ _ _)) _ _ _); k_dflt (first   | (refine' LCgL.ld_own ?N ?hm ?hC ?hx ?_; (case N => k_asm); (case hm => k_mem); (case hC => assumption); (case hx => assumption))   | (refine' nameCC ?N ?hc ?hm ?hd ?_; (case N => k_asm); (case hc => exact rfl); (case hm => k_mem); (case hd => assumption); k_whole)   | (refine' LCgL.ld_global ?F ?X ?T ?e ?_; (case F => k_asm); (case X => k_asm); (case T => k_asm); (case e => k_is))))) | (k_unfold; (try dsimp only)) | walk1 | (dsimp only; walk1) | (leave1; try dsimp only)) | fail "no")
  subst hTT
  refine CompEnd.intro F8 N8 ((x, listOf zs.toArray n) :: (new ++ T₀)) ?_ ⟨⟨Ne.symm (hn8 (I, oI) (.head _)), Ne.symm (hn8 (C, oC) (.tail _ (.head _))), Ne.symm (hn8 (D, lst ys) (.tail _ (.tail _ (.head _))))⟩, off⟩ (.inr ⟨_, .tail _ (List.mem_append.mpr (.inr mr)), rfl, _, rfl⟩) ⟨(x, listOf zs.toArray n) :: new, rfl, ?_, fc rfl hc⟩
  ·intro q hq
   rcases List.mem_cons.mp hq with hq | hq
   ·rw [hq]; exact .tail _ (.head _)
   rcases List.mem_cons.mp hq with hq | hq
   ·rw [hq]; exact .tail _ (.tail _ (.head _))
   rcases List.mem_cons.mp hq with hq | hq
   ·rw [hq]; exact .tail _ (.tail _ (.tail _ (.head _)))
   rcases List.mem_cons.mp hq with hq | hq
   ·rw [hq]; exact .head _
   ·exact .tail _ (.tail _ (.tail _ (.tail _ hq)))
  ·have e : (rows.take (i + 1)).map numsR = (rows.take i).map numsR ++ [numsR r] := by rw [List.take_add_one, hri, List.map_append]; rfl
   rw [e]
   exact LogIn.snoc (.head _) hi8 (hL.mono fun p hp => .tail _ hp)
 ))only[↓bB]
end

end W5p
section W6p
section
variable {w : World} {p : Program} {loose : List Str} {mean : ExcName → Option Value} {mg mb : Str → Option Value} {fa : Addr} {cd : Value} {g : Heap} {L : Addr} {m : Str → Option Value} {s : Shared} {E : Value → Shared → Prop}
theorem law_s5 (G : LG w p loose mean mg mb g) {rA nA : Addr} {rvs nvs : List Value} {nr nn : Nat} {tabF tabR : Array Value} {tl : Led} {q1 : Obj} {rows : List Row} (h1 : 1 ≤ rows.length) (h3 : rows.length ≤ 3) (hrv : RowsIn tl rvs rows) (hnv : StrsAre nvs (wnames rows.length)) (hq : q1.data = .cell (some (.ref rA))) (mq : (L + 1, q1) ∈ tl)
  (n203 : NeAll 203 ((735, tabObj tabR) :: (rA, listOf rvs.toArray nr) :: (nA, listOf nvs.toArray nn) :: tl)) (n735 : NeAll 735 ((203, tabObj tabF) :: (rA, listOf rvs.toArray nr) :: (nA, listOf nvs.toArray nn) :: tl))
  (LTA : LamTab posA qualR tabR tl) (LTB : LamTab posB qualR tabR tl) (LTC : LamTab posC qualR tabR tl) (LTD : LamTab posD qualR tabR tl) (LTF : LamTab posF qualF tabF tl)
  {nst : Nat} {fin : AM} (hr : Runs (wnames rows.length) (cProg false rows) nst ⟨0, none, wls 77 77 77, [], ""⟩ fin) (hst : nst ≤ 6000) (hfw : fin.W.length ≤ 1000) (hfn : ∀ n ∈ wnames rows.length, (fin.W.lookup n).isSome = true) (hfl : fin.log.length ≤ 10000)
  (hE : PassesOwn (model PR w) (aL (Mine.hd.heap_1 w.params) L fa cd) (eL (Mine.hd.heap_1 w.params) L fa cd) E) (F : Fr g L s.heap m) (hk : m ("names" : Str) = some (.ref nA))
  (N : News g L s.heap ((203, tabObj tabF) :: (735, tabObj tabR) :: (rA, listOf rvs.toArray nr) :: (nA, listOf nvs.toArray nn) :: tl)) :
  wpAny (model PR w) (aL (Mine.hd.heap_1 w.params) L fa cd) (exec (stmtAt (Mine.hd.heap_1 w.params) 750 5) (eL (Mine.hd.heap_1 w.params) L fa cd))
   (Nx fun s' => ∃ h' tk m' lgA lg nl Dl ys nD tabF' tabR' tx wt, s' = { s with heap := h', toks := tk } ∧ Fr g L h' m' ∧ m' ("word" : Str) = some (.str fin.word wt) ∧ m' ("log" : Str) = some (.ref lgA) ∧ m' ("left" : Str) = some (.ref Dl) ∧ (∀ z, z ≠ ("word" : Str) → z ≠ ("log" : Str) → z ≠ ("left" : Str) → m' z = m z) ∧
    News g L h' ((lgA, listOf (lg : List Value).toArray nl) :: (Dl, listOf (ys : List Value).toArray nD) :: (203, tabObj tabF') :: (735, tabObj tabR') :: tx) ∧ IntsAre ys ((wnames rows.length).map fun n => (fin.W.lookup n).getD 0) ∧ LogIn tx lg fin.log ∧
    LamTab posF qualF tabF' tx ∧ LamTab posA qualR tabR' tx ∧ LamTab posB qualR tabR' tx ∧ LamTab posC qualR tabR' tx ∧ LamTab posD qualR tabR' tx ∧ NeAll 203 tx ∧ NeAll 735 tx ∧ ∀ q ∈ (rA, listOf rvs.toArray nr) :: (nA, listOf nvs.toArray nn) :: tl, q ∈ tx) E s := by
 refine uB ?_
 simp(disch:=k_dflt(
 refine iB ?_
 obtain ⟨B, X, T, C1, C2⟩ := G
 have F := ksw_fr (ps := [(("names" : Str), .ref nA)]) (m₀ := m) (stored := []) (by simpa using hk) (fun _ _ _ => rfl) F
 dsimp only [kstB] at F
 have hqs := hq
 with_reducible refine' stmt_lit ?ho hE ?_
 case ho => k_is
 clear hE
 intro hE
 simp only [List.getD_eq_getElem?_getD, List.getElem?_cons_succ, List.getElem?_cons_zero, Option.getD_some]
 (refine absQ ?_; intro qN uqN)
 repeat' (first | ((fail_if_success (with_reducible show wpAny _ _ (call (.ref _) _) _ _ _)); first | keq_rows | keq_hits | (k_unfold; (try dsimp only)) | walk1 | (dsimp only; walk1) | (leave1; try dsimp only)) | fail "no")
 k_here
 k_dflt (refine' law_run_c w false rows h1 h3 hrv hnv n203 n735 LTA LTB LTC LTD LTF hr hst hfw hfn hfl _ _ _ _ _ _ _ _ _ _ _ _ _ _ _ _ _ _ _ _ _ _ C1 C2 B F X N T rfl ?kd ?ku ?_; (case kd => ktr_room); (case ku => ktr_units))
 intro r out h' tk' F8 N8 K8 hK9
 with_reducible refine ex11 hK9 ?_
 clear hK9
 intro Rt tw lgA lg9 nl9 Dl ys nD tabF' tabR' tx hX9
 with_reducible refine an17 hX9 ?_
 clear hX9
 intro hR9
 subst hR9
 intro o1 o2 o3 hi8 hL8 hF8 hA8 hB8 hC8 hD8 a203 a735 o4 o5 o6 o7
 have N9 : News g L h' ((Rt, tup [.str fin.word tw, .ref lgA, .ref Dl]) :: (lgA, listOf lg9.toArray nl9) :: (Dl, listOf ys.toArray nD) :: (203, tabObj tabF') :: (735, tabObj tabR') :: tx) := fun q hq => N8 q (by
  rcases List.mem_cons.mp hq with hq | hq
  ·rw [hq]; exact o1
  rcases List.mem_cons.mp hq with hq | hq
  ·rw [hq]; exact o2
  rcases List.mem_cons.mp hq with hq | hq
  ·rw [hq]; exact o3
  rcases List.mem_cons.mp hq with hq | hq
  ·rw [hq]; exact o4
  rcases List.mem_cons.mp hq with hq | hq
  ·rw [hq]; exact o5
  ·exact o6 q hq)
 clear N8 K8 N F o1 o2 o3 o4 o5 o6
 (try dsimp only)
 repeat' (first | ((fail_if_success (with_reducible show Nx _ _ _)); first | keq_rows | keq_hits | (k_unfold; (try dsimp only)) | walk1 | (dsimp only; walk1) | (leave1; try dsimp only)) | fail "no")
 rename News _ _ _ _ => N7
 rename Fr _ _ _ _ => F7
 refine ⟨rfl, exi13 _ _ _ lgA lg9 nl9 Dl ys nD tabF' tabR' tx tw ⟨rfl, F7, by rfl, by rfl, by rfl, ?_, fun q hq => N7 q (.tail _ hq), hi8, hL8, hF8, hA8, hB8, hC8, hD8, a203, a735, o7⟩⟩
 intro z z1 z2 z3
 (try dsimp +zetaDelta only)
 simp only [z1, z2, z3, if_false]
 split
 ·rename_i e; rw [e, hk]
 ·rfl
 ))only[↓bB]
theorem law_s9 (G : LG w p loose mean mg mb g) {rA nA : Addr} {rvs nvs : List Value} {nr nn : Nat} {tabF tabR : Array Value} {tl : Led} {q1 : Obj} {rows : List Row} (h1 : 1 ≤ rows.length) (h3 : rows.length ≤ 3) (hrv : RowsIn tl rvs rows) (hnv : StrsAre nvs (wnames rows.length)) (hq : q1.data = .cell (some (.ref rA))) (mq : (L + 1, q1) ∈ tl)
  (n203 : NeAll 203 ((735, tabObj tabR) :: (rA, listOf rvs.toArray nr) :: (nA, listOf nvs.toArray nn) :: tl)) (n735 : NeAll 735 ((203, tabObj tabF) :: (rA, listOf rvs.toArray nr) :: (nA, listOf nvs.toArray nn) :: tl))
  (LTA : LamTab posA qualR tabR tl) (LTB : LamTab posB qualR tabR tl) (LTC : LamTab posC qualR tabR tl) (LTD : LamTab posD qualR tabR tl) (LTF : LamTab posF qualF tabF tl)
  {nst : Nat} {fin : AM} (hr : Runs (wnames rows.length) (cProg true rows) nst ⟨0, none, wls 77 77 77, [], ""⟩ fin) (hst : nst ≤ 6000) (hfw : fin.W.length ≤ 1000) (hfn : ∀ n ∈ wnames rows.length, (fin.W.lookup n).isSome = true) (hfl : fin.log.length ≤ 10000)
  (hE : PassesOwn (model PR w) (aL (Mine.hd.heap_1 w.params) L fa cd) (eL (Mine.hd.heap_1 w.params) L fa cd) E) (F : Fr g L s.heap m) (hk : m ("names" : Str) = some (.ref nA))
  (N : News g L s.heap ((203, tabObj tabF) :: (735, tabObj tabR) :: (rA, listOf rvs.toArray nr) :: (nA, listOf nvs.toArray nn) :: tl)) :
  wpAny (model PR w) (aL (Mine.hd.heap_1 w.params) L fa cd) (exec (stmtAt (Mine.hd.heap_1 w.params) 750 9) (eL (Mine.hd.heap_1 w.params) L fa cd))
   (Nx fun s' => ∃ h' tk m' lgA lg nl Dl ys nD tabF' tabR' tx wt, s' = { s with heap := h', toks := tk } ∧ Fr g L h' m' ∧ m' ("word" : Str) = some (.str fin.word wt) ∧ m' ("log" : Str) = some (.ref lgA) ∧ m' ("left" : Str) = some (.ref Dl) ∧ (∀ z, z ≠ ("word" : Str) → z ≠ ("log" : Str) → z ≠ ("left" : Str) → m' z = m z) ∧
    News g L h' ((lgA, listOf (lg : List Value).toArray nl) :: (Dl, listOf (ys : List Value).toArray nD) :: (203, tabObj tabF') :: (735, tabObj tabR') :: tx) ∧ IntsAre ys ((wnames rows.length).map fun n => (fin.W.lookup n).getD 0) ∧ LogIn tx lg fin.log ∧
    LamTab posF qualF tabF' tx ∧ LamTab posA qualR tabR' tx ∧ LamTab posB qualR tabR' tx ∧ LamTab posC qualR tabR' tx ∧ LamTab posD qualR tabR' tx ∧ NeAll 203 tx ∧ NeAll 735 tx ∧ ∀ q ∈ (rA, listOf rvs.toArray nr) :: (nA, listOf nvs.toArray nn) :: tl, q ∈ tx) E s := by
 refine uB ?_
 simp(disch:=k_dflt(
 refine iB ?_
 obtain ⟨B, X, T, C1, C2⟩ := G
 have F := ksw_fr (ps := [(("names" : Str), .ref nA)]) (m₀ := m) (stored := []) (by simpa using hk) (fun _ _ _ => rfl) F
 dsimp only [kstB] at F
 have hqs := hq
 with_reducible refine' stmt_lit ?ho hE ?_
 case ho => k_is
 clear hE
 intro hE
 simp only [List.getD_eq_getElem?_getD, List.getElem?_cons_succ, List.getElem?_cons_zero, Option.getD_some]
 (refine absQ ?_; intro qN uqN)
 repeat' (first | ((fail_if_success (with_reducible show wpAny _ _ (call (.ref _) _) _ _ _)); first | keq_rows | keq_hits | (k_unfold; (try dsimp only)) | walk1 | (dsimp only; walk1) | (leave1; try dsimp only)) | fail "no")
 k_here
 k_dflt (refine' law_run_c w true rows h1 h3 hrv hnv n203 n735 LTA LTB LTC LTD LTF hr hst hfw hfn hfl _ _ _ _ _ _ _ _ _ _ _ _ _ _ _ _ _ _ _ _ _ _ C1 C2 B F X N T rfl ?kd ?ku ?_; (case kd => ktr_room); (case ku => ktr_units))
 intro r out h' tk' F8 N8 K8 hK9
 with_reducible refine ex11 hK9 ?_
 clear hK9
 intro Rt tw lgA lg9 nl9 Dl ys nD tabF' tabR' tx hX9
 with_reducible refine an17 hX9 ?_
 clear hX9
 intro hR9
 subst hR9
 intro o1 o2 o3 hi8 hL8 hF8 hA8 hB8 hC8 hD8 a203 a735 o4 o5 o6 o7
 have N9 : News g L h' ((Rt, tup [.str fin.word tw, .ref lgA, .ref Dl]) :: (lgA, listOf lg9.toArray nl9) :: (Dl, listOf ys.toArray nD) :: (203, tabObj tabF') :: (735, tabObj tabR') :: tx) := fun q hq => N8 q (by
  rcases List.mem_cons.mp hq with hq | hq
  ·rw [hq]; exact o1
  rcases List.mem_cons.mp hq with hq | hq
  ·rw [hq]; exact o2
  rcases List.mem_cons.mp hq with hq | hq
  ·rw [hq]; exact o3
  rcases List.mem_cons.mp hq with hq | hq
  ·rw [hq]; exact o4
  rcases List.mem_cons.mp hq with hq | hq
  ·rw [hq]; exact o5
  ·exact o6 q hq)
 clear N8 K8 N F o1 o2 o3 o4 o5 o6
 (try dsimp only)
 repeat' (first | ((fail_if_success (with_reducible show Nx _ _ _)); first | keq_rows | keq_hits | (k_unfold; (try dsimp only)) | walk1 | (dsimp only; walk1) | (leave1; try dsimp only)) | fail "no")
 rename News _ _ _ _ => N7
 rename Fr _ _ _ _ => F7
 refine ⟨rfl, exi13 _ _ _ lgA lg9 nl9 Dl ys nD tabF' tabR' tx tw ⟨rfl, F7, by rfl, by rfl, by rfl, ?_, fun q hq => N7 q (.tail _ hq), hi8, hL8, hF8, hA8, hB8, hC8, hD8, a203, a735, o7⟩⟩
 intro z z1 z2 z3
 (try dsimp +zetaDelta only)
 simp only [z1, z2, z3, if_false]
 split
 ·rename_i e; rw [e, hk]
 ·rfl
 ))only[↓bB]
end

end W6p
section W7p
theorem odo_nil (ws : List (List Int)) : odo ws = [] ↔ [] ∈ ws := by
 have key : ∀ (ws f : List (List Int)), ws.foldl (fun found numbers => found.flatMap fun row => numbers.map fun n => row ++ [n]) f = [] ↔ f = [] ∨ [] ∈ ws := by
  intro ws
  induction ws with
  | nil => intro f; simp
  | cons a q ih =>
   intro f
   rw [List.foldl_cons, ih]
   cases f with
   | nil => simp
   | cons x r =>
    cases a with
    | nil => simp
    | cons y z => simp
 have := key ws [[]]
 simpa [odo] using this
section
variable {w : World} {p : Program} {loose : List Str} {mean : ExcName → Option Value} {mg mb : Str → Option Value} {dp un : Nat} {gd : Option (List Code)} {cn : Str} {cs : Scope} {a : Addr} {ccd : Value} {cl : List (Str × Addr)} {outer : List Env} {A₀ : Around} {base h₀ : Heap} {L : Addr} {m : Str → Option Value} {s : Shared}
 {Q E : Value → Shared → Prop} {news : Led}
theorem odometer_use {wA : Addr} {wvs : List Value} {nw : Nat} {wheels : List (List Int)} (hw : LogIn news wvs wheels) (h3 : wheels.length ≤ 3) (h4 : ∀ l ∈ wheels, l.length ≤ 4) (hm : (wA, listOf wvs.toArray nw) ∈ news)
  (B : Below A₀ base outer h₀) (F : Fr h₀ L s.heap m) (X : Frag.In (Mine.hd.heap_1 w.params) h₀) (N : News h₀ L s.heap news) (T : Top p loose mean mg mb h₀) (hk : cs.kind = .function) (hd : dp + 4 < recursionLimit) (hu : un + 64 < cLine)
  (h : ∀ D ys n new h' tk', Fr h₀ L h' m → News h₀ L h' ((D, listOf (ys : List Value).toArray n) :: (new ++ news)) → LogIn new ys (odo wheels) → Q (.ref D) { s with heap := h', toks := tk' }) :
  wpAny (model PR w) (ktrTop dp un gd cn cs L a ccd cl outer) (call (.ref 733) [.ref wA]) Q E s := by
 refine odometer_c (tl := news) (nw := nw) w wheels hw h3 h4 p loose mean mg mb dp un gd cn cs a ccd cl outer A₀ base h₀ L m s Q E B F X (fun q hq => ?_) T hk hd hu ?_
 ·rcases List.mem_cons.mp hq with hq | hq
  ·rw [hq]; exact N _ hm
  ·exact N q hq
 intro r' out h' tk' F' N' K hK9
 with_reducible refine ex4 hK9 ?_
 clear hK9
 intro D ys n new hX9
 with_reducible refine an5 hX9 ?_
 clear hX9
 intro hR9
 subst hR9
 intro o1 hL o2 o3
 refine h D ys n new h' tk' F' (fun q hq => N' q ?_) hL
 rcases List.mem_cons.mp hq with hq | hq
 ·rw [hq]; exact o1
 rcases List.mem_append.mp hq with hq | hq
 ·exact o2 q hq
 ·exact o3 q (.tail _ hq)
end
section
variable {prog : Program} {w : World} {A : Around} {E : Value → Shared → Prop} {s : Shared} {h₀ : Heap} {L a b : Addr} {news n₁ : Led} {xs : List Value} {ka kb : Nat} {ls : List (List Int)} {Q : Value → Shared → Prop}
theorem logs_in (N : News h₀ L s.heap news) (ma : (a, listOf xs.toArray ka) ∈ news) (Da : LogIn n₁ xs ls) (sa : ∀ p ∈ n₁, p ∈ news) (mb : (b, listOf ([] : List Value).toArray kb) ∈ news) (hu : A.units + 64 < cLine) (h : Q (.bool (decide ([] ∈ ls))) s) :
  wpAny (model prog w) A (compareOp .In (.ref b) (.ref a)) Q E s := by
 have e : (rowD [] ∈ ls.map rowD) ↔ [] ∈ ls := by
  constructor
  ·intro h
   refine ea1_2 (List.mem_map.mp h) ?_
   intro l hl e
   have : l = [] := by
    have := dint_inj (l := l) (k := []) (by simpa [rowD] using e)
    exact this
   exact this ▸ hl
  ·exact fun h => List.mem_map.mpr ⟨[], h, rfl⟩
 refine kqd_isIn (n₂ := [(b, listOf ([] : List Value).toArray kb)]) (d := rowD []) N ma rfl rfl (dat_log Da) sa (.list (.head _) .nil) (fun p hp => List.mem_singleton.mp hp ▸ mb) (dat_ok _) (by simp [kqdOk]) hu ?_
 have e' : ∀ (inst : Decidable (rowD [] ∈ ls.map rowD)), @decide _ inst = decide ([] ∈ ls) := by
  intro inst
  by_cases hq : [] ∈ ls
  ·rw [decide_eq_true hq]; exact @decide_eq_true _ inst (e.mpr hq)
  ·rw [decide_eq_false hq]; exact @decide_eq_false _ inst fun z => hq (e.mp z)
 rw [e']; exact h
end
section
variable {w : World} {p : Program} {loose : List Str} {mean : ExcName → Option Value} {mg mb : Str → Option Value} {fa : Addr} {cd : Value} {g : Heap} {L : Addr} {m : Str → Option Value} {s : Shared} {E : Value → Shared → Prop} {T₀ : Led}
theorem law_s6 (G : LG w p loose mean mg mb g) {lgA tD : Addr} {lg tys : List Value} {nl nt : Nat} {wt : Tok} {wheels : List (List Int)} (h3 : wheels.length ≤ 3) (h4 : ∀ l ∈ wheels, l.length ≤ 4) (ml : (lgA, listOf lg.toArray nl) ∈ T₀) (mt : (tD, listOf tys.toArray nt) ∈ T₀) (hlg : LogIn T₀ lg (odo wheels)) (htw : LogIn T₀ tys wheels)
  (hE : PassesOwn (model PR w) (aL (Mine.hd.heap_1 w.params) L fa cd) (eL (Mine.hd.heap_1 w.params) L fa cd) E) (F : Fr g L s.heap m) (hk : ∀ p ∈ ([("word", .str "end" wt), ("log", .ref lgA), ("turns", .ref tD)] : List (Str × Value)), m p.1 = some p.2)
  (N : News g L s.heap T₀) :
  wpAny (model PR w) (aL (Mine.hd.heap_1 w.params) L fa cd) (exec (stmtAt (Mine.hd.heap_1 w.params) 750 6) (eL (Mine.hd.heap_1 w.params) L fa cd))
   (Nx fun s' => ∃ h' tk m', s' = { s with heap := h', toks := tk } ∧ Fr g L h' m' ∧ (∀ z, m' z = m z) ∧ News g L h' T₀) E s := by
 refine uB ?_
 simp(disch:=k_dflt(
 refine iB ?_
 obtain ⟨B, X, T, C1, C2⟩ := G
 have F := ksw_fr (ps := [(("word" : Str), .str "end" wt), (("log" : Str), .ref lgA), (("turns" : Str), .ref tD)]) (m₀ := m) (stored := []) hk (fun _ _ _ => rfl) F
 dsimp only [kstB] at F
 with_reducible refine' stmt_lit ?ho hE ?_
 case ho => k_is
 clear hE
 intro hE
 simp only [List.getD_eq_getElem?_getD, List.getElem?_cons_succ, List.getElem?_cons_zero, Option.getD_some]
 (refine absQ ?_; intro qN uqN)
 repeat' (first | ((fail_if_success (with_reducible show wpAny _ _ (call (.ref _) _) _ _ _)); first | keq_rows | keq_hits | ((k_here; (with_reducible show wpAny _ _ (call (Value.builtin "len") [Value.ref _]) _ _ _); k_dflt (refine' len_lst ?N ?hm ?hz ?_; (case N => k_asm); (case hm => k_mem); (case hz => omega); k_whole))) | (k_unfold; (try dsimp only)) | walk1 | (dsimp only; walk1) | (leave1; try dsimp only)) | fail "no")
 k_here
 k_dflt (refine' odometer_use htw h3 h4 mt B F X N T rfl ?kd ?ku ?_; (case kd => ktr_room); (case ku => ktr_units))
 intro D ys n new h' tk' F8 N8 L8
 have ml8 : (lgA, listOf lg.toArray nl) ∈ (D, listOf ys.toArray n) :: (new ++ T₀) := .tail _ (List.mem_append.mpr (.inr ml))
 have mt8 : (tD, listOf tys.toArray nt) ∈ (D, listOf ys.toArray n) :: (new ++ T₀) := .tail _ (List.mem_append.mpr (.inr mt))
 have sT : ∀ p ∈ T₀, p ∈ (D, listOf ys.toArray n) :: (new ++ T₀) := fun p hp => .tail _ (List.mem_append.mpr (.inr hp))
 have sN : ∀ p ∈ new, p ∈ (D, listOf ys.toArray n) :: (new ++ T₀) := fun p hp => .tail _ (List.mem_append.mpr (.inl hp))
 have mD : (D, listOf ys.toArray n) ∈ (D, listOf ys.toArray n) :: (new ++ T₀) := .head _
 have hz : lg.length ≤ 16384 := by rw [hlg.length]; exact Nat.le_trans (odo_small wheels h3 h4).1 (by decide)
 clear F N
 (try dsimp only)
 repeat' (first | ((fail_if_success (with_reducible show wpAny _ _ (compareOp .NotEq (.ref _) (.ref _)) _ _ _)); first | keq_rows | keq_hits | ((k_here; (with_reducible show wpAny _ _ (call (Value.builtin "len") [Value.ref _]) _ _ _); k_dflt (refine' len_lst ?N ?hm ?hz ?_; (case N => k_asm); (case hm => k_mem); (case hz => omega); k_whole))) | (k_unfold; (try dsimp only)) | walk1 | (dsimp only; walk1) | (leave1; try dsimp only)) | fail "no")
 k_here
 k_dflt (refine' logs_ne N8 ml8 hlg sT mD L8 sN ?ku ?_; (case ku => ktr_units))
 generalize (D, listOf ys.toArray n) :: (new ++ T₀) = T8 at N8 ml8 mt8 sT
 repeat' (first | ((fail_if_success (with_reducible show wpAny _ _ (compareOp .In (.ref _) (.ref _)) _ _ _)); first | keq_rows | keq_hits | ((k_here; (with_reducible show wpAny _ _ (call (Value.builtin "len") [Value.ref _]) _ _ _); k_dflt (refine' len_lst ?N ?hm ?hz ?_; (case N => k_asm); (case hm => k_mem); (case hz => omega); k_whole))) | (k_unfold; (try dsimp only)) | walk1 | (dsimp only; walk1) | (leave1; try dsimp only)) | fail "no")
 rename News _ _ _ _ => N9
 rename Fr _ _ _ _ => F9
 k_here
 k_dflt (refine' logs_in N9 (.tail _ mt8) htw (fun p hp => .tail _ (sT p hp)) (.head _) ?ku ?_; (case ku => ktr_units))
 have hb : decide ([] ∈ wheels) = ((lg.length : Int) == 0) := by
  have e1 : lg.length = (odo wheels).length := hlg.length
  have e2 := odo_nil wheels
  by_cases h0 : odo wheels = []
  ·rw [decide_eq_true (e2.mp h0)]; rw [e1, h0]; rfl
  ·rw [decide_eq_false fun h => h0 (e2.mpr h)]
   refine (beq_eq_false_iff_ne.mpr fun h9 => h0 (List.length_eq_zero_iff.mp ?_)).symm
   lia
 repeat' (first | ((fail_if_success (with_reducible show wpAny _ _ (compareOp .NotEq (.bool _) (.bool _)) _ _ _)); first | keq_rows | keq_hits | ((k_here; (with_reducible show wpAny _ _ (call (Value.builtin "len") [Value.ref _]) _ _ _); k_dflt (refine' len_lst ?N ?hm ?hz ?_; (case N => k_asm); (case hm => k_mem); (case hz => omega); k_whole))) | (k_unfold; (try dsimp only)) | walk1 | (dsimp only; walk1) | (leave1; try dsimp only)) | fail "no")
 rw [hb]
 generalize ((lg.length : Int) == 0) = b9
 clear hb
 cases b9
 all_goals
  repeat' (first | ((fail_if_success (with_reducible show Nx _ _ _)); first | keq_rows | keq_hits | ((k_here; (with_reducible show wpAny _ _ (call (Value.builtin "len") [Value.ref _]) _ _ _); k_dflt (refine' len_lst ?N ?hm ?hz ?_; (case N => k_asm); (case hm => k_mem); (case hz => omega); k_whole))) | (k_unfold; (try dsimp only)) | walk1 | (dsimp only; walk1) | (leave1; try dsimp only)) | fail "no")
 all_goals
  rename News _ _ _ _ => N7
  rename Fr _ _ _ _ => F7
  refine ⟨rfl, exi3 _ _ _ ⟨rfl, F7, fun z => ?_, fun q hq => N7 q (.tail _ (sT q hq))⟩⟩
  exact kstB_eq hk fun _ => by simp +zetaDelta
 ))only[↓bB]
end

end W7p
section W8p
section
variable {w : World} {p : Program} {loose : List Str} {mean : ExcName → Option Value} {mg mb : Str → Option Value} {fa : Addr} {cd : Value} {g : Heap} {L : Addr} {m : Str → Option Value} {s : Shared} {E : Value → Shared → Prop} {T₀ : Led}
theorem law_s7 (G : LG w p loose mean mg mb g) {rA tD : Addr} {rvs tys : List Value} {nr nt : Nat} {q1 : Obj} {r0 : Row} {rr : List Row} (ok : RowOk r0) (hrv : RowsIn T₀ rvs (r0 :: rr)) (hq : q1.data = .cell (some (.ref rA))) (mq : (L + 1, q1) ∈ T₀) (mr : (rA, listOf rvs.toArray nr) ∈ T₀) (mt : (tD, listOf tys.toArray nt) ∈ T₀) (htw : LogIn T₀ tys ((r0 :: rr).map numsR))
  (hE : PassesOwn (model PR w) (aL (Mine.hd.heap_1 w.params) L fa cd) (eL (Mine.hd.heap_1 w.params) L fa cd) E) (F : Fr g L s.heap m) (hk : m ("turns" : Str) = some (.ref tD)) (N : News g L s.heap T₀) :
  wpAny (model PR w) (aL (Mine.hd.heap_1 w.params) L fa cd) (exec (stmtAt (Mine.hd.heap_1 w.params) 750 7) (eL (Mine.hd.heap_1 w.params) L fa cd))
   (Nx fun s' => ∃ h' tk m' t, s' = { s with heap := h', toks := tk } ∧ Fr g L h' m' ∧ m' ("beyond" : Str) = some (.int (beyondR r0) t) ∧ (∀ z, z ≠ ("beyond" : Str) → m' z = m z) ∧ News g L h' T₀) E s := by
 obtain ⟨B, X, T, C1, C2⟩ := G
 have F := ksw_fr (ps := [(("turns" : Str), .ref tD)]) (m₀ := m) (stored := []) (by simpa using hk) (fun _ _ _ => rfl) F
 dsimp only [kstB] at F
 obtain ⟨b1, b2, b3, b4, b5, b6⟩ := ok
 with_reducible refine an3 (beyond_at b1 b2 b3 b4 b5 b6) ?_
 intro e1 e2 e3
 with_reducible refine an4 (nums_at b1 b2 b3 b4 b5 b6) ?_
 intro r1 r2 r3 r4
 with_reducible refine ex4 (hrv.at (i := 0) rfl) ?_
 intro ra t1 t2 t3 hX9
 with_reducible refine an2 hX9 ?_
 clear hX9
 intro hv0 hm0
 with_reducible refine ex3 (htw.get (i := 0) rfl) ?_
 intro ta its nt0 hX9
 with_reducible refine an3 hX9 ?_
 clear hX9
 intro hv1 mt0 hit
 have hil := hit.length
 have hz : its.length ≤ 16384 := by rw [hil]; exact Nat.le_trans r4 (by decide)
 with_reducible refine' stmt_lit ?ho hE ?_
 case ho => k_is
 clear hE
 intro hE
 simp only [List.getD_eq_getElem?_getD, List.getElem?_cons_succ, List.getElem?_cons_zero, Option.getD_some]
 repeat' (first | ((fail_if_success (with_reducible show Nx _ _ _)); first | keq_rows | keq_hits | ((k_here; (with_reducible show wpAny _ _ (subscriptTail _ _ (Value.ref _) (Value.int 0 _)) _ _ _); k_dflt (refine' list_at (i := 0) ?N ?hm ?hv ?hi ?_ ?hs; (case N => k_asm); (case hm => k_mem); (case hv => assumption); (case hi => decide); (case hs => with_unfolding_all rfl); k_whole))) | ((k_here; (with_reducible show wpAny _ _ (call (Value.builtin "len") [Value.ref _]) _ _ _); k_dflt (refine' len_lst ?N ?hm ?hz ?_; (case N => k_asm); (case hm => k_mem); (case hz => omega); k_whole))) | (k_unfold; (try dsimp only)) | walk1 | (dsimp only; walk1) | (leave1; try dsimp only)) | fail "no")
 rename News _ _ _ _ => N7
 rename Fr _ _ _ _ => F7
 have hv : r0.1 + (its.length : Int) * r0.2.1 = beyondR r0 := by rw [hil]; exact e1.symm
 (try dsimp +zetaDelta only at F7)
 simp only [hv] at F7
 refine ⟨rfl, exi4 _ _ _ _ ⟨rfl, F7, if_pos rfl, ?_, N7⟩⟩
 ·intro z hz
  (try dsimp +zetaDelta only)
  simp only [hz, if_false]
  split
  ·rename_i e; rw [e, hk]
  ·rfl
end

end W8p
section W9p
section
variable {w : World} {p : Program} {loose : List Str} {mean : ExcName → Option Value} {mg mb : Str → Option Value} {fa : Addr} {cd : Value} {g : Heap} {L : Addr} {m : Str → Option Value} {s : Shared} {E : Value → Shared → Prop} {T₀ : Led}
theorem rows_cons {T₀ : Led} {vs : List Value} {r : Row} {rs : List Row} (h : RowsIn T₀ vs (r :: rs)) : ∃ a t1 t2 t3 vs', vs = .ref a :: vs' ∧ (a, tup [.int r.1 t1, .int r.2.1 t2, .int r.2.2 t3]) ∈ T₀ ∧ RowsIn T₀ vs' rs := by
 cases h with
 | cons a b => exact ⟨_, _, _, _, _, rfl, a, b⟩
theorem rows_nil {T₀ : Led} {vs : List Value} (h : RowsIn T₀ vs []) : vs = [] := by
 cases h; rfl
theorem law_s8 (G : LG w p loose mean mg mb g) {rA Dl : Addr} {rvs ys : List Value} {nr nD : Nat} {tb : Tok} {q1 : Obj} {r0 : Row} {rr : List Row} (h3 : rr.length ≤ 2) (hrv : RowsIn T₀ rvs (r0 :: rr)) (hq : q1.data = .cell (some (.ref rA))) (mq : (L + 1, q1) ∈ T₀) (mr : (rA, listOf rvs.toArray nr) ∈ T₀) (ml : (Dl, listOf ys.toArray nD) ∈ T₀) (hys : IntsAre ys (beyondR r0 :: rr.map (·.1)))
  (hE : PassesOwn (model PR w) (aL (Mine.hd.heap_1 w.params) L fa cd) (eL (Mine.hd.heap_1 w.params) L fa cd) E) (F : Fr g L s.heap m) (hk : ∀ p ∈ ([("left", .ref Dl), ("beyond", .int (beyondR r0) tb)] : List (Str × Value)), m p.1 = some p.2) (N : News g L s.heap T₀) :
  wpAny (model PR w) (aL (Mine.hd.heap_1 w.params) L fa cd) (exec (stmtAt (Mine.hd.heap_1 w.params) 750 8) (eL (Mine.hd.heap_1 w.params) L fa cd))
   (Nx fun s' => ∃ h' tk m', s' = { s with heap := h', toks := tk } ∧ Fr g L h' m' ∧ (∀ z, m' z = m z) ∧ News g L h' T₀) E s := by
 refine uB ?_
 simp(disch:=k_dflt(
 refine iB ?_
 obtain ⟨B, X, T, C1, C2⟩ := G
 have F := ksw_fr (ps := [(("left" : Str), .ref Dl), (("beyond" : Str), .int (beyondR r0) tb)]) (m₀ := m) (stored := []) hk (fun _ _ _ => rfl) F
 dsimp only [kstB] at F
 with_reducible refine' stmt_lit ?ho hE ?_
 case ho => k_is
 clear hE
 intro hE
 simp only [List.getD_eq_getElem?_getD, List.getElem?_cons_succ, List.getElem?_cons_zero, Option.getD_some]
 (refine absQ ?_; intro qN uqN)
 refine ex5 (rows_cons hrv) ?_
 intro a0 t1 t2 t3 v1 hX9
 with_reducible refine an3 hX9 ?_
 clear hX9
 intro hR9
 subst hR9
 intro m0 hrv
 generalize hb : beyondR r0 = by9 at hys hk F
 cases rr with
 | nil =>
  obtain rfl := rows_nil hrv
  clear hrv
  repeat' (first | ((fail_if_success (with_reducible show wpAny _ _ (compareOp _ (.ref _) (.ref _)) _ _ _)); first | keq_rows | keq_hits | ((with_unfolding_all first   | (refine LCg.CompRest.succ ?_; intro v'9 I'9 oI'9 C'9 oC'9 D'9 m'9 h'9 tk'9 E'9 hv'9 hC'9 hx'9 F'9 N'9 off'9 ne'9; lcg_open hv'9; (with_reducible refine an3 (off3_all off'9) ?_); (intros); (with_reducible refine an3 (ne3_all ne'9) ?_); (intros))   | refine LCg.CompRest.zero ?_)) | ((fail_if_success (with_reducible show wpAny _ _ _ _ _ _)); (k_dflt (refine' compEnd_of ?F ?N ?off ?oe ?S ?_; (case F => k_asm); (case N => k_asm); (case off => assumption); (case oe => exact rfl); (case S => (refine' Or.inr ⟨_, ?hm, ?hc, _, ?hd⟩; (case hm => k_mem); (case hc => exact rfl); (case hd => exact rfl)))))) | ((k_here; (with_reducible show wpAny _ _ (eval (Expr.Name _ _) (compEnvC _ _ _ _)) _ _ _); k_dflt (first   | (refine' LCgL.ld_own ?N ?hm ?hC ?hx ?_; (case N => k_asm); (case hm => k_mem); (case hC => assumption); (case hx => assumption))   | (refine' nameCC ?N ?hc ?hm ?hd ?_; (case N => k_asm); (case hc => exact rfl); (case hm => k_mem); (case hd => assumption); k_whole)   | (refine' LCgL.ld_global ?F ?X ?T ?e ?_; (case F => k_asm); (case X => k_asm); (case T => k_asm); (case e => k_is))))) | ((with_reducible show wpAny _ _ (eval (Expr.ListComp _ _ _ _) _) _ _ _); (k_here; k_dflt (refine LCg.ListComp_U (F₀ := by k_asm) (by rfl) (by decide) (by rfl) (by decide) (by rfl) ?_))) | (k_unfold; (try dsimp only)) | walk1 | (dsimp only; walk1) | (leave1; try dsimp only)) | fail "no")
  rename News _ _ _ _ => N8
  k_here
  k_dflt (refine' ne_intsK (News.isList N8 ?ma) hys (News.isList N8 (.head _)) (.cons _ _ .nil) ?ku ?_; (case ku => ktr_units))
  case ma => k_mem
  simp only [List.map_cons, List.map_nil, decide_true, Bool.not_true, beq_self_eq_true, bne_self_eq_false]
  repeat' (first | ((fail_if_success (with_reducible show Nx _ _ _)); first | keq_rows | keq_hits | ((with_unfolding_all first   | (refine LCg.CompRest.succ ?_; intro v'9 I'9 oI'9 C'9 oC'9 D'9 m'9 h'9 tk'9 E'9 hv'9 hC'9 hx'9 F'9 N'9 off'9 ne'9; lcg_open hv'9; (with_reducible refine an3 (off3_all off'9) ?_); (intros); (with_reducible refine an3 (ne3_all ne'9) ?_); (intros))   | refine LCg.CompRest.zero ?_)) | ((fail_if_success (with_reducible show wpAny _ _ _ _ _ _)); (k_dflt (refine' compEnd_of ?F ?N ?off ?oe ?S ?_; (case F => k_asm); (case N => k_asm); (case off => assumption); (case oe => exact rfl); (case S => (refine' Or.inr ⟨_, ?hm, ?hc, _, ?hd⟩; (case hm => k_mem); (case hc => exact rfl); (case hd => exact rfl)))))) | ((k_here; (with_reducible show wpAny _ _ (eval (Expr.Name _ _) (compEnvC _ _ _ _)) _ _ _); k_dflt (first   | (refine' LCgL.ld_own ?N ?hm ?hC ?hx ?_; (case N => k_asm); (case hm => k_mem); (case hC => assumption); (case hx => assumption))   | (refine' nameCC ?N ?hc ?hm ?hd ?_; (case N => k_asm); (case hc => exact rfl); (case hm => k_mem); (case hd => assumption); k_whole)   | (refine' LCgL.ld_global ?F ?X ?T ?e ?_; (case F => k_asm); (case X => k_asm); (case T => k_asm); (case e => k_is))))) | ((with_reducible show wpAny _ _ (eval (Expr.ListComp _ _ _ _) _) _ _ _); (k_here; k_dflt (refine LCg.ListComp_U (F₀ := by k_asm) (by rfl) (by decide) (by rfl) (by decide) (by rfl) ?_))) | (k_unfold; (try dsimp only)) | walk1 | (dsimp only; walk1) | (leave1; try dsimp only)) | fail "no")
  rename News _ _ _ _ => N7
  rename Fr _ _ _ _ => F7
  refine ⟨rfl, exi3 _ _ _ ⟨rfl, F7, fun z => kstB_eq hk fun _ => by simp +zetaDelta, fun q hq => N7 q ?_⟩⟩
  (repeat (first | exact hq | exact mKt hq | exact mKt (mKt hq) | exact mKt (mKt (mKt hq)) | refine' mK4 rfl ?_ | refine' mK1 rfl ?_))
 | cons r1 rr =>
 cases rr with
 | nil =>
  refine ex5 (rows_cons hrv) ?_
  intro a1 u1 u2 u3 v2 hX9
  with_reducible refine an3 hX9 ?_
  clear hX9
  intro hR9
  subst hR9
  intro m1 hrv
  obtain rfl := rows_nil hrv
  clear hrv
  repeat' (first | ((fail_if_success (with_reducible show wpAny _ _ (compareOp _ (.ref _) (.ref _)) _ _ _)); first | keq_rows | keq_hits | ((with_unfolding_all first   | (refine LCg.CompRest.succ ?_; intro v'9 I'9 oI'9 C'9 oC'9 D'9 m'9 h'9 tk'9 E'9 hv'9 hC'9 hx'9 F'9 N'9 off'9 ne'9; lcg_open hv'9; (with_reducible refine an3 (off3_all off'9) ?_); (intros); (with_reducible refine an3 (ne3_all ne'9) ?_); (intros))   | refine LCg.CompRest.zero ?_)) | ((fail_if_success (with_reducible show wpAny _ _ _ _ _ _)); (k_dflt (refine' compEnd_of ?F ?N ?off ?oe ?S ?_; (case F => k_asm); (case N => k_asm); (case off => assumption); (case oe => exact rfl); (case S => (refine' Or.inr ⟨_, ?hm, ?hc, _, ?hd⟩; (case hm => k_mem); (case hc => exact rfl); (case hd => exact rfl)))))) | ((k_here; (with_reducible show wpAny _ _ (eval (Expr.Name _ _) (compEnvC _ _ _ _)) _ _ _); k_dflt (first   | (refine' LCgL.ld_own ?N ?hm ?hC ?hx ?_; (case N => k_asm); (case hm => k_mem); (case hC => assumption); (case hx => assumption))   | (refine' nameCC ?N ?hc ?hm ?hd ?_; (case N => k_asm); (case hc => exact rfl); (case hm => k_mem); (case hd => assumption); k_whole)   | (refine' LCgL.ld_global ?F ?X ?T ?e ?_; (case F => k_asm); (case X => k_asm); (case T => k_asm); (case e => k_is))))) | ((with_reducible show wpAny _ _ (eval (Expr.ListComp _ _ _ _) _) _ _ _); (k_here; k_dflt (refine LCg.ListComp_U (F₀ := by k_asm) (by rfl) (by decide) (by rfl) (by decide) (by rfl) ?_))) | (k_unfold; (try dsimp only)) | walk1 | (dsimp only; walk1) | (leave1; try dsimp only)) | fail "no")
  rename News _ _ _ _ => N8
  k_here
  k_dflt (refine' ne_intsK (News.isList N8 ?ma) hys (News.isList N8 (.head _)) (.cons _ _ (.cons _ _ .nil)) ?ku ?_; (case ku => ktr_units))
  case ma => k_mem
  simp only [List.map_cons, List.map_nil, decide_true, Bool.not_true, beq_self_eq_true, bne_self_eq_false]
  repeat' (first | ((fail_if_success (with_reducible show Nx _ _ _)); first | keq_rows | keq_hits | ((with_unfolding_all first   | (refine LCg.CompRest.succ ?_; intro v'9 I'9 oI'9 C'9 oC'9 D'9 m'9 h'9 tk'9 E'9 hv'9 hC'9 hx'9 F'9 N'9 off'9 ne'9; lcg_open hv'9; (with_reducible refine an3 (off3_all off'9) ?_); (intros); (with_reducible refine an3 (ne3_all ne'9) ?_); (intros))   | refine LCg.CompRest.zero ?_)) | ((fail_if_success (with_reducible show wpAny _ _ _ _ _ _)); (k_dflt (refine' compEnd_of ?F ?N ?off ?oe ?S ?_; (case F => k_asm); (case N => k_asm); (case off => assumption); (case oe => exact rfl); (case S => (refine' Or.inr ⟨_, ?hm, ?hc, _, ?hd⟩; (case hm => k_mem); (case hc => exact rfl); (case hd => exact rfl)))))) | ((k_here; (with_reducible show wpAny _ _ (eval (Expr.Name _ _) (compEnvC _ _ _ _)) _ _ _); k_dflt (first   | (refine' LCgL.ld_own ?N ?hm ?hC ?hx ?_; (case N => k_asm); (case hm => k_mem); (case hC => assumption); (case hx => assumption))   | (refine' nameCC ?N ?hc ?hm ?hd ?_; (case N => k_asm); (case hc => exact rfl); (case hm => k_mem); (case hd => assumption); k_whole)   | (refine' LCgL.ld_global ?F ?X ?T ?e ?_; (case F => k_asm); (case X => k_asm); (case T => k_asm); (case e => k_is))))) | ((with_reducible show wpAny _ _ (eval (Expr.ListComp _ _ _ _) _) _ _ _); (k_here; k_dflt (refine LCg.ListComp_U (F₀ := by k_asm) (by rfl) (by decide) (by rfl) (by decide) (by rfl) ?_))) | (k_unfold; (try dsimp only)) | walk1 | (dsimp only; walk1) | (leave1; try dsimp only)) | fail "no")
  rename News _ _ _ _ => N7
  rename Fr _ _ _ _ => F7
  refine ⟨rfl, exi3 _ _ _ ⟨rfl, F7, fun z => kstB_eq hk fun _ => by simp +zetaDelta, fun q hq => N7 q ?_⟩⟩
  (repeat (first | exact hq | exact mKt hq | exact mKt (mKt hq) | exact mKt (mKt (mKt hq)) | refine' mK4 rfl ?_ | refine' mK1 rfl ?_))
 | cons r2 rr =>
 cases rr with
 | nil =>
  refine ex5 (rows_cons hrv) ?_
  intro a1 u1 u2 u3 v2 hX9
  with_reducible refine an3 hX9 ?_
  clear hX9
  intro hR9
  subst hR9
  intro m1 hrv
  refine ex5 (rows_cons hrv) ?_
  intro a2 w1 w2 w3 v3 hX9
  with_reducible refine an3 hX9 ?_
  clear hX9
  intro hR9
  subst hR9
  intro m2 hrv
  obtain rfl := rows_nil hrv
  clear hrv
  repeat' (first | ((fail_if_success (with_reducible show wpAny _ _ (compareOp _ (.ref _) (.ref _)) _ _ _)); first | keq_rows | keq_hits | ((with_unfolding_all first   | (refine LCg.CompRest.succ ?_; intro v'9 I'9 oI'9 C'9 oC'9 D'9 m'9 h'9 tk'9 E'9 hv'9 hC'9 hx'9 F'9 N'9 off'9 ne'9; lcg_open hv'9; (with_reducible refine an3 (off3_all off'9) ?_); (intros); (with_reducible refine an3 (ne3_all ne'9) ?_); (intros))   | refine LCg.CompRest.zero ?_)) | ((fail_if_success (with_reducible show wpAny _ _ _ _ _ _)); (k_dflt (refine' compEnd_of ?F ?N ?off ?oe ?S ?_; (case F => k_asm); (case N => k_asm); (case off => assumption); (case oe => exact rfl); (case S => (refine' Or.inr ⟨_, ?hm, ?hc, _, ?hd⟩; (case hm => k_mem); (case hc => exact rfl); (case hd => exact rfl)))))) | ((k_here; (with_reducible show wpAny _ _ (eval (Expr.Name _ _) (compEnvC _ _ _ _)) _ _ _); k_dflt (first   | (refine' LCgL.ld_own ?N ?hm ?hC ?hx ?_; (case N => k_asm); (case hm => k_mem); (case hC => assumption); (case hx => assumption))   | (refine' nameCC ?N ?hc ?hm ?hd ?_; (case N => k_asm); (case hc => exact rfl); (case hm => k_mem); (case hd => assumption); k_whole)   | (refine' LCgL.ld_global ?F ?X ?T ?e ?_; (case F => k_asm); (case X => k_asm); (case T => k_asm); (case e => k_is))))) | ((with_reducible show wpAny _ _ (eval (Expr.ListComp _ _ _ _) _) _ _ _); (k_here; k_dflt (refine LCg.ListComp_U (F₀ := by k_asm) (by rfl) (by decide) (by rfl) (by decide) (by rfl) ?_))) | (k_unfold; (try dsimp only)) | walk1 | (dsimp only; walk1) | (leave1; try dsimp only)) | fail "no")
  rename News _ _ _ _ => N8
  k_here
  k_dflt (refine' ne_intsK (News.isList N8 ?ma) hys (News.isList N8 (.head _)) (.cons _ _ (.cons _ _ (.cons _ _ .nil))) ?ku ?_; (case ku => ktr_units))
  case ma => k_mem
  simp only [List.map_cons, List.map_nil, decide_true, Bool.not_true, beq_self_eq_true, bne_self_eq_false]
  repeat' (first | ((fail_if_success (with_reducible show Nx _ _ _)); first | keq_rows | keq_hits | ((with_unfolding_all first   | (refine LCg.CompRest.succ ?_; intro v'9 I'9 oI'9 C'9 oC'9 D'9 m'9 h'9 tk'9 E'9 hv'9 hC'9 hx'9 F'9 N'9 off'9 ne'9; lcg_open hv'9; (with_reducible refine an3 (off3_all off'9) ?_); (intros); (with_reducible refine an3 (ne3_all ne'9) ?_); (intros))   | refine LCg.CompRest.zero ?_)) | ((fail_if_success (with_reducible show wpAny _ _ _ _ _ _)); (k_dflt (refine' compEnd_of ?F ?N ?off ?oe ?S ?_; (case F => k_asm); (case N => k_asm); (case off => assumption); (case oe => exact rfl); (case S => (refine' Or.inr ⟨_, ?hm, ?hc, _, ?hd⟩; (case hm => k_mem); (case hc => exact rfl); (case hd => exact rfl)))))) | ((k_here; (with_reducible show wpAny _ _ (eval (Expr.Name _ _) (compEnvC _ _ _ _)) _ _ _); k_dflt (first   | (refine' LCgL.ld_own ?N ?hm ?hC ?hx ?_; (case N => k_asm); (case hm => k_mem); (case hC => assumption); (case hx => assumption))   | (refine' nameCC ?N ?hc ?hm ?hd ?_; (case N => k_asm); (case hc => exact rfl); (case hm => k_mem); (case hd => assumption); k_whole)   | (refine' LCgL.ld_global ?F ?X ?T ?e ?_; (case F => k_asm); (case X => k_asm); (case T => k_asm); (case e => k_is))))) | ((with_reducible show wpAny _ _ (eval (Expr.ListComp _ _ _ _) _) _ _ _); (k_here; k_dflt (refine LCg.ListComp_U (F₀ := by k_asm) (by rfl) (by decide) (by rfl) (by decide) (by rfl) ?_))) | (k_unfold; (try dsimp only)) | walk1 | (dsimp only; walk1) | (leave1; try dsimp only)) | fail "no")
  rename News _ _ _ _ => N7
  rename Fr _ _ _ _ => F7
  refine ⟨rfl, exi3 _ _ _ ⟨rfl, F7, fun z => kstB_eq hk fun _ => by simp +zetaDelta, fun q hq => N7 q ?_⟩⟩
  (repeat (first | exact hq | exact mKt hq | exact mKt (mKt hq) | exact mKt (mKt (mKt hq)) | refine' mK4 rfl ?_ | refine' mK1 rfl ?_))
 | cons r3 rr => exact absurd h3 (by simp)
 ))only[↓bB]
end

end W9p
section W10p
open PyProof.Rows.LCg
section
variable {w : World} {p : Program} {loose : List Str} {mean : ExcName → Option Value} {mg mb : Str → Option Value} {fa : Addr} {cd : Value} {g : Heap} {L : Addr} {m : Str → Option Value} {s : Shared} {E : Value → Shared → Prop} {T₀ : Led}
theorem law_s10 (G : LG w p loose mean mg mb g) {rA : Addr} {rvs : List Value} {nr : Nat} {q1 : Obj} {rows : List Row} (h3 : rows.length ≤ 3) (hrv : RowsIn T₀ rvs rows) (hok : ∀ r ∈ rows, RowOk r) (hq : q1.data = .cell (some (.ref rA))) (mq : (L + 1, q1) ∈ T₀) (mr : (rA, listOf rvs.toArray nr) ∈ T₀)
  (hE : PassesOwn (model PR w) (aL (Mine.hd.heap_1 w.params) L fa cd) (eL (Mine.hd.heap_1 w.params) L fa cd) E) (F : Fr g L s.heap m) (N : News g L s.heap T₀) :
  wpAny (model PR w) (aL (Mine.hd.heap_1 w.params) L fa cd) (exec (stmtAt (Mine.hd.heap_1 w.params) 750 10) (eL (Mine.hd.heap_1 w.params) L fa cd))
   (Nx fun s' => ∃ h' tk m' D ys new, s' = { s with heap := h', toks := tk } ∧ Fr g L h' m' ∧ m' ("afters" : Str) = some (.ref D) ∧ (∀ z, z ≠ ("afters" : Str) → m' z = m z) ∧ LogIn new ys (rows.map aftsR) ∧ (∀ p ∈ new, p.2.cls = .type "list") ∧
    News g L h' ((D, lst ys) :: (new ++ T₀))) E s := by
 refine uB ?_
 simp(disch:=k_dflt(
 refine iB ?_
 obtain ⟨B, X, T, C1, C2⟩ := G
 have hrl := hrv.length
 have hz : rvs.length ≤ 16384 := by lia
 with_reducible refine' stmt_lit ?ho hE ?_
 case ho => k_is
 clear hE
 intro hE
 simp only [List.getD_eq_getElem?_getD, List.getElem?_cons_succ, List.getElem?_cons_zero, Option.getD_some]
 (refine absQ ?_; intro qN uqN)
 k_here
 k_dflt (refine' Assign_ListComp_K (h₀ := g) (L := L) (m := m) (n := rvs.length) (cl := [(Str.ofString "rows", L + 1)]) (J := fun i ys news => ∃ new, news = new ++ T₀ ∧ LogIn new ys ((rows.take i).map aftsR) ∧ (∀ p ∈ new, p.2.cls = .type "list")) rfl ?hsw ?hclos ?hcells ?hpush rfl (by decide) ?hx rfl rfl rfl ?hsz ?step ?h)
 case hsw => rfl
 case hclos => rfl
 case hcells => intro k; rfl
 case hpush => intro k; rfl
 case hx => intro a b; rfl
 case hsz => lia
 case h =>
  repeat' (first | ((fail_if_success (with_reducible show Exists _)); first | keq_rows | keq_hits | ((k_here; (with_reducible show wpAny _ _ (subscriptTail _ _ (Value.ref _) (Value.int (Nat.cast _) _)) _ _ _); k_dflt (refine' list_at ?N ?hm ?hv ?hi ?_ ?hs; (case N => k_asm); (case hm => k_mem); (case hv => assumption); (case hi => omega); (case hs => with_unfolding_all rfl); k_whole))) | ((k_here; (with_reducible show wpAny _ _ (call (Value.builtin "len") [Value.ref _]) _ _ _); k_dflt (refine' len_lst ?N ?hm ?hz ?_; (case N => k_asm); (case hm => k_mem); (case hz => omega); k_whole))) | ((k_here; (with_reducible show wpAny _ _ (eval (Expr.Name _ _) (compEnvC _ _ _ _)) _ _ _); k_dflt (first   | (refine' LCgL.ld_own ?N ?hm ?hC ?hx ?_; (case N => k_asm); (case hm => k_mem); (case hC => assumption); (case hx => assumption))   | (refine' nameCC ?N ?hc ?hm ?hd ?_; (case N => k_asm); (case hc => exact rfl); (case hm => k_mem); (case hd => assumption); k_whole)   | (refine' LCgL.ld_global ?F ?X ?T ?e ?_; (case F => k_asm); (case X => k_asm); (case T => k_asm); (case e => k_is))))) | (k_unfold; (try dsimp only)) | walk1 | (dsimp only; walk1) | (leave1; try dsimp only)) | fail "no")
  rename News _ _ _ _ => N9
  rename Fr _ _ _ _ => F9
  rename IsRange _ _ _ _ _ _ _ _ => R9
  refine exi5 _ _ _ _ T₀ ⟨rfl, F9, N9, R9, ⟨[], rfl, .nil, fun _ h => nomatch h⟩, ?_⟩
  intro D h tk ys news' F8 N8 n8 hK9
  with_reducible refine ex1 hK9 ?_
  clear hK9
  intro new hX9
  with_reducible refine an3 hX9 ?_
  clear hX9
  intro hR9
  subst hR9
  intro hL hc
  rw [hrl, List.take_length] at hL
  refine upUse uqN ?_
  exact ⟨rfl, exi6 h tk _ D ys new ⟨rfl, F8, if_pos rfl, fun z hz => if_neg hz, hL, hc, N8⟩⟩
 case step =>
  intro s₁ i ys news hi hK9
  with_reducible refine ex1 hK9 ?_
  clear hK9
  intro new hX9
  with_reducible refine an3 hX9 ?_
  clear hX9
  intro hR9
  subst hR9
  intro hL hc
  rintro hyl t I oI C oC K oK D h tk E' dK F9 N9 off ne
  have hi' : i < rows.length := by rw [← hrl]; exact hi
  have hri : rows[i]? = some rows[i] := List.getElem?_eq_getElem hi'
  generalize rows[i] = r at hri
  refine ex4 (hrv.at hri) ?_
  intro ra t1 t2 t3 hX9
  with_reducible refine an2 hX9 ?_
  clear hX9
  intro hv1 hm1
  have okr := hok r (List.mem_of_getElem? hri)
  obtain ⟨b1, b2, b3, b4, b5, b6⟩ := okr
  refine an3 (beyond_at b1 b2 b3 b4 b5 b6) ?_
  intro e1 e2 e3
  refine an4 (nums_at b1 b2 b3 b4 b5 b6) ?_
  intro r1 r2 r3 r4
  have mra : (ra, tup [.int r.1 t1, .int r.2.1 t2, .int r.2.2 t3]) ∈ new ++ T₀ := List.mem_append.mpr (.inr hm1)
  have mr9 : (rA, listOf rvs.toArray nr) ∈ new ++ T₀ := List.mem_append.mpr (.inr mr)
  have mq9 : (L + 1, q1) ∈ new ++ T₀ := List.mem_append.mpr (.inr mq)
  have hi62 : i < 2 ^ 62 := by lia
  generalize hTT : new ++ T₀ = TT at N9 off mra mr9 mq9
  k_here
  k_dflt (refine' LCg.ListComp_U (h₀ := g) (L := L) (m := m) F9 ?hclos (by decide) rfl (by decide) rfl ?h2)
  case hclos => rfl
  case h2 =>
   repeat' (first | ((fail_if_success (with_reducible show wpAny _ _ (call (.ref _) _) _ _ _)); first | keq_rows | keq_hits | ((k_here; (with_reducible show wpAny _ _ (subscriptTail _ _ (Value.ref _) (Value.int (Nat.cast _) _)) _ _ _); k_dflt (refine' list_at ?N ?hm ?hv ?hi ?_ ?hs; (case N => k_asm); (case hm => k_mem); (case hv => assumption); (case hi => omega); (case hs => with_unfolding_all rfl); k_whole))) | ((k_here; (with_reducible show wpAny _ _ (call (Value.builtin "len") [Value.ref _]) _ _ _); k_dflt (refine' len_lst ?N ?hm ?hz ?_; (case N => k_asm); (case hm => k_mem); (case hz => omega); k_whole))) | ((k_here; (with_reducible show wpAny _ _ (eval (Expr.Name _ _) (compEnvC _ _ _ _)) _ _ _); k_dflt (first   | (refine' LCgL.ld_own ?N ?hm ?hC ?hx ?_; (case N => k_asm); (case hm => k_mem); (case hC => assumption); (case hx => assumption))   | (refine' nameCC ?N ?hc ?hm ?hd ?_; (case N => k_asm); (case hc => exact rfl); (case hm => k_mem); (case hd => assumption); k_whole)   | (refine' LCgL.ld_global ?F ?X ?T ?e ?_; (case F => k_asm); (case X => k_asm); (case T => k_asm); (case e => k_is))))) | (k_unfold; (try dsimp only)) | walk1 | (dsimp only; walk1) | (leave1; try dsimp only)) | fail "no")
   k_here
   k_dflt (refine' more_use ⟨b1, b2, b3, b4, b5, b6⟩ (.tail _ (.tail _ (.tail _ (.tail _ mra)))) B F9 X N9 T rfl ?kd ?ku ?_; (case kd => ktr_room); (case ku => ktr_units))
   intro t9 h8 tk8 F8 N8
   clear F9 N9
   have hlz : (numsR r).length ≤ 3 := r4
   (try dsimp only)
   repeat' (first | ((fail_if_success (with_reducible show LCg.CompSrc _ _ _ _ _ _ _ _ _ _ _ _ _ _)); first | keq_rows | keq_hits | ((k_here; (with_reducible show wpAny _ _ (subscriptTail _ _ (Value.ref _) (Value.int (Nat.cast _) _)) _ _ _); k_dflt (refine' list_at ?N ?hm ?hv ?hi ?_ ?hs; (case N => k_asm); (case hm => k_mem); (case hv => assumption); (case hi => omega); (case hs => with_unfolding_all rfl); k_whole))) | ((k_here; (with_reducible show wpAny _ _ (call (Value.builtin "len") [Value.ref _]) _ _ _); k_dflt (refine' len_lst ?N ?hm ?hz ?_; (case N => k_asm); (case hm => k_mem); (case hz => omega); k_whole))) | ((k_here; (with_reducible show wpAny _ _ (eval (Expr.Name _ _) (compEnvC _ _ _ _)) _ _ _); k_dflt (first   | (refine' LCgL.ld_own ?N ?hm ?hC ?hx ?_; (case N => k_asm); (case hm => k_mem); (case hC => assumption); (case hx => assumption))   | (refine' nameCC ?N ?hc ?hm ?hd ?_; (case N => k_asm); (case hc => exact rfl); (case hm => k_mem); (case hd => assumption); k_whole)   | (refine' LCgL.ld_global ?F ?X ?T ?e ?_; (case F => k_asm); (case X => k_asm); (case T => k_asm); (case e => k_is))))) | (k_unfold; (try dsimp only)) | walk1 | (dsimp only; walk1) | (leave1; try dsimp only)) | fail "no")
   rename News _ _ _ _ => N7
   rename Fr _ _ _ _ => F7
   rename IsRange _ _ _ _ _ _ _ _ => R7
   k_here
   refine LCg.CompSrc.range (n := 1 + (numsR r).length) (by rfl) F7 N7 R7 (small_one (by lia) (by lia) (by lia) (by lia)) (by rw [rangeSize_nat]; lia) (by rw [sizeLine_eq]; lia) ?_
   intro g9
   refine comp_induct (J := fun j zs news => news = (I, oI) :: (C, oC) :: (K, oK) :: (D, lst ys) :: TT ∧ IntsAre zs ((List.range j).map fun (t : Nat) => r.1 + (t : Int) * r.2.1)) ?step ?fin _ 0 [] _ (Nat.zero_add _) ⟨rfl, .nil⟩
   case fin =>
    rintro zs news9 ⟨rfl, hi9⟩ D2 h9 tk9 F6 N6 o6
    subst hTT
    have off9 : OffK I C K D ((D2, lst zs) :: (new ++ T₀)) := ⟨fun q hq => by
     rcases List.mem_cons.mp hq with hq | hq
     ·rw [hq]
      have o7 := (off1_all o6).all
      exact ⟨Ne.symm (o7 (I, oI) (.head _)), Ne.symm (o7 (C, oC) (.tail _ (.head _))), Ne.symm (o7 (K, oK) (.tail _ (.tail _ (.head _)))), Ne.symm (o7 (D, lst ys) (.tail _ (.tail _ (.tail _ (.head _)))))⟩
     ·exact off.off q hq⟩
    refine endK F6 N6 (news' := (D2, lst zs) :: (new ++ T₀)) (fun q hq => ?_) off9 ⟨(D2, lst zs) :: new, rfl, ?_, fc rfl hc⟩
    ·rcases List.mem_cons.mp hq with hq | hq
     ·rw [hq]; exact .tail _ (.head _)
     rcases List.mem_cons.mp hq with hq | hq
     ·rw [hq]; exact .tail _ (.tail _ (.head _))
     rcases List.mem_cons.mp hq with hq | hq
     ·rw [hq]; exact .tail _ (.tail _ (.tail _ (.head _)))
     rcases List.mem_cons.mp hq with hq | hq
     ·rw [hq]; exact .tail _ (.tail _ (.tail _ (.tail _ (.head _))))
     rcases List.mem_cons.mp hq with hq | hq
     ·rw [hq]; exact .head _
     ·exact .tail _ (.tail _ (.tail _ (.tail _ (.tail _ hq))))
    ·have e : (rows.take (i + 1)).map aftsR = (rows.take i).map aftsR ++ [aftsR r] := by rw [List.take_add_one, hri, List.map_append]; rfl
     rw [e]
     have e9 : aftsR r = (List.range (1 + (numsR r).length)).map fun (t : Nat) => r.1 + (t : Int) * r.2.1 := e2
     exact LogIn.snoc (.head _) (e9 ▸ hi9) (hL.mono fun p hp => .tail _ hp)
   case step =>
    rintro j zs news9 hj ⟨rfl, hi9⟩ v I2 oI2 C2 oC2 D2 m2 h9 tk9 E9 hP hC2 hx2 F6 N6 off6 ne6
    obtain ⟨tj, rfl⟩ := hP
    repeat' (first | ((fail_if_success (with_reducible show CompEnd _ _ _ _ _ _ _ _ _ _ _ _ _ _)); first | keq_rows | keq_hits | ((k_here; (with_reducible show wpAny _ _ (subscriptTail _ _ (Value.ref _) (Value.int (Nat.cast _) _)) _ _ _); k_dflt (refine' list_at ?N ?hm ?hv ?hi ?_ ?hs; (case N => k_asm); (case hm => k_mem); (case hv => assumption); (case hi => omega); (case hs => with_unfolding_all rfl); k_whole))) | ((k_here; (with_reducible show wpAny _ _ (call (Value.builtin "len") [Value.ref _]) _ _ _); k_dflt (refine' len_lst ?N ?hm ?hz ?_; (case N => k_asm); (case hm => k_mem); (case hz => omega); k_whole))) | ((k_here; (with_reducible show wpAny _ _ (eval (Expr.Name _ _) (compEnvC _ _ _ _)) _ _ _); k_dflt (first   | (refine' LCgL.ld_own ?N ?hm ?hC ?hx ?_; (case N => k_asm); (case hm => k_mem); (case hC => assumption); (case hx => assumption))   | (refine' nameCC ?N ?hc ?hm ?hd ?_; (case N => k_asm); (case hc => exact rfl); (case hm => k_mem); (case hd => assumption); k_whole)   | (refine' LCgL.ld_global ?F ?X ?T ?e ?_; (case F => k_asm); (case X => k_asm); (case T => k_asm); (case e => k_is))))) | (k_unfold; (try dsimp only)) | walk1 | (dsimp only; walk1) | (leave1; try dsimp only)) | fail "no")
    refine compEnd_of F6 N6 off6 rfl trivial ⟨rfl, ?_⟩
    have e : (List.range (j + 1)).map (fun (t : Nat) => r.1 + (t : Int) * r.2.1) = (List.range j).map (fun (t : Nat) => r.1 + (t : Int) * r.2.1) ++ [r.1 + (0 + (j : Int)) * r.2.1] := by
     rw [List.range_succ, List.map_append, Int.zero_add]; rfl
    rw [e]
    exact IntsAre.append hi9 (.cons _ _ .nil)
 ))only[↓bB]
end

end W10p
section W11p
open PyProof.Rows.LCg
theorem list_last {prog : Program} {w : World} {A : Around} {E : Value → Shared → Prop} {s : Shared} {h₀ : Heap} {L T : Addr} {news : Led} {vs : List Value} {n : Nat} {u : Tok} {v : Value} {value slice : Expr} {Q : Value → Shared → Prop} (N : News h₀ L s.heap news) (hm : (T, listOf vs.toArray n) ∈ news) (hv : vs[vs.length - 1]? = some v) (h0 : 0 < vs.length) (hz : vs.length ≤ 1000) (h : Q v s)
  (hs : subscripted slice false (.ref T) (.int (-1) u) = operate [.ref T, .int (-1) u] (getItem (.ref T) (.int (-1) u)) := by with_unfolding_all rfl) :
  wpAny (model prog w) A (subscriptTail value slice (.ref T) (.int (-1) u)) Q E s := by
 have hl : s.heap.IsList T vs.toArray := ⟨_, (N _ hm).1, rfl, _, rfl⟩
 refine tail_any hl.typeIs slot_list_getitem.lookup (wpAny_getItem_list_neg hl (by decide) (by simp; lia) (by decide) ?_ h) hs
 have e : (-1 + (vs.toArray.size : Int)).toNat = vs.length - 1 := by rw [List.size_toArray]; lia
 rw [e]
 simpa using hv
theorem ints_last {vs : List Value} {ns : List Int} (h : IntsAre vs ns) {x : Int} (e : ns.getLast? = some x) : 0 < vs.length ∧ ∃ t, vs[vs.length - 1]? = some (.int x t) := by
 have hl := h.length
 have h0 : ns ≠ [] := by rintro rfl; cases e
 have hp : 0 < ns.length := List.length_pos_iff.mpr h0
 rw [List.getLast?_eq_getElem?] at e
 obtain ⟨t, ht⟩ := intsGet h e
 exact ⟨by lia, t, by rw [hl]; exact ht⟩
noncomputable def Rt (P : Shared → Prop) (fl : Flow) (s : Shared) : Prop := fl = .ret (.bool true) ∧ P s
section
variable {w : World} {p : Program} {loose : List Str} {mean : ExcName → Option Value} {mg mb : Str → Option Value} {fa : Addr} {cd : Value} {g : Heap} {L : Addr} {m : Str → Option Value} {s : Shared} {E : Value → Shared → Prop} {T₀ : Led}
theorem law_s11 (G : LG w p loose mean mg mb g) {lgA aD Dl : Addr} {lg ays lys : List Value} {nl na nD : Nat} {wt : Tok} {rows : List Row} (h3 : rows.length ≤ 3) (hok : ∀ r ∈ rows, RowOk r) (ml : (lgA, listOf lg.toArray nl) ∈ T₀) (ma : (aD, listOf ays.toArray na) ∈ T₀) (mD : (Dl, listOf lys.toArray nD) ∈ T₀) (hlg : LogIn T₀ lg (odo (rows.map aftsR))) (haw : LogIn T₀ ays (rows.map aftsR)) (hys : IntsAre lys (rows.map beyondR))
  (hE : PassesOwn (model PR w) (aL (Mine.hd.heap_1 w.params) L fa cd) (eL (Mine.hd.heap_1 w.params) L fa cd) E) (F : Fr g L s.heap m) (hk : ∀ p ∈ ([("word", .str "end" wt), ("log", .ref lgA), ("left", .ref Dl), ("afters", .ref aD)] : List (Str × Value)), m p.1 = some p.2)
  (N : News g L s.heap T₀) :
  wpAny (model PR w) (aL (Mine.hd.heap_1 w.params) L fa cd) (exec (stmtAt (Mine.hd.heap_1 w.params) 750 11) (eL (Mine.hd.heap_1 w.params) L fa cd))
   (Rt fun s' => ∃ h' tk m', s' = { s with heap := h', toks := tk } ∧ Fr g L h' m' ∧ News g L h' T₀) E s := by
 refine uB ?_
 simp(disch:=k_dflt(
 refine iB ?_
 obtain ⟨B, X, T, C1, C2⟩ := G
 have h4 : ∀ l ∈ rows.map aftsR, l.length ≤ 4 := by
  intro l hl
  refine ea1_2 (List.mem_map.mp hl) ?_
  intro r hr hR9
  subst hR9
  obtain ⟨b1, b2, b3, b4, b5, b6⟩ := hok r hr
  refine an3 (beyond_at b1 b2 b3 b4 b5 b6) ?_
  intro e1 e2 e3
  refine an4 (nums_at b1 b2 b3 b4 b5 b6) ?_
  intro r1 r2 r3 r4
  show (afts r.2.1 r.2.2 4 r.1).length ≤ 4
  rw [e2, List.length_map, List.length_range]; lia
 have h3' : (rows.map aftsR).length ≤ 3 := by rw [List.length_map]; exact h3
 have hal := haw.length
 have F := ksw_fr (ps := [(("word" : Str), .str "end" wt), (("log" : Str), .ref lgA), (("left" : Str), .ref Dl), (("afters" : Str), .ref aD)]) (m₀ := m) (stored := []) hk (fun _ _ _ => rfl) F
 dsimp only [kstB] at F
 with_reducible refine' stmt_lit ?ho hE ?_
 case ho => k_is
 clear hE
 intro hE
 simp only [List.getD_eq_getElem?_getD, List.getElem?_cons_succ, List.getElem?_cons_zero, Option.getD_some]
 (refine absQ ?_; intro qN uqN)
 repeat' (first | ((fail_if_success (with_reducible show wpAny _ _ (call (.ref _) _) _ _ _)); first | keq_rows | keq_hits | ((k_here; (with_reducible show wpAny _ _ (eval (Expr.Name _ _) (compEnvC _ _ _ _)) _ _ _); k_dflt (first   | (refine' LCgL.ld_own ?N ?hm ?hC ?hx ?_; (case N => k_asm); (case hm => k_mem); (case hC => assumption); (case hx => assumption))   | (refine' nameCC ?N ?hc ?hm ?hd ?_; (case N => k_asm); (case hc => exact rfl); (case hm => k_mem); (case hd => assumption); k_whole)   | (refine' LCgL.ld_global ?F ?X ?T ?e ?_; (case F => k_asm); (case X => k_asm); (case T => k_asm); (case e => k_is))))) | ((with_reducible show wpAny _ _ (eval (Expr.ListComp _ _ _ _) _) _ _ _); (k_here; k_dflt (refine LCg.ListComp_U (F₀ := by k_asm) (by rfl) (by decide) (by rfl) (by decide) (by rfl) ?_))) | (k_unfold; (try dsimp only)) | walk1 | (dsimp only; walk1) | (leave1; try dsimp only)) | fail "no")
 k_here
 k_dflt (refine' odometer_use haw h3' h4 ma B F X N T rfl ?kd ?ku ?_; (case kd => ktr_room); (case ku => ktr_units))
 intro D ys n new h' tk' F8 N8 L8
 have ml8 : (lgA, listOf lg.toArray nl) ∈ (D, listOf ys.toArray n) :: (new ++ T₀) := .tail _ (List.mem_append.mpr (.inr ml))
 have ma8 : (aD, listOf ays.toArray na) ∈ (D, listOf ys.toArray n) :: (new ++ T₀) := .tail _ (List.mem_append.mpr (.inr ma))
 have mD8 : (Dl, listOf lys.toArray nD) ∈ (D, listOf ys.toArray n) :: (new ++ T₀) := .tail _ (List.mem_append.mpr (.inr mD))
 have sT : ∀ p ∈ T₀, p ∈ (D, listOf ys.toArray n) :: (new ++ T₀) := fun p hp => .tail _ (List.mem_append.mpr (.inr hp))
 have sN : ∀ p ∈ new, p ∈ (D, listOf ys.toArray n) :: (new ++ T₀) := fun p hp => .tail _ (List.mem_append.mpr (.inl hp))
 have mO : (D, listOf ys.toArray n) ∈ (D, listOf ys.toArray n) :: (new ++ T₀) := .head _
 clear F N
 (try dsimp only)
 repeat' (first | ((fail_if_success (with_reducible show wpAny _ _ (compareOp .Eq (.ref _) (.ref _)) _ _ _)); first | keq_rows | keq_hits | ((k_here; (with_reducible show wpAny _ _ (eval (Expr.Name _ _) (compEnvC _ _ _ _)) _ _ _); k_dflt (first   | (refine' LCgL.ld_own ?N ?hm ?hC ?hx ?_; (case N => k_asm); (case hm => k_mem); (case hC => assumption); (case hx => assumption))   | (refine' nameCC ?N ?hc ?hm ?hd ?_; (case N => k_asm); (case hc => exact rfl); (case hm => k_mem); (case hd => assumption); k_whole)   | (refine' LCgL.ld_global ?F ?X ?T ?e ?_; (case F => k_asm); (case X => k_asm); (case T => k_asm); (case e => k_is))))) | ((with_reducible show wpAny _ _ (eval (Expr.ListComp _ _ _ _) _) _ _ _); (k_here; k_dflt (refine LCg.ListComp_U (F₀ := by k_asm) (by rfl) (by decide) (by rfl) (by decide) (by rfl) ?_))) | (k_unfold; (try dsimp only)) | walk1 | (dsimp only; walk1) | (leave1; try dsimp only)) | fail "no")
 k_here
 k_dflt (refine' logs_eq N8 ml8 hlg sT mO L8 sN ?ku ?_; (case ku => ktr_units))
 generalize (D, listOf ys.toArray n) :: (new ++ T₀) = T8 at N8 ml8 ma8 mD8 sT
 repeat' (first | ((fail_if_success (with_reducible show LCg.CompSrc _ _ _ _ _ _ _ _ _ _ _ _ _ _)); first | keq_rows | keq_hits | ((k_here; (with_reducible show wpAny _ _ (eval (Expr.Name _ _) (compEnvC _ _ _ _)) _ _ _); k_dflt (first   | (refine' LCgL.ld_own ?N ?hm ?hC ?hx ?_; (case N => k_asm); (case hm => k_mem); (case hC => assumption); (case hx => assumption))   | (refine' nameCC ?N ?hc ?hm ?hd ?_; (case N => k_asm); (case hc => exact rfl); (case hm => k_mem); (case hd => assumption); k_whole)   | (refine' LCgL.ld_global ?F ?X ?T ?e ?_; (case F => k_asm); (case X => k_asm); (case T => k_asm); (case e => k_is))))) | ((with_reducible show wpAny _ _ (eval (Expr.ListComp _ _ _ _) _) _ _ _); (k_here; k_dflt (refine LCg.ListComp_U (F₀ := by k_asm) (by rfl) (by decide) (by rfl) (by decide) (by rfl) ?_))) | (k_unfold; (try dsimp only)) | walk1 | (dsimp only; walk1) | (leave1; try dsimp only)) | fail "no")
 k_here
 refine LCg.CompSrc.ledger (its := ays.toArray) (by rfl) F8 N8 ma8 (by rw [List.size_toArray, hal, sizeLine_eq]; lia) ?_
 intro g9
 refine comp_induct (J := fun i zs news => news = T8 ∧ IntsAre zs ((rows.take i).map beyondR)) ?step ?fin _ 0 [] T8 (Nat.zero_add _) ⟨rfl, .nil⟩
 case fin =>
  rintro zs news ⟨rfl, hi9⟩ D9 h tk F9 N9 o9
  rw [List.size_toArray, hal, List.length_map, List.take_length] at hi9
  clear F8 N8
  (try dsimp only)
  repeat' (first | ((fail_if_success (with_reducible show wpAny _ _ (compareOp .Eq (.ref _) (.ref _)) _ _ _)); first | keq_rows | keq_hits | ((k_here; (with_reducible show wpAny _ _ (eval (Expr.Name _ _) (compEnvC _ _ _ _)) _ _ _); k_dflt (first   | (refine' LCgL.ld_own ?N ?hm ?hC ?hx ?_; (case N => k_asm); (case hm => k_mem); (case hC => assumption); (case hx => assumption))   | (refine' nameCC ?N ?hc ?hm ?hd ?_; (case N => k_asm); (case hc => exact rfl); (case hm => k_mem); (case hd => assumption); k_whole)   | (refine' LCgL.ld_global ?F ?X ?T ?e ?_; (case F => k_asm); (case X => k_asm); (case T => k_asm); (case e => k_is))))) | ((with_reducible show wpAny _ _ (eval (Expr.ListComp _ _ _ _) _) _ _ _); (k_here; k_dflt (refine LCg.ListComp_U (F₀ := by k_asm) (by rfl) (by decide) (by rfl) (by decide) (by rfl) ?_))) | (k_unfold; (try dsimp only)) | walk1 | (dsimp only; walk1) | (leave1; try dsimp only)) | fail "no")
  k_here
  k_dflt (refine' eq_intsK (News.isList N9 (.tail _ mD8)) hys (News.isList N9 (.head _)) hi9 ?ku ?_; (case ku => ktr_units))
  simp only [decide_true]
  repeat' (first | ((fail_if_success (with_reducible show Rt _ _ _)); first | keq_rows | keq_hits | ((k_here; (with_reducible show wpAny _ _ (eval (Expr.Name _ _) (compEnvC _ _ _ _)) _ _ _); k_dflt (first   | (refine' LCgL.ld_own ?N ?hm ?hC ?hx ?_; (case N => k_asm); (case hm => k_mem); (case hC => assumption); (case hx => assumption))   | (refine' nameCC ?N ?hc ?hm ?hd ?_; (case N => k_asm); (case hc => exact rfl); (case hm => k_mem); (case hd => assumption); k_whole)   | (refine' LCgL.ld_global ?F ?X ?T ?e ?_; (case F => k_asm); (case X => k_asm); (case T => k_asm); (case e => k_is))))) | ((with_reducible show wpAny _ _ (eval (Expr.ListComp _ _ _ _) _) _ _ _); (k_here; k_dflt (refine LCg.ListComp_U (F₀ := by k_asm) (by rfl) (by decide) (by rfl) (by decide) (by rfl) ?_))) | (k_unfold; (try dsimp only)) | walk1 | (dsimp only; walk1) | (leave1; try dsimp only)) | fail "no")
  exact ⟨rfl, exi3 _ _ _ ⟨rfl, F9, fun q hq => N9 q (.tail _ (sT q hq))⟩⟩
 case step =>
  rintro i zs news hi ⟨rfl, hi9⟩ v I oI C oC D9 m₂ h tk E' hP hC hx F9 N9 off ne
  have hi' : i < rows.length := by rw [List.size_toArray, hal, List.length_map] at hi; exact hi
  have hri : rows[i]? = some rows[i] := List.getElem?_eq_getElem hi'
  generalize rows[i] = r at hri
  refine ex3 (haw.get (i := i) (l := aftsR r) (by rw [List.getElem?_map, hri]; rfl)) ?_
  intro x its nx hX9
  with_reducible refine an3 hX9 ?_
  clear hX9
  intro hv1 mx hix
  have mx8 := sT _ mx
  obtain ⟨b1, b2, b3, b4, b5, b6⟩ := hok r (List.mem_of_getElem? hri)
  refine an3 (beyond_at b1 b2 b3 b4 b5 b6) ?_
  intro e1 e2 e3
  obtain ⟨h0, tx, hlast⟩ := ints_last hix e3
  have hz : its.length ≤ 1000 := by rw [hix.length]; exact Nat.le_trans (h4 _ (List.mem_map.mpr ⟨r, List.mem_of_getElem? hri, rfl⟩)) (by decide)
  have hv : v = .ref x := by
   have e : ays[i]? = some v := by simpa using hP
   rw [hv1] at e; exact (Option.some.inj e).symm
  subst hv
  repeat' (first | ((fail_if_success (with_reducible show CompEnd _ _ _ _ _ _ _ _ _ _ _ _ _ _)); first | keq_rows | keq_hits | ((k_here; (with_reducible show wpAny _ _ (eval (Expr.Name _ _) (compEnvC _ _ _ _)) _ _ _); k_dflt (first   | (refine' LCgL.ld_own ?N ?hm ?hC ?hx ?_; (case N => k_asm); (case hm => k_mem); (case hC => assumption); (case hx => assumption))   | (refine' nameCC ?N ?hc ?hm ?hd ?_; (case N => k_asm); (case hc => exact rfl); (case hm => k_mem); (case hd => assumption); k_whole)   | (refine' LCgL.ld_global ?F ?X ?T ?e ?_; (case F => k_asm); (case X => k_asm); (case T => k_asm); (case e => k_is))))) | ((with_reducible show wpAny _ _ (eval (Expr.ListComp _ _ _ _) _) _ _ _); (k_here; k_dflt (refine LCg.ListComp_U (F₀ := by k_asm) (by rfl) (by decide) (by rfl) (by decide) (by rfl) ?_))) | (k_unfold; (try dsimp only)) | walk1 | (dsimp only; walk1) | (leave1; try dsimp only)) | fail "no")
  k_here
  k_dflt (refine' list_last ?N ?hm ?hv ?h0 ?hz ?_ ?hs)
  case N => k_asm
  case hm => k_mem
  case hv => assumption
  case h0 => assumption
  case hz => assumption
  case hs => with_unfolding_all rfl
  refine compEnd_of F9 N9 off rfl (.inr ⟨_, ma8, rfl, _, rfl⟩) ⟨rfl, ?_⟩
  have e : (rows.take (i + 1)).map beyondR = (rows.take i).map beyondR ++ [beyondR r] := by rw [List.take_add_one, hri, List.map_append]; rfl
  rw [e]
  exact IntsAre.append hi9 (.cons _ _ .nil)
 ))only[↓bB]
end

end W11p
section X1p
open PyProof.Rows.LCg
section
variable {M : Model} {A : Around} {E : Value → Shared → Prop} {s : Shared} {Q : Flow → Shared → Prop} {K : Frag} {f : Addr} {oc : Value} {od : Option Addr} {osl : Array (Option Value)} {name qual : Str} {params : Arguments} {body : List Stmt} {scope : Scope} {dV kV doc pm cdv ct : Value} {an : Option Addr} {i : Nat} {env : Env}
theorem execs_rt {P : Shared → Prop} (ho : K.lookup f = some ⟨oc, od, .func (fnOf name qual params body scope dV kV doc pm an cdv ct), osl⟩) (hi : i < body.length) (h : wpAny M A (exec (stmtAt K f i) env) (Rt P) E s) (h2 : ∀ s', P s' → Q (.ret (.bool true)) s') :
  wpAny M A (execs (bodyFrom K f i) env) Q E s := by
 have e1 : stmtAt K f i = body.getD i default := by unfold stmtAt; rw [ho]
 have e2 : ∀ j, bodyFrom K f j = body.drop j := by intro j; unfold bodyFrom; rw [ho]
 have e3 : body.drop i = body.getD i default :: body.drop (i + 1) := by
  rw [List.drop_eq_getElem_cons hi, List.getD_eq_getElem?_getD, List.getElem?_eq_getElem hi]; rfl
 rw [e2, e3]
 refine wpAny_execs_cons (wpAny_mono (e1 ▸ h) (fun fl s' q => ?_) fun _ _ e => e)
 obtain ⟨rfl, q⟩ := q
 exact h2 s' q
end
theorem at750 (w : World) {P : Prop} (h : ∀ {oc : Value} {od : Option Addr} {osl : Array (Option Value)} {name qual : Str} {params : Arguments} {body : List Stmt} {scope : Scope} {dV kV doc pm cdv ct : Value} {an : Option Addr}, (Mine.hd.heap_1 w.params).lookup 750 = some ⟨oc, od, .func (fnOf name qual params body scope dV kV doc pm an cdv ct), osl⟩ → body.length = 12 → P) : P := by
 refine' h ?h1 ?h2
 case h1 => k_is
 case h2 => exact rfl
section
variable {w : World} {p : Program} {loose : List Str} {mean : ExcName → Option Value} {mg mb : Str → Option Value} {fa : Addr} {cd : Value} {g : Heap} {L : Addr} {m : Str → Option Value} {s : Shared} {E : Value → Shared → Prop} {Q : Flow → Shared → Prop}
theorem fap {α : Type} {P : α → Prop} {l l' : List α} (h : ∀ p ∈ l, P p) (k : ∀ p ∈ l', P p) : ∀ p ∈ l ++ l', P p := fa h k
theorem law_all (G : LG w p loose mean mg mb g) {scA : Addr} {vs : List Value} {is : List Int} (hsc : g.IsList scA vs.toArray) (hi : IntsAre vs is) (hl : vs.length ≤ 1048576) {q1 : Obj} {v0 : Option Value} (hq : q1.data = .cell v0)
  (hE : PassesOwn (model PR w) (aL (Mine.hd.heap_1 w.params) L fa cd) (eL (Mine.hd.heap_1 w.params) L fa cd) E) (F : Fr g L s.heap m) (hk : m ("script" : Str) = some (.ref scA)) (N : News g L s.heap [(L + 1, q1), (203, tabObj #[]), (735, tabObj #[])])
  (hret : ∀ h' tk m' tabF tabR out, Fr g L h' m' → News g L h' out → (203, tabObj tabF) ∈ out → (735, tabObj tabR) ∈ out → Q (.ret (.bool true)) { s with heap := h', toks := tk }) :
  wpAny (model PR w) (aL (Mine.hd.heap_1 w.params) L fa cd) (execs (bodyFrom (Mine.hd.heap_1 w.params) 750 0) (eL (Mine.hd.heap_1 w.params) L fa cd)) Q E s := by
 refine at750 w fun ho hb => ?_
 with_reducible refine execs_nx ho (hb ▸ (by decide)) (law_s0 G hsc hi hl hE F hk N) ?_
 intro _ hK9
 with_reducible refine ex11 hK9 ?_
 clear hK9
 intro h0 k0 m0 penA cA cells ks np nc t1 t2 hX9
 with_reducible refine an8 hX9 ?_
 clear hX9
 intro hR9
 subst hR9
 intro F0 f0 o0 N0 hi0 hl0 ne0
 have q0 : NeAll penA [(L + 1, q1), (203, tabObj #[]), (735, tabObj #[])] := ⟨by
  exact fc (data_off (p := (L + 1, q1)) N0 (by k_mem) (.head _) (by rw [hq]; exact fun e => nomatch e)) (fc (data_off (p := (203, tabObj #[])) N0 (by k_mem) (.head _) (fun e => nomatch e)) (fc (data_off (p := (735, tabObj #[])) N0 (by k_mem) (.head _) (fun e => nomatch e)) (List.forall_mem_nil _)))⟩
 with_reducible refine execs_nx ho (hb ▸ (by decide)) (law_s1 G hi0 hl0 ne0 q0 hE F0 f0 N0) ?_
 intro _ hK9
 with_reducible refine ex12 hK9 ?_
 clear hK9
 intro h1 k1 m1 nA n nvs nn k gr u1 u2 np1 hX9
 with_reducible refine an12 hX9 ?_
 clear hX9
 intro hR9
 subst hR9
 intro F1 f1 o1 n1 n3 hnv kk0 kk1 g0 N1 ne1
 have N1' : News g L h1 ((L + 1, q1) :: [(nA, listOf nvs.toArray nn), (penA, listOf #[.ref cA, .int k u1, .int gr u2] np1), (cA, listOf cells.toArray nc), (203, tabObj #[]), (735, tabObj #[])]) := fun p hp => N1 p ((by (first | ((repeat (first | with_reducible exact sid | exact List.forall_mem_nil _ | with_reducible refine sc ?_ | with_reducible refine sk ?_)); done) | ((repeat (refine fc (by k_mem) ?_)); exact List.forall_mem_nil _)) : ∀ q ∈ _, q ∈ _) p hp)
 have q1n : NeAll (L + 1) [(nA, listOf nvs.toArray nn), (penA, listOf #[.ref cA, .int k u1, .int gr u2] np1), (cA, listOf cells.toArray nc), (203, tabObj #[]), (735, tabObj #[])] := ⟨by
  (repeat (refine fc (data_off N1' (by k_mem) (.head _) (by rw [hq]; exact fun e => nomatch e)) ?_)); exact List.forall_mem_nil _⟩
 with_reducible refine execs_nx ho (hb ▸ (by decide)) (law_s2 G hq q1n hE F1 N1') ?_
 intro _ hK9
 with_reducible refine ex4 hK9 ?_
 clear hK9
 intro h2 k2 rA q2 hX9
 with_reducible refine an5 hX9 ?_
 clear hX9
 intro hR9
 subst hR9
 intro F2 hq2 N2 ne2
 have N2' : News g L h2 ((penA, listOf #[.ref cA, .int k u1, .int gr u2] np1) :: (rA, listOf ([] : List Value).toArray 0) :: (cA, listOf cells.toArray nc) :: (nA, listOf nvs.toArray nn) :: (L + 1, q2) :: [(203, tabObj #[]), (735, tabObj #[])]) := fun p hp => N2 p ((by (first | ((repeat (first | with_reducible exact sid | exact List.forall_mem_nil _ | with_reducible refine sc ?_ | with_reducible refine sk ?_)); done) | ((repeat (refine fc (by k_mem) ?_)); exact List.forall_mem_nil _)) : ∀ q ∈ _, q ∈ _) p hp)
 have q3 : NeAll penA ((rA, listOf ([] : List Value).toArray 0) :: (cA, listOf cells.toArray nc) :: (nA, listOf nvs.toArray nn) :: (L + 1, q2) :: [(203, tabObj #[]), (735, tabObj #[])]) := ⟨by
  exact fc (Ne.symm (ne2.all (penA, listOf #[.ref cA, .int k u1, .int gr u2] np1) (.tail _ (.tail _ (.head _))))) (fc (ne0.ne') (fc (ne1.ne) (fc (data_off (q := (penA, listOf #[.ref cA, .int k u1, .int gr u2] np1)) N2' (by simp) (by simp) (by rw [hq2]; simp)) (fc (q0.all (203, tabObj #[]) (by simp)) (fc (q0.all (735, tabObj #[]) (by simp)) (List.forall_mem_nil _))))))⟩
 have q4 : NeAll rA ((cA, listOf cells.toArray nc) :: (nA, listOf nvs.toArray nn) :: (L + 1, q2) :: [(203, tabObj #[]), (735, tabObj #[])]) := ne2.sub (by (first | ((repeat (first | with_reducible exact sid | exact List.forall_mem_nil _ | with_reducible refine sc ?_ | with_reducible refine sk ?_)); done) | ((repeat (refine fc (by k_mem) ?_)); exact List.forall_mem_nil _)))
 with_reducible refine execs_nx ho (hb ▸ (by decide)) (law_s3 (np := np1) (T₀ := [(203, tabObj #[]), (735, tabObj #[])]) G hi0 hl0 n1 n3 hnv kk0 kk1 g0 hq2 q3 q4 hE F2 (by
  exact fc ((o1 ("pen" : Str) (by decide)).trans f0) (fc (f1) (List.forall_mem_nil _))) N2') ?_
 intro _ hK9
 with_reducible refine ex7 hK9 ?_
 clear hK9
 intro h3 k3 m3 rows rvs nr new hX9
 with_reducible refine an8 hX9 ?_
 clear hX9
 intro hR9
 subst hR9
 intro F3 o3 hlen hok hrv hkin N3
 have hr1 : 1 ≤ rows.length := by lia
 have hr3 : rows.length ≤ 3 := by lia
 rw [← hlen] at hnv
 generalize hTA : (rA, listOf rvs.toArray nr) :: (nA, listOf nvs.toArray nn) :: (L + 1, q2) :: (new ++ [(203, tabObj #[]), (735, tabObj #[])]) = TA at N3
 have aR : (rA, listOf rvs.toArray nr) ∈ TA := hTA ▸ .head _
 have aN : (nA, listOf nvs.toArray nn) ∈ TA := hTA ▸ .tail _ (.head _)
 have aQ : (L + 1, q2) ∈ TA := hTA ▸ .tail _ (.tail _ (.head _))
 have aW : ∀ p ∈ new, p ∈ TA := fun p hp => hTA ▸ .tail _ (.tail _ (.tail _ (List.mem_append.mpr (.inl hp))))
 have a2 : (203, tabObj #[]) ∈ TA := hTA ▸ .tail _ (.tail _ (.tail _ (List.mem_append.mpr (.inr (.head _)))))
 have a7 : (735, tabObj #[]) ∈ TA := hTA ▸ .tail _ (.tail _ (.tail _ (List.mem_append.mpr (.inr (.tail _ (.head _))))))
 with_reducible refine execs_nx ho (hb ▸ (by decide)) (law_s4 G hr3 (hrv.mono aW) hok hq2 aQ aR hE F3 N3) ?_
 intro _ hK9
 with_reducible refine ex6 hK9 ?_
 clear hK9
 intro h4 k4 m4 tD tys new4 hX9
 with_reducible refine an7 hX9 ?_
 clear hX9
 intro hR9
 subst hR9
 intro F4 f4 o4 hL4 hc4 N4
 refine ex2 (runs_rows false rows hr1 hr3 hok) ?_
 intro nst fin hX9
 with_reducible refine an8 hX9 ?_
 clear hX9
 intro hr hst hfw hfl hfz hfW hfn hfe
 have inTl : ∀ p ∈ (tD, lst tys) :: (new4 ++ ((L + 1, q2) :: new)), p ∈ (tD, lst tys) :: (new4 ++ TA) := fc (.head _) (fap (fun p hp => .tail _ (List.mem_append.mpr (.inl hp))) (fc (.tail _ (List.mem_append.mpr (.inr aQ))) fun p hp => .tail _ (List.mem_append.mpr (.inr (aW p hp)))))
 have inA : ∀ p ∈ TA, p ∈ (tD, lst tys) :: (new4 ++ TA) := fun p hp => .tail _ (List.mem_append.mpr (.inr hp))
 have N4' : News g L h4 ((203, tabObj #[]) :: (735, tabObj #[]) :: (rA, listOf rvs.toArray nr) :: (nA, listOf nvs.toArray nn) :: ((tD, lst tys) :: (new4 ++ ((L + 1, q2) :: new)))) := fun p hp => N4 p ((fc (inA _ a2) (fc (inA _ a7) (fc (inA _ aR) (fc (inA _ aN) inTl))) : ∀ q ∈ _, q ∈ _) p hp)
 have offT : ∀ X, (X, tabObj #[]) ∈ (tD, lst tys) :: (new4 ++ TA) → ∀ p ∈ (rA, listOf rvs.toArray nr) :: (nA, listOf nvs.toArray nn) :: ((tD, lst tys) :: (new4 ++ ((L + 1, q2) :: new))), p.1 ≠ X := fun X hX p hp => by
  have hp' := N4' p (.tail _ (.tail _ hp))
  rcases List.mem_cons.mp hp with hp | hp
  ·rw [hp]; exact news_ne N4 (inA _ aR) hX (fun e => nomatch e)
  rcases List.mem_cons.mp hp with hp | hp
  ·rw [hp]; exact news_ne N4 (inA _ aN) hX (fun e => nomatch e)
  have hm := inTl p hp
  rcases List.mem_cons.mp hp with hp | hp
  ·rw [hp]; exact news_ne N4 (.head _) hX (fun e => nomatch e)
  rcases List.mem_append.mp hp with hp | hp
  ·exact news_ne (p := p) N4 hm hX (by rw [hc4 p hp]; exact fun e => nomatch e)
  rcases List.mem_cons.mp hp with hp | hp
  ·exact data_off (p := p) N4 hm hX (by rw [hp, hq2]; exact fun e => nomatch e)
  ·exact news_ne (p := p) N4 hm hX (by rw [hkin p hp]; exact fun e => nomatch e)
 have n203 : NeAll 203 ((735, tabObj #[]) :: (rA, listOf rvs.toArray nr) :: (nA, listOf nvs.toArray nn) :: ((tD, lst tys) :: (new4 ++ ((L + 1, q2) :: new)))) := ⟨fc (by decide) (offT 203 (inA _ a2))⟩
 have n735 : NeAll 735 ((203, tabObj #[]) :: (rA, listOf rvs.toArray nr) :: (nA, listOf nvs.toArray nn) :: ((tD, lst tys) :: (new4 ++ ((L + 1, q2) :: new)))) := ⟨fc (by decide) (offT 735 (inA _ a7))⟩
 have hrv5 : RowsIn ((tD, lst tys) :: (new4 ++ ((L + 1, q2) :: new))) rvs rows := hrv.mono fun p hp => .tail _ (List.mem_append.mpr (.inr (.tail _ hp)))
 have mq5 : (L + 1, q2) ∈ (tD, lst tys) :: (new4 ++ ((L + 1, q2) :: new)) := .tail _ (List.mem_append.mpr (.inr (.head _)))
 have LT0 : ∀ pos qual tl, LamTab pos qual #[] tl := fun pos qual tl => ⟨trivial, .inl rfl⟩
 have fn4 : m4 ("names" : Str) = some (.ref nA) := by
  rw [o4 _ (by decide), o3 _ (by decide) (by decide)]; exact f1
 with_reducible refine execs_nx ho (hb ▸ (by decide)) (law_s5 G hr1 hr3 hrv5 hnv hq2 mq5 n203 n735 (LT0 _ _ _) (LT0 _ _ _) (LT0 _ _ _) (LT0 _ _ _) (LT0 _ _ _) hr hst hfW hfn hfz hE F4 fn4 N4') ?_
 intro _ hK9
 with_reducible refine ex13 hK9 ?_
 clear hK9
 intro h5 k5 m5 lgA lg nl Dl ys nD tabF' tabR' tx wt hX9
 with_reducible refine an17 hX9 ?_
 clear hX9
 intro hR9
 subst hR9
 intro F5 fw5 fl5 fd5 o5 N5 hi5 hL5 LF5 LA5 LB5 LC5 LD5 a203 a735 inx
 rw [hfl] at hL5
 rw [hfe] at hi5
 rw [hfw] at fw5
 simp only [Bool.false_eq_true, if_false] at hL5
 clear hr hst hfW hfn hfz hfe hfl hfw n203 n735 offT
 have sx : ∀ p ∈ tx, p ∈ (lgA, listOf lg.toArray nl) :: (Dl, listOf ys.toArray nD) :: (203, tabObj tabF') :: (735, tabObj tabR') :: tx := fun p hp => .tail _ (.tail _ (.tail _ (.tail _ hp)))
 have x1 : (lgA, listOf lg.toArray nl) ∈ (lgA, listOf lg.toArray nl) :: (Dl, listOf ys.toArray nD) :: (203, tabObj tabF') :: (735, tabObj tabR') :: tx := .head _
 have x2 : (Dl, listOf ys.toArray nD) ∈ (lgA, listOf lg.toArray nl) :: (Dl, listOf ys.toArray nD) :: (203, tabObj tabF') :: (735, tabObj tabR') :: tx := .tail _ (.head _)
 have xR : (rA, listOf rvs.toArray nr) ∈ tx := inx _ (.head _)
 have xN : (nA, listOf nvs.toArray nn) ∈ tx := inx _ (.tail _ (.head _))
 have xT : (tD, lst tys) ∈ tx := inx _ (.tail _ (.tail _ (.head _)))
 have xQ : (L + 1, q2) ∈ tx := inx _ (.tail _ (.tail _ mq5))
 have xW : RowsIn tx rvs rows := hrv5.mono fun p hp => inx p (.tail _ (.tail _ hp))
 have xL : LogIn tx tys (rows.map numsR) := hL4.mono fun p hp => inx p (.tail _ (.tail _ (.tail _ (List.mem_append.mpr (.inl hp)))))
 have lenN : ∀ l ∈ rows.map numsR, l.length ≤ 4 := by
  intro l hl
  refine ea1_2 (List.mem_map.mp hl) ?_
  intro r hr hR9
  subst hR9
  obtain ⟨b1, b2, b3, b4, b5, b6⟩ := hok r hr
  exact Nat.le_trans (nums_at b1 b2 b3 b4 b5 b6).2.2.2 (by decide)
 have f5 : m5 ("turns" : Str) = some (.ref tD) := by rw [o5 _ (by decide) (by decide) (by decide)]; exact f4
 have fn5 : m5 ("names" : Str) = some (.ref nA) := by rw [o5 _ (by decide) (by decide) (by decide)]; exact fn4
 with_reducible refine execs_nx ho (hb ▸ (by decide)) (law_s6 G (wt := wt) (by rw [List.length_map]; exact hr3) lenN x1 (sx _ xT) (hL5.mono sx) (xL.mono sx) hE F5 (by
  exact fc (fw5) (fc (fl5) (fc (f5) (List.forall_mem_nil _)))) N5) ?_
 intro _ hK9
 with_reducible refine ex3 hK9 ?_
 clear hK9
 intro h6 k6 m6 hX9
 with_reducible refine an4 hX9 ?_
 clear hX9
 intro hR9
 subst hR9
 intro F6 o6 N6
 have hX8 : ∃ r0 rr, rows = r0 :: rr := by
  cases rows with
  | nil => exact absurd hr1 (by decide)
  | cons a b => exact ⟨a, b, rfl⟩
 with_reducible refine ex2 hX8 ?_
 clear hX8
 intro r0 rr hR9
 subst hR9
 have ok0 : RowOk r0 := hok r0 (.head _)
 with_reducible refine execs_nx ho (hb ▸ (by decide)) (law_s7 G ok0 (xW.mono sx) hq2 (sx _ xQ) (sx _ xR) (sx _ xT) (xL.mono sx) hE F6 ((o6 _).trans f5) N6) ?_
 intro _ hK9
 with_reducible refine ex4 hK9 ?_
 clear hK9
 intro h7 k7 m7 tb hX9
 with_reducible refine an5 hX9 ?_
 clear hX9
 intro hR9
 subst hR9
 intro F7 f7 o7 N7
 with_reducible refine execs_nx ho (hb ▸ (by decide)) (law_s8 G (tb := tb) (Nat.le_of_succ_le_succ hr3) (xW.mono sx) hq2 (sx _ xQ) (sx _ xR) x2 (by simpa [leftR] using hi5) hE F7 (by
  exact fc ((o7 ("left" : Str) (by decide)).trans ((o6 _).trans fd5)) (fc (f7) (List.forall_mem_nil _))) N7) ?_
 intro _ hK9
 with_reducible refine ex3 hK9 ?_
 clear hK9
 intro h8 k8 m8 hX9
 with_reducible refine an4 hX9 ?_
 clear hX9
 intro hR9
 subst hR9
 intro F8 o8 N8
 refine ex2 (runs_rows true (r0 :: rr) hr1 hr3 hok) ?_
 intro nst fin hX9
 with_reducible refine an8 hX9 ?_
 clear hX9
 intro hr hst hfw hfl hfz hfW hfn hfe
 have N8' : News g L h8 ((203, tabObj tabF') :: (735, tabObj tabR') :: (rA, listOf rvs.toArray nr) :: (nA, listOf nvs.toArray nn) :: tx) := fun p hp => N8 p ((fc (List.mem_cons_of_mem _ (List.mem_cons_of_mem _ List.mem_cons_self)) (fc (List.mem_cons_of_mem _ (List.mem_cons_of_mem _ (List.mem_cons_of_mem _ List.mem_cons_self))) (fc (sx _ xR) (fc (sx _ xN) sx))) : ∀ q ∈ _, q ∈ _) p hp)
 have ne735 : (735 : Nat) ≠ 203 := by decide
 have ne203 : (203 : Nat) ≠ 735 := by decide
 have n203 : NeAll 203 ((735, tabObj tabR') :: (rA, listOf rvs.toArray nr) :: (nA, listOf nvs.toArray nn) :: tx) := ⟨fc ne735 (fc (a203.all _ xR) (fc (a203.all _ xN) a203.all))⟩
 have n735 : NeAll 735 ((203, tabObj tabF') :: (rA, listOf rvs.toArray nr) :: (nA, listOf nvs.toArray nn) :: tx) := ⟨fc ne203 (fc (a735.all _ xR) (fc (a735.all _ xN) a735.all))⟩
 have fn8 : m8 ("names" : Str) = some (.ref nA) := by rw [o8, o7 _ (by decide), o6]; exact fn5
 with_reducible refine execs_nx ho (hb ▸ (by decide)) (law_s9 G hr1 hr3 xW hnv hq2 xQ n203 n735 LA5 LB5 LC5 LD5 LF5 hr hst hfW hfn hfz hE F8 fn8 N8') ?_
 intro _ hK9
 with_reducible refine ex13 hK9 ?_
 clear hK9
 intro h9 k9 m9 lgA9 lg9 nl9 Dl9 ys9 nD9 tabF9 tabR9 tx9 wt9 hX9
 with_reducible refine an17 hX9 ?_
 clear hX9
 intro hR9
 subst hR9
 intro F9 fw9 fl9 fd9 o9 N9 hi9 hL9 LF9 LA9 LB9 LC9 LD9 a203' a735' inx9
 rw [hfl] at hL9
 rw [hfe] at hi9
 rw [hfw] at fw9
 simp only [if_true] at hL9
 clear hr hst hfW hfn hfz hfe hfl hfw n203 n735
 generalize hT9 : (lgA9, listOf lg9.toArray nl9) :: (Dl9, listOf ys9.toArray nD9) :: (203, tabObj tabF9) :: (735, tabObj tabR9) :: tx9 = T9 at N9
 have s9 : ∀ p ∈ tx9, p ∈ T9 := fun p hp => hT9 ▸ .tail _ (.tail _ (.tail _ (.tail _ hp)))
 have yR : (rA, listOf rvs.toArray nr) ∈ T9 := s9 _ (inx9 _ (.head _))
 have yQ : (L + 1, q2) ∈ T9 := s9 _ (inx9 _ (.tail _ (.tail _ xQ)))
 have yW : RowsIn T9 rvs (r0 :: rr) := xW.mono fun p hp => s9 _ (inx9 _ (.tail _ (.tail _ hp)))
 have yl : (lgA9, listOf lg9.toArray nl9) ∈ T9 := hT9 ▸ .head _
 have yd : (Dl9, listOf ys9.toArray nD9) ∈ T9 := hT9 ▸ .tail _ (.head _)
 have y2 : (203, tabObj tabF9) ∈ T9 := hT9 ▸ .tail _ (.tail _ (.head _))
 have y7 : (735, tabObj tabR9) ∈ T9 := hT9 ▸ .tail _ (.tail _ (.tail _ (.head _)))
 with_reducible refine execs_nx ho (hb ▸ (by decide)) (law_s10 G hr3 yW hok hq2 yQ yR hE F9 N9) ?_
 intro _ hK9
 with_reducible refine ex6 hK9 ?_
 clear hK9
 intro h10 k10 m10 aD ays new10 hX9
 with_reducible refine an7 hX9 ?_
 clear hX9
 intro hR9
 subst hR9
 intro F10 f10 o10 hL10 hc10 N10
 have z9 : ∀ p ∈ T9, p ∈ (aD, lst ays) :: (new10 ++ T9) := fun p hp => .tail _ (List.mem_append.mpr (.inr hp))
 have z10 : ∀ p ∈ new10, p ∈ (aD, lst ays) :: (new10 ++ T9) := fun p hp => .tail _ (List.mem_append.mpr (.inl hp))
 have z1 : (aD, lst ays) ∈ (aD, lst ays) :: (new10 ++ T9) := .head _
 with_reducible refine execs_rt ho (hb ▸ (by decide)) (law_s11 G (wt := wt9) hr3 hok (z9 _ yl) z1 (z9 _ yd) (hL9.mono fun p hp => z9 _ (s9 _ hp)) (hL10.mono z10) (by simpa [leftR] using hi9) hE F10 (by
  exact fc ((o10 ("word" : Str) (by decide)).trans fw9) (fc ((o10 ("log" : Str) (by decide)).trans fl9) (fc ((o10 ("left" : Str) (by decide)).trans fd9) (fc (f10) (List.forall_mem_nil _))))) N10) ?_
 intro _ hK9
 with_reducible refine ex3 hK9 ?_
 clear hK9
 intro h11 k11 m11 hX9
 with_reducible refine an3 hX9 ?_
 clear hX9
 intro hR9
 subst hR9
 intro F11 N11
 exact hret h11 k11 m11 tabF9 tabR9 _ F11 N11 (z9 _ y2) (z9 _ y7)
end

end X1p
section X2p
set_option Elab.async true in
theorem t : PySem.Challenge.rw_pb0277_01.Holds := by
 w_on
 o_law
 (o_head (kmHook Mine.hd.heap_1 (nat_lit 2::nat_lit 3::nat_lit 22::nat_lit 24::nat_lit 25::nat_lit 27::nat_lit 28::nat_lit 29::nat_lit 30::nat_lit 31::nat_lit 32::nat_lit 33::nat_lit 36::nat_lit 38::nat_lit 39::nat_lit 41::nat_lit 42::nat_lit 43::nat_lit 45::nat_lit 46::nat_lit 48::nat_lit 49::nat_lit 50::nat_lit 52::nat_lit 53::nat_lit 55::nat_lit 56::nat_lit 57::nat_lit 59::nat_lit 60::nat_lit 62::nat_lit 63::nat_lit 64::nat_lit 66::nat_lit 67::nat_lit 69::nat_lit 70::nat_lit 71::nat_lit 73::nat_lit 74::nat_lit 76::nat_lit 77::nat_lit 78::nat_lit 80::nat_lit 81::nat_lit 83::nat_lit 84::nat_lit 85::nat_lit 87::nat_lit 88::nat_lit 90::nat_lit 91::nat_lit 92::nat_lit 94::nat_lit 95::nat_lit 97::nat_lit 98::nat_lit 99::nat_lit 101::nat_lit 102::nat_lit 104::nat_lit 105::nat_lit 106::nat_lit 107::nat_lit 110::nat_lit 111::nat_lit 112::nat_lit 113::nat_lit 114::nat_lit 122::nat_lit 124::nat_lit 125::nat_lit 127::nat_lit 128::nat_lit 129::nat_lit 131::nat_lit 132::nat_lit 134::nat_lit 135::nat_lit 136::nat_lit 137::nat_lit 138::nat_lit 139::nat_lit 140::nat_lit 143::nat_lit 145::nat_lit 146::nat_lit 148::nat_lit 149::nat_lit 150::nat_lit 153::nat_lit 154::nat_lit 162::nat_lit 165::nat_lit 166::nat_lit 167::nat_lit 169::nat_lit 170::nat_lit 172::nat_lit 173::nat_lit 174::nat_lit 176::nat_lit 177::nat_lit 179::nat_lit 180::nat_lit 181::nat_lit 183::nat_lit 184::nat_lit 186::nat_lit 187::nat_lit 188::nat_lit 190::nat_lit 191::nat_lit 193::nat_lit 194::nat_lit 195::nat_lit 197::nat_lit 198::nat_lit 200::nat_lit 201::nat_lit 202::nat_lit 205::nat_lit 206::nat_lit 207::nat_lit 208::nat_lit 209::nat_lit 210::nat_lit 211::nat_lit 214::nat_lit 216::nat_lit 217::nat_lit 219::nat_lit 220::nat_lit 221::nat_lit 223::nat_lit 224::nat_lit 226::nat_lit 227::nat_lit 228::nat_lit 230::nat_lit 231::nat_lit 233::nat_lit 234::nat_lit 235::nat_lit 238::nat_lit 239::nat_lit 240::nat_lit 242::nat_lit 243::nat_lit 245::nat_lit 246::nat_lit 247::nat_lit 249::nat_lit 250::nat_lit 252::nat_lit 253::nat_lit 254::nat_lit 257::nat_lit 258::nat_lit 259::nat_lit 261::nat_lit 262::nat_lit 264::nat_lit 265::nat_lit 266::nat_lit 268::nat_lit 269::nat_lit 271::nat_lit 272::nat_lit 273::nat_lit 275::nat_lit 276::nat_lit 278::nat_lit 279::nat_lit 280::nat_lit 282::nat_lit 283::nat_lit 285::nat_lit 286::nat_lit 287::nat_lit 289::nat_lit 290::nat_lit 292::nat_lit 293::nat_lit 294::nat_lit 296::nat_lit 297::nat_lit 299::nat_lit 300::nat_lit 301::nat_lit 303::nat_lit 304::nat_lit 306::nat_lit 307::nat_lit 308::nat_lit 311::nat_lit 312::nat_lit 313::nat_lit 315::nat_lit 316::nat_lit 318::nat_lit 319::nat_lit 320::nat_lit 327::nat_lit 328::nat_lit 329::nat_lit 331::nat_lit 332::nat_lit 334::nat_lit 335::nat_lit 336::nat_lit 338::nat_lit 339::nat_lit 341::nat_lit 342::nat_lit 343::nat_lit 344::nat_lit 345::nat_lit 346::nat_lit 349::nat_lit 356::nat_lit 357::nat_lit 358::nat_lit 361::nat_lit 368::nat_lit 369::nat_lit 370::nat_lit 373::nat_lit 380::nat_lit 381::nat_lit 382::nat_lit 385::nat_lit 392::nat_lit 393::nat_lit 394::nat_lit 397::nat_lit 399::nat_lit 400::nat_lit 402::nat_lit 403::nat_lit 404::nat_lit 405::nat_lit 407::nat_lit 408::nat_lit 410::nat_lit 411::nat_lit 412::nat_lit 414::nat_lit 415::nat_lit 417::nat_lit 418::nat_lit 419::nat_lit 421::nat_lit 422::nat_lit 424::nat_lit 425::nat_lit 426::nat_lit 428::nat_lit 429::nat_lit 431::nat_lit 432::nat_lit 433::nat_lit 435::nat_lit 436::nat_lit 438::nat_lit 439::nat_lit 440::nat_lit 442::nat_lit 443::nat_lit 445::nat_lit 446::nat_lit 447::nat_lit 449::nat_lit 450::nat_lit 452::nat_lit 453::nat_lit 454::nat_lit 455::nat_lit 457::nat_lit 458::nat_lit 460::nat_lit 461::nat_lit 462::nat_lit 464::nat_lit 465::nat_lit 467::nat_lit 468::nat_lit 469::nat_lit 471::nat_lit 472::nat_lit 474::nat_lit 475::nat_lit 476::nat_lit 478::nat_lit 479::nat_lit 481::nat_lit 482::nat_lit 483::nat_lit 485::nat_lit 486::nat_lit 488::nat_lit 489::nat_lit 490::nat_lit 492::nat_lit 493::nat_lit 495::nat_lit 496::nat_lit 504::nat_lit 506::nat_lit 507::nat_lit 509::nat_lit 510::nat_lit 511::nat_lit 512::nat_lit 513::nat_lit 514::nat_lit 515::nat_lit 525::nat_lit 527::nat_lit 528::nat_lit 530::nat_lit 531::nat_lit 532::nat_lit 534::nat_lit 535::nat_lit 537::nat_lit 538::nat_lit 539::nat_lit 540::nat_lit 541::nat_lit 542::nat_lit 543::nat_lit 546::nat_lit 548::nat_lit 549::nat_lit 551::nat_lit 552::nat_lit 553::nat_lit 555::nat_lit 556::nat_lit 558::nat_lit 559::nat_lit 560::nat_lit 562::nat_lit 563::nat_lit 565::nat_lit 566::nat_lit 567::nat_lit 569::nat_lit 570::nat_lit 572::nat_lit 573::nat_lit 574::nat_lit 576::nat_lit 577::nat_lit 579::nat_lit 580::nat_lit 581::nat_lit 583::nat_lit 584::nat_lit 586::nat_lit 587::nat_lit 588::nat_lit 590::nat_lit 591::nat_lit 593::nat_lit 594::nat_lit 595::nat_lit 597::nat_lit 598::nat_lit 600::nat_lit 601::nat_lit 602::nat_lit 604::nat_lit 605::nat_lit 607::nat_lit 608::nat_lit 609::nat_lit 611::nat_lit 612::nat_lit 614::nat_lit 615::nat_lit 616::nat_lit 618::nat_lit 619::nat_lit 621::nat_lit 622::nat_lit 623::nat_lit 625::nat_lit 626::nat_lit 628::nat_lit 629::nat_lit 630::nat_lit 632::nat_lit 633::nat_lit 635::nat_lit 636::nat_lit 637::nat_lit 639::nat_lit 640::nat_lit 642::nat_lit 643::nat_lit 644::nat_lit 646::nat_lit 647::nat_lit 649::nat_lit 650::nat_lit 651::nat_lit 653::nat_lit 654::nat_lit 656::nat_lit 657::nat_lit 665::nat_lit 667::nat_lit 668::nat_lit 670::nat_lit 671::nat_lit 672::nat_lit 675::nat_lit 676::nat_lit 677::nat_lit 679::nat_lit 680::nat_lit 682::nat_lit 683::nat_lit 684::nat_lit 686::nat_lit 687::nat_lit 689::nat_lit 690::nat_lit 691::nat_lit 692::nat_lit 693::nat_lit 694::nat_lit 695::nat_lit 698::nat_lit 701::nat_lit 702::nat_lit 703::nat_lit 705::nat_lit 706::nat_lit 708::nat_lit 709::nat_lit 710::nat_lit 712::nat_lit 713::nat_lit 715::nat_lit 716::nat_lit 717::nat_lit 720::nat_lit 721::nat_lit 722::nat_lit 724::nat_lit 725::nat_lit 727::nat_lit 728::nat_lit 729::nat_lit 732::nat_lit 733::nat_lit 734::nat_lit 737::nat_lit 738::nat_lit 739::nat_lit 741::nat_lit 742::nat_lit 744::nat_lit 745::nat_lit 746::nat_lit 749::nat_lit 750::[]) (fun _ => by kernel_rfl) [203, 735]))
 (case hw => w_witness2)
 k_go0
 all_goals (try k_fold)
 k_here
 rename Fr _ _ _ _ => F9
 rename News _ _ _ _ => N9
 rename Top topProg _ _ _ _ _ => T9
 rename Below callerA _ _ _ => B9
 rename Frag.In _ _ => X9
 rename CodeHd _ (737, 735).fst _ => C9
 rename CodeHd _ (205, 203).fst _ => C8
 rename _ = Data.cell _ => d9
 rename Heap.IsList (ghostOf _ _) _ _ => hsc9
 rename IntsAre _ _ => hi9
 rename ¬ _ < _ => hl9
 with_reducible refine' execs_at (K := Mine.hd.heap_1 _) (f := 750) (i := 0) ?ho ?hs ?hsc ?h
 case ho => k_is
 case hs => exact rfl
 case hsc => exact rfl
 case h =>
  k_dflt (refine' law_all ⟨B9, X9, T9, C8, C9⟩ hsc9 hi9 ?len9 d9 ?hE F9 ?hk N9 ?hret)
  case len9 => have := hi9.length; omega
  case hE => passes_own
  case hk => with_unfolding_all exact rfl
  case hret =>
   intro h' tk' m' tabF tabR out F N y2 y7
   repeat' (first | keq_rows | (k_unfold; (try dsimp only)) | (k_end; wrow_close) | walk1 | (dsimp only; walk1) | (leave1; try dsimp only) | fail "no")

end X2p
end
end Mine
theorem PySem.Challenge.cw_pb0277_01_holds : PySem.Challenge.rw_pb0277_01.Holds :=
  Mine.t
